import PyProof.Rows.All
import Wide.All
import OpenK.AllK
import Wide.FinOn
import HandS.ForMost
import HandS.IsInst
import HandS.SortInts
import KE.KSortTupAny
import PySem.Challenge.RW_leastroutes_k04_whole_halves
set_option Elab.async false
set_option maxHeartbeats 8000000
set_option linter.all false
set_option maxRecDepth 100000
/-! L3, part a: typed contexts over the hand layer: assertions, cells, contexts, the judgements. -/
namespace L3
open PySem PySem.Spec L2

theorem le_line {n : Nat} (h : Nat.ble n 1000 = true) : n ≤ sizeLine := Nat.le_trans (Nat.le_of_ble_eq_true h) (by decide)
/-! ### assertions over a ghost heap that only grows -/
structure As where
  holds : Hp → V → Prop
  mono : ∀ {P P' : Hp} {v : V}, Same P P' → holds P v → holds P' v
structure Cell where
  ad : Addr
  ok : Hp → HO → Prop
  mono : ∀ {P P' : Hp} {o : HO}, Same P P' → ok P o → ok P' o
/-- pairwise, by an assertion -/
def Each (P : Hp) : List As → List V → Prop
  | [], [] => True
  | s :: ss, v :: vs => s.holds P v ∧ Each P ss vs
  | [], _ :: _ => False
  | _ :: _, [] => False
theorem Each.mono {P P' : Hp} (h : Same P P') : ∀ {ss : List As} {vs : List V}, Each P ss vs → Each P' ss vs
  | [], [], _ => trivial
  | _ :: _, _ :: _, ⟨a, b⟩ => ⟨As.mono _ h a, Each.mono h b⟩
  | [], _ :: _, h => h.elim
  | _ :: _, [], h => h.elim
theorem Each.len {P : Hp} : ∀ {ss : List As} {vs : List V}, Each P ss vs → vs.length = ss.length
  | [], [], _ => rfl
  | _ :: _, _ :: _, ⟨_, b⟩ => congrArg (· + 1) (Each.len b)
  | [], _ :: _, h => h.elim
  | _ :: _, [], h => h.elim
theorem Each.get {P : Hp} : ∀ {ss : List As} {vs : List V} {i : Nat} {v : V}, Each P ss vs → vs[i]? = some v → ∃ s, ss[i]? = some s ∧ s.holds P v
  | s :: _, _ :: _, 0, _, ⟨a, _⟩, e => by
    have e := Option.some.inj e
    exact ⟨s, rfl, e ▸ a⟩
  | _ :: ss, _ :: vs, i + 1, v, ⟨_, b⟩, e => Each.get (i := i) b (by simpa using e)
  | [], [], _, _, _, e => by simp at e
  | [], _ :: _, _, _, h, _ => h.elim
  | _ :: _, [], _, _, h, _ => h.elim
theorem Each.get' {P : Hp} : ∀ {ss : List As} {vs : List V} {i : Nat} {s : As}, Each P ss vs → ss[i]? = some s → ∃ v, vs[i]? = some v ∧ s.holds P v
  | _ :: _, v :: _, 0, _, ⟨a, _⟩, e => by
    have e := Option.some.inj e
    exact ⟨v, rfl, e ▸ a⟩
  | _ :: ss, _ :: vs, i + 1, v, ⟨_, b⟩, e => Each.get' (i := i) b (by simpa using e)
  | [], [], _, _, _, e => by simp at e
  | [], _ :: _, _, _, h, _ => h.elim
  | _ :: _, [], _, _, h, _ => h.elim
theorem Each.append {P : Hp} : ∀ {ss rs : List As} {vs us : List V}, Each P ss vs → Each P rs us → Each P (ss ++ rs) (vs ++ us)
  | [], _, [], _, _, h => h
  | _ :: _, _, _ :: _, _, ⟨a, b⟩, h => ⟨a, Each.append b h⟩
  | [], _, _ :: _, _, h, _ => h.elim
  | _ :: _, _, [], _, h, _ => h.elim
theorem Each.set {P : Hp} {s : As} {v : V} (r : s.holds P v) : ∀ {ss : List As} {vs : List V} (i : Nat), Each P ss vs → Each P (ss.set i s) (vs.set i v)
  | [], [], _, h => h
  | _ :: _, _ :: _, 0, ⟨_, b⟩ => ⟨r, b⟩
  | _ :: _, _ :: _, i + 1, ⟨a, b⟩ => ⟨a, Each.set r i b⟩
  | [], _ :: _, _, h => h.elim
  | _ :: _, [], _, h => h.elim

/-! ### the function's frame, the context -/
structure Fr where
  H0 : Hp
  P0 : Hp
  ls : List Addr
structure Ctx where
  Γ : List (Option As)
  μ : List Cell
  lk : List Addr := []
def IsDic : HO → Prop
  | .dK _ => True
  | .dT _ => True
  | _ => False
/-- the ghost heap is held by the heap (dicts may be locked) -/
def Sub (P H : Hp) : Prop := ∀ a o, P a = some o → H a = some o ∨ (IsDic o ∧ ∃ od, H a = some (.frz od o))
def CellOk (F : Fr) (lk : List Addr) (P H : Hp) (c : Cell) : Prop := P c.ad = none ∧ (∃ o, H c.ad = some o ∧ c.ok P o) ∧ (F.H0 c.ad = none ∨ c.ad ∈ F.ls) ∧ c.ad ∉ lk
structure Ok (F : Fr) (C : Ctx) (σ : St) (P H : Hp) : Prop where
  sub : Sub P H
  p0 : Same F.P0 P
  mods : ∀ a o, F.H0 a = some o → a ∉ F.ls → a ∉ C.lk → H a = some o
  lks : ∀ a ∈ C.lk, ∃ od u, H a = some (.frz od u)
  new : ∀ a o, P a = some o → F.P0 a = some o ∨ F.H0 a = none ∨ a ∈ F.ls
  len : C.Γ.length = σ.length
  slots : ∀ (i : Nat) (s : As), C.Γ[i]? = some (some s) → ∃ v, σ[i]? = some (some v) ∧ s.holds P v
  cells : ∀ c ∈ C.μ, CellOk F C.lk P H c
  nd : (C.μ.map (·.ad)).Nodup

theorem Sub.lst {P H : Hp} {a : Addr} {xs : List V} (h : Sub P H) (e : P a = some (.lst xs)) : H a = some (.lst xs) := by
  rcases h a _ e with h | ⟨h, _⟩
  · exact h
  · exact h.elim
theorem Sub.tup {P H : Hp} {a : Addr} {xs : List V} (h : Sub P H) (e : P a = some (.tup xs)) : H a = some (.tup xs) := by
  rcases h a _ e with h | ⟨h, _⟩
  · exact h
  · exact h.elim
theorem Sub.ins {P H : Hp} {a C dx : Addr} {fs : List (Str × V)} (h : Sub P H) (e : P a = some (.ins C dx fs)) : H a = some (.ins C dx fs) := by
  rcases h a _ e with h | ⟨h, _⟩
  · exact h
  · exact h.elim
theorem Sub.frz {P H : Hp} {a : Addr} {o : Obj} {u : HO} (h : Sub P H) (e : P a = some (.frz o u)) : H a = some (.frz o u) := by
  rcases h a _ e with h | ⟨h, _⟩
  · exact h
  · exact h.elim
theorem Sub.rd {P H : Hp} {a : Addr} {o : HO} (h : Sub P H) (e : P a = some o) : Rd H a o := by
  rcases h a _ e with h | ⟨_, od, h⟩
  · exact .inl h
  · exact .inr ⟨od, h⟩
theorem Sub.isSome {P H : Hp} {a : Addr} {o : HO} (h : Sub P H) (e : P a = some o) : H a ≠ none := by
  rcases h a _ e with h | ⟨_, od, h⟩ <;> rw [h] <;> intro z <;> cases z
theorem Sub.free {P H : Hp} {a : Addr} (h : Sub P H) (e : H a = none) : P a = none := by
  cases q : P a with
  | none => rfl
  | some o => exact absurd e (h.isSome q)
theorem same_upd {H : Hp} {p : Addr} {o : HO} (h : H p = none) : Same H (upd H p o) := fun b x e => by
  rw [upd_ne (ne_of_none e h)]
  exact e
theorem same_upd_none {P P' : Hp} {p : Addr} {o : HO} (h : Same P P') (n : P p = none) : Same P (upd P' p o) := fun b x e => by
  rw [upd_ne (ne_of_none e n)]
  exact h b x e

section
variable {F : Fr} {C : Ctx} {σ : St} {P H : Hp}
/-- a new object that is known from now on -/
theorem Ok.laid (k : Ok F C σ P H) {p : Addr} {o : HO} (hp : H p = none) : Ok F C σ (upd P p o) (upd H p o) ∧ Same P (upd P p o) := by
  have hP : P p = none := k.sub.free hp
  have sm : Same P (upd P p o) := same_upd hP
  refine ⟨⟨fun a u e => ?_, k.p0.trans sm, fun a u e n l => ?_, fun a ha => ?_, fun a u e => ?_, k.len, fun i s e => ?_, fun c hc => ?_, k.nd⟩, sm⟩
  · by_cases h : a = p
    · subst h
      rw [upd_same] at e ⊢
      exact .inl e
    · rw [upd_ne h] at e ⊢
      exact k.sub a u e
  · have := k.mods a u e n l
    rw [upd_ne (ne_of_none this hp)]
    exact this
  · obtain ⟨od, u, e2⟩ := k.lks a ha
    exact ⟨od, u, by rw [upd_ne (ne_of_none e2 hp)]; exact e2⟩
  · by_cases h : a = p
    · subst h
      by_cases hl : a ∈ F.ls
      · exact .inr (.inr hl)
      · cases q : F.H0 a with
        | none => exact .inr (.inl rfl)
        | some w =>
          by_cases hk : a ∈ C.lk
          · obtain ⟨od, u, e2⟩ := k.lks a hk
            rw [hp] at e2
            cases e2
          · have := k.mods a w q hl hk
            rw [hp] at this
            cases this
    · rw [upd_ne h] at e
      exact k.new a u e
  · obtain ⟨v, e1, e2⟩ := k.slots i s e
    exact ⟨v, e1, s.mono sm e2⟩
  · obtain ⟨h1, ⟨o1, h2, h3⟩, h4⟩ := k.cells c hc
    have ne : c.ad ≠ p := ne_of_none h2 hp
    exact ⟨by rw [upd_ne ne]; exact h1, ⟨o1, by rw [upd_ne ne]; exact h2, c.mono sm h3⟩, h4⟩

theorem Ok.lt (k : Ok F C σ P H) {i : Nat} {s : As} (e : C.Γ[i]? = some s) : i < σ.length := by
  rw [← k.len]
  exact (List.getElem?_eq_some_iff.mp e).1
/-- the heap grows, the ghost heap stays -/
theorem Ok.grown (k : Ok F C σ P H) {p : Addr} {o : HO} (hp : H p = none) : Ok F C σ P (upd H p o) := by
  refine ⟨fun a u e => ?_, k.p0, fun a u e n l => ?_, fun a ha => ?_, k.new, k.len, k.slots, fun c hc => ?_, k.nd⟩
  · have ne : a ≠ p := fun z => k.sub.isSome e (z ▸ hp)
    rw [upd_ne ne]
    exact k.sub a u e
  · have := k.mods a u e n l
    rw [upd_ne (ne_of_none this hp)]
    exact this
  · obtain ⟨od, u, e2⟩ := k.lks a ha
    exact ⟨od, u, by rw [upd_ne (ne_of_none e2 hp)]; exact e2⟩
  · obtain ⟨h1, ⟨o1, h2, h3⟩, h4⟩ := k.cells c hc
    exact ⟨h1, ⟨o1, by rw [upd_ne (ne_of_none h2 hp)]; exact h2, h3⟩, h4⟩
def Ctx.put (C : Ctx) (i : Nat) (s : As) : Ctx := ⟨C.Γ.set i (some s), C.μ, C.lk⟩
def Ctx.cell (C : Ctx) (c : Cell) : Ctx := ⟨C.Γ, C.μ ++ [c], C.lk⟩
theorem Ok.put (k : Ok F C σ P H) {i : Nat} {s : As} {v : V} (h : s.holds P v) : Ok F (C.put i s) (σ.set i (some v)) P H := by
  refine ⟨k.sub, k.p0, k.mods, k.lks, k.new, ?_, fun j t e => ?_, k.cells, k.nd⟩
  · show (C.Γ.set i (some s)).length = _
    rw [List.length_set, List.length_set, k.len]
  · have e : (C.Γ.set i (some s))[j]? = some (some t) := e
    by_cases hj : i = j
    · subst hj
      by_cases hl : i < C.Γ.length
      · rw [List.getElem?_set_self hl] at e
        cases e
        exact ⟨v, List.getElem?_set_self (by rw [← k.len]; exact hl), h⟩
      · rw [List.getElem?_eq_none (by rw [List.length_set]; omega)] at e
        cases e
    · rw [List.getElem?_set_ne hj] at e ⊢
      exact k.slots j t e
theorem Ok.nolk (k : Ok F C σ P H) {a : Addr} (h : H a = none) : a ∉ C.lk := fun hk => by
  obtain ⟨od, u, e2⟩ := k.lks _ hk
  rw [h] at e2
  cases e2
/-- what is free now was free at the entry -/
theorem Ok.fresh (k : Ok F C σ P H) {a : Addr} (h : H a = none) : (F.H0 a = none ∨ a ∈ F.ls) ∧ a ∉ C.lk := by
  refine ⟨?_, k.nolk h⟩
  by_cases hl : a ∈ F.ls
  · exact .inr hl
  · refine .inl ?_
    cases q : F.H0 a with
    | none => rfl
    | some w =>
      have := k.mods _ w q hl (k.nolk h)
      rw [h] at this
      cases this
/-- a new object that may change -/
theorem Ok.newCell0 (k : Ok F C σ P H) {c : Cell} {o : HO} (hp : H c.ad = none) (ho : c.ok P o) : Ok F ⟨C.Γ, c :: C.μ, C.lk⟩ σ P (upd H c.ad o) := by
  have k' := k.grown (o := o) hp
  refine ⟨k'.sub, k'.p0, k'.mods, k'.lks, k'.new, k'.len, k'.slots, fun d hd => ?_, ?_⟩
  · rcases List.mem_cons.mp hd with e | hd
    · subst e
      exact ⟨k.sub.free hp, ⟨o, upd_same, ho⟩, k.fresh hp⟩
    · exact k'.cells d hd
  · show ((c :: C.μ).map (·.ad)).Nodup
    rw [List.map_cons, List.nodup_cons]
    refine ⟨fun hm => ?_, k.nd⟩
    obtain ⟨d, hd, e⟩ := List.mem_map.mp hm
    obtain ⟨_, ⟨o1, h2, _⟩, _⟩ := k.cells d hd
    rw [e, hp] at h2
    cases h2
/-- a cell's object is changed -/
theorem Ok.write {c : Cell} (k : Ok F ⟨C.Γ, c :: C.μ, C.lk⟩ σ P H) {c' : Cell} {o : HO} (e : c'.ad = c.ad) (ho : c'.ok P o) : Ok F ⟨C.Γ, c' :: C.μ, C.lk⟩ σ P (upd H c.ad o) := by
  obtain ⟨h1, ⟨o1, h2, h3⟩, h4, hl⟩ := k.cells c List.mem_cons_self
  have hl : c.ad ∉ C.lk := hl
  have nd : c.ad ∉ C.μ.map (·.ad) := (List.nodup_cons.mp (show (c.ad :: C.μ.map (·.ad)).Nodup from k.nd)).1
  refine ⟨fun a u q => ?_, k.p0, fun a u q n l => ?_, fun a ha => ?_, k.new, k.len, k.slots, fun d hd => ?_, ?_⟩
  · have ne : a ≠ c.ad := fun z => by rw [z, h1] at q; cases q
    rw [upd_ne ne]
    exact k.sub a u q
  · have ne : a ≠ c.ad := fun z => by
      subst z
      rcases h4 with h | h
      · rw [h] at q; cases q
      · exact n h
    rw [upd_ne ne]
    exact k.mods a u q n l
  · have ne : a ≠ c.ad := fun z => hl (z ▸ ha)
    rw [upd_ne ne]
    exact k.lks a ha
  · rcases List.mem_cons.mp hd with z | hd
    · subst z
      rw [← e] at h1 h4 hl ⊢
      exact ⟨h1, ⟨o, upd_same, ho⟩, h4, hl⟩
    · have ne : d.ad ≠ c.ad := fun z => nd (z ▸ List.mem_map.mpr ⟨d, hd, rfl⟩)
      obtain ⟨g1, ⟨o2, g2, g3⟩, g4⟩ := k.cells d (List.mem_cons_of_mem _ hd)
      exact ⟨g1, ⟨o2, by rw [upd_ne ne]; exact g2, g3⟩, g4⟩
  · show (c'.ad :: C.μ.map (·.ad)).Nodup
    rw [e]
    exact k.nd
/-- a cell's object is known from now on -/
theorem Ok.freeze {c : Cell} {μ : List Cell} {Γ : List (Option As)} {lk : List Addr} (k : Ok F ⟨Γ, c :: μ, lk⟩ σ P H) : ∃ o, P c.ad = none ∧ c.ok P o ∧ Same P (upd P c.ad o) ∧ Ok F ⟨Γ, μ, lk⟩ σ (upd P c.ad o) H := by
  obtain ⟨h1, ⟨o, h2, h3⟩, h4⟩ := k.cells c List.mem_cons_self
  have nd : c.ad ∉ μ.map (·.ad) := (List.nodup_cons.mp (show (c.ad :: μ.map (·.ad)).Nodup from k.nd)).1
  have sm : Same P (upd P c.ad o) := same_upd h1
  refine ⟨o, h1, h3, sm, fun a u q => ?_, k.p0.trans sm, k.mods, k.lks, fun a u q => ?_, k.len, fun i s e => ?_, fun d hd => ?_, (List.nodup_cons.mp (show (c.ad :: μ.map (·.ad)).Nodup from k.nd)).2⟩
  · by_cases z : a = c.ad
    · subst z
      rw [upd_same] at q
      cases q
      exact .inl h2
    · rw [upd_ne z] at q
      exact k.sub a u q
  · by_cases z : a = c.ad
    · subst z
      exact .inr h4.1
    · rw [upd_ne z] at q
      exact k.new a u q
  · obtain ⟨v, e1, e2⟩ := k.slots i s e
    exact ⟨v, e1, s.mono sm e2⟩
  · have ne : d.ad ≠ c.ad := fun z => nd (z ▸ List.mem_map.mpr ⟨d, hd, rfl⟩)
    obtain ⟨g1, ⟨o2, g2, g3⟩, g4⟩ := k.cells d (List.mem_cons_of_mem _ hd)
    exact ⟨by rw [upd_ne ne]; exact g1, ⟨o2, g2, d.mono sm g3⟩, g4⟩
/-- to know less -/
structure Wk (C C' : Ctx) : Prop where
  len : C'.Γ.length = C.Γ.length
  slots : ∀ (i : Nat) (s' : As), C'.Γ[i]? = some (some s') → ∃ s, C.Γ[i]? = some (some s) ∧ ∀ P v, s.holds P v → s'.holds P v
  cells : ∀ c' ∈ C'.μ, ∃ c ∈ C.μ, c'.ad = c.ad ∧ ∀ P o, c.ok P o → c'.ok P o
  nd : (C.μ.map (·.ad)).Nodup → (C'.μ.map (·.ad)).Nodup
  lk : C'.lk = C.lk
theorem Ok.wk (k : Ok F C σ P H) {C' : Ctx} (w : Wk C C') : Ok F C' σ P H := by
  refine ⟨k.sub, k.p0, fun a o e n l => k.mods a o e n (w.lk ▸ l), fun a ha => k.lks a (w.lk ▸ ha), k.new, w.len.trans k.len, fun i s' e => ?_, fun c' hc' => ?_, w.nd k.nd⟩
  · obtain ⟨s, e1, h⟩ := w.slots i s' e
    obtain ⟨v, e2, hv⟩ := k.slots i s e1
    exact ⟨v, e2, h P v hv⟩
  · obtain ⟨c, hc, e, h⟩ := w.cells c' hc'
    obtain ⟨h1, ⟨o, h2, h3⟩, h4⟩ := k.cells c hc
    unfold CellOk
    rw [e, w.lk]
    exact ⟨h1, ⟨o, h2, h P o h3⟩, h4⟩
theorem Wk.perm {Γ : List (Option As)} {μ μ' : List Cell} {lk : List Addr} (h : μ.Perm μ') : Wk ⟨Γ, μ, lk⟩ ⟨Γ, μ', lk⟩ :=
  ⟨rfl, fun _ s e => ⟨s, e, fun _ _ h => h⟩, fun c hc => ⟨c, h.mem_iff.mpr hc, rfl, fun _ _ h => h⟩, fun nd => (h.map (·.ad)).nodup_iff.mp nd, rfl⟩
theorem Ok.newCell (k : Ok F C σ P H) {c : Cell} {o : HO} (hp : H c.ad = none) (ho : c.ok P o) : Ok F (C.cell c) σ P (upd H c.ad o) :=
  (k.newCell0 hp ho).wk (.perm (List.perm_append_singleton c C.μ).symm)
theorem Wk.trans {C C1 C2 : Ctx} (a : Wk C C1) (b : Wk C1 C2) : Wk C C2 := ⟨b.len.trans a.len, fun i s2 e => by
    obtain ⟨s1, e1, h1⟩ := b.slots i s2 e
    obtain ⟨s, e0, h0⟩ := a.slots i s1 e1
    exact ⟨s, e0, fun P v h => h1 P v (h0 P v h)⟩, fun c2 hc2 => by
    obtain ⟨c1, hc1, e1, h1⟩ := b.cells c2 hc2
    obtain ⟨c, hc, e0, h0⟩ := a.cells c1 hc1
    exact ⟨c, hc, e1.trans e0, fun P o h => h1 P o (h0 P o h)⟩, fun nd => b.nd (a.nd nd), b.lk.trans a.lk⟩
theorem perm_erase {μ : List Cell} {n : Nat} {c : Cell} (h : μ[n]? = some c) : μ.Perm (c :: μ.eraseIdx n) := by
  induction μ generalizing n with
  | nil => simp at h
  | cons d μ ih =>
    cases n with
    | zero =>
      have h : d = c := Option.some.inj h
      subst h
      exact List.Perm.refl _
    | succ n =>
      have := ih (n := n) (by simpa using h)
      rw [List.eraseIdx_cons_succ]
      exact (this.cons d).trans (List.Perm.swap c d _)
theorem perm_set {μ : List Cell} {n : Nat} {c c' : Cell} (h : μ[n]? = some c) : (c' :: μ.eraseIdx n).Perm (μ.set n c') := by
  induction μ generalizing n with
  | nil => simp at h
  | cons d μ ih =>
    cases n with
    | zero => exact List.Perm.refl _
    | succ n =>
      have := ih (n := n) (by simpa using h)
      rw [List.eraseIdx_cons_succ, List.set_cons_succ]
      exact (List.Perm.swap d c' _).trans (this.cons d)
/-- the n-th cell's object is changed -/
theorem Ok.writeAt {Γ : List (Option As)} {μ : List Cell} {lk : List Addr} {n : Nat} {c c' : Cell} {o : HO} (k : Ok F ⟨Γ, μ, lk⟩ σ P H) (h : μ[n]? = some c) (e : c'.ad = c.ad) (ho : c'.ok P o) : Ok F ⟨Γ, μ.set n c', lk⟩ σ P (upd H c.ad o) :=
  ((k.wk (.perm (perm_erase h))).write (C := ⟨Γ, μ.eraseIdx n, lk⟩) e ho).wk (.perm (perm_set h))
theorem Wk.refl (C : Ctx) : Wk C C := ⟨rfl, fun _ s e => ⟨s, e, fun _ _ h => h⟩, fun c h => ⟨c, h, rfl, fun _ _ h => h⟩, id, rfl⟩

/-! ### the judgements -/
def tD (F : Fr) (C : Ctx) (s : As) (C' : Ctx) : TE := fun σ H Q => ∃ P, Ok F C σ P H ∧ ∀ v P' H', Ok F C' σ P' H' → Same P P' → s.holds P' v → Q v H'
def tDT (F : Fr) (C : Ctx) (b : Bool) (C' : Ctx) : TT := fun σ H Q => ∃ P, Ok F C σ P H ∧ ∀ P' H', Ok F C' σ P' H' → Same P P' → Q b H'
def tDA (F : Fr) (C : Ctx) (ss : List As) (C' : Ctx) : TA := fun σ H Q => ∃ P, Ok F C σ P H ∧ ∀ vs P' H', Ok F C' σ P' H' → Same P P' → Each P' ss vs → Q vs H'
structure Out where
  nx : Ctx → Prop
  rt : As → Ctx → Prop
  bk : Ctx → Prop := fun _ => False
  ct : Ctx → Prop := fun _ => False
def tS (F : Fr) (C : Ctx) (O : Out) : TS := fun D σ H => ∃ P, Ok F C σ P H ∧ (∀ C' σ' P' H', O.nx C' → Ok F C' σ' P' H' → Same P P' → D.nx σ' H') ∧
  (∀ s C' v σ' P' H', O.rt s C' → Ok F C' σ' P' H' → Same P P' → s.holds P' v → D.rt v H') ∧ (∀ C' σ' P' H', O.bk C' → Ok F C' σ' P' H' → Same P P' → D.bk σ' H') ∧ (∀ C' σ' P' H', O.ct C' → Ok F C' σ' P' H' → Same P P' → D.ct σ' H')
/-- what follows, from a later ghost heap on -/
def Fol (F : Fr) (O : Out) (D : Ends) (P : Hp) : Prop := (∀ C' σ' P' H', O.nx C' → Ok F C' σ' P' H' → Same P P' → D.nx σ' H') ∧
  (∀ s C' v σ' P' H', O.rt s C' → Ok F C' σ' P' H' → Same P P' → s.holds P' v → D.rt v H') ∧ (∀ C' σ' P' H', O.bk C' → Ok F C' σ' P' H' → Same P P' → D.bk σ' H') ∧ (∀ C' σ' P' H', O.ct C' → Ok F C' σ' P' H' → Same P P' → D.ct σ' H')
theorem Fol.later {F : Fr} {O : Out} {D : Ends} {P P1 : Hp} (f : Fol F O D P) (m : Same P P1) : Fol F O D P1 :=
  ⟨fun C' σ' P' H' a b c => f.1 C' σ' P' H' a b (m.trans c), fun s C' v σ' P' H' a b c => f.2.1 s C' v σ' P' H' a b (m.trans c), fun C' σ' P' H' a b c => f.2.2.1 C' σ' P' H' a b (m.trans c), fun C' σ' P' H' a b c => f.2.2.2 C' σ' P' H' a b (m.trans c)⟩
def De (X : Cx) (F : Fr) (e : Expr) (C : Ctx) (s : As) (C' : Ctx) : Prop := PE X e (tD F C s C')
def DT (X : Cx) (F : Fr) (e : Expr) (C : Ctx) (b : Bool) (C' : Ctx) : Prop := PT X e (tDT F C b C')
def DW (X : Cx) (F : Fr) (e : Expr) (C : Ctx) (b : Bool) (C' : Ctx) : Prop := PW X e (tDT F C b C')
def DA (X : Cx) (F : Fr) (es : List Expr) (C : Ctx) (ss : List As) (C' : Ctx) : Prop := PA X es (tDA F C ss C')
def DS (X : Cx) (F : Fr) (st : Stmt) (C : Ctx) (O : Out) : Prop := PS X st (tS F C O)
def DB (X : Cx) (F : Fr) (sts : List Stmt) (C : Ctx) (O : Out) : Prop := PSs X sts (tS F C O)
end
/-! ### weaken a reading -/
section
variable {X : Cx}
theorem peW {e : Expr} {t t' : TE} (h : PE X e t) (k : ∀ σ H Q, t' σ H Q → t σ H Q) : PE X e t' := ⟨fun pins s σ H Q I q => h.run pins s σ H Q I (k σ H Q q)⟩
theorem ptW {e : Expr} {t t' : TT} (h : PT X e t) (k : ∀ σ H Q, t' σ H Q → t σ H Q) : PT X e t' := ⟨fun pins s σ H Q I q => h.run pins s σ H Q I (k σ H Q q)⟩
theorem pwW {e : Expr} {t t' : TT} (h : PW X e t) (k : ∀ σ H Q, t' σ H Q → t σ H Q) : PW X e t' := ⟨fun wh pins s σ H Q I q => h.run wh pins s σ H Q I (k σ H Q q)⟩
theorem paW {es : List Expr} {t t' : TA} (h : PA X es t) (k : ∀ σ H Q, t' σ H Q → t σ H Q) : PA X es t' := ⟨fun pos pins s σ H Q I q => h.run pos pins s σ H Q I (k σ H Q q)⟩
theorem psW {st : Stmt} {t t' : TS} (h : PS X st t) (k : ∀ D σ H, t' D σ H → t D σ H) : PS X st t' := ⟨fun pins s σ H D I q => h.run pins s σ H D I (k D σ H q)⟩
theorem pssW {st : List Stmt} {t t' : TS} (h : PSs X st t) (k : ∀ D σ H, t' D σ H → t D σ H) : PSs X st t' := ⟨fun pins s σ H D I q => h.run pins s σ H D I (k D σ H q)⟩
theorem pssEx {st : List Stmt} {ι : Type} {t : ι → TS} (h : ∀ i, PSs X st (t i)) : PSs X st (fun D σ H => ∃ i, t i D σ H) := ⟨fun pins s σ H D I ⟨i, q⟩ => (h i).run pins s σ H D I q⟩
end
end L3

/-! L3, part b: scopes, assertions, expressions. -/
namespace L3
open PySem PySem.Spec L2

/-! ### what a body's scope knows, said once -/
structure Sc where
  N : List Str
  us : List Bool
  ws : List Bool
  G : List Str
  sc : Scope
structure Xf (S : Sc) (X : Cx) : Prop where
  hN : X.N = S.N
  nd : S.N.Nodup
  calm : X.calm = true
  hsc : X.env.scope = S.sc
  vis : ∀ (i : Nat) (x : Str), S.us[i]? = some true → S.N[i]? = some x → Vis S.sc x
  sto : ∀ (i : Nat) (x : Str), S.ws[i]? = some true → S.N[i]? = some x → Loc S.sc x ∧ (X.fn x = true ∨ S.sc.names.lookup x = some .local)
  glb : ∀ (j : Nat) (x : Str), S.G[j]? = some x → S.sc.names.lookup x = some .globalImplicit
def visB (sc : Scope) (x : Str) : Bool := match sc.names.lookup x with
  | some .local => true
  | some .cell => true
  | some .free => true
  | _ => false
def locB (sc : Scope) (x : Str) : Bool := match sc.names.lookup x with
  | some .local => true
  | some .cell => true
  | _ => false
def onlyB (sc : Scope) (x : Str) : Bool := match sc.names.lookup x with
  | some .local => true
  | _ => false
def glbB (sc : Scope) (x : Str) : Bool := match sc.names.lookup x with
  | some .globalImplicit => true
  | _ => false
def zipB (p : Str → Bool) : List Bool → List Str → Bool
  | b :: bs, x :: xs => (!b || p x) && zipB p bs xs
  | _, _ => true
theorem zipB_get {p : Str → Bool} : ∀ {bs : List Bool} {xs : List Str} {i : Nat} {x : Str}, zipB p bs xs = true → bs[i]? = some true → xs[i]? = some x → p x = true
  | b :: bs, y :: xs, 0, x, h, h1, h2 => by
    simp at h1 h2
    subst h1 h2
    simp [zipB] at h
    exact h.1
  | b :: bs, y :: xs, i + 1, x, h, h1, h2 => by
    simp [zipB] at h
    exact zipB_get (i := i) h.2 (by simpa using h1) (by simpa using h2)
  | [], _, _, _, _, h1, _ => by simp at h1
  | _ :: _, [], _, _, _, _, h2 => by simp at h2
/-- a def's table -/
def tabC (S : Sc) : Bool := decide S.N.Nodup && zipB (visB S.sc) S.us S.N && zipB (locB S.sc) S.ws S.N && S.G.all (glbB S.sc)
/-- a block's table -/
def tabB (S : Sc) : Bool := decide S.N.Nodup && zipB (visB S.sc) S.us S.N && zipB (onlyB S.sc) S.ws S.N && S.G.all (glbB S.sc)
theorem vis_of {sc : Scope} {x : Str} (h : visB sc x = true) : Vis sc x := by
  unfold visB at h
  split at h
  · exact .inl (by assumption)
  · exact .inr (.inl (by assumption))
  · exact .inr (.inr (by assumption))
  · cases h
theorem loc_of {sc : Scope} {x : Str} (h : locB sc x = true) : Loc sc x := by
  unfold locB at h
  split at h
  · exact .inl (by assumption)
  · exact .inr (by assumption)
  · cases h
theorem only_of {sc : Scope} {x : Str} (h : onlyB sc x = true) : sc.names.lookup x = some .local := by
  unfold onlyB at h
  split at h
  · assumption
  · cases h
theorem glb_of {sc : Scope} {x : Str} (h : glbB sc x = true) : sc.names.lookup x = some .globalImplicit := by
  unfold glbB at h
  split at h
  · assumption
  · cases h
theorem Xf.mk' {S : Sc} {X : Cx} (h : tabC S = true) (hN : X.N = S.N) (calm : X.calm = true) (hsc : X.env.scope = S.sc) (fn : ∀ x, X.fn x = true) : Xf S X := by
  unfold tabC at h
  simp only [Bool.and_eq_true, decide_eq_true_eq, List.all_eq_true] at h
  obtain ⟨⟨⟨h1, h2⟩, h3⟩, h4⟩ := h
  exact ⟨hN, h1, calm, hsc, fun i x a b => vis_of (zipB_get h2 a b), fun i x a b => ⟨loc_of (zipB_get h3 a b), .inl (fn x)⟩, fun j x a => glb_of (h4 x (List.mem_of_getElem? a))⟩
/-- a comprehension's block -/
theorem Xf.blk {S S' : Sc} {X : Cx} (x : Xf S X) {scope : Scope} (hS : S'.sc = relS scope S.sc) (hN : S'.N = S.N) (h : tabB S' = true) (s : Shared) (H : Hp) (C : Addr) (cl : List (Str × Addr)) (fp : List Addr) : Xf S' (X.blk s H scope (compEnvC scope cl C X.env) fp) := by
  unfold tabB at h
  simp only [Bool.and_eq_true, decide_eq_true_eq, List.all_eq_true] at h
  obtain ⟨⟨⟨h1, h2⟩, h3⟩, h4⟩ := h
  refine ⟨x.hN.trans hN.symm, h1, x.calm, ?_, fun i y a b => vis_of (zipB_get h2 a b), fun i y a b => ?_, fun j y a => glb_of (h4 y (List.mem_of_getElem? a))⟩
  · rw [hS, ← x.hsc]
    rfl
  · have q := only_of (zipB_get h3 a b)
    exact ⟨.inl q, .inr q⟩
theorem Xf.gl {S : Sc} {X : Cx} (x : Xf S X) (j : Nat) {y : Str} (h : S.G[j]? = some y) : Gl X y := by
  unfold Gl Env.kindOf
  rw [x.hsc]
  exact x.glb j y h

/-! ### assertions -/
def sI (i : Int) : As := ⟨fun _ v => v = .int i, fun _ h => h⟩
def sB (b : Bool) : As := ⟨fun _ v => v = .bl b, fun _ h => h⟩
def sS (x : Str) : As := ⟨fun _ v => v = .str x, fun _ h => h⟩
def sN : As := ⟨fun _ v => v = .non, fun _ h => h⟩
def sAt (l : Addr) : As := ⟨fun _ v => v = .ref l, fun _ h => h⟩
def sT (ss : List As) : As := ⟨fun P v => ∃ a vs, v = .ref a ∧ P a = some (.tup vs) ∧ Each P ss vs, fun h ⟨a, vs, e, k, r⟩ => ⟨a, vs, e, h _ _ k, r.mono h⟩⟩
def sL (ss : List As) : As := ⟨fun P v => ∃ a vs, v = .ref a ∧ P a = some (.lst vs) ∧ Each P ss vs, fun h ⟨a, vs, e, k, r⟩ => ⟨a, vs, e, h _ _ k, r.mono h⟩⟩
def sD (kvs : List (Key × As)) : As := ⟨fun P v => ∃ a kv, v = .ref a ∧ P a = some (.dK kv) ∧ kv.map Prod.fst = kvs.map Prod.fst ∧ Each P (kvs.map Prod.snd) (kv.map Prod.snd), fun h ⟨a, vs, e, k, q, r⟩ => ⟨a, vs, e, h _ _ k, q, r.mono h⟩⟩
def sC (C : Addr) (fs : List (Str × As)) : As := ⟨fun P v => ∃ a dx fl, v = .ref a ∧ P a = some (.ins C dx fl) ∧ fl.map Prod.fst = fs.map Prod.fst ∧ Each P (fs.map Prod.snd) (fl.map Prod.snd), fun h ⟨a, dx, vs, e, k, q, r⟩ => ⟨a, dx, vs, e, h _ _ k, q, r.mono h⟩⟩
def sO {α : Type} (r : α → As) : Option α → As
  | none => sN
  | some a => r a
def cL (l : Addr) (ss : List As) : Cell := ⟨l, fun P o => ∃ vs, o = .lst vs ∧ Each P ss vs, fun h ⟨vs, e, r⟩ => ⟨vs, e, r.mono h⟩⟩
def cD (l : Addr) (kvs : List (Key × As)) : Cell := ⟨l, fun P o => ∃ kv, o = .dK kv ∧ kv.map Prod.fst = kvs.map Prod.fst ∧ Each P (kvs.map Prod.snd) (kv.map Prod.snd), fun h ⟨vs, e, q, r⟩ => ⟨vs, e, q, r.mono h⟩⟩
def cI (l C : Addr) (fs : List (Str × As)) : Cell := ⟨l, fun P o => ∃ dx fl, o = .ins C dx fl ∧ fl.map Prod.fst = fs.map Prod.fst ∧ Each P (fs.map Prod.snd) (fl.map Prod.snd), fun h ⟨dx, vs, e, q, r⟩ => ⟨dx, vs, e, q, r.mono h⟩⟩

/-- an assertion that leans on no heap -/
def Flat (s : As) : Prop := ∀ P P' v, s.holds P v → s.holds P' v
theorem flatI (i : Int) : Flat (sI i) := fun _ _ _ h => h
theorem flatB (i : Bool) : Flat (sB i) := fun _ _ _ h => h
theorem flatS (i : Str) : Flat (sS i) := fun _ _ _ h => h
theorem flatN : Flat sN := fun _ _ _ h => h

theorem look_each {P : Hp} {f : Str} : ∀ {fs : List (Str × As)} {fl : List (Str × V)} {s : As}, fl.map Prod.fst = fs.map Prod.fst → Each P (fs.map Prod.snd) (fl.map Prod.snd) → fs.lookup f = some s → ∃ u, fl.lookup f = some u ∧ s.holds P u
  | [], _, _, _, _, h => by simp at h
  | (k, s) :: fs, [], _, e, _, _ => by simp at e
  | (k, s) :: fs, (k', u) :: fl, t, e, r, h => by
    rw [List.map_cons, List.map_cons] at e
    obtain ⟨e1, e2⟩ := List.cons.inj e
    have e1 : k' = k := e1
    subst e1
    rw [List.lookup_cons] at h ⊢
    cases hk : f == k' with
    | true =>
      rw [hk] at h
      have h : s = t := Option.some.inj h
      subst h
      exact ⟨u, rfl, r.1⟩
    | false =>
      rw [hk] at h
      exact look_each e2 r.2 h
theorem look_none {f : Str} : ∀ {fs : List (Str × As)} {fl : List (Str × V)}, fl.map Prod.fst = fs.map Prod.fst → fs.lookup f = none → fl.lookup f = none
  | [], [], _, _ => rfl
  | [], _ :: _, e, _ => by simp at e
  | _ :: _, [], e, _ => by simp at e
  | (k, s) :: fs, (k', u) :: fl, e, h => by
    rw [List.map_cons, List.map_cons] at e
    obtain ⟨e1, e2⟩ := List.cons.inj e
    have e1 : k' = k := e1
    subst e1
    rw [List.lookup_cons] at h ⊢
    cases hk : f == k' with
    | true =>
      rw [hk] at h
      cases h
    | false =>
      rw [hk] at h
      exact look_none e2 h

section
variable {X : Cx} {F : Fr} {S : Sc} {C C1 C2 C3 : Ctx} {s s1 s2 : As} {pos : Pos} {a b e : Expr}
/-! ### names, constants -/
theorem de_var (xf : Xf S X) (i : Nat) {x : Str} (hs : C.Γ[i]? = some (some s) := by rfl) (hx : S.N[i]? = some x := by rfl) (hu : S.us[i]? = some true := by rfl) (hd : (x == ("__debug__" : Str)) = false := by decide) (hcd : (x == ("__classdict__" : Str)) = false := by decide) : De X F (.Name x pos) C s C := by
  refine peW (pe_var (i := i) (by rw [xf.hN]; exact hx) (by rw [xf.hsc]; exact xf.vis i x hu hx) hd hcd) ?_
  rintro σ H Q ⟨P, k, q⟩
  obtain ⟨v, e1, hv⟩ := k.slots i s hs
  exact ⟨v, e1, q v P H k (Same.refl _) hv⟩
theorem de_const {v : V} (h : PE X e (tC v)) (hv : ∀ P, s.holds P v) : De X F e C s C := peW h fun σ H Q ⟨P, k, q⟩ => q v P H k (Same.refl _) (hv P)
theorem de_int {i j} : De X F (.Constant (.int i) j pos) C (sI i) C := de_const pe_int fun _ => rfl
theorem de_bl {i j} : De X F (.Constant (.bool i) j pos) C (sB i) C := de_const pe_bl fun _ => rfl
theorem de_non {j} : De X F (.Constant .none j pos) C sN C := de_const pe_non fun _ => rfl
theorem de_str {i j} : De X F (.Constant (.str i) j pos) C (sS i) C := de_const pe_str fun _ => rfl
/-- a module's int constant -/
theorem de_glob (xf : Xf S X) (j : Nat) {x : Str} {v : V} {u : Value} (hm : X.mg x = some u) (r : RelV v u) (hv : ∀ P, s.holds P v) (hg : S.G[j]? = some x := by rfl) (hd : (x == ("__debug__" : Str)) = false := by decide) : De X F (.Name x pos) C s C :=
  de_const (pe_glob (xf.gl j hg) hm r hd) hv
/-! ### one operator on two values, nothing new -/
theorem de_op {op : Operator} {r : R2} (ho : OpR X (binaryOp op) r) (ha : De X F a C s1 C1) (hb : De X F b C1 s2 C2)
    (hr : ∀ P H v u Q, Sub P H → s1.holds P v → s2.holds P u → (∀ z, s.holds P z → Q z H) → r v u H Q) : De X F (.BinOp a op b pos) C s C2 := by
  refine peW (pe_op ho ha hb) ?_
  rintro σ H Q ⟨P, k, q⟩
  refine ⟨P, k, fun v P1 H1 k1 m1 hv => ⟨P1, k1, fun u P2 H2 k2 m2 hu => ?_⟩⟩
  exact hr P2 H2 v u Q k2.sub (s1.mono m2 hv) hu fun z hz => q z P2 H2 k2 (m1.trans m2) hz
/-- .. with new objects -/
theorem de_opN {op : Operator} {r : R2} (ho : OpR X (binaryOp op) r) (ha : De X F a C s1 C1) (hb : De X F b C1 s2 C2)
    (hr : ∀ σ P H v u Q, Ok F C2 σ P H → s1.holds P v → s2.holds P u → (∀ z P' H', Ok F C3 σ P' H' → Same P P' → s.holds P' z → Q z H') → r v u H Q) : De X F (.BinOp a op b pos) C s C3 := by
  refine peW (pe_op ho ha hb) ?_
  rintro σ H Q ⟨P, k, q⟩
  refine ⟨P, k, fun v P1 H1 k1 m1 hv => ⟨P1, k1, fun u P2 H2 k2 m2 hu => ?_⟩⟩
  exact hr σ P2 H2 v u Q k2 (s1.mono m2 hv) hu fun z P' H' k' m' hz => q z P' H' k' ((m1.trans m2).trans m') hz
theorem de_add {i j : Int} (ha : De X F a C (sI i) C1) (hb : De X F b C1 (sI j) C2) : De X F (.BinOp a .Add b pos) C (sI (i + j)) C2 :=
  de_op op_add ha hb fun P H v u Q _ hv hu q => ⟨i, j, hv, hu, q _ rfl⟩
theorem de_sub {i j : Int} (ha : De X F a C (sI i) C1) (hb : De X F b C1 (sI j) C2) : De X F (.BinOp a .Sub b pos) C (sI (i - j)) C2 :=
  de_op op_sub ha hb fun P H v u Q _ hv hu q => ⟨i, j, hv, hu, q _ rfl⟩
theorem de_mul {i j : Int} (ha : De X F a C (sI i) C1) (hb : De X F b C1 (sI j) C2) (h : CMul i j) : De X F (.BinOp a .Mult b pos) C (sI (i * j)) C2 :=
  de_op op_mul ha hb fun P H v u Q _ hv hu q => ⟨i, j, hv, hu, h, q _ rfl⟩
theorem de_mod {i j : Int} (ha : De X F a C (sI i) C1) (hb : De X F b C1 (sI j) C2) (h : 0 < j) : De X F (.BinOp a .Mod b pos) C (sI (i % j)) C2 :=
  de_op op_mod ha hb fun P H v u Q _ hv hu q => ⟨i, j, hv, hu, h, q _ rfl⟩
theorem de_fdiv {i j : Int} (ha : De X F a C (sI i) C1) (hb : De X F b C1 (sI j) C2) (h : 0 < j ∧ j < 1073741824) : De X F (.BinOp a .FloorDiv b pos) C (sI (i / j)) C2 :=
  de_op op_fdiv ha hb fun P H v u Q _ hv hu q => ⟨i, j, hv, hu, h, q _ rfl⟩
theorem de_pow {i j : Int} (ha : De X F a C (sI i) C1) (hb : De X F b C1 (sI j) C2) (h : CPow i j) : De X F (.BinOp a .Pow b pos) C (sI (i ^ j.toNat)) C2 :=
  de_op op_pow ha hb fun P H v u Q _ hv hu q => ⟨i, j, hv, hu, h, q _ rfl⟩
theorem de_shl {i j : Int} (ha : De X F a C (sI i) C1) (hb : De X F b C1 (sI j) C2) (h : CPow i j) : De X F (.BinOp a .LShift b pos) C (sI (i * 2 ^ j.toNat)) C2 :=
  de_op op_shl ha hb fun P H v u Q _ hv hu q => ⟨i, j, hv, hu, h, q _ rfl⟩
theorem de_adds {x y : Str} (ha : De X F a C (sS x) C1) (hb : De X F b C1 (sS y) C2) (h : x.length + y.length ≤ sizeLine) : De X F (.BinOp a .Add b pos) C (sS (x ++ y)) C2 :=
  de_op op_add_str ha hb fun P H v u Q _ hv hu q => ⟨x, y, hv, hu, h, q _ rfl⟩
end
end L3

/-! L3, part c: comparisons, tests, displays, reads. -/
namespace L3
open PySem PySem.Spec L2
section
variable {X : Cx} {F : Fr} {S : Sc} {C C1 C2 C3 : Ctx} {s s1 s2 s3 : As} {pos : Pos} {a b c e : Expr} {b1 b2 : Bool}

/-! ### casts -/
theorem De.to (h : De X F e C s C1) (k : ∀ P v, s.holds P v → s1.holds P v) : De X F e C s1 C1 := peW h fun σ H Q ⟨P, o, q⟩ => ⟨P, o, fun v P' H' o' m hv => q v P' H' o' m (k P' v hv)⟩
theorem De.cast (h : De X F e C s C1) (k : s = s1) : De X F e C s1 C1 := k ▸ h
theorem De.ctx (h : De X F e C s C1) (w : Wk C1 C2) : De X F e C s C2 := peW h fun σ H Q ⟨P, o, q⟩ => ⟨P, o, fun v P' H' o' m hv => q v P' H' (o'.wk w) m hv⟩
theorem De.ctxE (h : De X F e C s C1) (w : C1 = C2) : De X F e C s C2 := w ▸ h
theorem De.pre (h : De X F e C1 s C2) (w : Wk C C1) : De X F e C s C2 := peW h fun σ H Q ⟨P, o, q⟩ => ⟨P, o.wk w, q⟩
theorem DT.cast (h : DT X F e C b1 C1) (k : b1 = b2) : DT X F e C b2 C1 := k ▸ h
theorem DT.ctx (h : DT X F e C b1 C1) (w : Wk C1 C2) : DT X F e C b1 C2 := ptW h fun σ H Q ⟨P, o, q⟩ => ⟨P, o, fun P' H' o' m => q P' H' (o'.wk w) m⟩

/-! ### comparisons -/
structure CmpV (X : Cx) (F : Fr) (C : Ctx) (op : CmpOp) (s1 s2 : As) (c : Bool) : Prop where
  ex : ∃ r, OpR X (compareOp op) r ∧ ∀ (σ : L2.St) (P H : Hp) (v u : V) (Q : VK), Ok F C σ P H → s1.holds P v → s2.holds P u → Q (.bl c) H → r v u H Q
theorem de_cmp {op : CmpOp} {c : Bool} (h : CmpV X F C2 op s1 s2 c) (ha : De X F a C s1 C1) (hb : De X F b C1 s2 C2) (hm : behindInMarks op b = false := by first | exact nomark _ | rfl) : De X F (.Compare a [op] [b] pos) C (sB c) C2 := by
  obtain ⟨r, ho, hr⟩ := h.ex
  refine peW (pe_cmpR ho ha hb hm) ?_
  rintro σ H Q ⟨P, k, q⟩
  refine ⟨P, k, fun v P1 H1 k1 m1 hv => ⟨P1, k1, fun u P2 H2 k2 m2 hu => ?_⟩⟩
  exact hr σ P2 H2 v u Q k2 (s1.mono m2 hv) hu (q _ P2 H2 k2 (m1.trans m2) rfl)
theorem dt_cmp {op : CmpOp} {c : Bool} (h : CmpV X F C2 op s1 s2 c) (ha : De X F a C s1 C1) (hb : De X F b C1 s2 C2) (hm : behindInMarks op b = false := by first | exact nomark _ | rfl) : DT X F (.Compare a [op] [b] pos) C c C2 := by
  obtain ⟨r, ho, hr⟩ := h.ex
  refine ptW (pt_cmpR ho ha hb hm) ?_
  rintro σ H Q ⟨P, k, q⟩
  refine ⟨P, k, fun v P1 H1 k1 m1 hv => ⟨P1, k1, fun u P2 H2 k2 m2 hu => ?_⟩⟩
  exact hr σ P2 H2 v u _ k2 (s1.mono m2 hv) hu ⟨c, rfl, q P2 H2 k2 (m1.trans m2)⟩
/-- a op b op' c -/
theorem de_chain {op op' : CmpOp} {d1 d2 : Bool} (h : CmpV X F C2 op s1 s2 d1) (h' : CmpV X F C2 op' s2 s3 d2) (ha : De X F a C s1 C1) (hb : De X F b C1 s2 C2) (hc : De X F c C2 s3 C2) (hm : lastMarks [op, op'] [b, c] = false := by with_unfolding_all rfl) :
    De X F (.Compare a [op, op'] [b, c] pos) C (sB (d1 && d2)) C2 := by
  obtain ⟨r, ho, hr⟩ := h.ex
  obtain ⟨r', ho', hr'⟩ := h'.ex
  refine peW (pe_chain ho ho' ha hb hc hm) ?_
  rintro σ H Q ⟨P, k, q⟩
  refine ⟨P, k, fun v P1 H1 k1 m1 hv => ⟨P1, k1, fun u P2 H2 k2 m2 hu => ?_⟩⟩
  refine hr σ P2 H2 v u _ k2 (s1.mono m2 hv) hu ⟨d1, rfl, ?_⟩
  cases d1 with
  | true => exact ⟨P2, k2, fun w P3 H3 k3 m3 hw => hr' σ P3 H3 u w Q k3 (s2.mono m3 hu) hw (q _ P3 H3 k3 ((m1.trans m2).trans m3) rfl)⟩
  | false => exact q _ P2 H2 k2 (m1.trans m2) rfl
theorem cv_lt {i j : Int} : CmpV X F C .Lt (sI i) (sI j) (decide (i < j)) := ⟨_, op_lt, fun σ P H v u Q _ hv hu q => ⟨i, j, hv, hu, q⟩⟩
theorem cv_le {i j : Int} : CmpV X F C .LtE (sI i) (sI j) (decide (i ≤ j)) := ⟨_, op_le, fun σ P H v u Q _ hv hu q => ⟨i, j, hv, hu, q⟩⟩
theorem cv_gt {i j : Int} : CmpV X F C .Gt (sI i) (sI j) (decide (j < i)) := ⟨_, op_gt, fun σ P H v u Q _ hv hu q => ⟨i, j, hv, hu, q⟩⟩
theorem cv_ge {i j : Int} : CmpV X F C .GtE (sI i) (sI j) (decide (j ≤ i)) := ⟨_, op_ge, fun σ P H v u Q _ hv hu q => ⟨i, j, hv, hu, q⟩⟩
theorem cv_eqV {x y : V} {c : Bool} (hs : scal x y = true) (h1 : ∀ P v, s1.holds P v → v = x) (h2 : ∀ P v, s2.holds P v → v = y) (hc : decide (x = y) = c) : CmpV X F C .Eq s1 s2 c :=
  ⟨_, op_eq, fun σ P H v u Q _ hv hu q => by rw [h1 P v hv, h2 P u hu]; exact ⟨hs, by rw [hc]; exact q⟩⟩
theorem cv_neV {x y : V} {c : Bool} (hs : scal x y = true) (h1 : ∀ P v, s1.holds P v → v = x) (h2 : ∀ P v, s2.holds P v → v = y) (hc : (!decide (x = y)) = c) : CmpV X F C .NotEq s1 s2 c :=
  ⟨_, op_ne, fun σ P H v u Q _ hv hu q => by rw [h1 P v hv, h2 P u hu]; exact ⟨hs, by rw [hc]; exact q⟩⟩
theorem cv_eqI {i j : Int} : CmpV X F C .Eq (sI i) (sI j) (decide (i = j)) := cv_eqV (x := .int i) (y := .int j) rfl (fun _ _ h => h) (fun _ _ h => h) (by simp)
theorem cv_neI {i j : Int} : CmpV X F C .NotEq (sI i) (sI j) (!decide (i = j)) := cv_neV (x := .int i) (y := .int j) rfl (fun _ _ h => h) (fun _ _ h => h) (by simp)
theorem cv_eqS {i j : Str} : CmpV X F C .Eq (sS i) (sS j) (decide (i = j)) := cv_eqV (x := .str i) (y := .str j) rfl (fun _ _ h => h) (fun _ _ h => h) (by simp)
theorem cv_neS {i j : Str} : CmpV X F C .NotEq (sS i) (sS j) (!decide (i = j)) := cv_neV (x := .str i) (y := .str j) rfl (fun _ _ h => h) (fun _ _ h => h) (by simp)
theorem cv_eqB {i j : Bool} : CmpV X F C .Eq (sB i) (sB j) (decide (i = j)) := cv_eqV (x := .bl i) (y := .bl j) rfl (fun _ _ h => h) (fun _ _ h => h) (by simp)
theorem cv_neB {i j : Bool} : CmpV X F C .NotEq (sB i) (sB j) (!decide (i = j)) := cv_neV (x := .bl i) (y := .bl j) rfl (fun _ _ h => h) (fun _ _ h => h) (by simp)
/-- whether a value is None -/
structure NonB (s : As) (c : Bool) : Prop where
  eq : ∀ P v, s.holds P v → decide (v = .non) = c
theorem non_I {i : Int} : NonB (sI i) false := ⟨fun P v h => by rw [h]; rfl⟩
theorem non_S {i : Str} : NonB (sS i) false := ⟨fun P v h => by rw [h]; rfl⟩
theorem non_N : NonB sN true := ⟨fun P v h => by rw [h]; rfl⟩
theorem non_T {ss : List As} : NonB (sT ss) false := ⟨fun P v ⟨_, _, h, _⟩ => by rw [h]; rfl⟩
theorem non_L {ss : List As} : NonB (sL ss) false := ⟨fun P v ⟨_, _, h, _⟩ => by rw [h]; rfl⟩
theorem non_C {A : Addr} {fs : List (Str × As)} : NonB (sC A fs) false := ⟨fun P v ⟨_, _, _, h, _⟩ => by rw [h]; rfl⟩
theorem non_At {l : Addr} : NonB (sAt l) false := ⟨fun P v h => by rw [h]; rfl⟩
theorem non_O {α : Type} {r : α → As} (h : ∀ x, NonB (r x) false) : ∀ {o : Option α}, NonB (sO r o) o.isNone
  | none => non_N
  | some x => h x
theorem cv_isN {c : Bool} (h : NonB s1 c) : CmpV X F C .Is s1 sN c := ⟨_, op_isN, fun σ P H v u Q _ hv hu q => ⟨hu, by rw [h.eq P v hv]; exact q⟩⟩
theorem cv_notN {c : Bool} (h : NonB s1 c) : CmpV X F C .IsNot s1 sN (!c) := ⟨_, op_notN, fun σ P H v u Q _ hv hu q => ⟨hu, by rw [h.eq P v hv]; exact q⟩⟩

/-! ### tests -/
theorem dt_val {c : Bool} (h : De X F e C (sB c) C1) (he : ∀ whole, isTrue e X.env whole = (do let v ← whole; standAt e.pos; holding [v] (truthy v)) := by intro _; rfl) : DT X F e C c C1 := by
  refine ptW (pt_val h he) ?_
  rintro σ H Q ⟨P, k, q⟩
  exact ⟨P, k, fun v P' H' k' m hv => ⟨c, hv, q P' H' k' m⟩⟩
theorem dt_not (h : DT X F e C b1 C1) : DT X F (.UnaryOp .Not e pos) C (!b1) C1 := by
  refine ptW (pt_not h) ?_
  rintro σ H Q ⟨P, k, q⟩
  exact ⟨P, k, fun P' H' k' m => q P' H' k' m⟩
variable {rest : List Expr}
theorem dt_bool {op : PySem.BoolOp} (h : DW X F (.BoolOp op (a :: rest) pos) C b1 C1) : DT X F (.BoolOp op (a :: rest) pos) C b1 C1 := PW.pt h
theorem dw_and1 (h : DT X F a C b1 C1) : DW X F (.BoolOp .And [a] pos) C b1 C1 := pwW (pw_and1 h) fun _ _ _ q => q
theorem dw_or1 (h : DT X F a C b1 C1) : DW X F (.BoolOp .Or [a] pos) C b1 C1 := pwW (pw_or1 h) fun _ _ _ q => q
/-- a and ..: the rest is asked in the context behind a; C2 is where both ways end -/
theorem dw_and (ha : DT X F a C b1 C1) (hb : b1 = true → DW X F (.BoolOp .And (b :: rest) pos) C1 b2 C2) (hf : b1 = false → Wk C1 C2 := by intro _; exact Wk.refl _) : DW X F (.BoolOp .And (a :: b :: rest) pos) C (b1 && b2) C2 := by
  cases b1 with
  | true =>
    refine pwW (pw_and ha (hb rfl)) ?_
    rintro σ H Q ⟨P, k, q⟩
    exact ⟨P, k, fun P1 H1 k1 m1 => ⟨P1, k1, fun P2 H2 k2 m2 => q P2 H2 k2 (m1.trans m2)⟩⟩
  | false =>
    refine ⟨fun wh pins s σ H Q I h => ?_⟩
    obtain ⟨P, k, q⟩ := h
    refine PyProof.Rows.isTrue_and (thn (ha.run pins s σ H (fun c H1 => c = false ∧ Q false H1) I ⟨P, k, fun P' H' k' m => ⟨rfl, q P' H' (k'.wk (hf rfl)) m⟩⟩) fun c s1 ⟨H1, I1, q1⟩ => ?_)
    obtain ⟨rfl, q1⟩ := q1
    exact ⟨H1, I1, q1⟩
theorem dw_or (ha : DT X F a C b1 C1) (hb : b1 = false → DW X F (.BoolOp .Or (b :: rest) pos) C1 b2 C2) (hf : b1 = true → Wk C1 C2 := by intro _; exact Wk.refl _) : DW X F (.BoolOp .Or (a :: b :: rest) pos) C (b1 || b2) C2 := by
  cases b1 with
  | false =>
    refine pwW (pw_or ha (hb rfl)) ?_
    rintro σ H Q ⟨P, k, q⟩
    exact ⟨P, k, fun P1 H1 k1 m1 => ⟨P1, k1, fun P2 H2 k2 m2 => q P2 H2 k2 (m1.trans m2)⟩⟩
  | true =>
    refine ⟨fun wh pins s σ H Q I h => ?_⟩
    obtain ⟨P, k, q⟩ := h
    refine PyProof.Rows.isTrue_or (thn (ha.run pins s σ H (fun c H1 => c = true ∧ Q true H1) I ⟨P, k, fun P' H' k' m => ⟨rfl, q P' H' (k'.wk (hf rfl)) m⟩⟩) fun c s1 ⟨H1, I1, q1⟩ => ?_)
    obtain ⟨rfl, q1⟩ := q1
    exact ⟨H1, I1, q1⟩
/-! .. as values -/
theorem de_one {op : PySem.BoolOp} (h : De X F a C (sB b1) C1) : De X F (.BoolOp op [a] pos) C (sB b1) C1 := pe_one h
theorem de_and (ha : De X F a C (sB b1) C1) (hb : b1 = true → De X F (.BoolOp .And (b :: rest) pos) C1 (sB b2) C2) (hf : b1 = false → Wk C1 C2 := by intro _; exact Wk.refl _) : De X F (.BoolOp .And (a :: b :: rest) pos) C (sB (b1 && b2)) C2 := by
  cases b1 with
  | true =>
    refine peW (pe_and ha (hb rfl)) ?_
    rintro σ H Q ⟨P, k, q⟩
    exact ⟨P, k, fun v P1 H1 k1 m1 hv => ⟨true, hv, P1, k1, fun u P2 H2 k2 m2 hu => q u P2 H2 k2 (m1.trans m2) hu⟩⟩
  | false =>
    refine ⟨fun pins s σ H Q I h => ?_⟩
    obtain ⟨P, k, q⟩ := h
    refine PyProof.Rows.BoolOp_and (thn (ha.run pins s σ H (fun v H1 => v = .bl false ∧ Q (.bl false) H1) I ⟨P, k, fun v P' H' k' m hv => ⟨hv, q _ P' H' (k'.wk (hf rfl)) m rfl⟩⟩) fun v s1 ⟨x, H1, I1, r1, e1, q1⟩ => ?_)
    subst e1
    cases r1
    refine wpAny_truthy_bool ?_
    exact ⟨.bl false, H1, I1, rfl, q1⟩
theorem de_or (ha : De X F a C (sB b1) C1) (hb : b1 = false → De X F (.BoolOp .Or (b :: rest) pos) C1 (sB b2) C2) (hf : b1 = true → Wk C1 C2 := by intro _; exact Wk.refl _) : De X F (.BoolOp .Or (a :: b :: rest) pos) C (sB (b1 || b2)) C2 := by
  cases b1 with
  | false =>
    refine peW (pe_or ha (hb rfl)) ?_
    rintro σ H Q ⟨P, k, q⟩
    exact ⟨P, k, fun v P1 H1 k1 m1 hv => ⟨false, hv, P1, k1, fun u P2 H2 k2 m2 hu => q u P2 H2 k2 (m1.trans m2) hu⟩⟩
  | true =>
    refine ⟨fun pins s σ H Q I h => ?_⟩
    obtain ⟨P, k, q⟩ := h
    refine PyProof.Rows.BoolOp_or (thn (ha.run pins s σ H (fun v H1 => v = .bl true ∧ Q (.bl true) H1) I ⟨P, k, fun v P' H' k' m hv => ⟨hv, q _ P' H' (k'.wk (hf rfl)) m rfl⟩⟩) fun v s1 ⟨x, H1, I1, r1, e1, q1⟩ => ?_)
    subst e1
    cases r1
    refine wpAny_truthy_bool ?_
    exact ⟨.bl true, H1, I1, rfl, q1⟩
theorem de_not (h : De X F a C (sB b1) C1) : De X F (.UnaryOp .Not a pos) C (sB (!b1)) C1 := by
  refine peW (pe_not h) ?_
  rintro σ H Q ⟨P, k, q⟩
  exact ⟨P, k, fun v P1 H1 k1 m1 hv => ⟨b1, hv, q _ P1 H1 k1 m1 rfl⟩⟩
theorem de_neg {i : Int} (h : De X F a C (sI i) C1) : De X F (.UnaryOp .USub a pos) C (sI (-i)) C1 := by
  refine peW (pe_un un_neg h) ?_
  rintro σ H Q ⟨P, k, q⟩
  exact ⟨P, k, fun v P1 H1 k1 m1 hv => ⟨i, hv, q _ P1 H1 k1 m1 rfl⟩⟩
theorem de_ifExp (hc : DT X F c C b1 C1) (ha : b1 = true → De X F a C1 s C2) (hb : b1 = false → De X F b C1 s C2) : De X F (.IfExp c a b pos) C s C2 := by
  refine ⟨fun pins st σ H Q I h => ?_⟩
  obtain ⟨P, k, q⟩ := h
  refine wpAny_IfExp (thn (hc.run pins st σ H (fun d H1 => d = b1 ∧ ∃ P1, Ok F C1 σ P1 H1 ∧ Same P P1) I ⟨P, k, fun P' H' k' m => ⟨rfl, P', k', m⟩⟩) fun d s1 ⟨H1, I1, e1, P1, k1, m1⟩ => ?_)
  subst e1
  cases d with
  | true => exact (ha rfl).run pins s1 σ H1 Q I1 ⟨P1, k1, fun v P2 H2 k2 m2 hv => q v P2 H2 k2 (m1.trans m2) hv⟩
  | false => exact (hb rfl).run pins s1 σ H1 Q I1 ⟨P1, k1, fun v P2 H2 k2 m2 hv => q v P2 H2 k2 (m1.trans m2) hv⟩

/-! ### argument lists and displays -/
variable {es : List Expr} {ss : List As}
theorem da_nil : DA X F [] C [] C := paW pa_nil fun σ H Q ⟨P, k, q⟩ => q [] P H k (Same.refl _) trivial
theorem da_cons (ha : De X F e C s C1) (hr : DA X F es C1 ss C2) (hs : starEach (e :: es) X.env = (false, eval e X.env) :: starEach es X.env := by rfl) : DA X F (e :: es) C (s :: ss) C2 := by
  refine paW (pa_cons ha hr hs) ?_
  rintro σ H Q ⟨P, k, q⟩
  refine ⟨P, k, fun v P1 H1 k1 m1 hv => ⟨P1, k1, fun vs P2 H2 k2 m2 hvs => ?_⟩⟩
  exact q (v :: vs) P2 H2 k2 (m1.trans m2) ⟨s.mono m2 hv, hvs⟩
theorem de_tup {x1} (h : DA X F es C ss C1) (hl : ss.length ≤ sizeLine := by exact le_line (by rfl)) : De X F (.Tuple es x1 pos) C (sT ss) C1 := by
  refine peW (pe_tup h) ?_
  rintro σ H Q ⟨P, k, q⟩
  refine ⟨P, k, fun vs P1 H1 k1 m1 hvs => ⟨by rw [hvs.len]; exact hl, fun p hp => ?_⟩⟩
  obtain ⟨k2, m2⟩ := k1.laid (o := .tup vs) hp
  exact q _ _ _ k2 (m1.trans m2) ⟨p, vs, rfl, upd_same, hvs.mono m2⟩
theorem de_lst (h : DA X F es C ss C1) (hl : ss.length ≤ sizeLine := by exact le_line (by rfl)) : De X F (.List es pos) C (sL ss) C1 := by
  refine peW (pe_lst h) ?_
  rintro σ H Q ⟨P, k, q⟩
  refine ⟨P, k, fun vs P1 H1 k1 m1 hvs => ⟨by rw [hvs.len]; exact hl, fun p hp => ?_⟩⟩
  obtain ⟨k2, m2⟩ := k1.laid (o := .lst vs) hp
  exact q _ _ _ k2 (m1.trans m2) ⟨p, vs, rfl, upd_same, hvs.mono m2⟩
/-! ### reads -/
theorem de_ixT {i : Nat} {j : Int} (hb : PlainIx b) (ha : De X F a C (sT ss) C1) (hi : De X F b C1 (sI j) C2) (hj : j = (i : Int)) (hs : ss[i]? = some s) : De X F (.Subscript a b pos) C s C2 := by
  refine peW (pe_ix ix_tup ha hi hb) ?_
  rintro σ H Q ⟨P, k, q⟩
  refine ⟨P, k, fun v P1 H1 k1 m1 hv => ⟨P1, k1, fun u P2 H2 k2 m2 hu => ?_⟩⟩
  obtain ⟨p, vs, rfl, hp, hvs⟩ := (sT ss).mono m2 hv
  obtain ⟨z, hz, r⟩ := hvs.get' hs
  exact ⟨p, vs, j, z, rfl, hu, SqT.of (k2.sub.tup hp), at_of hj hz, q z P2 H2 k2 (m1.trans m2) r⟩
theorem de_ixL {i : Nat} {j : Int} (hb : PlainIx b) (ha : De X F a C (sL ss) C1) (hi : De X F b C1 (sI j) C2) (hj : j = (i : Int)) (hs : ss[i]? = some s) : De X F (.Subscript a b pos) C s C2 := by
  refine peW (pe_ix ix_list ha hi hb) ?_
  rintro σ H Q ⟨P, k, q⟩
  refine ⟨P, k, fun v P1 H1 k1 m1 hv => ⟨P1, k1, fun u P2 H2 k2 m2 hu => ?_⟩⟩
  obtain ⟨p, vs, rfl, hp, hvs⟩ := (sL ss).mono m2 hv
  obtain ⟨z, hz, r⟩ := hvs.get' hs
  exact ⟨p, vs, j, z, rfl, hu, SqL.of (k2.sub.lst hp), at_of hj hz, q z P2 H2 k2 (m1.trans m2) r⟩
/-- .. of a list that may change -/
theorem de_ixC {l : Addr} {i : Nat} {j : Int} (hb : PlainIx b) (ha : De X F a C (sAt l) C1) (hi : De X F b C1 (sI j) C2) (hc : cL l ss ∈ C2.μ) (hj : j = (i : Int)) (hs : ss[i]? = some s) : De X F (.Subscript a b pos) C s C2 := by
  refine peW (pe_ix ix_list ha hi hb) ?_
  rintro σ H Q ⟨P, k, q⟩
  refine ⟨P, k, fun v P1 H1 k1 m1 hv => ⟨P1, k1, fun u P2 H2 k2 m2 hu => ?_⟩⟩
  obtain ⟨_, ⟨o, h2, vs, rfl, hvs⟩, _⟩ := k2.cells _ hc
  obtain ⟨z, hz, r⟩ := hvs.get' hs
  exact ⟨l, vs, j, z, hv, hu, SqL.of h2, at_of hj hz, q z P2 H2 k2 (m1.trans m2) r⟩
/-- a field of an object -/
theorem de_fld {A : Addr} {f : Str} {fs : List (Str × As)} (ha : De X F a C (sC A fs) C1) (hc : Cls X.K A) (hn : NoAttr X.K A f) (hf : fs.lookup f = some s) (hb : attributeBase a f X.env (eval a X.env) = eval a X.env := by rfl) : De X F (.Attribute a f pos) C s C1 := by
  refine peW (pe_fld ha hb) ?_
  rintro σ H Q ⟨P, k, q⟩
  refine ⟨P, k, fun v P1 H1 k1 m1 hv => ?_⟩
  obtain ⟨p, dx, fl, rfl, hp, he, hr⟩ := hv
  obtain ⟨u, hu, r⟩ := look_each he hr hf
  exact ⟨p, A, dx, fl, u, rfl, k1.sub.ins hp, hc, hn, hu, q u P1 H1 k1 m1 r⟩
theorem de_fldC {A l : Addr} {f : Str} {fs : List (Str × As)} (ha : De X F a C (sAt l) C1) (hm : cI l A fs ∈ C1.μ) (hc : Cls X.K A) (hn : NoAttr X.K A f) (hf : fs.lookup f = some s) (hb : attributeBase a f X.env (eval a X.env) = eval a X.env := by rfl) : De X F (.Attribute a f pos) C s C1 := by
  refine peW (pe_fld ha hb) ?_
  rintro σ H Q ⟨P, k, q⟩
  refine ⟨P, k, fun v P1 H1 k1 m1 hv => ?_⟩
  obtain ⟨_, ⟨o, h2, dx, fl, rfl, he, hr⟩, _⟩ := k1.cells _ hm
  obtain ⟨u, hu, r⟩ := look_each he hr hf
  exact ⟨l, A, dx, fl, u, hv, h2, hc, hn, hu, q u P1 H1 k1 m1 r⟩
end
end L3

/-! L3, part d: calls, promises, statements. -/
namespace L3
open PySem PySem.Spec L2
section
variable {X : Cx} {F : Fr} {S : Sc} {C C1 C2 C3 : Ctx} {s s1 s2 s3 : As} {pos p : Pos} {a b c e : Expr} {b1 b2 : Bool} {es : List Expr} {ss : List As} {x : Str}

/-! ### calls of built-ins -/
/-- a built-in's call by values, nothing new -/
structure CalV (X : Cx) (F : Fr) (C : Ctx) (f : Value) (ss : List As) (s : As) (C' : Ctx) : Prop where
  ex : ∃ r, CallR X f r ∧ ∀ (σ : L2.St) (P H : Hp) (vs : List V) (Q : VK), Ok F C σ P H → Each P ss vs → (∀ z P' H', Ok F C' σ P' H' → Same P P' → s.holds P' z → Q z H') → r vs H Q
theorem de_callB (xf : Xf S X) (j : Nat) {id : String} (hm : X.mg x = none) (hv : bootBuiltins x = some (.builtin id)) (h : CalV X F C1 (.builtin id) ss s C2) (ha : DA X F (e :: es) C ss C1) (hg : S.G[j]? = some x := by rfl) (hn : x ≠ "__name__" := by decide) (hdb : (x == ("__debug__" : Str)) = false := by decide)
    (he : starEach (e :: es) X.env = (false, eval e X.env) :: starEach es X.env := by rfl) (hpl : (backTo pos (starEach es X.env)).any (·.1) = false := by rfl) : De X F (.Call (.Name x p) (e :: es) [] pos) C s C2 := by
  obtain ⟨r, hc, hr⟩ := h.ex
  refine peW (pe_callB hc (xf.gl j hg) hm hv ha hn hdb he hpl) ?_
  rintro σ H Q ⟨P, k, q⟩
  refine ⟨P, k, fun vs P1 H1 k1 m1 hvs => hr σ P1 H1 vs Q k1 hvs fun z P' H' k' m' hz => q z P' H' k' (m1.trans m') hz⟩
theorem de_callTy (xf : Xf S X) (j : Nat) {T : String} (hm : X.mg x = none) (hv : bootBuiltins x = some (.type T)) (h : CalV X F C1 (.type T) ss s C2) (ha : DA X F (e :: es) C ss C1) (hg : S.G[j]? = some x := by rfl) (hn : x ≠ "__name__" := by decide) (hdb : (x == ("__debug__" : Str)) = false := by decide)
    (he : starEach (e :: es) X.env = (false, eval e X.env) :: starEach es X.env := by rfl) (hpl : (backTo pos (starEach es X.env)).any (·.1) = false := by rfl) : De X F (.Call (.Name x p) (e :: es) [] pos) C s C2 := by
  obtain ⟨r, hc, hr⟩ := h.ex
  refine peW (pe_callTy hc (xf.gl j hg) hm hv ha hn hdb he hpl) ?_
  rintro σ H Q ⟨P, k, q⟩
  refine ⟨P, k, fun vs P1 H1 k1 m1 hvs => hr σ P1 H1 vs Q k1 hvs fun z P' H' k' m' hz => q z P' H' k' (m1.trans m') hz⟩
theorem each1 {P : Hp} {vs : List V} (h : Each P [s] vs) : ∃ v, vs = [v] ∧ s.holds P v := by
  match vs, h with
  | [v], ⟨h, _⟩ => exact ⟨v, rfl, h⟩
  | [], h => exact h.elim
  | _ :: _ :: _, ⟨_, h⟩ => exact h.elim
theorem each2 {P : Hp} {vs : List V} (h : Each P [s1, s2] vs) : ∃ v u, vs = [v, u] ∧ s1.holds P v ∧ s2.holds P u := by
  match vs, h with
  | [v, u], ⟨h, h', _⟩ => exact ⟨v, u, rfl, h, h'⟩
  | [], h => exact h.elim
  | [_], ⟨_, h⟩ => exact h.elim
  | _ :: _ :: _ :: _, ⟨_, _, h⟩ => exact h.elim
theorem ca_lenL : CalV X F C (.builtin "len") [sL ss] (sI ss.length) C := ⟨_, call_len_seq, fun σ P H vs Q k h q => by
  obtain ⟨v, rfl, a, xs, rfl, hp, he⟩ := each1 h
  exact ⟨a, xs, rfl, .inl (SqL.of (k.sub.lst hp)), q _ P H k (Same.refl _) (by rw [he.len]; rfl)⟩⟩
theorem ca_lenT : CalV X F C (.builtin "len") [sT ss] (sI ss.length) C := ⟨_, call_len_seq, fun σ P H vs Q k h q => by
  obtain ⟨v, rfl, a, xs, rfl, hp, he⟩ := each1 h
  exact ⟨a, xs, rfl, .inr (SqT.of (k.sub.tup hp)), q _ P H k (Same.refl _) (by rw [he.len]; rfl)⟩⟩
theorem ca_lenC {l : Addr} (hc : cL l ss ∈ C.μ) : CalV X F C (.builtin "len") [sAt l] (sI ss.length) C := ⟨_, call_len_seq, fun σ P H vs Q k h q => by
  obtain ⟨v, rfl, hv⟩ := each1 h
  obtain ⟨_, ⟨o, h2, xs, rfl, he⟩, _⟩ := k.cells _ hc
  have hv : v = .ref l := hv
  subst hv
  exact ⟨l, xs, rfl, .inl (SqL.of h2), q _ P H k (Same.refl _) (by rw [he.len]; rfl)⟩⟩
theorem ca_lenS {z : Str} (hz : z.length ≤ sizeLine) : CalV X F C (.builtin "len") [sS z] (sI z.length) C := ⟨_, call_len_str, fun σ P H vs Q k h q => by
  obtain ⟨v, rfl, rfl⟩ := each1 h
  exact ⟨z, rfl, hz, q _ P H k (Same.refl _) rfl⟩⟩
theorem ca_int {i : Int} : CalV X F C (.type "int") [sI i] (sI i) C := ⟨_, call_int1, fun σ P H vs Q k h q => by
  obtain ⟨v, rfl, rfl⟩ := each1 h
  exact .inl ⟨i, rfl, q _ P H k (Same.refl _) rfl⟩⟩
theorem ca_intS {z : Str} {n : Int} (h1 : PySem.intText? z = some n) (h2 : z.length ≤ 640) : CalV X F C (.type "int") [sS z] (sI n) C := ⟨_, call_int_str, fun σ P H vs Q k h q => by
  obtain ⟨v, rfl, rfl⟩ := each1 h
  exact ⟨z, n, rfl, h1, h2, q _ P H k (Same.refl _) rfl⟩⟩
theorem ca_min2 {i j : Int} (hc : X.calm = true) : CalV X F C (.builtin "min") [sI i, sI j] (sI (if j < i then j else i)) C := ⟨_, call_min2 hc, fun σ P H vs Q k h q => by
  obtain ⟨v, u, rfl, rfl, rfl⟩ := each2 h
  exact ⟨i, j, rfl, q _ P H k (Same.refl _) rfl⟩⟩
theorem ca_max2 {i j : Int} (hc : X.calm = true) : CalV X F C (.builtin "max") [sI i, sI j] (sI (if j > i then j else i)) C := ⟨_, call_max2 hc, fun σ P H vs Q k h q => by
  obtain ⟨v, u, rfl, rfl, rfl⟩ := each2 h
  exact ⟨i, j, rfl, q _ P H k (Same.refl _) rfl⟩⟩
/-- items of one kind, as values -/
theorem each_map {α : Type} {P : Hp} {r : α → As} {f : α → V} (hf : ∀ x v, (r x).holds P v → v = f x) : ∀ {xs : List α} {vs : List V}, Each P (xs.map r) vs → vs = xs.map f
  | [], [], _ => rfl
  | x :: xs, v :: vs, h => by
    obtain ⟨h1, h2⟩ := (show (r x).holds P v ∧ Each P (xs.map r) vs from h)
    rw [List.map_cons, hf x v h1, each_map hf h2]
  | [], _ :: _, h => h.elim
  | _ :: _, [], h => h.elim
theorem each_of {α : Type} {P : Hp} {r : α → As} {f : α → V} (hf : ∀ x, (r x).holds P (f x)) : ∀ (xs : List α), Each P (xs.map r) (xs.map f)
  | [] => trivial
  | x :: xs => ⟨hf x, each_of hf xs⟩
theorem ca_sum {ns : List Int} (hc : X.calm = true) : CalV X F C (.builtin "sum") [sL (ns.map sI)] (sI ns.sum) C := ⟨_, cr_sum hc, fun σ P H vs Q k h q => by
  obtain ⟨v, rfl, a, xs, rfl, hp, he⟩ := each1 h
  have e := each_map (f := V.int) (fun _ _ h => h) he
  subst e
  exact ⟨a, ns, rfl, SqL.of (k.sub.lst hp), q _ P H k (Same.refl _) rfl⟩⟩
theorem ca_all {bs : List Bool} (hc : X.calm = true) : CalV X F C (.builtin "all") [sL (bs.map sB)] (sB (bs.all id)) C := ⟨_, cr_all hc, fun σ P H vs Q k h q => by
  obtain ⟨v, rfl, a, xs, rfl, hp, he⟩ := each1 h
  have e := each_map (f := V.bl) (fun _ _ h => h) he
  subst e
  exact ⟨a, bs, rfl, SqL.of (k.sub.lst hp), q _ P H k (Same.refl _) rfl⟩⟩
theorem ca_any {bs : List Bool} (hc : X.calm = true) : CalV X F C (.builtin "any") [sL (bs.map sB)] (sB (bs.any id)) C := ⟨_, cr_any hc, fun σ P H vs Q k h q => by
  obtain ⟨v, rfl, a, xs, rfl, hp, he⟩ := each1 h
  have e := each_map (f := V.bl) (fun _ _ h => h) he
  subst e
  exact ⟨a, bs, rfl, SqL.of (k.sub.lst hp), q _ P H k (Same.refl _) rfl⟩⟩
/-- the greatest, the least of a list of ints -/
def maxL : List Int → Int
  | [] => 0
  | x :: r => r.foldl (fun m y => if y > m then y else m) x
def minL : List Int → Int
  | [] => 0
  | x :: r => r.foldl (fun m y => if y < m then y else m) x
theorem maxL_go : ∀ (r : List Int) (x : Int), (r.foldl (fun m y => if y > m then y else m) x) ∈ x :: r ∧ ∀ y ∈ x :: r, y ≤ r.foldl (fun m y => if y > m then y else m) x
  | [], x => ⟨by simp, by simp⟩
  | z :: r, x => by
    obtain ⟨h1, h2⟩ := maxL_go r (if z > x then z else x)
    rw [List.foldl_cons]
    have h3 := h2 _ List.mem_cons_self
    refine ⟨?_, fun y hy => ?_⟩
    · rcases List.mem_cons.mp h1 with e | e
      · rw [e]
        split <;> simp
      · exact List.mem_cons_of_mem _ (List.mem_cons_of_mem _ e)
    · rcases List.mem_cons.mp hy with e | hy
      · subst e
        refine Int.le_trans ?_ h3
        split <;> omega
      · rcases List.mem_cons.mp hy with e | hy
        · subst e
          refine Int.le_trans ?_ h3
          split <;> omega
        · exact h2 y (List.mem_cons_of_mem _ hy)
theorem minL_go : ∀ (r : List Int) (x : Int), (r.foldl (fun m y => if y < m then y else m) x) ∈ x :: r ∧ ∀ y ∈ x :: r, r.foldl (fun m y => if y < m then y else m) x ≤ y
  | [], x => ⟨by simp, by simp⟩
  | z :: r, x => by
    obtain ⟨h1, h2⟩ := minL_go r (if z < x then z else x)
    rw [List.foldl_cons]
    have h3 := h2 _ List.mem_cons_self
    refine ⟨?_, fun y hy => ?_⟩
    · rcases List.mem_cons.mp h1 with e | e
      · rw [e]
        split <;> simp
      · exact List.mem_cons_of_mem _ (List.mem_cons_of_mem _ e)
    · rcases List.mem_cons.mp hy with e | hy
      · subst e
        refine Int.le_trans h3 ?_
        split <;> omega
      · rcases List.mem_cons.mp hy with e | hy
        · subst e
          refine Int.le_trans h3 ?_
          split <;> omega
        · exact h2 y (List.mem_cons_of_mem _ hy)
theorem maxL_spec : ∀ (n : Nat) (l : List Int), l.length = n + 1 → maxL l ∈ l ∧ ∀ y ∈ l, y ≤ maxL l
  | _, x :: r, _ => maxL_go r x
  | _, [], h => by simp at h
theorem minL_spec : ∀ (n : Nat) (l : List Int), l.length = n + 1 → minL l ∈ l ∧ ∀ y ∈ l, minL l ≤ y
  | _, x :: r, _ => minL_go r x
  | _, [], h => by simp at h
theorem ca_max {ns : List Int} (hc : X.calm = true) (hn : 0 < ns.length) : CalV X F C (.builtin "max") [sL (ns.map sI)] (sI (maxL ns)) C := ⟨_, cr_max hc, fun σ P H vs Q k h q => by
  obtain ⟨v, rfl, a, xs, rfl, hp, he⟩ := each1 h
  have e := each_map (f := V.int) (fun _ _ h => h) he
  subst e
  refine ⟨a, ns, rfl, SqL.of (k.sub.lst hp), hn, fun m hm hle => ?_⟩
  obtain ⟨g1, g2⟩ := maxL_spec (ns.length - 1) ns (by omega)
  have e : m = maxL ns := Int.le_antisymm (g2 m hm) (hle _ g1)
  subst e
  exact q _ P H k (Same.refl _) rfl⟩
theorem ca_min {ns : List Int} (hc : X.calm = true) (hn : 0 < ns.length) : CalV X F C (.builtin "min") [sL (ns.map sI)] (sI (minL ns)) C := ⟨_, cr_min hc, fun σ P H vs Q k h q => by
  obtain ⟨v, rfl, a, xs, rfl, hp, he⟩ := each1 h
  have e := each_map (f := V.int) (fun _ _ h => h) he
  subst e
  refine ⟨a, ns, rfl, SqL.of (k.sub.lst hp), hn, fun m hm hle => ?_⟩
  obtain ⟨g1, g2⟩ := minL_spec (ns.length - 1) ns (by omega)
  have e : m = minL ns := Int.le_antisymm (hle _ g1) (g2 m hm)
  subst e
  exact q _ P H k (Same.refl _) rfl⟩
/-- tuple(list), list(tuple), list(list) -/
theorem ca_tupleL : CalV X F C (.type "tuple") [sL ss] (sT ss) C := ⟨_, call_tuple_of, fun σ P H vs Q k h q => by
  obtain ⟨v, rfl, a, xs, rfl, hp, he⟩ := each1 h
  refine ⟨a, xs, rfl, .inl ⟨SqL.of (k.sub.lst hp), fun l hl => ?_⟩⟩
  obtain ⟨k2, m2⟩ := k.laid (o := .tup xs) hl
  exact q _ _ _ k2 m2 ⟨l, xs, rfl, upd_same, he.mono m2⟩⟩
theorem ca_tupleT : CalV X F C (.type "tuple") [sT ss] (sT ss) C := ⟨_, call_tuple_of, fun σ P H vs Q k h q => by
  obtain ⟨v, rfl, a, xs, rfl, hp, he⟩ := each1 h
  exact ⟨a, xs, rfl, .inr ⟨SqT.of (k.sub.tup hp), q _ P H k (Same.refl _) ⟨a, xs, rfl, hp, he⟩⟩⟩⟩
theorem ca_tupleC {l : Addr} (hc : cL l ss ∈ C.μ) : CalV X F C (.type "tuple") [sAt l] (sT ss) C := ⟨_, call_tuple_of, fun σ P H vs Q k h q => by
  obtain ⟨v, rfl, hv⟩ := each1 h
  obtain ⟨_, ⟨o, h2, xs, rfl, he⟩, _⟩ := k.cells _ hc
  have hv : v = .ref l := hv
  subst hv
  refine ⟨l, xs, rfl, .inl ⟨SqL.of h2, fun t ht => ?_⟩⟩
  obtain ⟨k2, m2⟩ := k.laid (o := .tup xs) ht
  exact q _ _ _ k2 m2 ⟨t, xs, rfl, upd_same, he.mono m2⟩⟩
theorem ca_listL : CalV X F C (.type "list") [sL ss] (sL ss) C := ⟨_, call_list_of, fun σ P H vs Q k h q => by
  obtain ⟨v, rfl, a, xs, rfl, hp, he⟩ := each1 h
  refine ⟨a, xs, rfl, .inl (SqL.of (k.sub.lst hp)), fun l hl => ?_⟩
  obtain ⟨k2, m2⟩ := k.laid (o := .lst xs) hl
  exact q _ _ _ k2 m2 ⟨l, xs, rfl, upd_same, he.mono m2⟩⟩
theorem ca_listT : CalV X F C (.type "list") [sT ss] (sL ss) C := ⟨_, call_list_of, fun σ P H vs Q k h q => by
  obtain ⟨v, rfl, a, xs, rfl, hp, he⟩ := each1 h
  refine ⟨a, xs, rfl, .inr (SqT.of (k.sub.tup hp)), fun l hl => ?_⟩
  obtain ⟨k2, m2⟩ := k.laid (o := .lst xs) hl
  exact q _ _ _ k2 m2 ⟨l, xs, rfl, upd_same, he.mono m2⟩⟩

/-! ### isinstance -/
structure TyA (K : PySem.W.Frag) (s : As) (t : Value) : Prop where
  ty : ∀ P H v, Sub P H → s.holds P v → TyX K H v t
theorem ty_I {K : PySem.W.Frag} {i : Int} : TyA K (sI i) (.type "int") := ⟨fun P H v _ h => by rw [h]; exact .base (.int i)⟩
theorem ty_B {K : PySem.W.Frag} {i : Bool} : TyA K (sB i) (.type "bool") := ⟨fun P H v _ h => by rw [h]; exact .base (.bl i)⟩
theorem ty_S {K : PySem.W.Frag} {i : Str} : TyA K (sS i) (.type "str") := ⟨fun P H v _ h => by rw [h]; exact .base (.str i)⟩
theorem ty_N {K : PySem.W.Frag} : TyA K sN (.type "NoneType") := ⟨fun P H v _ h => by rw [h]; exact .base .non⟩
theorem ty_T {K : PySem.W.Frag} : TyA K (sT ss) (.type "tuple") := ⟨fun P H v k ⟨a, xs, e, h, _⟩ => by rw [e]; exact .base (.tup (k.tup h))⟩
theorem ty_L {K : PySem.W.Frag} : TyA K (sL ss) (.type "list") := ⟨fun P H v k ⟨a, xs, e, h, _⟩ => by rw [e]; exact .base (.lst (k.lst h))⟩
theorem ty_D {K : PySem.W.Frag} {kvs : List (Key × As)} : TyA K (sD kvs) (.type "dict") := ⟨fun P H v k ⟨a, xs, e, h, _⟩ => by
  rw [e]
  rcases k _ _ h with h | ⟨_, od, h⟩
  · exact .base (.dK h)
  · exact .fDict h⟩
/-- an own instance: what its class must have -/
structure InsT (K : PySem.W.Frag) (A : Addr) : Prop where
  ty : ∀ (H : Hp) (a dx : Addr) (fs : List (Str × V)), H a = some (.ins A dx fs) → TyX K H (.ref a) (.ref A)
theorem ty_C {K : PySem.W.Frag} {A : Addr} {fs : List (Str × As)} (h : InsT K A) : TyA K (sC A fs) (.ref A) := ⟨fun P H v k ⟨a, dx, xs, e, hp, _⟩ => by rw [e]; exact h.ty H a dx xs (k.ins hp)⟩
/-- isinstance(x, T): T a built-in class, or an own one -/
theorem de_isi (xf : Xf S X) (j : Nat) {t u : Value} {cv : V} {ec : Expr} (hm : X.mg "isinstance" = none) (ha : De X F a C s C1) (ht : TyA X.K s t) (hc : PE X ec (tC cv)) (hcv : ClsV cv u) (hk : PySem.W.kitOne X.K t u = some b1) (hg : S.G[j]? = some ("isinstance" : Str) := by rfl)
    (he : starEach [a, ec] X.env = (false, eval a X.env) :: starEach [ec] X.env := by rfl) (hpl : (backTo pos (starEach [ec] X.env)).any (·.1) = false := by rfl) (he2 : starEach [ec] X.env = (false, eval ec X.env) :: starEach [] X.env := by rfl) :
    De X F (.Call (.Name "isinstance" p) [a, ec] [] pos) C (sB b1) C1 := by
  refine peW (pe_callB call_isi (xf.gl j hg) hm (by decide +kernel) (pa_cons ha (pa_cons hc pa_nil he2) he) (by decide) (by decide) he hpl) ?_
  rintro σ H Q ⟨P, k, q⟩
  refine ⟨P, k, fun v P1 H1 k1 m1 hv => ?_⟩
  exact ⟨v, cv, t, u, b1, rfl, hcv, ht.ty P1 H1 v k1.sub hv, hk, q _ P1 H1 k1 m1 rfl⟩
/-- isinstance(x, (T1, T2)) -/
theorem de_isi2 (xf : Xf S X) (j : Nat) {t u1 u2 : Value} {cv1 cv2 : V} {ec1 ec2 : Expr} {x1} {tpos : Pos} (hm : X.mg "isinstance" = none) (ha : De X F a C s C1) (ht : TyA X.K s t) (hc1 : PE X ec1 (tC cv1)) (hc2 : PE X ec2 (tC cv2)) (hcv1 : ClsV cv1 u1) (hcv2 : ClsV cv2 u2) (hk : PySem.W.kitAny X.K t [u1, u2] = some b1) (hg : S.G[j]? = some ("isinstance" : Str) := by rfl)
    (he : starEach [a, .Tuple [ec1, ec2] x1 tpos] X.env = (false, eval a X.env) :: starEach [.Tuple [ec1, ec2] x1 tpos] X.env := by rfl) (hpl : (backTo pos (starEach [.Tuple [ec1, ec2] x1 tpos] X.env)).any (·.1) = false := by rfl) (he2 : starEach [.Tuple [ec1, ec2] x1 tpos] X.env = (false, eval (.Tuple [ec1, ec2] x1 tpos) X.env) :: starEach [] X.env := by rfl)
    (he3 : starEach [ec1, ec2] X.env = (false, eval ec1 X.env) :: starEach [ec2] X.env := by rfl) (he4 : starEach [ec2] X.env = (false, eval ec2 X.env) :: starEach [] X.env := by rfl) :
    De X F (.Call (.Name "isinstance" p) [a, .Tuple [ec1, ec2] x1 tpos] [] pos) C (sB b1) C1 := by
  refine peW (pe_callB call_isiT (xf.gl j hg) hm (by decide +kernel) (pa_cons ha (pa_cons (pe_tup (pa_cons hc1 (pa_cons hc2 pa_nil he4) he3)) pa_nil he2) he) (by decide) (by decide) he hpl) ?_
  rintro σ H Q ⟨P, k, q⟩
  refine ⟨P, k, fun v P1 H1 k1 m1 hv => ⟨(by show 2 ≤ sizeLine; decide), fun tp htp => ?_⟩⟩
  have k2 := k1.grown (o := .tup [cv1, cv2]) htp
  exact ⟨v, tp, [cv1, cv2], t, [u1, u2], b1, rfl, upd_same, .cons hcv1 (.cons hcv2 .nil), ht.ty P1 _ v k2.sub hv, hk, q _ P1 _ k2 m1 rfl⟩
theorem pe_tyv (xf : Xf S X) (j : Nat) {T : String} (hm : X.mg x = none) (hv : bootBuiltins x = some (.type T)) (hg : S.G[j]? = some x := by rfl) (hn : x ≠ "__name__" := by decide) (hd : (x == ("__debug__" : Str)) = false := by decide) : PE X (.Name x pos) (tC (.ty T)) := pe_bltn (xf.gl j hg) hm hv rfl hn hd
theorem pe_clsv (xf : Xf S X) (j : Nat) {A : Addr} (hm : X.mg x = some (.ref A)) (hg : S.G[j]? = some x := by rfl) (hd : (x == ("__debug__" : Str)) = false := by decide) : PE X (.Name x pos) (tC (.ref A)) := pe_glob (xf.gl j hg) hm rfl hd
end
end L3

/-! L3, part e: promises of defs, calls of defs, statements, blocks. -/
namespace L3
open PySem PySem.Spec L2

/-! ### a def's typed promise -/
structure FS where
  ι : Type
  κ : Type
  pre : ι → Prop
  ar : ι → List As
  μ : ι → List Cell
  post : ι → κ → Prop
  res : ι → κ → As
  μ' : ι → κ → List Cell
/-- cells as a callee has them -/
def CellsIn (P H : Hp) (μ : List Cell) : Prop := (∀ c ∈ μ, P c.ad = none ∧ ∃ o, H c.ad = some o ∧ c.ok P o) ∧ (μ.map (·.ad)).Nodup
/-- .. and as it leaves them: old ones, or new ones -/
def CellsOut (P H0 H : Hp) (ls : List Addr) (μ : List Cell) : Prop := (∀ c ∈ μ, P c.ad = none ∧ (∃ o, H c.ad = some o ∧ c.ok P o) ∧ (H0 c.ad = none ∨ c.ad ∈ ls)) ∧ (μ.map (·.ad)).Nodup
def FS.sp (S : FS) : Sp := fun vs H Q _ => ∃ (i : S.ι) (P : Hp), S.pre i ∧ Sub P H ∧ Each P (S.ar i) vs ∧ CellsIn P H (S.μ i) ∧
  ∀ (k : S.κ) (v : V) (P' H' : Hp), S.post i k → Sub P' H' → Same P P' → (∀ a o, H a = some o → a ∉ (S.μ i).map (·.ad) → H' a = some o) → (∀ a o, P' a = some o → P a = some o ∨ H a = none ∨ a ∈ (S.μ i).map (·.ad)) →
    (S.res i k).holds P' v → CellsOut P' H H' ((S.μ i).map (·.ad)) (S.μ' i k) → Q v H'
/-- a def that changes nothing and hands back a value told by a function -/
abbrev FS.fn {α : Type} (pre : α → Prop) (ar : α → List As) (res : α → As) : FS := ⟨α, Unit, pre, ar, fun _ => [], fun _ _ => True, fun i _ => res i, fun _ _ => []⟩
/-- .. that changes its cells as told by a function -/
abbrev FS.st {α : Type} (pre : α → Prop) (ar : α → List As) (μ : α → List Cell) (res : α → As) (μ' : α → List Cell) : FS := ⟨α, Unit, pre, ar, μ, fun _ _ => True, fun i _ => res i, fun i _ => μ' i⟩

/-- a def of the module, by its name -/
structure Cal (P : Program) (w : World) (K : PySem.W.Frag) (mg : Str → Option Value) (base : Heap) (k : Nat) (x : Str) (S : FS) : Prop where
  ex : ∃ (f : Addr) (fd : FuncData) (ps : List Str), FnOk P w K mg base CX0 k f fd ps S.sp ∧ mg x = some (.ref f) ∧ PySem.W.keepIn K (.ref f) = true ∧ Binds K fd ps []
theorem Cal.mono {P : Program} {w : World} {K : PySem.W.Frag} {mg : Str → Option Value} {base : Heap} {j k : Nat} {x : Str} {S : FS} (h : Cal P w K mg base j x S) (l : j ≤ k) : Cal P w K mg base k x S := by
  obtain ⟨f, fd, ps, a, b, c, d⟩ := h.ex
  exact ⟨f, fd, ps, a.mono l, b, c, d⟩
/-- another promise that follows -/
theorem Cal.imp {P : Program} {w : World} {K : PySem.W.Frag} {mg : Str → Option Value} {base : Heap} {k : Nat} {x : Str} {S S' : FS} (h : Cal P w K mg base k x S) (l : ∀ vs H Q E, S'.sp vs H Q E → S.sp vs H Q E) : Cal P w K mg base k x S' := by
  obtain ⟨f, fd, ps, a, b, c, d⟩ := h.ex
  exact ⟨f, fd, ps, a.imp l, b, c, d⟩
/-- a method of an own class -/
structure Mtd (P : Program) (w : World) (K : PySem.W.Frag) (mg : Str → Option Value) (base : Heap) (k : Nat) (A : Addr) (x : Str) (S : FS) : Prop where
  ex : ∃ (f : Addr) (fd : FuncData) (ps : List Str), FnOk P w K mg base CX0 k f fd ps S.sp ∧ Meth K A x f ∧ Cls K A ∧ Binds K fd ps []
theorem Mtd.mono {P : Program} {w : World} {K : PySem.W.Frag} {mg : Str → Option Value} {base : Heap} {j k : Nat} {A : Addr} {x : Str} {S : FS} (h : Mtd P w K mg base j A x S) (l : j ≤ k) : Mtd P w K mg base k A x S := by
  obtain ⟨f, fd, ps, a, b, c, d⟩ := h.ex
  exact ⟨f, fd, ps, a.mono l, b, c, d⟩
/-- an own class's making: __init__ with self bare -/
structure Mak (P : Program) (w : World) (K : PySem.W.Frag) (mg : Str → Option Value) (base : Heap) (k : Nat) (A : Addr) (x : Str) (sp : Sp) : Prop where
  ex : ∃ (f : Addr) (fd : FuncData) (ps : List Str), FnOk P w K mg base CX0 k f fd ps sp ∧ Mk K A f ∧ mg x = some (.ref A) ∧ Binds K fd ps []

section
variable {X : Cx} {F : Fr} {Sx : Sc} {C C1 C2 C3 : Ctx} {s s1 s2 s3 : As} {pos p : Pos} {a b c e : Expr} {b1 b2 : Bool} {es : List Expr} {ss : List As} {x : Str} {σ : L2.St} {P H : Hp}

/-- what a callee's promise gives at a call -/
theorem call_core {S : FS} {Γ : List (Option As)} {μ : List Cell} {lk : List Addr} {vs : List V} (i : S.ι) (k : Ok F ⟨Γ, S.μ i ++ μ, lk⟩ σ P H) (hp : S.pre i) (hv : Each P (S.ar i) vs) {Q : VK} {E : XK}
    (q : ∀ kk v P' H', S.post i kk → Ok F ⟨Γ, S.μ' i kk ++ μ, lk⟩ σ P' H' → Same P P' → (S.res i kk).holds P' v → Q v H') : S.sp vs H Q E := by
  have hcell : ∀ c ∈ S.μ i, CellOk F lk P H c := fun c hc => k.cells c (List.mem_append_left _ hc)
  have nd : ((S.μ i ++ μ).map (·.ad)).Nodup := k.nd
  rw [List.map_append, List.nodup_append] at nd
  obtain ⟨nd1, nd2, nd3⟩ := nd
  refine ⟨i, P, hp, k.sub, hv, ⟨fun c hc => ⟨(hcell c hc).1, (hcell c hc).2.1⟩, nd1⟩, fun kk v P' H' hpost hs hm hk hn hr ho => q kk v P' H' hpost ?_ hm hr⟩
  have hin : ∀ a, a ∈ (S.μ i).map (·.ad) → F.H0 a = none ∨ a ∈ F.ls := fun a ha => by
    obtain ⟨c, hc, e⟩ := List.mem_map.mp ha
    exact e ▸ (hcell c hc).2.2.1
  have hlk : ∀ a, a ∈ (S.μ i).map (·.ad) → a ∉ lk := fun a ha => by
    obtain ⟨c, hc, e⟩ := List.mem_map.mp ha
    exact e ▸ (hcell c hc).2.2.2
  refine ⟨hs, k.p0.trans hm, fun a o e n l => ?_, fun a ha => ?_, fun a o e => ?_, k.len, fun j t e => ?_, fun c hc => ?_, ?_⟩
  · refine hk a o (k.mods a o e n l) fun z => ?_
    rcases hin a z with h | h
    · rw [h] at e; cases e
    · exact n h
  · obtain ⟨od, u, e⟩ := k.lks a ha
    exact ⟨od, u, hk a _ e fun z => hlk a z ha⟩
  · rcases hn a o e with h | h | h
    · exact k.new a o h
    · exact .inr (k.fresh h).1
    · exact .inr (hin a h)
  · obtain ⟨v, e1, e2⟩ := k.slots j t e
    exact ⟨v, e1, t.mono hm e2⟩
  · rcases List.mem_append.mp hc with hc | hc
    · obtain ⟨h1, h2, h3⟩ := ho.1 c hc
      refine ⟨h1, h2, ?_⟩
      rcases h3 with h | h
      · exact k.fresh h
      · exact ⟨hin _ h, hlk _ h⟩
    · obtain ⟨h1, ⟨o, h2, h3⟩, h4, h5⟩ := k.cells c (List.mem_append_right _ hc)
      have hno : c.ad ∉ (S.μ i).map (·.ad) := fun z => nd3 _ z _ (List.mem_map.mpr ⟨c, hc, rfl⟩) rfl
      refine ⟨?_, ⟨o, hk _ _ h2 hno, c.mono hm h3⟩, h4, h5⟩
      cases e : P' c.ad with
      | none => rfl
      | some o' =>
        rcases hn _ _ e with h | h | h
        · rw [h1] at h; cases h
        · rw [h2] at h; cases h
        · exact absurd h hno
  · show ((S.μ' i kk ++ μ).map (·.ad)).Nodup
    rw [List.map_append, List.nodup_append]
    refine ⟨ho.2, nd2, fun a ha b hb e => ?_⟩
    subst e
    obtain ⟨c, hc, e⟩ := List.mem_map.mp ha
    obtain ⟨d, hd, e'⟩ := List.mem_map.mp hb
    obtain ⟨h1, ⟨o, h2, h3⟩, h4⟩ := k.cells d (List.mem_append_right _ hd)
    rcases (ho.1 c hc).2.2 with h | h
    · rw [e, ← e', h2] at h; cases h
    · rw [e] at h
      exact nd3 _ h _ hb rfl

/-! ### a reading by an index: what may come out -/
def tDX {κ : Type} (F : Fr) (C : Ctx) (B : κ → Prop) (s : κ → As) (C' : κ → Ctx) : TE := fun σ H Q => ∃ P, Ok F C σ P H ∧ ∀ kk v P' H', B kk → Ok F (C' kk) σ P' H' → Same P P' → (s kk).holds P' v → Q v H'
def DX {κ : Type} (X : Cx) (F : Fr) (e : Expr) (C : Ctx) (B : κ → Prop) (s : κ → As) (C' : κ → Ctx) : Prop := PE X e (tDX F C B s C')
theorem DX.de {B : Unit → Prop} (h : DX X F e C B (fun _ => s) fun _ => C1) (hB : B ()) : De X F e C s C1 := peW h fun σ H Q ⟨P, k, q⟩ => ⟨P, k, fun _ v P' H' _ => q v P' H'⟩
theorem DX.deK {κ : Type} {B : κ → Prop} {s : κ → As} {C' : κ → Ctx} (h : DX X F e C B s C') (hs : ∀ kk, B kk → (∀ P v, (s kk).holds P v → s1.holds P v)) (hC : ∀ kk, B kk → Wk (C' kk) C1) : De X F e C s1 C1 :=
  peW h fun σ H Q ⟨P, k, q⟩ => ⟨P, k, fun kk v P' H' hb k' m hv => q v P' H' (k'.wk (hC kk hb)) m (hs kk hb P' v hv)⟩
theorem De.dx (h : De X F e C s C1) : DX X F e C (fun _ : Unit => True) (fun _ => s) fun _ => C1 := peW h fun σ H Q ⟨P, k, q⟩ => ⟨P, k, fun v P' H' => q () v P' H' trivial⟩

/-! ### calls of defs -/
theorem dx_call {kL : Nat} {S : FS} {Γ : List (Option As)} {μ : List Cell} {lk : List Addr} (xf : Xf Sx X) (j : Nat) (h : Cal X.prog X.w X.K X.mg X.base kL x S) (hr : Room kL X.A) (ha : DA X F (e :: es) C ss ⟨Γ, μ, lk⟩) (i : S.ι) (hp : S.pre i) (rest : List Cell) (hss : ss = S.ar i := by rfl) (hμ : μ = S.μ i ++ rest := by rfl)
    (hg : Sx.G[j]? = some x := by rfl) (hdb : (x == ("__debug__" : Str)) = false := by decide) (he : starEach (e :: es) X.env = (false, eval e X.env) :: starEach es X.env := by rfl) (hpl : (backTo pos (starEach es X.env)).any (·.1) = false := by rfl) :
    DX X F (.Call (.Name x p) (e :: es) [] pos) C (S.post i) (S.res i) (fun kk => ⟨Γ, S.μ' i kk ++ rest, lk⟩) := by
  obtain ⟨f, fd, ps, h1, h2, h3, h4⟩ := h.ex
  subst hss hμ
  refine peW (pe_call h1 hr (xf.gl j hg) h2 h3 h4 .nil pass0 ha hdb he hpl) ?_
  rintro σ H Q ⟨P, k, q⟩
  refine ⟨P, k, fun vs P1 H1 k1 m1 hvs => ?_⟩
  show S.sp (vs ++ []) H1 Q E0
  rw [List.append_nil]
  exact call_core i k1 hp hvs fun kk v P' H' hpost k' m' hv => q kk v P' H' hpost k' (m1.trans m') hv
/-- a def that changes nothing -/
theorem de_call {kL : Nat} {α : Type} {pre : α → Prop} {ar : α → List As} {res : α → As} (xf : Xf Sx X) (j : Nat) (h : Cal X.prog X.w X.K X.mg X.base kL x (FS.fn pre ar res)) (hr : Room kL X.A) (ha : DA X F (e :: es) C ss C1) (i : α) (hp : pre i) (hss : ss = ar i := by rfl)
    (hg : Sx.G[j]? = some x := by rfl) (hdb : (x == ("__debug__" : Str)) = false := by decide) (he : starEach (e :: es) X.env = (false, eval e X.env) :: starEach es X.env := by rfl) (hpl : (backTo pos (starEach es X.env)).any (·.1) = false := by rfl) :
    De X F (.Call (.Name x p) (e :: es) [] pos) C (res i) C1 :=
  DX.de (dx_call (μ := C1.μ) xf j h hr ha i hp C1.μ hss rfl hg hdb he hpl) trivial
/-- .. that changes the first cells -/
theorem de_callS {kL : Nat} {α : Type} {pre : α → Prop} {ar : α → List As} {μa μb : α → List Cell} {res : α → As} {Γ : List (Option As)} {μ : List Cell} {lk : List Addr} (xf : Xf Sx X) (j : Nat) (h : Cal X.prog X.w X.K X.mg X.base kL x (FS.st pre ar μa res μb)) (hr : Room kL X.A) (ha : DA X F (e :: es) C ss ⟨Γ, μ, lk⟩) (i : α) (hp : pre i) (rest : List Cell) (hss : ss = ar i := by rfl) (hμ : μ = μa i ++ rest := by rfl)
    (hg : Sx.G[j]? = some x := by rfl) (hdb : (x == ("__debug__" : Str)) = false := by decide) (he : starEach (e :: es) X.env = (false, eval e X.env) :: starEach es X.env := by rfl) (hpl : (backTo pos (starEach es X.env)).any (·.1) = false := by rfl) :
    De X F (.Call (.Name x p) (e :: es) [] pos) C (res i) ⟨Γ, μb i ++ rest, lk⟩ :=
  DX.de (dx_call (μ := μ) xf j h hr ha i hp rest hss hμ hg hdb he hpl) trivial
/-- o.m(e, ..) on an object that is known -/
theorem de_meth {kL : Nat} {A : Addr} {m : Str} {apos : Pos} {fs : List (Str × As)} {α : Type} {pre : α → Prop} {ar : α → List As} {res : α → As} {pl : Sem Bool} (h : Mtd X.prog X.w X.K X.mg X.base kL A m (FS.fn pre ar res)) (hr : Room kL X.A) (ho : De X F a C (sC A fs) C1) (hn : fs.lookup m = none) (ha : DA X F (e :: es) C1 ss C2) (i : α) (hp : pre i) (hss : sC A fs :: ss = ar i := by rfl)
    (hst : starEach (e :: es) X.env = (false, eval e X.env) :: starEach es X.env := by rfl) (hpl : (backTo pos (starEach es X.env)).any (·.1) = false := by rfl)
    (ht : eval (.Call (.Attribute a m apos) (e :: es) [] pos) X.env = (do
      let ov ← eval a X.env
      standAt apos.atName
      let (f, first) ← holding [ov] (getMethod ov m pl)
      callWith pos f first (backTo pos (starEach (e :: es) X.env)) (backToKw pos (keywordEach [] X.env))) := by rfl) :
    De X F (.Call (.Attribute a m apos) (e :: es) [] pos) C (res i) C2 := by
  obtain ⟨f, fd, ps, h1, h2, h3, h4⟩ := h.ex
  refine peW (pe_meth (pl := pl) ho h3 h2 h1 hr h4 .nil pass0 ha hst hpl ht) ?_
  rintro σ H Q ⟨P, k, q⟩
  refine ⟨P, k, fun v P1 H1 k1 m1 hv => ?_⟩
  obtain ⟨l, dx, fl, rfl, hl, he, hr⟩ := id hv
  refine ⟨l, dx, fl, rfl, k1.sub.ins hl, look_none he hn, P1, k1, fun vs P2 H2 k2 m2 hvs => ?_⟩
  show (FS.fn pre ar res).sp (V.ref l :: (vs ++ [])) H2 Q E0
  rw [List.append_nil]
  refine call_core (S := FS.fn pre ar res) (Γ := C2.Γ) (μ := C2.μ) (lk := C2.lk) i k2 hp ?_ fun kk v P' H' hpost k' m' hv => q v P' H' k' ((m1.trans m2).trans m') hv
  show Each P2 (ar i) _
  rw [← hss]
  exact ⟨(sC A fs).mono m2 hv, hvs⟩
theorem de_meth0 {kL : Nat} {A : Addr} {m : Str} {apos : Pos} {fs : List (Str × As)} {α : Type} {pre : α → Prop} {ar : α → List As} {res : α → As} {pl : Sem Bool} (h : Mtd X.prog X.w X.K X.mg X.base kL A m (FS.fn pre ar res)) (hr : Room kL X.A) (ho : De X F a C (sC A fs) C1) (hn : fs.lookup m = none) (i : α) (hp : pre i) (hss : [sC A fs] = ar i := by rfl)
    (ht : eval (.Call (.Attribute a m apos) [] [] pos) X.env = (do
      let ov ← eval a X.env
      standAt apos.atName
      let (f, first) ← holding [ov] (getMethod ov m pl)
      callWith pos f first (backTo pos (starEach [] X.env)) (backToKw pos (keywordEach [] X.env))) := by rfl) :
    De X F (.Call (.Attribute a m apos) [] [] pos) C (res i) C1 := by
  obtain ⟨f, fd, ps, h1, h2, h3, h4⟩ := h.ex
  refine peW (pe_meth0 (pl := pl) ho h3 h2 h1 hr h4 .nil pass0 ht) ?_
  rintro σ H Q ⟨P, k, q⟩
  refine ⟨P, k, fun v P1 H1 k1 m1 hv => ?_⟩
  obtain ⟨l, dx, fl, rfl, hl, he, hr⟩ := id hv
  refine ⟨l, dx, fl, rfl, k1.sub.ins hl, look_none he hn, ?_⟩
  show (FS.fn pre ar res).sp (V.ref l :: ([] ++ [])) H1 Q E0
  refine call_core (S := FS.fn pre ar res) (Γ := C1.Γ) (μ := C1.μ) (lk := C1.lk) i k1 hp ?_ fun kk v P' H' hpost k' m' hv => q v P' H' k' (m1.trans m') hv
  show Each P1 (ar i) _
  rw [← hss]
  exact ⟨hv, trivial⟩
end
end L3

/-! L3, part f: statements, blocks, a def by its body. -/
namespace L3
open PySem PySem.Spec L2
section
variable {X : Cx} {F : Fr} {Sx : Sc} {C C1 C2 C3 : Ctx} {s s1 s2 s3 : As} {pos p pos' : Pos} {a b c e : Expr} {b1 b2 : Bool} {es : List Expr} {ss : List As} {x y : Str} {σ : L2.St} {P H : Hp} {O : Out} {st : Stmt} {sts rest body orelse : List Stmt}

/-! ### blocks -/
theorem db_nil (h : O.nx C) : DB X F [] C O := pssW pss_nil fun D σ H ⟨P, k, q, _⟩ => q C σ P H h k (Same.refl _)
/-- a statement, then the rest, whatever context comes behind it -/
theorem db_cons {M : Ctx → Prop} (h1 : DS X F st C { O with nx := M }) (h2 : ∀ C', M C' → DB X F rest C' O) : DB X F (st :: rest) C O := by
  have h2' : PSs X rest (fun D σ H => ∃ C' : {C' : Ctx // M C'}, tS F C'.1 O D σ H) := pssEx fun C' => h2 C'.1 C'.2
  refine pssW (pss_cons h1 h2') ?_
  rintro D σ H ⟨P, k, q⟩
  exact ⟨P, k, fun C' σ' P' H' hm k' m => ⟨⟨C', hm⟩, P', k', Fol.later q m⟩, q.2.1, q.2.2.1, q.2.2.2⟩
theorem db_wk (h : DB X F sts C1 O) (w : Wk C C1) : DB X F sts C O := pssW h fun D σ H ⟨P, k, q⟩ => ⟨P, k.wk w, q⟩
theorem db_frz {c : Cell} {Γ : List (Option As)} {μ : List Cell} {lk : List Addr} {i : Nat} (hi : Γ[i]? = some (some (sAt c.ad))) (hf : ∀ P o, P c.ad = none → c.ok P o → s.holds (upd P c.ad o) (.ref c.ad)) (h : DB X F sts ⟨Γ.set i (some s), μ, lk⟩ O) : DB X F sts ⟨Γ, c :: μ, lk⟩ O := by
  refine pssW h ?_
  rintro D σ H ⟨P, k, q⟩
  obtain ⟨o, h1, h2, m, k'⟩ := k.freeze
  refine ⟨upd P c.ad o, ?_, Fol.later q m⟩
  obtain ⟨v, e, hv⟩ := k'.slots i _ hi
  have hv : v = .ref c.ad := hv
  subst hv
  have k2 := k'.put (i := i) (s := s) (hf P o h1 h2)
  have e2 : σ.set i (some (.ref c.ad)) = σ := by
    refine List.ext_getElem? fun j => ?_
    by_cases hj : i = j
    · subst hj
      rw [List.getElem?_set_self (k.lt hi), e]
    · rw [List.getElem?_set_ne hj]
  rw [e2] at k2
  exact k2
theorem frz_L {l : Addr} : ∀ (P : Hp) (o : HO), P (cL l ss).ad = none → (cL l ss).ok P o → (sL ss).holds (upd P (cL l ss).ad o) (.ref (cL l ss).ad) := fun P o h ⟨vs, e, hv⟩ => ⟨l, vs, rfl, by subst e; exact upd_same, hv.mono (same_upd h)⟩
theorem frz_D {l : Addr} {kvs : List (Key × As)} : ∀ (P : Hp) (o : HO), P (cD l kvs).ad = none → (cD l kvs).ok P o → (sD kvs).holds (upd P (cD l kvs).ad o) (.ref (cD l kvs).ad) := fun P o h ⟨vs, e, hk, hv⟩ => ⟨l, vs, rfl, by subst e; exact upd_same, hk, hv.mono (same_upd h)⟩
theorem frz_I {l A : Addr} {fs : List (Str × As)} : ∀ (P : Hp) (o : HO), P (cI l A fs).ad = none → (cI l A fs).ok P o → (sC A fs).holds (upd P (cI l A fs).ad o) (.ref (cI l A fs).ad) := fun P o h ⟨dx, vs, e, hk, hv⟩ => ⟨l, dx, vs, rfl, by subst e; exact upd_same, hk, hv.mono (same_upd h)⟩
theorem db_frzAt {c : Cell} {Γ : List (Option As)} {μ : List Cell} {lk : List Addr} (n i : Nat) (hc : μ[n]? = some c := by rfl) (hi : Γ[i]? = some (some (sAt c.ad)) := by rfl) (hf : ∀ P o, P c.ad = none → c.ok P o → s.holds (upd P c.ad o) (.ref c.ad)) (h : DB X F sts ⟨Γ.set i (some s), μ.eraseIdx n, lk⟩ O) : DB X F sts ⟨Γ, μ, lk⟩ O :=
  db_wk (db_frz hi hf h) (.perm (perm_erase hc))
theorem db_cut {M : Ctx → Prop} (h : DB X F sts C { O with nx := M }) (w : ∀ C', M C' → O.nx C') : DB X F sts C O := pssW h fun D σ H ⟨P, k, q1, q2⟩ => ⟨P, k, fun C' σ' P' H' hm k' => q1 C' σ' P' H' (w C' hm) k', q2⟩

/-! ### statements -/
/-- name = e -/
theorem db_setX {κ : Type} {B : κ → Prop} {sk : κ → As} {C' : κ → Ctx} (xf : Xf Sx X) (i : Nat) (he : DX X F e C B sk C') (h : ∀ kk, B kk → DB X F rest ((C' kk).put i (sk kk)) O) (hi : Sx.N[i]? = some x := by rfl) (hw : Sx.ws[i]? = some true := by rfl) (hs : swapsWith e (some (.Name x pos')) pos.line X.env = pure false := by rfl) :
    DB X F (.Assign [.Name x pos'] e pos :: rest) C O := by
  have h2' : PSs X rest (fun D σ H => ∃ kk : {kk : κ // B kk}, tS F ((C' kk.1).put i (sk kk.1)) O D σ H) := pssEx fun kk => h kk.1 kk.2
  obtain ⟨hl, hf⟩ := xf.sto i x hw hi
  refine pssW (pss_cons (ps_set (i := i) (by rw [xf.hN]; exact xf.nd) (by rw [xf.hN]; exact hi) (by rw [xf.hsc]; exact hl) he hs (by rw [xf.hsc]; exact hf)) h2') ?_
  rintro D σ H ⟨P, k, q⟩
  exact ⟨P, k, fun kk v P' H' hb k' m hv => ⟨⟨kk, hb⟩, P', k'.put hv, Fol.later q m⟩⟩
theorem db_set (xf : Xf Sx X) (i : Nat) (he : De X F e C s C1) (h : DB X F rest (C1.put i s) O) (hi : Sx.N[i]? = some x := by rfl) (hw : Sx.ws[i]? = some true := by rfl) (hs : swapsWith e (some (.Name x pos')) pos.line X.env = pure false := by rfl) :
    DB X F (.Assign [.Name x pos'] e pos :: rest) C O := db_setX xf i he.dx (fun _ _ => h) hi hw hs
/-- name = [e, ..], a list that will change -/
theorem dx_lst (h : DA X F es C ss C1) (hl : ss.length ≤ sizeLine := by exact le_line (by rfl)) : DX X F (.List es pos) C (fun _ : Addr => True) sAt (fun l => C1.cell (cL l ss)) := by
  refine peW (pe_lst h) ?_
  rintro σ H Q ⟨P, k, q⟩
  refine ⟨P, k, fun vs P1 H1 k1 m1 hvs => ⟨by rw [hvs.len]; exact hl, fun p hp => ?_⟩⟩
  exact q p _ P1 _ trivial (k1.newCell (c := cL p ss) hp ⟨vs, rfl, hvs⟩) m1 rfl
theorem dx_dict : DX X F (.Dict [] [] pos) C (fun _ : Addr => True) sAt (fun l => C.cell (cD l [])) := by
  refine peW pe_dnewK ?_
  rintro σ H Q ⟨P, k, q⟩
  intro p hp
  exact q p _ P _ trivial (k.newCell (c := cD p []) hp ⟨[], rfl, rfl, trivial⟩) (Same.refl _) rfl
/-- e alone -/
theorem db_expr (he : De X F e C s C1) (h : DB X F rest C1 O) (hs : swapsWith e none pos.line X.env = pure false := by rfl) : DB X F (.Expr e pos :: rest) C O := by
  refine pssW (pss_cons (ps_expr he hs) h) ?_
  rintro D σ H ⟨P, k, q⟩
  exact ⟨P, k, fun v P' H' k' m hv => ⟨P', k', Fol.later q m⟩⟩
theorem db_pass (h : DB X F rest C O) : DB X F (.Pass pos :: rest) C O := by
  refine pssW (pss_cons ps_pass h) ?_
  rintro D σ H q
  exact q
/-- return e -/
theorem db_ret (he : De X F e C s C1) (h : O.rt s C1) : DB X F (.Return (some e) pos :: rest) C O := by
  refine pssW (pss_cons (ps_ret he) (pss_never (sts := rest))) ?_
  rintro D σ H ⟨P, k, q1, q2, q3⟩
  exact ⟨P, k, fun v P' H' k' m hv => q2 s C1 v σ P' H' h k' m hv⟩
theorem db_retX {κ : Type} {B : κ → Prop} {sk : κ → As} {C' : κ → Ctx} (he : DX X F e C B sk C') (h : ∀ kk, B kk → O.rt (sk kk) (C' kk)) : DB X F (.Return (some e) pos :: rest) C O := by
  refine pssW (pss_cons (ps_ret he) (pss_never (sts := rest))) ?_
  rintro D σ H ⟨P, k, q1, q2, q3⟩
  exact ⟨P, k, fun kk v P' H' hb k' m hv => q2 _ _ v σ P' H' (h kk hb) k' m hv⟩
theorem db_break (h : O.bk C) : DB X F (.Break pos :: rest) C O := by
  refine pssW (pss_cons ps_break (pss_never (sts := rest))) ?_
  rintro D σ H ⟨P, k, _, _, q, _⟩
  exact q C σ P H h k (Same.refl _)
theorem db_cont (h : O.ct C) : DB X F (.Continue pos :: rest) C O := by
  refine pssW (pss_cons ps_continue (pss_never (sts := rest))) ?_
  rintro D σ H ⟨P, k, _, _, _, q⟩
  exact q C σ P H h k (Same.refl _)
/-- a block that is never come to -/
theorem db_never (h : False) : DB X F sts C O := h.elim
/-- if -/
theorem ds_if (hc : DT X F c C b1 C1) (ha : b1 = true → DB X F body C1 O) (hb : b1 = false → DB X F orelse C1 O) : DS X F (.If c body orelse pos) C O := by
  cases b1 with
  | true =>
    refine ⟨fun pins s σ H D I h => ?_⟩
    obtain ⟨P, k, q⟩ := h
    refine wpAny_If (thn (hc.run pins s σ H (fun d H1 => d = true ∧ ∃ P1, Ok F C1 σ P1 H1 ∧ Same P P1) I ⟨P, k, fun P' H' k' m => ⟨rfl, P', k', m⟩⟩) fun d s1 ⟨H1, I1, e1, P1, k1, m1⟩ => ?_)
    subst e1
    exact (ha rfl).run pins s1 σ H1 D I1 ⟨P1, k1, Fol.later q m1⟩
  | false =>
    refine ⟨fun pins s σ H D I h => ?_⟩
    obtain ⟨P, k, q⟩ := h
    refine wpAny_If (thn (hc.run pins s σ H (fun d H1 => d = false ∧ ∃ P1, Ok F C1 σ P1 H1 ∧ Same P P1) I ⟨P, k, fun P' H' k' m => ⟨rfl, P', k', m⟩⟩) fun d s1 ⟨H1, I1, e1, P1, k1, m1⟩ => ?_)
    subst e1
    exact (hb rfl).run pins s1 σ H1 D I1 ⟨P1, k1, Fol.later q m1⟩
/-- if .. : a block that does not go on -/
theorem db_ifr (hc : DT X F c C b1 C1) (ha : b1 = true → DB X F body C1 { O with nx := fun _ => False }) (hb : b1 = false → DB X F rest C1 O) : DB X F (.If c body [] pos :: rest) C O :=
  db_cons (M := fun C' => C' = C1 ∧ b1 = false) (ds_if hc (fun h => db_cut (ha h) fun _ z => z.elim) fun h => db_nil ⟨rfl, h⟩) fun C' ⟨e, h⟩ => by rw [e]; exact hb h
/-- if .. : both go on to M -/
theorem db_if (M : Ctx → Prop) (hc : DT X F c C b1 C1) (ha : b1 = true → DB X F body C1 { O with nx := M }) (hb : b1 = false → DB X F orelse C1 { O with nx := M }) (hr : ∀ C', M C' → DB X F rest C' O) : DB X F (.If c body orelse pos :: rest) C O :=
  db_cons (ds_if hc ha hb) hr
/-- a, b = e1, e2 -/
theorem db_par {px py pt pt2 : Pos} {kt k2} (xf : Xf Sx X) (i j : Nat) (ha : De X F a C s1 C1) (hb : De X F b C1 s2 C2) (h : DB X F rest ((C2.put i s1).put j s2) O) (hij : i ≠ j := by decide) (hi : Sx.N[i]? = some x := by rfl) (hj : Sx.N[j]? = some y := by rfl) (hx : Sx.sc.names.lookup x = some .local := by first | rfl | decide +kernel) (hy : Sx.sc.names.lookup y = some .local := by first | rfl | decide +kernel)
    (hw : swappedStores [.Tuple [.Name x px, .Name y py] kt pt] (.Tuple [a, b] k2 pt2) X.env = pure (some [x, y]) := by rfl)
    (hs : swapsWithSole [.Tuple [.Name x px, .Name y py] kt pt] (.Tuple [a, b] k2 pt2) pos.line X.env = pure false := by rfl)
    (hst1 : starEach [a, b] X.env = (false, eval a X.env) :: starEach [b] X.env := by rfl) (hst2 : starEach [b] X.env = (false, eval b X.env) :: starEach [] X.env := by rfl) :
    DB X F (.Assign [.Tuple [.Name x px, .Name y py] kt pt] (.Tuple [a, b] k2 pt2) pos :: rest) C O := by
  refine pssW (pss_cons (ps_par (i := i) (j := j) xf.calm (by rw [xf.hN]; exact xf.nd) (by rw [xf.hN]; exact hi) (by rw [xf.hN]; exact hj) hij (by rw [xf.hsc]; exact hx) (by rw [xf.hsc]; exact hy) (da_cons ha (da_cons hb da_nil hst2) hst1) hw hs) h) ?_
  rintro D σ H ⟨P, k, q⟩
  refine ⟨P, k, fun vs P' H' k' m hvs => ?_⟩
  obtain ⟨v, u, rfl, h1, h2⟩ := each2 hvs
  exact ⟨v, u, rfl, P', (k'.put h1).put h2, Fol.later q m⟩
/-! ### targets -/
/-- a target by its reading: what an item y makes of a context -/
def GOk {β : Type} (F : Fr) (g : TG) (own : List Nat) (r : β → As) (u : β → Ctx → Ctx) : Prop := ∀ (y : β) (C : Ctx) (P H : Hp) (σ : L2.St) (v : V) (Q : L2.St → Hp → Prop), Ok F C σ P H → (r y).holds P v → (∀ σ', Ok F (u y C) σ' P H → wipe σ' own = wipe σ own → Q σ' H) → g v σ H Q
theorem go_name {β : Type} {r : β → As} {i : Nat} : GOk F (gName i) [i] r (fun y C => C.put i (r y)) := fun y C P H σ v Q k hv q => q _ (k.put hv) (by
  show (σ.set i (some v)).set i none = σ.set i none
  rw [List.set_set])
def gNs : List Nat → TGs
  | [] => gNil
  | i :: is => gCons (gName i) (gNs is)
def Ctx.puts (C : Ctx) : List Nat → List As → Ctx
  | i :: is, s :: ss => (C.put i s).puts is ss
  | _, _ => C
theorem wipe_get {σ : L2.St} {j : Nat} : ∀ (vs : List Nat), (wipe σ vs)[j]? = if j ∈ vs ∧ j < σ.length then some none else σ[j]?
  | [] => by simp [wipe]
  | v :: vs => by
    unfold wipe
    by_cases h : v = j
    · subst h
      by_cases hl : v < σ.length
      · rw [List.getElem?_set_self (by rw [wipe_length]; exact hl), if_pos ⟨by simp, hl⟩]
      · rw [List.getElem?_eq_none (by rw [List.length_set, wipe_length]; omega), if_neg (by simp [hl]), List.getElem?_eq_none (by omega)]
    · rw [List.getElem?_set_ne h, wipe_get vs]
      have e : j ∈ v :: vs ↔ j ∈ vs := by simp [Ne.symm h]
      by_cases hj : j ∈ vs
      · simp [hj]
      · have : ¬ j ∈ v :: vs := fun z => hj (e.mp z)
        simp [hj, Ne.symm h]
theorem wipe_set {σ : L2.St} {i : Nat} {o : Option V} {vs : List Nat} (h : i ∈ vs) : wipe (σ.set i o) vs = wipe σ vs := by
  refine List.ext_getElem? fun j => ?_
  rw [wipe_get, wipe_get, List.length_set]
  by_cases hj : j ∈ vs ∧ j < σ.length
  · rw [if_pos hj, if_pos hj]
  · rw [if_neg hj, if_neg hj]
    by_cases e : i = j
    · subst e
      have : ¬ i < σ.length := fun z => hj ⟨h, z⟩
      rw [List.getElem?_eq_none (by rw [List.length_set]; omega), List.getElem?_eq_none (by omega)]
    · rw [List.getElem?_set_ne e]
theorem gns_ok {own : List Nat} : ∀ (is : List Nat) (ss : List As) (vs : List V) (C : Ctx) (P H : Hp) (σ : L2.St) (Q : L2.St → Hp → Prop), is.length = ss.length → (∀ i ∈ is, i ∈ own) → Ok F C σ P H → Each P ss vs → (∀ σ', Ok F (C.puts is ss) σ' P H → wipe σ' own = wipe σ own → Q σ' H) → gNs is vs σ H Q
  | [], [], [], C, P, H, σ, Q, _, _, k, _, q => ⟨rfl, q σ k rfl⟩
  | i :: is, s :: ss, v :: vs, C, P, H, σ, Q, hl, ho, k, hv, q => by
    refine ⟨v, vs, rfl, ?_⟩
    refine gns_ok is ss vs (C.put i s) P H _ Q (by simpa using hl) (fun j hj => ho j (List.mem_cons_of_mem _ hj)) (k.put hv.1) hv.2 fun σ' k' e => q σ' k' ?_
    rw [e, wipe_set (ho i List.mem_cons_self)]
  | [], [], _ :: _, _, _, _, _, _, _, _, _, h, _ => h.elim
  | _ :: _, _ :: _, [], _, _, _, _, _, _, _, _, h, _ => h.elim
  | [], _ :: _, _, _, _, _, _, _, h, _, _, _, _ => by simp at h
  | _ :: _, [], _, _, _, _, _, _, h, _, _, _, _ => by simp at h
theorem go_tup {β : Type} {K : PySem.W.Frag} {ss : β → List As} {is : List Nat} {n : Nat} (hn : ∀ y, (ss y).length = n) (hi : is.length = n) : GOk F (gTup K n (gNs is)) is (fun y => sT (ss y)) (fun y C => C.puts is (ss y)) := by
  intro y C P H σ v Q k ⟨a, vs, e, hp, hv⟩ q
  exact ⟨a, vs, e, SqT.of (k.sub.tup hp), by rw [hv.len, hn y], gns_ok is (ss y) vs C P H σ Q (by rw [hi, hn y]) (fun i h => h) k hv q⟩
theorem pg_nm (xf : Xf Sx X) (i : Nat) (hi : Sx.N[i]? = some x := by rfl) (hw : Sx.ws[i]? = some true := by rfl) : PG X (.Name x pos) (gName i) := by
  obtain ⟨hl, hf⟩ := xf.sto i x hw hi
  exact pg_name (by rw [xf.hN]; exact xf.nd) (by rw [xf.hN]; exact hi) (by rw [xf.hsc]; exact hl) (by rw [xf.hsc]; exact hf)

/-! ### what is walked -/
structure IOk {β : Type} (F : Fr) (J : It) (r : β → As) (ys : List β) (P1 : Hp) : Prop where
  stop : ∀ P' H', Same P1 P' → Sub P' H' → J.stop ys.length H'
  go : ∀ (i : Nat) (y : β) P' H', ys[i]? = some y → Same P1 P' → Sub P' H' → J.go i H'
  yld : ∀ (i : Nat) (y : β) P' H' z H'', ys[i]? = some y → Same P1 P' → Sub P' H' → J.yld i H' z H'' → ∀ C σ, Ok F C σ P' H' → ∃ P'', Same P' P'' ∧ Ok F C σ P'' H'' ∧ (r y).holds P'' z
def tDI {β : Type} (F : Fr) (C : Ctx) (r : β → As) (ys : List β) (C' : Ctx) : TI := fun σ H R => ∃ P, Ok F C σ P H ∧ ∀ J P' H', Ok F C' σ P' H' → Same P P' → IOk F J r ys P' → R J H'
def DI {β : Type} (X : Cx) (F : Fr) (tg e : Expr) (C : Ctx) (r : β → As) (ys : List β) (C' : Ctx) : Prop := PI X tg e (tDI F C r ys C')
theorem piW {tg e : Expr} {t t' : TI} (h : PI X tg e t) (k : ∀ σ H R, t' σ H R → t σ H R) : PI X tg e t' := ⟨fun pins s σ H R I q => h.run pins s σ H R I (k σ H R q)⟩
variable {tg : Expr}
theorem di_list {β : Type} {r : β → As} {ys : List β} (h : De X F e C (sL (ys.map r)) C1) : DI X F tg e C r ys C1 := by
  refine piW (pi_list h) ?_
  rintro σ H R ⟨P, k, q⟩
  refine ⟨P, k, fun v P1 H1 k1 m1 hv => ?_⟩
  obtain ⟨a, vs, rfl, hp, hr⟩ := hv
  have hl := hr.len
  rw [List.length_map] at hl
  refine ⟨a, rfl, ⟨vs, SqL.of (k1.sub.lst hp)⟩, q _ P1 H1 k1 m1 ⟨fun P' H' m s => ?_, fun i y P' H' e m s => ?_, fun i y P' H' z H'' e m s hy C σ k' => ?_⟩⟩
  · exact ⟨vs, SqL.of (s.lst (m _ _ hp)), by omega⟩
  · obtain ⟨z, hz, _⟩ := hr.get' (i := i) (s := r y) (by rw [List.getElem?_map, e]; rfl)
    exact ⟨vs, z, SqL.of (s.lst (m _ _ hp)), hz⟩
  · obtain ⟨rfl, hy⟩ := hy
    obtain ⟨u, hu, hr'⟩ := hr.get' (i := i) (s := r y) (by rw [List.getElem?_map, e]; rfl)
    have e2 := hy vs (SqL.of (s.lst (m _ _ hp)))
    rw [hu] at e2
    cases e2
    exact ⟨P', Same.refl _, k', (r y).mono m hr'⟩
theorem di_tup {β : Type} {r : β → As} {ys : List β} (h : De X F e C (sT (ys.map r)) C1) : DI X F tg e C r ys C1 := by
  refine piW (pi_tup h) ?_
  rintro σ H R ⟨P, k, q⟩
  refine ⟨P, k, fun v P1 H1 k1 m1 hv => ?_⟩
  obtain ⟨a, vs, rfl, hp, hr⟩ := hv
  have hl := hr.len
  rw [List.length_map] at hl
  refine ⟨a, rfl, ⟨vs, SqT.of (k1.sub.tup hp)⟩, q _ P1 H1 k1 m1 ⟨fun P' H' m s => ?_, fun i y P' H' e m s => ?_, fun i y P' H' z H'' e m s hy C σ k' => ?_⟩⟩
  · exact ⟨vs, SqT.of (s.tup (m _ _ hp)), by omega⟩
  · obtain ⟨z, hz, _⟩ := hr.get' (i := i) (s := r y) (by rw [List.getElem?_map, e]; rfl)
    exact ⟨vs, z, SqT.of (s.tup (m _ _ hp)), hz⟩
  · obtain ⟨rfl, hy⟩ := hy
    obtain ⟨u, hu, hr'⟩ := hr.get' (i := i) (s := r y) (by rw [List.getElem?_map, e]; rfl)
    have e2 := hy vs (SqT.of (s.tup (m _ _ hp)))
    rw [hu] at e2
    cases e2
    exact ⟨P', Same.refl _, k', (r y).mono m hr'⟩
theorem di_str {z : Str} (h : De X F e C (sS z) C1) : DI X F tg e C (fun c : Nat => sS ⟨#[c]⟩) z.cps.toList C1 := by
  refine piW (pi_str h) ?_
  rintro σ H R ⟨P, k, q⟩
  refine ⟨P, k, fun v P1 H1 k1 m1 hv => ?_⟩
  refine ⟨z, hv, q _ P1 H1 k1 m1 ⟨fun P' H' m s => ?_, fun i y P' H' e m s => ?_, fun i y P' H' x H'' e m s hy C σ k' => ?_⟩⟩
  · show z.cps.size ≤ z.cps.toList.length
    simp
  · show i < z.cps.size
    have := (List.getElem?_eq_some_iff.mp e).1
    simpa using this
  · obtain ⟨rfl, c, hc, rfl⟩ := hy
    have e2 : z.cps[i]? = some y := by rw [← Array.getElem?_toList]; exact e
    rw [e2] at hc
    cases hc
    exact ⟨P', Same.refl _, k', rfl⟩
theorem itr_ok {lo : Int} {n : Nat} {P1 : Hp} : IOk F (Itr lo n) sI ((List.range n).map fun i : Nat => lo + (i : Int)) P1 := by
  refine ⟨fun P' H' m s => ?_, fun i y P' H' e m s => ?_, fun i y P' H' x H'' e m s hy C σ k' => ?_⟩
  · show n ≤ _
    simp
  · show i < n
    have := (List.getElem?_eq_some_iff.mp e).1
    simpa using this
  · obtain ⟨rfl, rfl⟩ := hy
    refine ⟨P', Same.refl _, k', ?_⟩
    have hi : i < n := by
      have := (List.getElem?_eq_some_iff.mp e).1
      simpa using this
    rw [List.getElem?_map, List.getElem?_range hi] at e
    have e := Option.some.inj e
    subst e
    rfl
theorem di_range1 {j : Int} (xf : Xf Sx X) (jg : Nat) (hm : X.mg "range" = none) (h : De X F a C (sI j) C1) (h1 : -(2 ^ 62) ≤ j) (h2 : j < 2 ^ 62) (hg : Sx.G[jg]? = some ("range" : Str) := by rfl) (hs : starEach [a] X.env = [(false, eval a X.env)] := by rfl) (hs2 : starEach [a] X.env = (false, eval a X.env) :: starEach [] X.env := by rfl) :
    DI X F tg (.Call (.Name "range" p) [a] [] pos) C sI ((List.range j.toNat).map fun i : Nat => (0 : Int) + (i : Int)) C1 := by
  refine piW (pi_range1 (xf.gl jg hg) hm (da_cons h da_nil hs2) hs) ?_
  rintro σ H R ⟨P, k, q⟩
  refine ⟨P, k, fun vs P1 H1 k1 m1 hvs => ?_⟩
  obtain ⟨v, rfl, rfl⟩ := each1 hvs
  exact ⟨j, rfl, h1, h2, q _ P1 H1 k1 m1 itr_ok⟩
theorem di_range2 {i j : Int} (xf : Xf Sx X) (jg : Nat) (hm : X.mg "range" = none) (ha : De X F a C (sI i) C1) (hb : De X F b C1 (sI j) C2) (hh : -(2 ^ 62) ≤ i ∧ i < 2 ^ 62 ∧ -(2 ^ 62) ≤ j ∧ j < 2 ^ 62) (hg : Sx.G[jg]? = some ("range" : Str) := by rfl) (hs : starEach [a, b] X.env = [(false, eval a X.env), (false, eval b X.env)] := by rfl) (hs2 : starEach [b] X.env = [(false, eval b X.env)] := by rfl)
    (hs3 : starEach [a, b] X.env = (false, eval a X.env) :: starEach [b] X.env := by rfl) (hs4 : starEach [b] X.env = (false, eval b X.env) :: starEach [] X.env := by rfl) :
    DI X F tg (.Call (.Name "range" p) [a, b] [] pos) C sI ((List.range (j - i).toNat).map fun n : Nat => i + (n : Int)) C2 := by
  refine piW (pi_range2 (xf.gl jg hg) hm (da_cons ha (da_cons hb da_nil hs4) hs3) hs hs2) ?_
  rintro σ H R ⟨P, k, q⟩
  refine ⟨P, k, fun vs P1 H1 k1 m1 hvs => ?_⟩
  obtain ⟨v, u, rfl, rfl, rfl⟩ := each2 hvs
  exact ⟨i, j, rfl, hh, q _ P1 H1 k1 m1 itr_ok⟩
/-- enumerate(list) -/
theorem di_enum {β : Type} {r : β → As} {ys : List β} (xf : Xf Sx X) (jg : Nat) (hm : X.mg "enumerate" = none) (h : De X F a C (sL (ys.map r)) C1) (hg : Sx.G[jg]? = some ("enumerate" : Str) := by rfl) (hs2 : starEach [a] X.env = (false, eval a X.env) :: starEach [] X.env := by rfl) (hs1 : starEach [a] X.env = [(false, eval a X.env)] := by rfl) {elts : List Expr} {kk : Nat} {tpos : Pos} :
    DI X F (.Tuple elts kk tpos) (.Call (.Name "enumerate" p) [a] [] pos) C (fun y : β × Nat => sT [sI (y.2 : Int), r y.1]) ys.zipIdx C1 := by
  refine piW (pi_enum (xf.gl jg hg) hm (da_cons h da_nil hs2) hs1) ?_
  rintro σ H R ⟨P, k, q⟩
  refine ⟨P, k, fun vs P1 H1 k1 m1 hvs => ?_⟩
  obtain ⟨v, rfl, a, xs, rfl, hp, hr⟩ := each1 hvs
  have hl := hr.len
  rw [List.length_map] at hl
  have fnd : ∀ (i : Nat) (y : β × Nat), ys.zipIdx[i]? = some y → ys[i]? = some y.1 ∧ y.2 = i := fun i y e => by
    rw [List.getElem?_zipIdx] at e
    cases h : ys[i]? with
    | none => rw [h] at e; cases e
    | some z =>
      rw [h] at e
      have e := Option.some.inj e
      subst e
      exact ⟨rfl, by simp⟩
  refine ⟨a, xs, rfl, SqL.of (k1.sub.lst hp), q _ P1 H1 k1 m1 ⟨fun P' H' m s => ?_, fun i y P' H' e m s => ?_, fun i y P' H' z H'' e m s hy C σ k' => ?_⟩⟩
  · exact ⟨xs, SqL.of (s.lst (m _ _ hp)), by rw [List.length_zipIdx]; omega⟩
  · obtain ⟨e1, e2⟩ := fnd i y e
    obtain ⟨z, hz, _⟩ := hr.get' (i := i) (s := r y.1) (by rw [List.getElem?_map, e1]; rfl)
    exact ⟨xs, z, SqL.of (s.lst (m _ _ hp)), hz⟩
  · obtain ⟨e1, e2⟩ := fnd i y e
    obtain ⟨u, hu, hr'⟩ := hr.get' (i := i) (s := r y.1) (by rw [List.getElem?_map, e1]; rfl)
    obtain ⟨T, x, rfl, hT, rfl, hx⟩ := hy
    have e3 := hx xs (SqL.of (s.lst (m _ _ hp)))
    rw [hu] at e3
    cases e3
    obtain ⟨k2, m2⟩ := k'.laid (o := .tup [.int (i : Nat), u]) hT
    exact ⟨_, m2, k2, T, _, rfl, upd_same, by rw [e2]; rfl, (r y.1).mono (m.trans m2) hr', trivial⟩
/-- for -/
theorem ds_for {β : Type} {g : TG} {r : β → As} {ys : List β} {own : List Nat} {u : β → Ctx → Ctx} (I : Nat → Ctx → Prop) (hi : DI X F tg e C r ys C1) (xf : Xf Sx X) (hp : PassesOwn (model X.prog X.w) X.A X.env X.xe) (hg : PG X tg g) (gok : GOk F g own r u) (h0 : I 0 C1)
    (hb : ∀ (k : Nat) (y : β) C2, ys[k]? = some y → I k C2 → DB X F body (u y C2) { O with nx := I (k + 1), ct := I (k + 1), bk := O.nx }) (hd : ∀ C2, I ys.length C2 → O.nx C2) (hs : ∀ x, foldedSetIterable e X.env x = pure x := by intro _; rfl) :
    DS X F (.For tg e body [] pos) C O := by
  have hb' : PSs X body (fun D σ H => ∃ t : {t : Nat × β × Ctx // ys[t.1]? = some t.2.1 ∧ I t.1 t.2.2}, tS F (u t.1.2.1 t.1.2.2) { O with nx := I (t.1.1 + 1), ct := I (t.1.1 + 1), bk := O.nx } D σ H) := pssEx fun t => hb t.1.1 t.1.2.1 t.1.2.2 t.2.1 t.2.2
  refine psW (ps_for hp xf.calm hi hg hb' hs) ?_
  rintro D σ H ⟨P, k, q⟩
  refine ⟨P, k, fun J P1 H1 k1 m1 jok => ?_⟩
  refine ⟨fun i m σ H => m + i = ys.length ∧ ∃ C2 P2, I i C2 ∧ Ok F C2 σ P2 H ∧ Same P1 P2, ⟨ys.length, by omega, C1, P1, h0, k1, Same.refl _⟩, ?_⟩
  rintro i m σ2 H2 ⟨hm, C2, P2, hI, k2, m2⟩
  by_cases hi : i < ys.length
  · have hy : ys[i]? = some ys[i] := List.getElem?_eq_getElem hi
    refine .inr ⟨jok.go i _ P2 H2 hy m2 k2.sub, fun σ' H' => ∃ C3 P3, I (i + 1) C3 ∧ Ok F C3 σ' P3 H' ∧ Same P1 P3, fun σ' H' ⟨C3, P3, a, b, c⟩ => ⟨m - 1, by omega, by omega, C3, P3, a, b, c⟩, fun z H3 hz => ?_⟩
    obtain ⟨P3, m3, k3, hv⟩ := jok.yld i _ P2 H2 z H3 hy m2 k2.sub hz C2 σ2 k2
    refine gok _ C2 P3 H3 σ2 z _ k3 hv fun σ' k4 _ => ?_
    refine ⟨⟨(i, ys[i], C2), hy, hI⟩, P3, k4, fun C' σ' P' H' a b c => ⟨C', P', a, b, (m2.trans m3).trans c⟩, fun s C' v σ' P' H' a b c d => q.2.1 s C' v σ' P' H' a b (((m1.trans m2).trans m3).trans c) d, fun C' σ' P' H' a b c => q.1 C' σ' P' H' a b (((m1.trans m2).trans m3).trans c), fun C' σ' P' H' a b c => ⟨C', P', a, b, (m2.trans m3).trans c⟩⟩
  · have e : i = ys.length := by omega
    subst e
    exact .inl ⟨jok.stop P2 H2 m2 k2.sub, q.1 C2 σ2 P2 H2 (hd C2 hI) k2 (m1.trans m2)⟩
end
end L3

/-! L3, part g: comprehensions, while, zip, a def by its body, more methods. -/
namespace L3
open PySem PySem.Spec L2

section
variable {F : Fr} {C C1 : Ctx} {σ σ' : L2.St} {P P' H H' : Hp} {Γ Γ' : List (Option As)} {μ μ' : List Cell} {lk : List Addr} {c : Cell}
/-- a block of its own: all cells but one -/
theorem Ok.enter (k : Ok F ⟨Γ, c :: μ, lk⟩ σ P H) : Ok ⟨H, P, μ.map (·.ad)⟩ ⟨Γ, μ, []⟩ σ P H := by
  refine ⟨k.sub, Same.refl _, fun a o e _ _ => e, fun a ha => absurd ha (by simp), fun a o e => .inl e, k.len, k.slots, fun d hd => ?_, (List.nodup_cons.mp (show (c.ad :: μ.map (·.ad)).Nodup from k.nd)).2⟩
  obtain ⟨h1, h2, _⟩ := k.cells d (List.mem_cons_of_mem _ hd)
  exact ⟨h1, h2, .inr (List.mem_map.mpr ⟨d, hd, rfl⟩), by simp⟩
theorem Ok.leave (k : Ok F ⟨Γ, c :: μ, lk⟩ σ P H) (k' : Ok ⟨H, P, μ.map (·.ad)⟩ ⟨Γ', μ', []⟩ σ' P' H') (m : Same P P') : Ok F ⟨Γ, c :: μ', lk⟩ σ P' H' := by
  have hcell : ∀ d ∈ μ, CellOk F lk P H d := fun d hd => k.cells d (List.mem_cons_of_mem _ hd)
  have nd := List.nodup_cons.mp (show (c.ad :: μ.map (·.ad)).Nodup from k.nd)
  have hin : ∀ a, a ∈ μ.map (·.ad) → F.H0 a = none ∨ a ∈ F.ls := fun a ha => by
    obtain ⟨d, hd, e⟩ := List.mem_map.mp ha
    exact e ▸ (hcell d hd).2.2.1
  have hlk : ∀ a, a ∈ μ.map (·.ad) → a ∉ lk := fun a ha => by
    obtain ⟨d, hd, e⟩ := List.mem_map.mp ha
    exact e ▸ (hcell d hd).2.2.2
  have hk : ∀ a o, H a = some o → a ∉ μ.map (·.ad) → H' a = some o := fun a o e n => k'.mods a o e n (by simp)
  refine ⟨k'.sub, k.p0.trans m, fun a o e n l => ?_, fun a ha => ?_, fun a o e => ?_, k.len, fun j t e => ?_, fun d hd => ?_, ?_⟩
  · refine hk a o (k.mods a o e n l) fun z => ?_
    rcases hin a z with h | h
    · rw [h] at e; cases e
    · exact n h
  · obtain ⟨od, u, e⟩ := k.lks a ha
    exact ⟨od, u, hk a _ e fun z => hlk a z ha⟩
  · rcases k'.new a o e with h | h | h
    · exact k.new a o h
    · exact .inr (k.fresh h).1
    · exact .inr (hin a h)
  · obtain ⟨v, e1, e2⟩ := k.slots j t e
    exact ⟨v, e1, t.mono m e2⟩
  · rcases List.mem_cons.mp hd with z | hd
    · subst z
      obtain ⟨h1, ⟨o, h2, h3⟩, h4, h5⟩ := k.cells d List.mem_cons_self
      refine ⟨?_, ⟨o, hk _ _ h2 nd.1, d.mono m h3⟩, h4, h5⟩
      cases e : P' d.ad with
      | none => rfl
      | some o' =>
        rcases k'.new _ _ e with h | h | h
        · have h : P d.ad = some o' := h
          rw [h1] at h; cases h
        · have h : H d.ad = none := h
          rw [h2] at h; cases h
        · exact absurd h nd.1
    · obtain ⟨h1, h2, h3, _⟩ := k'.cells d hd
      refine ⟨h1, h2, ?_⟩
      rcases h3 with h | h
      · exact k.fresh h
      · exact ⟨hin _ h, hlk _ h⟩
  · show (c.ad :: μ'.map (·.ad)).Nodup
    refine List.nodup_cons.mpr ⟨fun hm => ?_, k'.nd⟩
    obtain ⟨d, hd, e⟩ := List.mem_map.mp hm
    obtain ⟨h1, ⟨o, h2, _⟩, _⟩ := k.cells c List.mem_cons_self
    rcases (k'.cells d hd).2.2.1 with h | h
    · rw [e] at h
      have h : H c.ad = none := h
      rw [h2] at h; cases h
    · rw [e] at h
      exact nd.1 h
def wipeA (Γ : List (Option As)) : List Nat → List (Option As)
  | [] => Γ
  | v :: vs => (wipeA Γ vs).set v none
theorem wipeA_len : ∀ vs : List Nat, (wipeA Γ vs).length = Γ.length
  | [] => rfl
  | v :: vs => by unfold wipeA; rw [List.length_set, wipeA_len vs]
theorem wipeA_some {i : Nat} {s : As} : ∀ {vs : List Nat}, (wipeA Γ vs)[i]? = some (some s) → Γ[i]? = some (some s) ∧ i ∉ vs
  | [], h => ⟨h, by simp⟩
  | v :: vs, h => by
    unfold wipeA at h
    by_cases hi : v = i
    · subst hi
      by_cases hv : v < (wipeA Γ vs).length
      · rw [List.getElem?_set_self hv] at h; cases h
      · rw [List.getElem?_eq_none (by simpa using hv)] at h; cases h
    · rw [List.getElem?_set_ne hi] at h
      obtain ⟨h1, h2⟩ := wipeA_some h
      exact ⟨h1, by simp only [List.mem_cons, not_or]; exact ⟨fun e => hi e.symm, h2⟩⟩
theorem Ok.wipe (k : Ok F ⟨Γ, μ, lk⟩ σ P H) (vs : List Nat) : Ok F ⟨wipeA Γ vs, μ, lk⟩ (wipe σ vs) P H := by
  refine ⟨k.sub, k.p0, k.mods, k.lks, k.new, ?_, fun i s e => ?_, k.cells, k.nd⟩
  · show (wipeA Γ vs).length = _
    rw [wipeA_len, wipe_length]
    exact k.len
  · obtain ⟨e1, e2⟩ := wipeA_some (show (wipeA Γ vs)[i]? = some (some s) from e)
    obtain ⟨v, h1, h2⟩ := k.slots i s e1
    exact ⟨v, by rw [wipe_get, if_neg (by simp [e2])]; exact h1, h2⟩
end

section
variable {X : Cx} {F : Fr} {Sx : Sc} {C C1 C2 C3 : Ctx} {s s1 s2 s3 : As} {pos p pos' : Pos} {a b c e : Expr} {b1 b2 : Bool} {es : List Expr} {ss : List As} {x y : Str} {σ : L2.St} {P H : Hp} {O : Out} {st : Stmt} {sts rest body orelse : List Stmt}
/-- what was made may be known from now on -/
theorem DX.frz (h : DX X F e C (fun _ : Addr => True) sAt (fun l => C1.cell (cL l ss))) : De X F e C (sL ss) C1 := peW h fun σ H Q ⟨P, k, q⟩ => ⟨P, k, fun l v P' H' _ k' m hv => by
  obtain ⟨o, h1, ⟨vs, h2, h3⟩, m2, k2⟩ := Ok.freeze (Ok.wk k' (.perm (List.perm_append_singleton (cL l ss) C1.μ)))
  subst h2
  exact q v _ H' k2 (m.trans m2) ⟨l, vs, hv, upd_same, h3.mono m2⟩⟩

def DTs (X : Cx) (F : Fr) (ifs : List Expr) (C : Ctx) (b : Bool) (C' : Ctx) : Prop := PTs X ifs (tDT F C b C')
theorem dts_nil : DTs X F [] C true C := ⟨fun pins s σ H Q I ⟨P, k, q⟩ => pts_nil.run pins s σ H Q I (q P H k (Same.refl _))⟩
theorem dts_one (h : DT X F c C b1 C1) : DTs X F [c] C b1 C1 := pts_one h

/-- the reading of a comprehension -/
theorem lc_read {β : Type} {g : TG} {r : β → As} {ys : List β} {own : List Nat} {u : β → Ctx → Ctx} {Γ : List (Option As)} {lk : List Addr} (μs : Nat → List Cell) (bs : Nat → Bool) (zs : Nat → As) (Ct Ce : Nat → Ctx) (res : Nat → List As)
    (gok : ∀ F, GOk F g own r u) (hr0 : res 0 = []) (hrs : ∀ k, k < ys.length → res (k + 1) = if bs k = true then res k ++ [zs k] else res k) (hlen : ys.length ≤ sizeLine)
    (hct : ∀ k, (Ct k).lk = [] ∧ (bs k = false → (Ct k).μ = μs (k + 1))) (hce : ∀ k, (Ce k).lk = [] ∧ (Ce k).μ = μs (k + 1))
    {wi : TI} {tt : TT} {te : TE} (σ : L2.St) (H : Hp) (Q : VK) (P1 : Hp) (J : It) (k1 : Ok F ⟨Γ, μs 0, lk⟩ σ P1 H) (jok : IOk F J r ys P1)
    (htt : ∀ (k : Nat) (y : β) F' σ H Q, ys[k]? = some y → tDT F' (u y ⟨wipeA Γ own, μs k, []⟩) (bs k) (Ct k) σ H Q → tt σ H Q)
    (hte : ∀ (k : Nat) (y : β) F' σ H Q, ys[k]? = some y → bs k = true → tD F' (Ct k) (zs k) (Ce k) σ H Q → te σ H Q)
    (hmono : ∀ (k : Nat) (y : β) (C : Ctx), (u y C).μ = C.μ ∧ (u y C).lk = C.lk)
    (q : ∀ (D : Addr) v P' H', Ok F (Ctx.cell ⟨Γ, μs ys.length, lk⟩ (cL D (res ys.length))) σ P' H' → Same P1 P' → v = .ref D → Q v H') :
    ∀ D, H D = none → ∃ W : Nat → Nat → Hp → Prop, (∃ m, W 0 m (upd H D (.lst []))) ∧ ∀ i m H, W i m H →
      (J.stop i H ∧ Q (.ref D) H) ∨ (J.go i H ∧ ∃ Nx : Hp → Prop, (∀ H', Nx H' → ∃ m', m' < m ∧ W (i + 1) m' H') ∧ ∀ x H', J.yld i H x H' → g x (wipe σ own) H' fun σ2 H2 => wipe σ2 own = wipe σ own ∧ tt σ2 H2 fun b H3 =>
        if b = true then te σ2 H3 fun y H4 => ∃ acc, H4 D = some (.lst acc) ∧ acc.length < sizeLine ∧ Nx (upd H4 D (.lst (acc ++ [y]))) else Nx H3) := by
  intro D hD
  have hres : ∀ k, k ≤ ys.length → (res k).length ≤ k := by
    intro k
    induction k with
    | zero => intro _; rw [hr0]; exact Nat.le_refl _
    | succ k ih =>
      intro hk
      have := ih (by omega)
      rw [hrs k (by omega)]
      split
      · rw [List.length_append, List.length_singleton]; omega
      · omega
  refine ⟨fun i m H' => m + i = ys.length ∧ ∃ P2, Ok F ⟨Γ, cL D (res i) :: μs i, lk⟩ σ P2 H' ∧ Same P1 P2, ⟨ys.length, by omega, P1, ?_, Same.refl _⟩, ?_⟩
  · exact k1.newCell0 (c := cL D (res 0)) hD ⟨[], rfl, by rw [hr0]; trivial⟩
  rintro i m H2 ⟨hm, P2, k2, m2⟩
  by_cases hi : i < ys.length
  · have hy : ys[i]? = some ys[i] := List.getElem?_eq_getElem hi
    refine .inr ⟨jok.go i _ P2 H2 hy m2 k2.sub, fun H' => ∃ P3, Ok F ⟨Γ, cL D (res (i + 1)) :: μs (i + 1), lk⟩ σ P3 H' ∧ Same P1 P3, fun H' ⟨P3, c1, c2⟩ => ⟨m - 1, by omega, by omega, P3, c1, c2⟩, fun z H3 hz => ?_⟩
    obtain ⟨P3, m3, k3, hv⟩ := jok.yld i _ P2 H2 z H3 hy m2 k2.sub hz _ σ k2
    have k4 := k3.enter.wipe own
    refine gok _ ys[i] _ P3 H3 (wipe σ own) z _ k4 hv fun σ' k5 ew => ⟨?_, ?_⟩
    · rw [ew]
      refine List.ext_getElem? fun j => ?_
      rw [wipe_get, wipe_get, wipe_length]
      by_cases hj : j ∈ own ∧ j < σ.length
      · rw [if_pos hj, if_pos hj]
      · rw [if_neg hj, if_neg hj]
    · refine htt i ys[i] _ σ' H3 _ hy ⟨P3, k5, fun P4 H4 k6 m4 => ?_⟩
      cases hb : bs i with
      | true =>
        rw [if_pos rfl]
        refine hte i ys[i] _ σ' H4 _ hy hb ⟨P4, k6, fun v P5 H5 k7 m5 hv5 => ?_⟩
        obtain ⟨e1, e2⟩ := hce i
        have k7' : Ok ⟨H3, P3, (μs i).map (·.ad)⟩ ⟨(Ce i).Γ, μs (i + 1), []⟩ σ' P5 H5 := by
          have : Ce i = ⟨(Ce i).Γ, μs (i + 1), []⟩ := by rw [← e1, ← e2]
          rw [← this]
          exact k7
        have k8 := k3.leave k7' (m4.trans m5)
        obtain ⟨_, ⟨o, h2, vs, rfl, hvs⟩, _⟩ := k8.cells _ List.mem_cons_self
        have hl := hvs.len
        have := hres i (by omega)
        refine ⟨vs, h2, by omega, P5, ?_, ((m2.trans m3).trans m4).trans m5⟩
        refine k8.write (C := ⟨Γ, μs (i + 1), lk⟩) (c := cL D (res i)) (c' := cL D (res (i + 1))) rfl ⟨_, rfl, ?_⟩
        rw [hrs i hi, if_pos hb]
        exact hvs.append ⟨hv5, trivial⟩
      | false =>
        rw [if_neg Bool.false_ne_true]
        obtain ⟨e1, e2⟩ := hct i
        have k7' : Ok ⟨H3, P3, (μs i).map (·.ad)⟩ ⟨(Ct i).Γ, μs (i + 1), []⟩ σ' P4 H4 := by
          have : Ct i = ⟨(Ct i).Γ, μs (i + 1), []⟩ := by rw [← e1, ← e2 hb]
          rw [← this]
          exact k6
        have k8 := k3.leave k7' m4
        refine ⟨P4, ?_, (m2.trans m3).trans m4⟩
        rw [hrs i hi, if_neg (by rw [hb]; exact Bool.false_ne_true)]
        exact k8
  · have e : i = ys.length := by omega
    subst e
    exact .inl ⟨jok.stop P2 H2 m2 k2.sub, q D _ P2 H2 (k2.wk (.perm (List.perm_append_singleton _ _).symm)) m2 rfl⟩

variable {tg elt iter : Expr} {ifs : List Expr} {scope : Scope}
/-- what a comprehension's block gives its rules -/
structure Blk (Sx S' : Sc) (scope : Scope) (own : List (Str × Nat)) : Prop where
  ok : BlkOk Sx.N Sx.sc scope own
  sc : S'.sc = relS scope Sx.sc
  N : S'.N = Sx.N
  tab : tabB S' = true
/-- a context of a block over X -/
def InBlk (X : Cx) (scope : Scope) (X' : Cx) : Prop := ∃ s H C cl fp, X' = X.blk s H scope (compEnvC scope cl C X.env) fp

theorem dx_lc {β : Type} {g : TG} {r : β → As} {ys : List β} {own : List (Str × Nat)} {u : β → Ctx → Ctx} {Γ : List (Option As)} {lk : List Addr} {S' : Sc} (μs : Nat → List Cell) (bs : Nat → Bool) (zs : Nat → As) (Ct Ce : Nat → Ctx) (res : Nat → List As)
    (xf : Xf Sx X) (B : Blk Sx S' scope own) (hi : DI X F tg iter C r ys ⟨Γ, μs 0, lk⟩) (hg : ∀ X', InBlk X scope X' → Xf S' X' → PG X' tg g)
    (gok : ∀ F, GOk F g (own.map (·.2)) r u) (hr0 : res 0 = []) (hrs : ∀ k, k < ys.length → res (k + 1) = if bs k = true then res k ++ [zs k] else res k) (hlen : ys.length ≤ sizeLine)
    (hct : ∀ k, (Ct k).lk = [] ∧ (bs k = false → (Ct k).μ = μs (k + 1))) (hce : ∀ k, (Ce k).lk = [] ∧ (Ce k).μ = μs (k + 1))
    (htt : ∀ (k : Nat) (y : β) F' X', InBlk X scope X' → Xf S' X' → ys[k]? = some y → DTs X' F' ifs (u y ⟨wipeA Γ (own.map (·.2)), μs k, []⟩) (bs k) (Ct k))
    (hte : ∀ (k : Nat) (y : β) F' X', InBlk X scope X' → Xf S' X' → ys[k]? = some y → bs k = true → De X' F' elt (Ct k) (zs k) (Ce k))
    (hmono : ∀ (y : β) (C : Ctx), (u y C).μ = C.μ ∧ (u y C).lk = C.lk) (hs : ∀ x, foldedSetIterable iter X.env x = pure x := by intro _; rfl) :
    DX X F (.ListComp elt [⟨tg, iter, ifs, 0⟩] scope pos) C (fun _ : Addr => True) sAt (fun l => Ctx.cell ⟨Γ, μs ys.length, lk⟩ (cL l (res ys.length))) := by
  let tt : TT := fun σ H Q => ∃ t : {t : Nat × β × Fr // ys[t.1]? = some t.2.1}, tDT t.1.2.2 (u t.1.2.1 ⟨wipeA Γ (own.map (·.2)), μs t.1.1, []⟩) (bs t.1.1) (Ct t.1.1) σ H Q
  let te : TE := fun σ H Q => ∃ t : {t : Nat × β × Fr // ys[t.1]? = some t.2.1 ∧ bs t.1 = true}, tD t.1.2.2 (Ct t.1.1) (zs t.1.1) (Ce t.1.1) σ H Q
  refine peW (pe_lc (own := own) (g := g) (tt := tt) (te := te) xf.calm (by rw [xf.hN]; exact xf.nd) hi (by rw [xf.hN, xf.hsc]; exact B.ok) (fun s H C cl fp => hg _ ⟨s, H, C, cl, fp, rfl⟩ (xf.blk B.sc B.N B.tab s H C cl fp)) (fun s H C cl fp => ?_) (fun s H C cl fp => ?_) hs) ?_
  · exact ⟨fun pins s' σ H' Q I ⟨t, h⟩ => (htt t.1.1 t.1.2.1 t.1.2.2 _ ⟨s, H, C, cl, fp, rfl⟩ (xf.blk B.sc B.N B.tab s H C cl fp) t.2).run pins s' σ H' Q I h⟩
  · exact ⟨fun pins s' σ H' Q I ⟨t, h⟩ => (hte t.1.1 t.1.2.1 t.1.2.2 _ ⟨s, H, C, cl, fp, rfl⟩ (xf.blk B.sc B.N B.tab s H C cl fp) t.2.1 t.2.2).run pins s' σ H' Q I h⟩
  · rintro σ H Q ⟨P, k, q⟩
    refine ⟨P, k, fun J P1 H1 k1 m1 jok => ?_⟩
    exact lc_read (wi := tDI F C r ys ⟨Γ, μs 0, lk⟩) μs bs zs Ct Ce res gok hr0 hrs hlen hct hce σ H1 Q P1 J k1 jok (fun k y F' σ H Q e h => ⟨⟨(k, y, F'), e⟩, h⟩) (fun k y F' σ H Q e hb h => ⟨⟨(k, y, F'), e, hb⟩, h⟩) (fun _ => hmono) fun D v P' H' k' m e => q D v P' H' trivial k' (m1.trans m) e
/-- name = [..] -/
theorem db_setLc {β : Type} {g : TG} {r : β → As} {ys : List β} {own : List (Str × Nat)} {u : β → Ctx → Ctx} {Γ : List (Option As)} {lk : List Addr} {S' : Sc} (μs : Nat → List Cell) (bs : Nat → Bool) (zs : Nat → As) (Ct Ce : Nat → Ctx) (res : Nat → List As)
    (xf : Xf Sx X) (i : Nat) (B : Blk Sx S' scope own) (hi : DI X F tg iter C r ys ⟨Γ, μs 0, lk⟩) (hg : ∀ X', InBlk X scope X' → Xf S' X' → PG X' tg g)
    (gok : ∀ F, GOk F g (own.map (·.2)) r u) (hr0 : res 0 = []) (hrs : ∀ k, k < ys.length → res (k + 1) = if bs k = true then res k ++ [zs k] else res k) (hlen : ys.length ≤ sizeLine)
    (hct : ∀ k, (Ct k).lk = [] ∧ (bs k = false → (Ct k).μ = μs (k + 1))) (hce : ∀ k, (Ce k).lk = [] ∧ (Ce k).μ = μs (k + 1))
    (htt : ∀ (k : Nat) (y : β) F' X', InBlk X scope X' → Xf S' X' → ys[k]? = some y → DTs X' F' ifs (u y ⟨wipeA Γ (own.map (·.2)), μs k, []⟩) (bs k) (Ct k))
    (hte : ∀ (k : Nat) (y : β) F' X', InBlk X scope X' → Xf S' X' → ys[k]? = some y → bs k = true → De X' F' elt (Ct k) (zs k) (Ce k))
    (hmono : ∀ (y : β) (C : Ctx), (u y C).μ = C.μ ∧ (u y C).lk = C.lk) (hrest : ∀ l, DB X F rest (Ctx.put (Ctx.cell ⟨Γ, μs ys.length, lk⟩ (cL l (res ys.length))) i (sAt l)) O)
    (hN : Sx.N[i]? = some x := by rfl) (hyl : Sx.sc.names.lookup x = some .local := by first | rfl | decide +kernel) (hkf : Sx.sc.kind = .function := by rfl) (hl : (pos'.line == pos.line) = true := by rfl)
    (ha : (scope.names.any fun (n, k) => n == x && (k == .local || k == .cell)) = false := by first | rfl | decide +kernel) (hs : ∀ x, foldedSetIterable iter X.env x = pure x := by intro _; rfl) :
    DB X F (.Assign [.Name x pos'] (.ListComp elt [⟨tg, iter, ifs, 0⟩] scope pos) p :: rest) C O := by
  let tt : TT := fun σ H Q => ∃ t : {t : Nat × β × Fr // ys[t.1]? = some t.2.1}, tDT t.1.2.2 (u t.1.2.1 ⟨wipeA Γ (own.map (·.2)), μs t.1.1, []⟩) (bs t.1.1) (Ct t.1.1) σ H Q
  let te : TE := fun σ H Q => ∃ t : {t : Nat × β × Fr // ys[t.1]? = some t.2.1 ∧ bs t.1 = true}, tD t.1.2.2 (Ct t.1.1) (zs t.1.1) (Ce t.1.1) σ H Q
  have h2' : PSs X rest (fun D σ H => ∃ l : Addr, tS F (Ctx.put (Ctx.cell ⟨Γ, μs ys.length, lk⟩ (cL l (res ys.length))) i (sAt l)) O D σ H) := pssEx hrest
  refine pssW (pss_cons (ps_setLc (i := i) (own := own) (g := g) (tt := tt) (te := te) xf.calm (by rw [xf.hN]; exact xf.nd) (by rw [xf.hN]; exact hN) (by rw [xf.hsc]; exact hyl) (sw_true (by rw [xf.hsc]; exact hkf) (by rw [xf.hsc]; exact hyl) hl ha) hi (by rw [xf.hN, xf.hsc]; exact B.ok) (fun s H C cl fp => hg _ ⟨s, H, C, cl, fp, rfl⟩ (xf.blk B.sc B.N B.tab s H C cl fp)) (fun s H C cl fp => ?_) (fun s H C cl fp => ?_) hs) h2') ?_
  · exact ⟨fun pins s' σ H' Q I ⟨t, h⟩ => (htt t.1.1 t.1.2.1 t.1.2.2 _ ⟨s, H, C, cl, fp, rfl⟩ (xf.blk B.sc B.N B.tab s H C cl fp) t.2).run pins s' σ H' Q I h⟩
  · exact ⟨fun pins s' σ H' Q I ⟨t, h⟩ => (hte t.1.1 t.1.2.1 t.1.2.2 _ ⟨s, H, C, cl, fp, rfl⟩ (xf.blk B.sc B.N B.tab s H C cl fp) t.2.1 t.2.2).run pins s' σ H' Q I h⟩
  · rintro D σ H ⟨P, k, q⟩
    refine ⟨P, k, fun J P1 H1 k1 m1 jok => ?_⟩
    exact lc_read (wi := tDI F C r ys ⟨Γ, μs 0, lk⟩) (tt := tt) (te := te) μs bs zs Ct Ce res gok hr0 hrs hlen hct hce σ H1 (fun z H1 => ∃ l : Addr, tS F (Ctx.put (Ctx.cell ⟨Γ, μs ys.length, lk⟩ (cL l (res ys.length))) i (sAt l)) O D (σ.set i (some z)) H1) P1 J k1 jok (fun k y F' σ H Q e h => ⟨⟨(k, y, F'), e⟩, h⟩) (fun k y F' σ H Q e hb h => ⟨⟨(k, y, F'), e, hb⟩, h⟩) (fun _ => hmono) fun l v P' H' k' m e => ⟨l, P', k'.put (i := i) (s := sAt l) e, Fol.later q (m1.trans m)⟩

/-! ### while -/
theorem ds_while {ι : Type} (I : ι → Ctx → Prop) (m : ι → Nat) (i0 : ι) (hp : PassesOwn (model X.prog X.w) X.A X.env X.xe) (h0 : I i0 C) (b : ι → Ctx → Bool) (Cc : ι → Ctx → Ctx)
    (hc : ∀ i C', I i C' → DT X F c C' (b i C') (Cc i C')) (hb : ∀ i C', I i C' → b i C' = true → DB X F body (Cc i C') { O with nx := fun C2 => ∃ j, m j < m i ∧ I j C2, ct := fun C2 => ∃ j, m j < m i ∧ I j C2, bk := O.nx })
    (hd : ∀ i C', I i C' → b i C' = false → O.nx (Cc i C')) : DS X F (.While c body [] pos) C O := by
  have hc' : PT X c (fun σ H Q => ∃ t : {t : ι × Ctx // I t.1 t.2}, tDT F t.1.2 (b t.1.1 t.1.2) (Cc t.1.1 t.1.2) σ H Q) := ⟨fun pins s σ H Q I' ⟨t, h⟩ => (hc t.1.1 t.1.2 t.2).run pins s σ H Q I' h⟩
  have hb' : PSs X body (fun D σ H => ∃ t : {t : ι × Ctx // I t.1 t.2 ∧ b t.1 t.2 = true}, tS F (Cc t.1.1 t.1.2) { O with nx := fun C2 => ∃ j, m j < m t.1.1 ∧ I j C2, ct := fun C2 => ∃ j, m j < m t.1.1 ∧ I j C2, bk := O.nx } D σ H) := pssEx fun t => hb t.1.1 t.1.2 t.2.1 t.2.2
  refine psW (ps_while hp hc' hb') ?_
  rintro D σ H ⟨P, k, q⟩
  refine ⟨fun n σ H => ∃ i C2 P2, m i = n ∧ I i C2 ∧ Ok F C2 σ P2 H ∧ Same P P2, ⟨m i0, i0, C, P, rfl, h0, k, Same.refl _⟩, ?_⟩
  rintro n σ2 H2 ⟨i, C2, P2, hm, hI, k2, m2⟩
  refine ⟨⟨(i, C2), hI⟩, P2, k2, fun P3 H3 k3 m3 => ?_⟩
  cases hbb : b i C2 with
  | true =>
    rw [if_pos rfl]
    refine ⟨fun σ' H' => ∃ j C4 P4, m j < m i ∧ I j C4 ∧ Ok F C4 σ' P4 H' ∧ Same P P4, fun σ' H' ⟨j, C4, P4, a, b, c, d⟩ => ⟨m j, by omega, j, C4, P4, rfl, b, c, d⟩, ?_⟩
    refine ⟨⟨(i, C2), hI, hbb⟩, P3, k3, fun C' σ' P' H' ⟨j, a1, a2⟩ b' c' => ⟨j, C', P', a1, a2, b', (m2.trans m3).trans c'⟩, fun s C' v σ' P' H' a b' c' d => q.2.1 s C' v σ' P' H' a b' ((m2.trans m3).trans c') d, fun C' σ' P' H' a b' c' => q.1 C' σ' P' H' a b' ((m2.trans m3).trans c'), fun C' σ' P' H' ⟨j, a1, a2⟩ b' c' => ⟨j, C', P', a1, a2, b', (m2.trans m3).trans c'⟩⟩
  | false =>
    rw [if_neg Bool.false_ne_true]
    exact q.1 _ σ2 P3 H3 (hd i C2 hI hbb) k3 (m2.trans m3)
/-- zip of two lists of one length -/
theorem di_zip {β γ : Type} {r : β → As} {r2 : γ → As} {ys : List β} {zs : List γ} (xf : Xf Sx X) (jg : Nat) (hm : X.mg "zip" = none) (ha : De X F a C (sL (ys.map r)) C1) (hb : De X F b C1 (sL (zs.map r2)) C2) {elts : List Expr} {kk : Nat} {tpos : Pos} (hg : Sx.G[jg]? = some ("zip" : Str) := by rfl)
    (hs : starEach [a, b] X.env = (false, eval a X.env) :: starEach [b] X.env := by rfl) (hpl : (backTo pos (starEach [b] X.env)).any (·.1) = false := by rfl) (hs2 : starEach [b] X.env = (false, eval b X.env) :: starEach [] X.env := by rfl) :
    DI X F (.Tuple elts kk tpos) (.Call (.Name "zip" p) [a, b] [] pos) C (fun y : β × γ => sT [r y.1, r2 y.2]) (ys.zip zs) C2 := by
  refine piW (pi_zip (xf.gl jg hg) hm (da_cons ha (da_cons hb da_nil hs2) hs) hs hpl) ?_
  rintro σ H R ⟨P, k, q⟩
  refine ⟨P, k, fun vs P1 H1 k1 m1 hvs => ?_⟩
  obtain ⟨v, w', rfl, ⟨a, xs, rfl, hp, hr⟩, ⟨b', xs2, rfl, hp2, hr2⟩⟩ := each2 hvs
  have hl := hr.len
  have hl2 := hr2.len
  rw [List.length_map] at hl hl2
  have fnd : ∀ (i : Nat) (y : β × γ), (ys.zip zs)[i]? = some y → ys[i]? = some y.1 ∧ zs[i]? = some y.2 := fun i y e => by
    rw [List.getElem?_zip_eq_some] at e
    exact e
  refine ⟨a, b', xs, xs2, rfl, SqL.of (k1.sub.lst hp), SqL.of (k1.sub.lst hp2), q _ P1 H1 k1 m1 ⟨fun P' H' m s => ?_, fun i y P' H' e m s => ?_, fun i y P' H' z H'' e m s hy C σ k' => ?_⟩⟩
  · refine ⟨xs, xs2, SqL.of (s.lst (m _ _ hp)), SqL.of (s.lst (m _ _ hp2)), ?_⟩
    rw [List.length_zip]
    omega
  · obtain ⟨e1, e2⟩ := fnd i y e
    obtain ⟨z, hz, _⟩ := hr.get' (i := i) (s := r y.1) (by rw [List.getElem?_map, e1]; rfl)
    obtain ⟨z2, hz2, _⟩ := hr2.get' (i := i) (s := r2 y.2) (by rw [List.getElem?_map, e2]; rfl)
    exact ⟨xs, xs2, z, z2, SqL.of (s.lst (m _ _ hp)), SqL.of (s.lst (m _ _ hp2)), hz, hz2⟩
  · obtain ⟨e1, e2⟩ := fnd i y e
    obtain ⟨u, hu, hr'⟩ := hr.get' (i := i) (s := r y.1) (by rw [List.getElem?_map, e1]; rfl)
    obtain ⟨u2, hu2, hr2'⟩ := hr2.get' (i := i) (s := r2 y.2) (by rw [List.getElem?_map, e2]; rfl)
    obtain ⟨T, x, x2, rfl, hT, rfl, hx, hx2⟩ := hy
    have e3 := hx xs (SqL.of (s.lst (m _ _ hp)))
    have e4 := hx2 xs2 (SqL.of (s.lst (m _ _ hp2)))
    rw [hu] at e3
    rw [hu2] at e4
    cases e3
    cases e4
    obtain ⟨k2, m2⟩ := k'.laid (o := .tup [u, u2]) hT
    exact ⟨_, m2, k2, T, _, rfl, upd_same, (r y.1).mono (m.trans m2) hr', (r2 y.2).mono (m.trans m2) hr2', trivial⟩

/-! ### a def by its body -/
def outs (S : FS) (i : S.ι) : Out := { nx := fun C => ∃ kk rest, S.post i kk ∧ (∀ P, (S.res i kk).holds P .non) ∧ C.μ = S.μ' i kk ++ rest ∧ C.lk = [], rt := fun s C => ∃ kk rest, S.post i kk ∧ (∀ P v, s.holds P v → (S.res i kk).holds P v) ∧ C.μ = S.μ' i kk ++ rest ∧ C.lk = [] }
/-- the slots at the entry -/
def ent (n : Nat) (ss : List As) : List (Option As) := ss.map some ++ List.replicate (n - ss.length) none
theorem ent_ok {F : Fr} {μ : List Cell} {vs : List V} {N : List Str} (hs : Sub P H) (hP : F.P0 = P) (hH : F.H0 = H) (hl : F.ls = μ.map (·.ad)) (hv : Each P ss vs) (hc : CellsIn P H μ) : Ok F ⟨ent N.length ss, μ, []⟩ (L2.start N vs) P H := by
  subst hP hH
  refine ⟨hs, Same.refl _, fun a o e _ _ => e, fun a ha => absurd ha (by simp), fun a o e => .inl e, ?_, fun i t e => ?_, fun c hm => ?_, hc.2⟩
  · unfold ent L2.start
    simp [hv.len]
  · have e : (ent N.length ss)[i]? = some (some t) := e
    unfold ent at e
    have hi : i < ss.length := by
      by_cases hi : i < ss.length
      · exact hi
      · rw [List.getElem?_append_right (by simpa using hi), List.getElem?_replicate] at e
        split at e <;> cases e
    rw [List.getElem?_append_left (by simpa using hi), List.getElem?_map] at e
    cases h : ss[i]? with
    | none => rw [h] at e; cases e
    | some z =>
      rw [h] at e
      have e : z = t := Option.some.inj (Option.some.inj e)
      subst e
      obtain ⟨v, h1, h2⟩ := hv.get' h
      refine ⟨v, ?_, h2⟩
      unfold L2.start
      rw [List.getElem?_append_left (by rw [List.length_map, hv.len]; exact hi), List.getElem?_map, h1]
      rfl
  · obtain ⟨h1, h2⟩ := hc.1 c hm
    exact ⟨h1, h2, .inr (by rw [hl]; exact List.mem_map.mpr ⟨c, hm, rfl⟩), by simp⟩
variable {Pg : Program} {w : World} {K : PySem.W.Frag} {mg : Str → Option Value} {base : Heap}
theorem fn_ok {qual : Str} {f : Addr} {fd : FuncData} {ps : List Str} {kL : Nat} {S : FS} (Fu : Fun K x qual st f fd) (sc : FnScope Sx.N ps (defScope st)) (hS : Sx.sc = defScope st) (htab : tabC Sx = true) (hlen : ∀ i, (S.ar i).length = ps.length)
    (hb : ∀ (X : Cx) (F : Fr) (i : S.ι), X.prog = Pg → X.w = w → X.K = K → X.mg = mg → X.base = base → Xf Sx X → Room kL X.A → PassesOwn (model X.prog X.w) X.A X.env X.xe → S.pre i → DB X F (defBody st) ⟨ent Sx.N.length (S.ar i), S.μ i, []⟩ (outs S i)) : FnOk Pg w K mg base CX0 (kL + 1) f fd ps S.sp := by
  refine Fu.ok sc (fun vs H Q E h => ?_) (fun cdv A outer s H vs Q E hr h => ?_)
  · obtain ⟨i, P, _, _, hv, _⟩ := h
    rw [hv.len, hlen]
  · obtain ⟨i, P, hp, hs, hv, hc, q⟩ := h
    refine ⟨_, hb _ ⟨H, P, (S.μ i).map (·.ad)⟩ i rfl rfl rfl rfl rfl (Xf.mk' htab rfl rfl hS.symm fun _ => rfl) hr PassesOwn.never hp, ?_⟩
    refine ⟨P, ent_ok hs rfl rfl rfl hv hc, ?_, ?_, fun _ _ _ _ h => h.elim, fun _ _ _ _ h => h.elim⟩
    · rintro C' σ' P' H' ⟨kk, rest, h1, h2, h3, h4⟩ k' m
      exact q kk .non P' H' h1 k'.sub m (fun a o e n => k'.mods a o e n (by rw [h4]; simp)) k'.new (h2 P') ⟨fun c hc => by
        obtain ⟨a, b, d, _⟩ := k'.cells c (by rw [h3]; exact List.mem_append_left _ hc)
        exact ⟨a, b, d⟩, by
        have := k'.nd
        rw [h3, List.map_append, List.nodup_append] at this
        exact this.1⟩
    · rintro s C' v σ' P' H' ⟨kk, rest, h1, h2, h3, h4⟩ k' m hv'
      exact q kk v P' H' h1 k'.sub m (fun a o e n => k'.mods a o e n (by rw [h4]; simp)) k'.new (h2 P' v hv') ⟨fun c hc => by
        obtain ⟨a, b, d, _⟩ := k'.cells c (by rw [h3]; exact List.mem_append_left _ hc)
        exact ⟨a, b, d⟩, by
        have := k'.nd
        rw [h3, List.map_append, List.nodup_append] at this
        exact this.1⟩
end
end L3

/-! L3, part h: methods, slices, in, ==, dicts, fields, making. -/
namespace L3
open PySem PySem.Spec L2

section
variable {X : Cx} {F : Fr} {Sx : Sc} {C C1 C2 C3 : Ctx} {s s1 s2 s3 : As} {pos p pos' apos : Pos} {a b c e o : Expr} {b1 b2 : Bool} {es : List Expr} {ss rr : List As} {x y : Str} {σ : L2.St} {P H : Hp} {O : Out} {st : Stmt} {sts rest body orelse : List Stmt}

/-! ### built-in methods -/
/-- o.m(e, ..): the type told at the object's own context -/
theorem de_bm {T id : String} {name : Str} {r : V → List V → Hp → VK → Prop} (pa : PySem.PlainAttrs T) (slot : PySem.Slot T name id) (hty : PySem.typeOf (.builtin id) = pure (.type "method_descriptor")) (hm : MtR X id r) (ho : De X F o C s1 C1) (ha : DA X F (e :: es) C1 ss C2)
    (hT : ∀ (σ : L2.St) (P H : Hp) (v : V), Ok F C1 σ P H → s1.holds P v → tyV X.K T v H)
    (hr : ∀ (σ : L2.St) (P H : Hp) (v : V) (vs : List V) (Q : VK), Ok F C2 σ P H → s1.holds P v → Each P ss vs → (∀ z P' H', Ok F C3 σ P' H' → Same P P' → s.holds P' z → Q z H') → r v vs H Q)
    (hbase : attributeBase o name X.env (eval o X.env) = eval o X.env := by rfl)
    (hfew : ((backTo pos (starEach (e :: es) X.env)).all (fun x => !x.1) && (backToKw pos (keywordEach [] X.env)).all (fun x => x.1.isSome)
      && decide ((e :: es).length + ([] : List Keyword).length + (if ([] : List Keyword).isEmpty then 0 else 1) < 30)) = true := by rfl)
    (hline : (apos.endLine == pos.line) = true := by rfl) (hs : starEach (e :: es) X.env = (false, eval e X.env) :: starEach es X.env := by rfl)
    (hplain : (backTo pos (starEach es X.env)).any (·.1) = false := by rfl) :
    De X F (.Call (.Attribute o name apos) (e :: es) [] pos) C s C3 := by
  refine peW (pe_bm pa slot hty hm ho ha hbase hfew hline hs hplain) ?_
  rintro σ H Q ⟨P, k, q⟩
  refine ⟨P, k, fun v P1 H1 k1 m1 hv => ⟨hT σ P1 H1 v k1 hv, P1, k1, fun vs P2 H2 k2 m2 hvs => ?_⟩⟩
  exact hr σ P2 H2 v vs Q k2 (s1.mono m2 hv) hvs fun z P' H' k' m' hz => q z P' H' k' ((m1.trans m2).trans m') hz
theorem de_bm0 {T id : String} {name : Str} {r : V → List V → Hp → VK → Prop} (pa : PySem.PlainAttrs T) (slot : PySem.Slot T name id) (hty : PySem.typeOf (.builtin id) = pure (.type "method_descriptor")) (hm : MtR X id r) (ho : De X F o C s1 C1)
    (hT : ∀ (σ : L2.St) (P H : Hp) (v : V), Ok F C1 σ P H → s1.holds P v → tyV X.K T v H)
    (hr : ∀ (σ : L2.St) (P H : Hp) (v : V) (Q : VK), Ok F C1 σ P H → s1.holds P v → (∀ z P' H', Ok F C3 σ P' H' → Same P P' → s.holds P' z → Q z H') → r v [] H Q)
    (hbase : attributeBase o name X.env (eval o X.env) = eval o X.env := by rfl) (hline : (apos.endLine == pos.line) = true := by rfl) :
    De X F (.Call (.Attribute o name apos) [] [] pos) C s C3 := by
  refine peW (pe_bm0 pa slot hty hm ho hbase hline) ?_
  rintro σ H Q ⟨P, k, q⟩
  refine ⟨P, k, fun v P1 H1 k1 m1 hv => ⟨hT σ P1 H1 v k1 hv, ?_⟩⟩
  exact hr σ P1 H1 v Q k1 hv fun z P' H' k' m' hz => q z P' H' k' (m1.trans m') hz
/-- l.append(e) -/
theorem de_append {l : Addr} {Γ : List (Option As)} {μ : List Cell} {lk : List Addr} (n m : Nat) (ho : De X F o C (sAt l) C1) (hc1 : C1.μ[m]? = some (cL l rr) := by rfl) (ha : DA X F [e] C1 [s] ⟨Γ, μ, lk⟩) (hc : μ[n]? = some (cL l ss) := by rfl) (hlen : ss.length < sizeLine)
    (hbase : attributeBase o "append" X.env (eval o X.env) = eval o X.env := by rfl)
    (hfew : ((backTo pos (starEach [e] X.env)).all (fun x => !x.1) && (backToKw pos (keywordEach [] X.env)).all (fun x => x.1.isSome)
      && decide (([e] : List Expr).length + ([] : List Keyword).length + (if ([] : List Keyword).isEmpty then 0 else 1) < 30)) = true := by rfl)
    (hline : (apos.endLine == pos.line) = true := by rfl) (hs : starEach [e] X.env = (false, eval e X.env) :: starEach [] X.env := by rfl)
    (hplain : (backTo pos (starEach [] X.env)).any (·.1) = false := by rfl) :
    De X F (.Call (.Attribute o "append" apos) [e] [] pos) C sN ⟨Γ, μ.set n (cL l (ss ++ [s])), lk⟩ := by
  refine de_bm PySem.F.plainAttrs_list PySem.F.slot_list_append PySem.F.type_list_append mt_append ho ha (fun σ P H v k hv => ?_) (fun σ P H v vs Q k hv hvs q => ?_) hbase hfew hline hs hplain
  · obtain ⟨_, ⟨u, h2, xs, rfl, _⟩, _⟩ := k.cells _ (List.mem_of_getElem? hc1)
    have hv : v = .ref l := hv
    subst hv
    exact .inl ⟨rfl, _, SqL.of h2⟩
  · obtain ⟨_, ⟨u, h2, xs, rfl, hx⟩, _⟩ := k.cells _ (List.mem_of_getElem? hc)
    have hv : v = .ref l := hv
    subst hv
    obtain ⟨w, rfl, hw⟩ := each1 hvs
    refine ⟨l, xs, w, rfl, rfl, h2, by rw [hx.len]; exact hlen, q _ P _ (k.writeAt (c' := cL l (ss ++ [s])) hc rfl ⟨_, rfl, ?_⟩) (Same.refl _) rfl⟩
    exact hx.append ⟨hw, trivial⟩
/-- l.extend(list) -/
theorem de_extend {l : Addr} {Γ : List (Option As)} {μ : List Cell} {lk : List Addr} (n m : Nat) (ho : De X F o C (sAt l) C1) (hc1 : C1.μ[m]? = some (cL l rr) := by rfl) {qq : List As} (ha : DA X F [e] C1 [sL qq] ⟨Γ, μ, lk⟩) (hc : μ[n]? = some (cL l ss) := by rfl) (hlen : ss.length + qq.length ≤ sizeLine)
    (hbase : attributeBase o "extend" X.env (eval o X.env) = eval o X.env := by rfl)
    (hfew : ((backTo pos (starEach [e] X.env)).all (fun x => !x.1) && (backToKw pos (keywordEach [] X.env)).all (fun x => x.1.isSome)
      && decide (([e] : List Expr).length + ([] : List Keyword).length + (if ([] : List Keyword).isEmpty then 0 else 1) < 30)) = true := by rfl)
    (hline : (apos.endLine == pos.line) = true := by rfl) (hs : starEach [e] X.env = (false, eval e X.env) :: starEach [] X.env := by rfl)
    (hplain : (backTo pos (starEach [] X.env)).any (·.1) = false := by rfl) :
    De X F (.Call (.Attribute o "extend" apos) [e] [] pos) C sN ⟨Γ, μ.set n (cL l (ss ++ qq)), lk⟩ := by
  refine de_bm PySem.F.plainAttrs_list PySem.F.slot_list_extend PySem.F.type_list_extend mt_extend ho ha (fun σ P H v k hv => ?_) (fun σ P H v vs Q k hv hvs q => ?_) hbase hfew hline hs hplain
  · obtain ⟨_, ⟨u, h2, xs, rfl, _⟩, _⟩ := k.cells _ (List.mem_of_getElem? hc1)
    have hv : v = .ref l := hv
    subst hv
    exact .inl ⟨rfl, _, SqL.of h2⟩
  · obtain ⟨_, ⟨u, h2, xs, rfl, hx⟩, _⟩ := k.cells _ (List.mem_of_getElem? hc)
    have hv : v = .ref l := hv
    subst hv
    obtain ⟨w, rfl, z, zs, rfl, hz, hzs⟩ := each1 hvs
    refine ⟨l, z, xs, zs, rfl, rfl, h2, k.sub.lst hz, by rw [hx.len, hzs.len]; exact hlen, q _ P _ (k.writeAt (c' := cL l (ss ++ qq)) hc rfl ⟨_, rfl, ?_⟩) (Same.refl _) rfl⟩
    exact hx.append hzs
/-- texts' methods: one text from another -/
theorem ty_str {v : V} {z : Str} (h : (sS z).holds P v) : tyV X.K "str" v H := by
  have h : v = .str z := h
  subst h
  rfl
theorem de_startswith {z w : Str} (ho : De X F o C (sS z) C1) (ha : De X F e C1 (sS w) C2)
    (hbase : attributeBase o "startswith" X.env (eval o X.env) = eval o X.env := by rfl)
    (hfew : ((backTo pos (starEach [e] X.env)).all (fun x => !x.1) && (backToKw pos (keywordEach [] X.env)).all (fun x => x.1.isSome)
      && decide (([e] : List Expr).length + ([] : List Keyword).length + (if ([] : List Keyword).isEmpty then 0 else 1) < 30)) = true := by rfl)
    (hline : (apos.endLine == pos.line) = true := by rfl) (hs : starEach [e] X.env = (false, eval e X.env) :: starEach [] X.env := by rfl)
    (hplain : (backTo pos (starEach [] X.env)).any (·.1) = false := by rfl) :
    De X F (.Call (.Attribute o "startswith" apos) [e] [] pos) C (sB (Txt.startswith z w)) C2 := by
  refine de_bm PySem.F.plainAttrs_str PySem.F.slot_str_startswith PySem.F.type_str_startswith mt_startswith ho (da_cons ha da_nil hs) (fun σ P H v k hv => ty_str hv) (fun σ P H v vs Q k hv hvs q => ?_) hbase hfew hline hs hplain
  obtain ⟨u, rfl, rfl⟩ := each1 hvs
  exact ⟨z, w, hv, rfl, q _ P H k (Same.refl _) rfl⟩
theorem de_join {z : Str} {ys : List Str} (ho : De X F o C (sS z) C1) (ha : De X F e C1 (sL (ys.map sS)) C2) (hl : (ys.map (·.length)).sum + ys.length * z.length ≤ 16777216)
    (hbase : attributeBase o "join" X.env (eval o X.env) = eval o X.env := by rfl)
    (hfew : ((backTo pos (starEach [e] X.env)).all (fun x => !x.1) && (backToKw pos (keywordEach [] X.env)).all (fun x => x.1.isSome)
      && decide (([e] : List Expr).length + ([] : List Keyword).length + (if ([] : List Keyword).isEmpty then 0 else 1) < 30)) = true := by rfl)
    (hline : (apos.endLine == pos.line) = true := by rfl) (hs : starEach [e] X.env = (false, eval e X.env) :: starEach [] X.env := by rfl)
    (hplain : (backTo pos (starEach [] X.env)).any (·.1) = false := by rfl) :
    De X F (.Call (.Attribute o "join" apos) [e] [] pos) C (sS (Txt.join z ys)) C2 := by
  refine de_bm PySem.F.plainAttrs_str PySem.F.slot_str_join PySem.F.type_str_join mt_join ho (da_cons ha da_nil hs) (fun σ P H v k hv => ty_str hv) (fun σ P H v vs Q k hv hvs q => ?_) hbase hfew hline hs hplain
  obtain ⟨u, rfl, a, xs, rfl, hp, hx⟩ := each1 hvs
  have e := each_map (f := V.str) (fun _ _ h => h) hx
  subst e
  exact ⟨z, a, ys, hv, rfl, .inl (SqL.of (k.sub.lst hp)), hl, q _ P H k (Same.refl _) rfl⟩

/-! ### slices -/
def DO (X : Cx) (F : Fr) (e : Option Expr) (C : Ctx) (i : Option Int) (C' : Ctx) : Prop := PO X e (fun σ H Q => ∃ P, Ok F C σ P H ∧ ∀ P' H', Ok F C' σ P' H' → Same P P' → Q i H')
theorem do_none : DO X F none C none C := ⟨fun pins s σ H Q I ⟨P, k, q⟩ => po_none.run pins s σ H Q I (q P H k (Same.refl _))⟩
theorem do_some {i : Int} (h : De X F e C (sI i) C1) : DO X F (some e) C (some i) C1 := ⟨fun pins s σ H Q I ⟨P, k, q⟩ => (po_some h).run pins s σ H Q I ⟨P, k, fun v P' H' k' m hv => ⟨i, hv, q P' H' k' m⟩⟩⟩
variable {lo hi : Option Expr} {p2 : Pos} {il ih : Option Int}
theorem de_slS {z : Str} (he : De X F e C (sS z) C1) (hl : DO X F lo C1 il C2) (hh : DO X F hi C2 ih C3) (hz : z.length ≤ sizeLine) : De X F (.Subscript e (.Slice lo hi none p2) pos) C (sS (cutS z il ih)) C3 := by
  refine peW (pe_slice sl_str he hl hh) ?_
  rintro σ H Q ⟨P, k, q⟩
  exact ⟨P, k, fun v P1 H1 k1 m1 hv => ⟨P1, k1, fun P2 H2 k2 m2 => ⟨P2, k2, fun P3 H3 k3 m3 => ⟨z, hv, hz, q _ P3 H3 k3 ((m1.trans m2).trans m3) rfl⟩⟩⟩⟩
theorem each_drop : ∀ (i : Nat) {ss : List As} {vs : List V}, Each P ss vs → Each P (ss.drop i) (vs.drop i)
  | 0, _, _, h => h
  | _ + 1, [], [], _ => trivial
  | i + 1, _ :: _, _ :: _, h => each_drop i h.2
  | _ + 1, [], _ :: _, h => h.elim
  | _ + 1, _ :: _, [], h => h.elim
theorem each_take : ∀ (j : Nat) {ss : List As} {vs : List V}, Each P ss vs → Each P (ss.take j) (vs.take j)
  | 0, _, _, _ => by simp [Each]
  | _ + 1, [], [], _ => trivial
  | j + 1, _ :: _, _ :: _, h => ⟨h.1, each_take j h.2⟩
  | _ + 1, [], _ :: _, h => h.elim
  | _ + 1, _ :: _, [], h => h.elim
def cutA {α : Type} (xs : List α) (lo hi : Option Int) : List α := (xs.drop (HT.sIx xs.length 0 lo)).take (HT.sIx xs.length xs.length hi - HT.sIx xs.length 0 lo)
theorem de_slL (he : De X F e C (sL ss) C1) (hl : DO X F lo C1 il C2) (hh : DO X F hi C2 ih C3) : De X F (.Subscript e (.Slice lo hi none p2) pos) C (sL (cutA ss il ih)) C3 := by
  refine peW (pe_slice sl_list he hl hh) ?_
  rintro σ H Q ⟨P, k, q⟩
  refine ⟨P, k, fun v P1 H1 k1 m1 hv => ⟨P1, k1, fun P2 H2 k2 m2 => ⟨P2, k2, fun P3 H3 k3 m3 => ?_⟩⟩⟩
  obtain ⟨a, xs, rfl, hp, hx⟩ := (sL ss).mono (m2.trans m3) hv
  refine ⟨a, xs, rfl, SqL.of (k3.sub.lst hp), fun l hl => ?_⟩
  obtain ⟨k4, m4⟩ := k3.laid (o := .lst (cutV xs il ih)) hl
  have hc : Each P3 (cutA ss il ih) (cutV xs il ih) := by
    unfold cutV cutA
    rw [hx.len]
    exact each_take (HT.sIx ss.length ss.length ih - HT.sIx ss.length 0 il) (each_drop (HT.sIx ss.length 0 il) hx)
  exact q _ _ _ k4 (((m1.trans m2).trans m3).trans m4) ⟨l, _, rfl, upd_same, hc.mono m4⟩

/-! ### lists put together -/
theorem de_cat (ha : De X F a C (sL ss) C1) (hb : De X F b C1 (sL rr) C2) (hl : ss.length + rr.length ≤ sizeLine) : De X F (.BinOp a .Add b pos) C (sL (ss ++ rr)) C2 := by
  refine de_opN op_cat ha hb fun σ P H v u Q k ⟨p, vs, e1, hp, hv⟩ ⟨p', us, e2, hp', hu⟩ q => ?_
  refine ⟨p, p', vs, us, e1, e2, k.sub.lst hp, k.sub.lst hp', by rw [hv.len, hu.len]; exact hl, fun l hl => ?_⟩
  obtain ⟨k2, m2⟩ := k.laid (o := .lst (vs ++ us)) hl
  exact q _ _ _ k2 m2 ⟨l, _, rfl, upd_same, (hv.append hu).mono m2⟩

/-! ### in -/
theorem inV_int {i : Int} : ∀ {xs : List Int}, inV (.int i) (xs.map V.int) = decide (i ∈ xs)
  | [] => rfl
  | x :: xs => by
    have ih := inV_int (i := i) (xs := xs)
    unfold inV at ih ⊢
    rw [List.map_cons, List.any_cons, ih]
    show ((x == i) || _) = _
    by_cases h : x = i
    · subst h; simp
    · have h' : ¬ i = x := fun e => h e.symm
      simp [h, h']
theorem inV_str {i : Str} : ∀ {xs : List Str}, inV (.str i) (xs.map V.str) = decide (i ∈ xs)
  | [] => rfl
  | x :: xs => by
    have ih := inV_str (i := i) (xs := xs)
    unfold inV at ih ⊢
    rw [List.map_cons, List.any_cons, ih]
    show ((x == i) || _) = _
    by_cases h : x = i
    · subst h; simp
    · have h' : ¬ i = x := fun e => h e.symm
      simp [h, h']
theorem flat_int {xs : List Int} : (xs.map V.int).all flatV = true := by simp [flatV]
theorem flat_str {xs : List Str} : (xs.map V.str).all flatV = true := by simp [flatV]
theorem cv_in {xs : List V} {v : V} {op : CmpOp} {neg : Bool} {c : Bool} (ho : OpR X (compareOp op) (rIn X.K neg)) (hv : ∀ P u, s1.holds P u → u = v) (hs : ∀ σ P H u, Ok F C σ P H → s2.holds P u → ∃ p, u = .ref p ∧ (SqL X.K H p xs ∨ SqT X.K H p xs)) (h1 : flatV v = true) (h2 : xs.all flatV = true) (hc : (if neg then !inV v xs else inV v xs) = c) : CmpV X F C op s1 s2 c :=
  ⟨_, ho, fun σ P H u w Q k hu hw q => by
    obtain ⟨p, rfl, hp⟩ := hs σ P H w k hw
    rw [hv P u hu]
    exact ⟨p, xs, rfl, hp, h1, h2, by rw [hc]; exact q⟩⟩
theorem seq_L {α : Type} {r : α → As} {f : α → V} {xs : List α} (hf : ∀ x v, (r x).holds P v → v = f x) (k : Sub P H) {u : V} (h : (sL (xs.map r)).holds P u) : ∃ p, u = .ref p ∧ (SqL X.K H p (xs.map f) ∨ SqT X.K H p (xs.map f)) := by
  obtain ⟨p, vs, e, hp, hv⟩ := h
  have e2 := each_map hf hv
  subst e2
  exact ⟨p, e, .inl (SqL.of (k.lst hp))⟩
theorem seq_T {α : Type} {r : α → As} {f : α → V} {xs : List α} (hf : ∀ x v, (r x).holds P v → v = f x) (k : Sub P H) {u : V} (h : (sT (xs.map r)).holds P u) : ∃ p, u = .ref p ∧ (SqL X.K H p (xs.map f) ∨ SqT X.K H p (xs.map f)) := by
  obtain ⟨p, vs, e, hp, hv⟩ := h
  have e2 := each_map hf hv
  subst e2
  exact ⟨p, e, .inr (SqT.of (k.tup hp))⟩
theorem seq_C {α : Type} {r : α → As} {f : α → V} {xs : List α} {l : Addr} (hf : ∀ x v, (r x).holds P v → v = f x) (k : Ok F C σ P H) (hc : cL l (xs.map r) ∈ C.μ) {u : V} (h : (sAt l).holds P u) : ∃ p, u = .ref p ∧ (SqL X.K H p (xs.map f) ∨ SqT X.K H p (xs.map f)) := by
  obtain ⟨_, ⟨w, h2, vs, rfl, hv⟩, _⟩ := k.cells _ hc
  have e2 := each_map hf hv
  subst e2
  exact ⟨l, h, .inl (SqL.of h2)⟩
theorem cv_inTI {i : Int} {xs : List Int} : CmpV X F C .In (sI i) (sT (xs.map sI)) (decide (i ∈ xs)) := cv_in op_in_seq (fun _ _ h => h) (fun σ P H u k h => seq_T (f := V.int) (fun _ _ h => h) k.sub h) rfl flat_int inV_int
theorem cv_inLI {i : Int} {xs : List Int} : CmpV X F C .In (sI i) (sL (xs.map sI)) (decide (i ∈ xs)) := cv_in op_in_seq (fun _ _ h => h) (fun σ P H u k h => seq_L (f := V.int) (fun _ _ h => h) k.sub h) rfl flat_int inV_int
theorem cv_niTI {i : Int} {xs : List Int} : CmpV X F C .NotIn (sI i) (sT (xs.map sI)) (!decide (i ∈ xs)) := cv_in op_notIn_seq (fun _ _ h => h) (fun σ P H u k h => seq_T (f := V.int) (fun _ _ h => h) k.sub h) rfl flat_int (congrArg (!·) inV_int)
theorem cv_niLI {i : Int} {xs : List Int} : CmpV X F C .NotIn (sI i) (sL (xs.map sI)) (!decide (i ∈ xs)) := cv_in op_notIn_seq (fun _ _ h => h) (fun σ P H u k h => seq_L (f := V.int) (fun _ _ h => h) k.sub h) rfl flat_int (congrArg (!·) inV_int)
theorem cv_niCS {i : Str} {xs : List Str} {l : Addr} (hc : cL l (xs.map sS) ∈ C.μ) : CmpV X F C .NotIn (sS i) (sAt l) (!decide (i ∈ xs)) := cv_in op_notIn_seq (fun _ _ h => h) (fun σ P H u k h => seq_C (f := V.str) (fun _ _ h => h) k hc h) rfl flat_str (congrArg (!·) inV_str)
theorem cv_inCS {i : Str} {xs : List Str} {l : Addr} (hc : cL l (xs.map sS) ∈ C.μ) : CmpV X F C .In (sS i) (sAt l) (decide (i ∈ xs)) := cv_in op_in_seq (fun _ _ h => h) (fun σ P H u k h => seq_C (f := V.str) (fun _ _ h => h) k hc h) rfl flat_str inV_str
theorem cv_niCI {i : Int} {xs : List Int} {l : Addr} (hc : cL l (xs.map sI) ∈ C.μ) : CmpV X F C .NotIn (sI i) (sAt l) (!decide (i ∈ xs)) := cv_in op_notIn_seq (fun _ _ h => h) (fun σ P H u k h => seq_C (f := V.int) (fun _ _ h => h) k hc h) rfl flat_int (congrArg (!·) inV_int)
theorem cv_inLS {i : Str} {xs : List Str} : CmpV X F C .In (sS i) (sL (xs.map sS)) (decide (i ∈ xs)) := cv_in op_in_seq (fun _ _ h => h) (fun σ P H u k h => seq_L (f := V.str) (fun _ _ h => h) k.sub h) rfl flat_str inV_str
theorem cv_inTS {i : Str} {xs : List Str} : CmpV X F C .In (sS i) (sT (xs.map sS)) (decide (i ∈ xs)) := cv_in op_in_seq (fun _ _ h => h) (fun σ P H u k h => seq_T (f := V.str) (fun _ _ h => h) k.sub h) rfl flat_str inV_str
/-- one sign in a text -/
theorem cv_sign {n : Nat} {z : Str} : CmpV X F C .In (sS ⟨#[n]⟩) (sS z) (decide (n ∈ z.cps.toList)) := ⟨_, op_in_sign, fun σ P H v u Q _ hv hu q => ⟨n, z, hv, hu, q⟩⟩

/-! ### == of data -/
structure IsP (K : PySem.W.Frag) (s : As) (d : PyData) : Prop where
  dp : ∀ P H v, Sub P H → s.holds P v → Dp K H v d
theorem ip_I {K : PySem.W.Frag} {i : Int} : IsP K (sI i) (.int i) := ⟨fun P H v _ h => by rw [h]; exact .int i⟩
theorem ip_B {K : PySem.W.Frag} {i : Bool} : IsP K (sB i) (.bool i) := ⟨fun P H v _ h => by rw [h]; exact .bl i⟩
theorem ip_S {K : PySem.W.Frag} {i : Str} : IsP K (sS i) (.str i) := ⟨fun P H v _ h => by rw [h]; exact .str i⟩
theorem ip_N {K : PySem.W.Frag} : IsP K sN .none := ⟨fun P H v _ h => by rw [h]; exact .non⟩
inductive IsPs (K : PySem.W.Frag) : List As → List PyData → Prop
  | nil : IsPs K [] []
  | cons {s : As} {d : PyData} {ss : List As} {ds : List PyData} : IsP K s d → IsPs K ss ds → IsPs K (s :: ss) (d :: ds)
theorem IsPs.all {K : PySem.W.Frag} {P H : Hp} (k : Sub P H) : ∀ {ss : List As} {ds : List PyData} {vs : List V}, IsPs K ss ds → Each P ss vs → DpAll K H vs ds
  | [], [], [], _, _ => .nil
  | _ :: _, _ :: _, _ :: _, .cons a b, ⟨h, h'⟩ => .cons (a.dp P H _ k h) (IsPs.all k b h')
  | [], _, _ :: _, _, h => h.elim
  | _ :: _, _, [], _, h => h.elim
theorem IsPs.map {K : PySem.W.Frag} {α : Type} {r : α → As} {t : α → PyData} (h : ∀ x, IsP K (r x) (t x)) : ∀ xs : List α, IsPs K (xs.map r) (xs.map t)
  | [] => .nil
  | x :: xs => .cons (h x) (IsPs.map h xs)
theorem ip_T {K : PySem.W.Frag} {ds : List PyData} (h : IsPs K ss ds) : IsP K (sT ss) (.tuple ds) := ⟨fun P H v k ⟨a, vs, e, hp, hv⟩ => by rw [e]; exact .tup (SqT.of (k.tup hp)) (h.all k hv)⟩
theorem ip_L {K : PySem.W.Frag} {ds : List PyData} (h : IsPs K ss ds) : IsP K (sL ss) (.list ds) := ⟨fun P H v k ⟨a, vs, e, hp, hv⟩ => by rw [e]; exact .lst (SqL.of (k.lst hp)) (h.all k hv)⟩
theorem ip_O {K : PySem.W.Frag} {α : Type} {r : α → As} {t : α → PyData} (h : ∀ x, IsP K (r x) (t x)) : ∀ o : Option α, IsP K (sO r o) (match o with | none => .none | some x => t x)
  | none => ip_N
  | some x => h x
theorem cv_eqD {d1 d2 : PyData} {k : Nat} {c : Bool} (hr : Room k X.A) (h1 : IsP X.K s1 d1) (h2 : IsP X.K s2 d2) (g1 : SeqAt.shaped d1 = true) (g2 : SeqAt.shaped d2 = true) (hc : PyData.eqv d1 d2 = c) : CmpV X F C .Eq s1 s2 c :=
  ⟨_, op_eqD hr.units, fun σ P H v u Q k hv hu q => ⟨d1, d2, h1.dp P H v k.sub hv, h2.dp P H u k.sub hu, g1, g2, by rw [hc]; exact q⟩⟩
theorem cv_neD {d1 d2 : PyData} {k : Nat} {c : Bool} (hr : Room k X.A) (h1 : IsP X.K s1 d1) (h2 : IsP X.K s2 d2) (g1 : SeqAt.shaped d1 = true) (g2 : SeqAt.shaped d2 = true) (hc : (!PyData.eqv d1 d2) = c) : CmpV X F C .NotEq s1 s2 c :=
  ⟨_, op_neD hr.units, fun σ P H v u Q k hv hu q => ⟨d1, d2, h1.dp P H v k.sub hv, h2.dp P H u k.sub hu, g1, g2, by rw [hc]; exact q⟩⟩
end
end L3

/-! L3, part i: dicts, fields stored, making. -/
namespace L3
open PySem PySem.Spec L2

/-! ### a dict by its pairs -/
section
variable {P : Hp}
theorem val_each {k : Key} : ∀ {kvs : List (Key × As)} {kv : List (Key × V)}, kv.map Prod.fst = kvs.map Prod.fst → Each P (kvs.map Prod.snd) (kv.map Prod.snd) →
    match (kvs.find? fun q => decide (q.1 = k)).map (·.2) with
      | none => valV kv k = none
      | some s => ∃ v, valV kv k = some v ∧ s.holds P v
  | [], [], _, _ => rfl
  | [], _ :: _, e, _ => by simp at e
  | _ :: _, [], e, _ => by simp at e
  | (q, s) :: kvs, (q', v) :: kv, e, r => by
    obtain ⟨e1, e2⟩ := List.cons.inj (show q' :: kv.map Prod.fst = q :: kvs.map Prod.fst from e)
    subst e1
    have ih := val_each (k := k) (kvs := kvs) (kv := kv) e2 r.2
    unfold valV at ih ⊢
    rw [List.find?_cons, List.find?_cons]
    by_cases h : q' = k
    · simp only [h, decide_true]
      exact ⟨v, rfl, r.1⟩
    · simp only [h, decide_false]
      exact ih
/-- what stands at a key -/
def valA (kvs : List (Key × As)) (k : Key) : Option As := (kvs.find? fun q => decide (q.1 = k)).map (·.2)
def putA (kvs : List (Key × As)) (k : Key) (s : As) : List (Key × As) := if (kvs.any fun q => decide (q.1 = k)) then kvs.map (fun q => if q.1 = k then (q.1, s) else q) else kvs ++ [(k, s)]
theorem val_none {k : Key} {kvs : List (Key × As)} {kv : List (Key × V)} (h1 : kv.map Prod.fst = kvs.map Prod.fst) (h2 : Each P (kvs.map Prod.snd) (kv.map Prod.snd)) (h : valA kvs k = none) : valV kv k = none := by
  have := val_each (k := k) h1 h2
  unfold valA at h
  rw [h] at this
  exact this
theorem val_some {k : Key} {s : As} {kvs : List (Key × As)} {kv : List (Key × V)} (h1 : kv.map Prod.fst = kvs.map Prod.fst) (h2 : Each P (kvs.map Prod.snd) (kv.map Prod.snd)) (h : valA kvs k = some s) : ∃ v, valV kv k = some v ∧ s.holds P v := by
  have := val_each (k := k) h1 h2
  unfold valA at h
  rw [h] at this
  exact this
theorem val_isSome {k : Key} {kvs : List (Key × As)} {kv : List (Key × V)} (h1 : kv.map Prod.fst = kvs.map Prod.fst) (h2 : Each P (kvs.map Prod.snd) (kv.map Prod.snd)) : (valV kv k).isSome = (valA kvs k).isSome := by
  cases h : valA kvs k with
  | none => rw [val_none h1 h2 h]; rfl
  | some s =>
    obtain ⟨v, e, _⟩ := val_some h1 h2 h
    rw [e]
    rfl
theorem put_old {k : Key} {v : V} {s : As} : ∀ {kvs : List (Key × As)} {kv : List (Key × V)}, kv.map Prod.fst = kvs.map Prod.fst → Each P (kvs.map Prod.snd) (kv.map Prod.snd) → s.holds P v →
    (kv.map fun q => if q.1 = k then (q.1, v) else q).map Prod.fst = (kvs.map fun q => if q.1 = k then (q.1, s) else q).map Prod.fst ∧ Each P ((kvs.map fun q => if q.1 = k then (q.1, s) else q).map Prod.snd) ((kv.map fun q => if q.1 = k then (q.1, v) else q).map Prod.snd)
  | [], [], _, _, _ => ⟨rfl, trivial⟩
  | [], _ :: _, e, _, _ => by simp at e
  | _ :: _, [], e, _, _ => by simp at e
  | (q, t) :: kvs, (q', u) :: kv, e, r, hs => by
    obtain ⟨e1, e2⟩ := List.cons.inj (show q' :: kv.map Prod.fst = q :: kvs.map Prod.fst from e)
    subst e1
    obtain ⟨i1, i2⟩ := put_old (k := k) (kvs := kvs) (kv := kv) e2 r.2 hs
    rw [List.map_cons, List.map_cons, List.map_cons, List.map_cons]
    by_cases h : q' = k
    · simp only [h, if_true]
      exact ⟨by rw [i1], hs, i2⟩
    · simp only [h, if_false]
      exact ⟨by rw [i1], r.1, i2⟩
end
theorem any_keys {α β : Type} {k : Key} : ∀ {kvs : List (Key × α)} {kv : List (Key × β)}, kv.map Prod.fst = kvs.map Prod.fst → (kv.any fun q => decide (q.1 = k)) = (kvs.any fun q => decide (q.1 = k))
  | [], [], _ => rfl
  | [], _ :: _, e => by simp at e
  | _ :: _, [], e => by simp at e
  | (q, s) :: kvs, (q', v) :: kv, e => by
    obtain ⟨e1, e2⟩ := List.cons.inj (show q' :: kv.map Prod.fst = q :: kvs.map Prod.fst from e)
    subst e1
    rw [List.any_cons, List.any_cons, any_keys e2]
theorem putK_def (kvs : List (Key × V)) (k : Key) (v : V) : putK kvs k v = if (kvs.any fun q => decide (q.1 = k)) then kvs.map (fun q => if q.1 = k then (q.1, v) else q) else kvs ++ [(k, v)] := rfl

section
variable {X : Cx} {F : Fr} {Sx : Sc} {C C1 C2 C3 : Ctx} {s s1 s2 s3 : As} {pos p pos' apos : Pos} {a b c e o i : Expr} {b1 b2 : Bool} {es : List Expr} {ss rr : List As} {x y : Str} {σ : L2.St} {P H : Hp} {O : Out} {st : Stmt} {sts rest body orelse : List Stmt} {kvs : List (Key × As)} {k : Key} {kL : Nat}
/-- a key as an assertion -/
def sK : Key → As
  | .inl i => sI i
  | .inr x => sS x
theorem sK_v {P : Hp} {v : V} (h : (sK k).holds P v) : v = kV k := by cases k <;> exact h
theorem dget_D {v : V} (ok : Sub P H) (h : (sD kvs).holds P v) : ∃ d kv, v = .ref d ∧ Rd H d (.dK kv) ∧ kv.map Prod.fst = kvs.map Prod.fst ∧ Each P (kvs.map Prod.snd) (kv.map Prod.snd) := by
  obtain ⟨d, kv, e, hp, h1, h2⟩ := h
  exact ⟨d, kv, e, ok.rd hp, h1, h2⟩
theorem DGet.rd {d : Addr} {kv : List (Key × V)} (h : Rd H d (.dK kv)) : DGet H d (kV k) (valV kv k) := .inl ⟨kv, k, h, rfl, rfl⟩
/-- k in d, k not in d -/
theorem de_din (hu : X.A.units + 1 < cLine) (hb : De X F a C (sK k) C1) (hd : De X F b C1 (sD kvs) C2) (hm : behindInMarks .In b = false := by rfl) : De X F (.Compare a [.In] [b] pos) C (sB (valA kvs k).isSome) C2 := by
  refine peW (pe_cmp (pc_din hu hb hd) hm) ?_
  rintro σ H Q ⟨P, k0, q⟩
  refine ⟨P, k0, fun u P1 H1 k1 m1 hu => ⟨P1, k1, fun v P2 H2 k2 m2 hv => ?_⟩⟩
  obtain ⟨d, kv, rfl, hd, h1, h2⟩ := dget_D k2.sub hv
  rw [sK_v hu]
  exact ⟨d, _, rfl, DGet.rd hd, q _ P2 H2 k2 (m1.trans m2) (by rw [val_isSome h1 h2]; rfl)⟩
theorem dt_din (hu : X.A.units + 1 < cLine) (hb : De X F a C (sK k) C1) (hd : De X F b C1 (sD kvs) C2) (hm : behindInMarks .In b = false := by rfl) : DT X F (.Compare a [.In] [b] pos) C (valA kvs k).isSome C2 := by
  refine ptW (pt_cmp (pc_din hu hb hd) hm) ?_
  rintro σ H Q ⟨P, k0, q⟩
  refine ⟨P, k0, fun u P1 H1 k1 m1 hu => ⟨P1, k1, fun v P2 H2 k2 m2 hv => ?_⟩⟩
  obtain ⟨d, kv, rfl, hd, h1, h2⟩ := dget_D k2.sub hv
  rw [sK_v hu]
  exact ⟨d, _, rfl, DGet.rd hd, _, rfl, by rw [val_isSome h1 h2]; exact q P2 H2 k2 (m1.trans m2)⟩
theorem dt_dnotin (hu : X.A.units + 1 < cLine) (hb : De X F a C (sK k) C1) (hd : De X F b C1 (sD kvs) C2) (hm : behindInMarks .NotIn b = false := by rfl) : DT X F (.Compare a [.NotIn] [b] pos) C (!(valA kvs k).isSome) C2 := by
  refine ptW (pt_cmp (pc_dnotin hu hb hd) hm) ?_
  rintro σ H Q ⟨P, k0, q⟩
  refine ⟨P, k0, fun u P1 H1 k1 m1 hu => ⟨P1, k1, fun v P2 H2 k2 m2 hv => ?_⟩⟩
  obtain ⟨d, kv, rfl, hd, h1, h2⟩ := dget_D k2.sub hv
  rw [sK_v hu]
  exact ⟨d, _, rfl, DGet.rd hd, _, rfl, by rw [val_isSome h1 h2]; exact q P2 H2 k2 (m1.trans m2)⟩
theorem dt_dinC {l : Addr} (hu : X.A.units + 1 < cLine) (hb : De X F a C (sK k) C1) (hd : De X F b C1 (sAt l) C2) (hc : cD l kvs ∈ C2.μ) (hm : behindInMarks .In b = false := by rfl) : DT X F (.Compare a [.In] [b] pos) C (valA kvs k).isSome C2 := by
  refine ptW (pt_cmp (pc_din hu hb hd) hm) ?_
  rintro σ H Q ⟨P, k0, q⟩
  refine ⟨P, k0, fun u P1 H1 k1 m1 hu => ⟨P1, k1, fun v P2 H2 k2 m2 hv => ?_⟩⟩
  obtain ⟨_, ⟨w, hw, kv, rfl, h1, h2⟩, _⟩ := k2.cells _ hc
  rw [sK_v hu]
  exact ⟨l, _, hv, DGet.rd (.inl hw), _, rfl, by rw [val_isSome h1 h2]; exact q P2 H2 k2 (m1.trans m2)⟩
theorem dt_dnotinC {l : Addr} (hu : X.A.units + 1 < cLine) (hb : De X F a C (sK k) C1) (hd : De X F b C1 (sAt l) C2) (hc : cD l kvs ∈ C2.μ) (hm : behindInMarks .NotIn b = false := by rfl) : DT X F (.Compare a [.NotIn] [b] pos) C (!(valA kvs k).isSome) C2 := by
  refine ptW (pt_cmp (pc_dnotin hu hb hd) hm) ?_
  rintro σ H Q ⟨P, k0, q⟩
  refine ⟨P, k0, fun u P1 H1 k1 m1 hu => ⟨P1, k1, fun v P2 H2 k2 m2 hv => ?_⟩⟩
  obtain ⟨_, ⟨w, hw, kv, rfl, h1, h2⟩, _⟩ := k2.cells _ hc
  rw [sK_v hu]
  exact ⟨l, _, hv, DGet.rd (.inl hw), _, rfl, by rw [val_isSome h1 h2]; exact q P2 H2 k2 (m1.trans m2)⟩
theorem de_dnotin (hu : X.A.units + 1 < cLine) (hb : De X F a C (sK k) C1) (hd : De X F b C1 (sD kvs) C2) (hm : behindInMarks .NotIn b = false := by rfl) : De X F (.Compare a [.NotIn] [b] pos) C (sB (!(valA kvs k).isSome)) C2 := by
  refine peW (pe_cmp (pc_dnotin hu hb hd) hm) ?_
  rintro σ H Q ⟨P, k0, q⟩
  refine ⟨P, k0, fun u P1 H1 k1 m1 hu => ⟨P1, k1, fun v P2 H2 k2 m2 hv => ?_⟩⟩
  obtain ⟨d, kv, rfl, hd, h1, h2⟩ := dget_D k2.sub hv
  rw [sK_v hu]
  exact ⟨d, _, rfl, DGet.rd hd, q _ P2 H2 k2 (m1.trans m2) (by rw [val_isSome h1 h2]; rfl)⟩
/-- .. in a dict that may change -/
theorem de_dinC {l : Addr} (hu : X.A.units + 1 < cLine) (hb : De X F a C (sK k) C1) (hd : De X F b C1 (sAt l) C2) (hc : cD l kvs ∈ C2.μ) (hm : behindInMarks .In b = false := by rfl) : De X F (.Compare a [.In] [b] pos) C (sB (valA kvs k).isSome) C2 := by
  refine peW (pe_cmp (pc_din hu hb hd) hm) ?_
  rintro σ H Q ⟨P, k0, q⟩
  refine ⟨P, k0, fun u P1 H1 k1 m1 hu => ⟨P1, k1, fun v P2 H2 k2 m2 hv => ?_⟩⟩
  obtain ⟨_, ⟨w, hw, kv, rfl, h1, h2⟩, _⟩ := k2.cells _ hc
  rw [sK_v hu]
  exact ⟨l, _, hv, DGet.rd (.inl hw), q _ P2 H2 k2 (m1.trans m2) (by rw [val_isSome h1 h2]; rfl)⟩
theorem de_dnotinC {l : Addr} (hu : X.A.units + 1 < cLine) (hb : De X F a C (sK k) C1) (hd : De X F b C1 (sAt l) C2) (hc : cD l kvs ∈ C2.μ) (hm : behindInMarks .NotIn b = false := by rfl) : De X F (.Compare a [.NotIn] [b] pos) C (sB (!(valA kvs k).isSome)) C2 := by
  refine peW (pe_cmp (pc_dnotin hu hb hd) hm) ?_
  rintro σ H Q ⟨P, k0, q⟩
  refine ⟨P, k0, fun u P1 H1 k1 m1 hu => ⟨P1, k1, fun v P2 H2 k2 m2 hv => ?_⟩⟩
  obtain ⟨_, ⟨w, hw, kv, rfl, h1, h2⟩, _⟩ := k2.cells _ hc
  rw [sK_v hu]
  exact ⟨l, _, hv, DGet.rd (.inl hw), q _ P2 H2 k2 (m1.trans m2) (by rw [val_isSome h1 h2]; rfl)⟩
/-- d[k] -/
theorem de_dget (hu : X.A.units + 1 < cLine) (hd : De X F o C (sD kvs) C1) (hi : De X F i C1 (sK k) C2) (hv : valA kvs k = some s) (hs : NoSl i := by exact fun _ _ => rfl) : De X F (.Subscript o i pos) C s C2 := by
  refine peW (pe_dget hu hd hi hs) ?_
  rintro σ H Q ⟨P, k0, q⟩
  refine ⟨P, k0, fun v P1 H1 k1 m1 h => ⟨P1, k1, fun u P2 H2 k2 m2 hk => ?_⟩⟩
  obtain ⟨d, kv, rfl, hd, h1, h2⟩ := dget_D k2.sub ((sD kvs).mono m2 h)
  obtain ⟨w, e, hw⟩ := val_some h1 h2 hv
  rw [sK_v hk]
  exact ⟨d, w, rfl, e ▸ DGet.rd hd, q w P2 H2 k2 (m1.trans m2) hw⟩
theorem de_dgetC {l : Addr} (hu : X.A.units + 1 < cLine) (hd : De X F o C (sAt l) C1) (hi : De X F i C1 (sK k) C2) (hc : cD l kvs ∈ C2.μ) (hv : valA kvs k = some s) (hs : NoSl i := by exact fun _ _ => rfl) : De X F (.Subscript o i pos) C s C2 := by
  refine peW (pe_dget hu hd hi hs) ?_
  rintro σ H Q ⟨P, k0, q⟩
  refine ⟨P, k0, fun v P1 H1 k1 m1 h => ⟨P1, k1, fun u P2 H2 k2 m2 hk => ?_⟩⟩
  obtain ⟨_, ⟨w, hw, kv, rfl, h1, h2⟩, _⟩ := k2.cells _ hc
  obtain ⟨w', e, hw'⟩ := val_some h1 h2 hv
  rw [sK_v hk]
  exact ⟨l, w', h, e ▸ DGet.rd (.inl hw), q w' P2 H2 k2 (m1.trans m2) hw'⟩
/-- d.get(k, z) -/
theorem de_dget2 (hu : X.A.units + 1 < cLine) (hd : De X F o C (sD kvs) C1) (hi : De X F i C1 (sK k) C2) (hz : De X F e C2 s1 C3) (hv : (valA kvs k).getD s1 = s) (hm : M2 X o "get" apos i e pos := by exact ⟨rfl, rfl, rfl, rfl⟩) :
    De X F (.Call (.Attribute o "get" apos) [i, e] [] pos) C s C3 := by
  refine peW (pe_dget2 hu hd hi hz hm) ?_
  rintro σ H Q ⟨P, k0, q⟩
  refine ⟨P, k0, fun v P1 H1 k1 m1 h => ?_⟩
  obtain ⟨d, kv0, rfl, hd0, _, _⟩ := dget_D k1.sub h
  refine ⟨d, rfl, .inl ⟨kv0, hd0⟩, P1, k1, fun u P2 H2 k2 m2 hk => ⟨P2, k2, fun z P3 H3 k3 m3 hz => ?_⟩⟩
  obtain ⟨d', kv, e', hd, h1, h2⟩ := dget_D k3.sub ((sD kvs).mono (m2.trans m3) h)
  cases e'
  rw [sK_v hk]
  refine ⟨_, DGet.rd hd, q _ P3 H3 k3 ((m1.trans m2).trans m3) ?_⟩
  cases hh : valA kvs k with
  | none =>
    rw [hh] at hv
    rw [val_none h1 h2 hh, ← hv]
    exact hz
  | some t =>
    rw [hh] at hv
    obtain ⟨w, e2, hw⟩ := val_some h1 h2 hh
    rw [e2, ← hv]
    exact hw
/-- d[k] = v, the dict one that may change -/
theorem db_dput {l : Addr} {Γ : List (Option As)} {μ : List Cell} {lk : List Addr} (n : Nat) (hu : X.A.units + 1 < cLine) (hv : De X F e C s C1) (hd : De X F o C1 (sAt l) C2) (hi : De X F i C2 (sK k) ⟨Γ, μ, lk⟩) (hc : μ[n]? = some (cD l kvs) := by rfl) (hl : kvs.length < sizeLine)
    (h : DB X F rest ⟨Γ, μ.set n (cD l (putA kvs k s)), lk⟩ O) (hs : swapsWith e (some (.Subscript o i pos')) pos.line X.env = pure false := by rfl) : DB X F (.Assign [.Subscript o i pos'] e pos :: rest) C O := by
  refine pssW (pss_cons (ps_dput hu hd hi hv hs) h) ?_
  rintro D σ H ⟨P, k0, q⟩
  refine ⟨P, k0, fun v P1 H1 k1 m1 hv => ⟨P1, k1, fun u P2 H2 k2 m2 hu => ⟨P2, k2, fun w P3 H3 k3 m3 hw => ?_⟩⟩⟩
  obtain ⟨_, ⟨w', hw', kv, rfl, h1, h2⟩, _⟩ := k3.cells _ (List.mem_of_getElem? hc)
  have hlen : kv.length = kvs.length := by
    have := congrArg List.length h1
    rw [List.length_map, List.length_map] at this
    exact this
  rw [sK_v hw]
  refine ⟨l, _, hu, DPut.k hw' (by rw [hlen]; exact hl), P3, ?_, Fol.later q ((m1.trans m2).trans m3)⟩
  refine k3.writeAt (c' := cD l (putA kvs k s)) hc rfl ⟨_, rfl, ?_⟩
  have hs' := s.mono (m2.trans m3) hv
  unfold putA
  rw [putK_def, any_keys h1]
  split
  · exact put_old h1 h2 hs'
  · rw [List.map_append, List.map_append, List.map_append, List.map_append, h1]
    exact ⟨rfl, h2.append ⟨hs', trivial⟩⟩

/-! ### fields stored -/
/-- the fields behind a store -/
def putF' (f : Str) (s : As) : List (Str × As) → List (Str × As)
  | [] => [(f, s)]
  | q :: r => if q.1 = f then (q.1, s) :: r else q :: putF' f s r
theorem putF_each {f : Str} {s : As} {v : V} (hs : s.holds P v) : ∀ {fs : List (Str × As)} {fl : List (Str × V)}, fl.map Prod.fst = fs.map Prod.fst → Each P (fs.map Prod.snd) (fl.map Prod.snd) → (putF f v fl).map Prod.fst = (putF' f s fs).map Prod.fst ∧ Each P ((putF' f s fs).map Prod.snd) ((putF f v fl).map Prod.snd)
  | [], [], _, _ => ⟨rfl, hs, trivial⟩
  | [], _ :: _, e, _ => by simp at e
  | _ :: _, [], e, _ => by simp at e
  | (q, t) :: fs, (q', u) :: fl, e, r => by
    obtain ⟨e1, e2⟩ := List.cons.inj (show q' :: fl.map Prod.fst = q :: fs.map Prod.fst from e)
    subst e1
    obtain ⟨i1, i2⟩ := putF_each (f := f) hs e2 r.2
    show ((if q' = f then (q', v) :: fl else (q', u) :: putF f v fl)).map Prod.fst = ((if q' = f then (q', s) :: fs else (q', t) :: putF' f s fs)).map Prod.fst ∧ Each P (((if q' = f then (q', s) :: fs else (q', t) :: putF' f s fs)).map Prod.snd) (((if q' = f then (q', v) :: fl else (q', u) :: putF f v fl)).map Prod.snd)
    by_cases h : q' = f
    · rw [if_pos h, if_pos h]
      exact ⟨e, hs, r.2⟩
    · rw [if_neg h, if_neg h]
      exact ⟨by rw [List.map_cons, List.map_cons, i1], r.1, i2⟩
/-- o.f = e, o one that may change -/
theorem db_fld {l A : Addr} {f : Str} {fs : List (Str × As)} {Γ : List (Option As)} {μ : List Cell} {lk : List Addr} (n : Nat) (hv : De X F e C s C1) (ho : De X F o C1 (sAt l) ⟨Γ, μ, lk⟩) (hc : μ[n]? = some (cI l A fs) := by rfl) (hA : Cls X.K A) (hn : NoAttr X.K A f) (hl : fs.length < 1000 := by decide)
    (h : DB X F rest ⟨Γ, μ.set n (cI l A (putF' f s fs)), lk⟩ O) (hs : swapsWith e (some (.Attribute o f pos')) pos.line X.env = pure false := by rfl) : DB X F (.Assign [.Attribute o f pos'] e pos :: rest) C O := by
  refine pssW (pss_cons (ps_fld ho hv hs) h) ?_
  rintro D σ H ⟨P, k0, q⟩
  refine ⟨P, k0, fun v P1 H1 k1 m1 hv => ⟨P1, k1, fun u P2 H2 k2 m2 hu => ?_⟩⟩
  obtain ⟨_, ⟨w', hw', dx, fl, rfl, h1, h2⟩, _⟩ := k2.cells _ (List.mem_of_getElem? hc)
  have hlen : fl.length = fs.length := by
    have := congrArg List.length h1
    rw [List.length_map, List.length_map] at this
    exact this
  refine ⟨l, A, dx, fl, hu, hw', hA, hn, by rw [hlen]; exact hl, P2, ?_, Fol.later q (m1.trans m2)⟩
  obtain ⟨i1, i2⟩ := putF_each (f := f) (s.mono m2 hv) h1 h2
  exact k2.writeAt (c' := cI l A (putF' f s fs)) hc rfl ⟨dx, _, rfl, i1, i2⟩

/-! ### making an object: __init__ by its typed promise, self a bare instance that may change -/
theorem call_make {S : FS} {A x dx : Addr} {vs : List V} (i : S.ι) (k : Ok F C σ P H) (hx : H x = none) (hdx : H dx = none) (hne : dx ≠ x) (hp : S.pre i) (har : ∃ rs, S.ar i = sAt x :: rs ∧ Each P rs vs) (hμ : S.μ i = [cI x A []]) (hpost : ∀ kk v P, (S.res i kk).holds P v → v = .non) {Q : VK} {E : XK}
    (q : ∀ kk P' H', S.post i kk → Ok F ⟨C.Γ, C.μ ++ S.μ' i kk, C.lk⟩ σ P' H' → Same P P' → Q (.ref x) H') : S.sp (.ref x :: (vs ++ [])) (upd (upd H dx (.own x)) x (.ins A dx [])) (fun v H2 => v = .non ∧ Q (.ref x) H2) E := by
  have k1 := k.grown (o := .own x) hdx
  have hx1 : (upd H dx (.own x)) x = none := by rw [upd_ne hne.symm]; exact hx
  have k2 := k1.newCell0 (c := cI x A []) (o := .ins A dx []) hx1 ⟨dx, [], rfl, rfl, trivial⟩
  rw [List.append_nil]
  obtain ⟨rs, e1, e2⟩ := har
  refine call_core (S := S) (Γ := C.Γ) (μ := C.μ) (lk := C.lk) i ?_ hp ?_ fun kk v P' H' h1 h2 h3 h4 => ⟨hpost kk v P' h4, q kk P' H' h1 (h2.wk (.perm (List.perm_append_comm))) h3⟩
  · rw [hμ]
    exact k2
  · rw [e1]
    exact ⟨rfl, e2⟩
end
end L3

/-! L3, part j: typed rows, typed promises by the number of arguments, typed comprehensions. -/
namespace L3
open PySem PySem.Spec L2

/-! ### typed assertions -/
abbrev rTs {α : Type} (r : α → As) (xs : List α) : As := sT (xs.map r)
abbrev rLs {α : Type} (r : α → As) (xs : List α) : As := sL (xs.map r)
abbrev rP2 {α β : Type} (r1 : α → As) (r2 : β → As) (p : α × β) : As := sT [r1 p.1, r2 p.2]
abbrev rP3 {α β γ : Type} (r1 : α → As) (r2 : β → As) (r3 : γ → As) (p : α × β × γ) : As := sT [r1 p.1, r2 p.2.1, r3 p.2.2]
abbrev rU (_ : Unit) : As := sN

/-! ### typed promises -/
abbrev FS.fn1 {α : Type} (r1 : α → As) (pre : α → Prop) (res : α → As) : FS := FS.fn pre (fun x => [r1 x]) res
abbrev FS.fn2 {α β : Type} (r1 : α → As) (r2 : β → As) (pre : α → β → Prop) (res : α → β → As) : FS := FS.fn (α := α × β) (fun x => pre x.1 x.2) (fun x => [r1 x.1, r2 x.2]) fun x => res x.1 x.2
abbrev FS.fn3 {α β γ : Type} (r1 : α → As) (r2 : β → As) (r3 : γ → As) (pre : α → β → γ → Prop) (res : α → β → γ → As) : FS := FS.fn (α := α × β × γ) (fun x => pre x.1 x.2.1 x.2.2) (fun x => [r1 x.1, r2 x.2.1, r3 x.2.2]) fun x => res x.1 x.2.1 x.2.2
abbrev FS.fn4 {α β γ δ : Type} (r1 : α → As) (r2 : β → As) (r3 : γ → As) (r4 : δ → As) (pre : α → β → γ → δ → Prop) (res : α → β → γ → δ → As) : FS := FS.fn (α := α × β × γ × δ) (fun x => pre x.1 x.2.1 x.2.2.1 x.2.2.2) (fun x => [r1 x.1, r2 x.2.1, r3 x.2.2.1, r4 x.2.2.2]) fun x => res x.1 x.2.1 x.2.2.1 x.2.2.2

section
variable {X : Cx} {F : Fr} {Sx : Sc} {C C1 C2 C3 C4 : Ctx} {s s1 s2 s3 : As} {pos p pos' apos : Pos} {a b c e e1 e2 e3 e4 o i : Expr} {b1 b2 : Bool} {es : List Expr} {ss rr : List As} {x y : Str} {σ : L2.St} {P H : Hp} {O : Out} {st : Stmt} {sts rest body orelse : List Stmt} {kL : Nat} {α β γ δ : Type}
theorem de_call1 {r1 : α → As} {pre : α → Prop} {res : α → As} {v1 : α} (xf : Xf Sx X) (j : Nat) (h : Cal X.prog X.w X.K X.mg X.base kL x (FS.fn1 r1 pre res)) (hr : Room kL X.A) (h1 : De X F e1 C (r1 v1) C1) (hp : pre v1)
    (hg : Sx.G[j]? = some x := by rfl) (hdb : (x == ("__debug__" : Str)) = false := by decide) (he : starEach [e1] X.env = (false, eval e1 X.env) :: starEach [] X.env := by rfl) (hpl : (backTo pos (starEach [] X.env)).any (·.1) = false := by rfl) :
    De X F (.Call (.Name x p) [e1] [] pos) C (res v1) C1 := de_call xf j h hr (da_cons h1 da_nil he) v1 hp rfl hg hdb he hpl
theorem de_call2 {r1 : α → As} {r2 : β → As} {pre : α → β → Prop} {res : α → β → As} {v1 : α} {v2 : β} (xf : Xf Sx X) (j : Nat) (h : Cal X.prog X.w X.K X.mg X.base kL x (FS.fn2 r1 r2 pre res)) (hr : Room kL X.A) (h1 : De X F e1 C (r1 v1) C1) (h2 : De X F e2 C1 (r2 v2) C2) (hp : pre v1 v2)
    (hg : Sx.G[j]? = some x := by rfl) (hdb : (x == ("__debug__" : Str)) = false := by decide) (he : starEach [e1, e2] X.env = (false, eval e1 X.env) :: starEach [e2] X.env := by rfl) (he2 : starEach [e2] X.env = (false, eval e2 X.env) :: starEach [] X.env := by rfl) (hpl : (backTo pos (starEach [e2] X.env)).any (·.1) = false := by rfl) :
    De X F (.Call (.Name x p) [e1, e2] [] pos) C (res v1 v2) C2 := de_call xf j h hr (da_cons h1 (da_cons h2 da_nil he2) he) (v1, v2) hp rfl hg hdb he hpl
theorem de_call3 {r1 : α → As} {r2 : β → As} {r3 : γ → As} {pre : α → β → γ → Prop} {res : α → β → γ → As} {v1 : α} {v2 : β} {v3 : γ} (xf : Xf Sx X) (j : Nat) (h : Cal X.prog X.w X.K X.mg X.base kL x (FS.fn3 r1 r2 r3 pre res)) (hr : Room kL X.A) (h1 : De X F e1 C (r1 v1) C1) (h2 : De X F e2 C1 (r2 v2) C2) (h3 : De X F e3 C2 (r3 v3) C3) (hp : pre v1 v2 v3)
    (hg : Sx.G[j]? = some x := by rfl) (hdb : (x == ("__debug__" : Str)) = false := by decide) (he : starEach [e1, e2, e3] X.env = (false, eval e1 X.env) :: starEach [e2, e3] X.env := by rfl) (he2 : starEach [e2, e3] X.env = (false, eval e2 X.env) :: starEach [e3] X.env := by rfl) (he3 : starEach [e3] X.env = (false, eval e3 X.env) :: starEach [] X.env := by rfl) (hpl : (backTo pos (starEach [e2, e3] X.env)).any (·.1) = false := by rfl) :
    De X F (.Call (.Name x p) [e1, e2, e3] [] pos) C (res v1 v2 v3) C3 := de_call xf j h hr (da_cons h1 (da_cons h2 (da_cons h3 da_nil he3) he2) he) (v1, v2, v3) hp rfl hg hdb he hpl
theorem de_call4 {r1 : α → As} {r2 : β → As} {r3 : γ → As} {r4 : δ → As} {pre : α → β → γ → δ → Prop} {res : α → β → γ → δ → As} {v1 : α} {v2 : β} {v3 : γ} {v4 : δ} (xf : Xf Sx X) (j : Nat) (h : Cal X.prog X.w X.K X.mg X.base kL x (FS.fn4 r1 r2 r3 r4 pre res)) (hr : Room kL X.A) (h1 : De X F e1 C (r1 v1) C1) (h2 : De X F e2 C1 (r2 v2) C2) (h3 : De X F e3 C2 (r3 v3) C3) (h4 : De X F e4 C3 (r4 v4) C4) (hp : pre v1 v2 v3 v4)
    (hg : Sx.G[j]? = some x := by rfl) (hdb : (x == ("__debug__" : Str)) = false := by decide) (he : starEach [e1, e2, e3, e4] X.env = (false, eval e1 X.env) :: starEach [e2, e3, e4] X.env := by rfl) (he2 : starEach [e2, e3, e4] X.env = (false, eval e2 X.env) :: starEach [e3, e4] X.env := by rfl) (he3 : starEach [e3, e4] X.env = (false, eval e3 X.env) :: starEach [e4] X.env := by rfl) (he4 : starEach [e4] X.env = (false, eval e4 X.env) :: starEach [] X.env := by rfl) (hpl : (backTo pos (starEach [e2, e3, e4] X.env)).any (·.1) = false := by rfl) :
    De X F (.Call (.Name x p) [e1, e2, e3, e4] [] pos) C (res v1 v2 v3 v4) C4 := de_call xf j h hr (da_cons h1 (da_cons h2 (da_cons h3 (da_cons h4 da_nil he4) he3) he2) he) (v1, v2, v3, v4) hp rfl hg hdb he hpl
theorem holds_eq {t1 t2 : As} (h : t1 = t2) {P : Hp} {v : V} (hv : t1.holds P v) : t2.holds P v := h ▸ hv
/-- return, from a def that changes nothing -/
theorem db_retF {pre : α → Prop} {ar : α → List As} {res : α → As} {i : α} (he : De X F e C s C1) (h : s = res i) (hl : C1.lk = [] := by rfl) : DB X F (.Return (some e) pos :: rest) C (outs (FS.fn pre ar res) i) :=
  db_ret he ⟨(), C1.μ, trivial, fun P v hv => holds_eq h hv, rfl, hl⟩
/-- .. the same inside a block that may go on elsewhere -/
theorem db_retG {pre : α → Prop} {ar : α → List As} {res : α → As} {i : α} {nx bk ct : Ctx → Prop} (he : De X F e C s C1) (h : s = res i) (hl : C1.lk = [] := by rfl) : DB X F (.Return (some e) pos :: rest) C ⟨nx, (outs (FS.fn pre ar res) i).rt, bk, ct⟩ :=
  db_ret he ⟨(), C1.μ, trivial, fun P v hv => holds_eq h hv, rfl, hl⟩
theorem db_endF {pre : α → Prop} {ar : α → List As} {res : α → As} {i : α} (h : res i = sN) (hl : C.lk = [] := by rfl) : DB X F [] C (outs (FS.fn pre ar res) i) :=
  db_nil ⟨(), C.μ, trivial, fun P => holds_eq h.symm rfl, rfl, hl⟩
/-! .. one that changes its cells -/
theorem db_retS {pre : α → Prop} {ar : α → List As} {μa μb : α → List Cell} {res : α → As} {i : α} {nx bk ct : Ctx → Prop} (he : De X F e C s C1) (h : s = res i) (more : List Cell) (hμ : C1.μ = μb i ++ more) (hl : C1.lk = [] := by rfl) : DB X F (.Return (some e) pos :: rest) C ⟨nx, (outs (FS.st pre ar μa res μb) i).rt, bk, ct⟩ :=
  db_ret he ⟨(), more, trivial, fun P v hv => holds_eq h hv, hμ, hl⟩
theorem db_endS {pre : α → Prop} {ar : α → List As} {μa μb : α → List Cell} {res : α → As} {i : α} (h : res i = sN) (more : List Cell) (hμ : C.μ = μb i ++ more) (hl : C.lk = [] := by rfl) : DB X F [] C (outs (FS.st pre ar μa res μb) i) :=
  db_nil ⟨(), more, trivial, fun P => holds_eq h.symm rfl, hμ, hl⟩

/-! ### typed expressions -/
theorem de_some {r : α → As} {v : α} (h : De X F e C (r v) C1) : De X F e C (sO r (some v)) C1 := h
theorem de_none {r : α → As} (h : De X F e C sN C1) : De X F e C (sO r none) C1 := h
theorem de_pair {r1 : α → As} {r2 : β → As} {v1 : α} {v2 : β} {k} (h1 : De X F e1 C (r1 v1) C1) (h2 : De X F e2 C1 (r2 v2) C2) (he : starEach [e1, e2] X.env = (false, eval e1 X.env) :: starEach [e2] X.env := by rfl) (he2 : starEach [e2] X.env = (false, eval e2 X.env) :: starEach [] X.env := by rfl) : De X F (.Tuple [e1, e2] k pos) C (rP2 r1 r2 (v1, v2)) C2 := de_tup (da_cons h1 (da_cons h2 da_nil he2) he)
theorem de_trip {r1 : α → As} {r2 : β → As} {r3 : γ → As} {v1 : α} {v2 : β} {v3 : γ} {k} (h1 : De X F e1 C (r1 v1) C1) (h2 : De X F e2 C1 (r2 v2) C2) (h3 : De X F e3 C2 (r3 v3) C3) (he : starEach [e1, e2, e3] X.env = (false, eval e1 X.env) :: starEach [e2, e3] X.env := by rfl) (he2 : starEach [e2, e3] X.env = (false, eval e2 X.env) :: starEach [e3] X.env := by rfl) (he3 : starEach [e3] X.env = (false, eval e3 X.env) :: starEach [] X.env := by rfl) : De X F (.Tuple [e1, e2, e3] k pos) C (rP3 r1 r2 r3 (v1, v2, v3)) C3 := de_tup (da_cons h1 (da_cons h2 (da_cons h3 da_nil he3) he2) he)
theorem de_tup1 {r1 : α → As} {v1 : α} {k} (h1 : De X F e1 C (r1 v1) C1) (he : starEach [e1] X.env = (false, eval e1 X.env) :: starEach [] X.env := by rfl) : De X F (.Tuple [e1] k pos) C (rTs r1 [v1]) C1 := de_tup (da_cons h1 da_nil he)
theorem de_tup0 {r1 : α → As} {k} : De X F (.Tuple [] k pos) C (rTs r1 []) C := de_tup da_nil
theorem de_lst1 {r1 : α → As} {v1 : α} (h1 : De X F e1 C (r1 v1) C1) (he : starEach [e1] X.env = (false, eval e1 X.env) :: starEach [] X.env := by rfl) : De X F (.List [e1] pos) C (rLs r1 [v1]) C1 := de_lst (da_cons h1 da_nil he)
theorem de_lst0 {r1 : α → As} : De X F (.List [] pos) C (rLs r1 []) C := de_lst da_nil
theorem de_lst2 {r1 : α → As} {v1 v2 : α} (h1 : De X F e1 C (r1 v1) C1) (h2 : De X F e2 C1 (r1 v2) C2) (he : starEach [e1, e2] X.env = (false, eval e1 X.env) :: starEach [e2] X.env := by rfl) (he2 : starEach [e2] X.env = (false, eval e2 X.env) :: starEach [] X.env := by rfl) : De X F (.List [e1, e2] pos) C (rLs r1 [v1, v2]) C2 := de_lst (da_cons h1 (da_cons h2 da_nil he2) he)
theorem de_fst {r1 : α → As} {r2 : β → As} {v : α × β} {j : Int} (h1 : De X F e1 C (rP2 r1 r2 v) C1) (h2 : De X F e2 C1 (sI j) C2) (hj : j = 0 := by rfl) (hb : PlainIx e2 := by exact fun _ _ => rfl) : De X F (.Subscript e1 e2 pos) C (r1 v.1) C2 := de_ixT (i := 0) hb h1 h2 hj rfl
theorem de_snd {r1 : α → As} {r2 : β → As} {v : α × β} {j : Int} (h1 : De X F e1 C (rP2 r1 r2 v) C1) (h2 : De X F e2 C1 (sI j) C2) (hj : j = 1 := by rfl) (hb : PlainIx e2 := by exact fun _ _ => rfl) : De X F (.Subscript e1 e2 pos) C (r2 v.2) C2 := de_ixT (i := 1) hb h1 h2 hj rfl
theorem de_ifT {r : α → As} {v1 v2 : α} (hc : DT X F c C b1 C1) (ha : b1 = true → De X F a C1 (r v1) C2) (hb : b1 = false → De X F b C1 (r v2) C2) : De X F (.IfExp c a b pos) C (r (if b1 = true then v1 else v2)) C2 :=
  de_ifExp hc (fun h => by rw [if_pos h]; exact ha h) (fun h => by rw [if_neg (by rw [h]; exact Bool.false_ne_true)]; exact hb h)
theorem de_ifTr (hc : DT X F c C true C1) (ha : De X F a C1 s C2) : De X F (.IfExp c a b pos) C s C2 := de_ifExp hc (fun _ => ha) fun h => absurd h (by decide)
theorem de_ifFa (hc : DT X F c C false C1) (hb : De X F b C1 s C2) : De X F (.IfExp c a b pos) C s C2 := de_ifExp hc (fun h => absurd h (by decide)) fun _ => hb
theorem db_ifTr (hc : DT X F c C true C1) (ha : DB X F body C1 { O with nx := fun _ => False }) : DB X F (.If c body orelse pos :: rest) C O := db_if (fun _ => False) hc (fun _ => ha) (fun h => absurd h (by decide)) fun _ h => h.elim
theorem db_ifFa (hc : DT X F c C false C1) (hr : DB X F rest C1 O) : DB X F (.If c body [] pos :: rest) C O := db_ifr hc (fun h => absurd h (by decide)) fun _ => hr
theorem de_ixTs {r : α → As} {xs : List α} {v : α} {j : Int} {n : Nat} (h1 : De X F e1 C (rTs r xs) C1) (h2 : De X F e2 C1 (sI j) C2) (hj : j = (n : Int)) (hv : xs[n]? = some v) (hb : PlainIx e2 := by exact fun _ _ => rfl) : De X F (.Subscript e1 e2 pos) C (r v) C2 := de_ixT (i := n) hb h1 h2 hj (by rw [List.getElem?_map, hv]; rfl)
theorem de_ixLs {r : α → As} {xs : List α} {v : α} {j : Int} {n : Nat} (h1 : De X F e1 C (rLs r xs) C1) (h2 : De X F e2 C1 (sI j) C2) (hj : j = (n : Int)) (hv : xs[n]? = some v) (hb : PlainIx e2 := by exact fun _ _ => rfl) : De X F (.Subscript e1 e2 pos) C (r v) C2 := de_ixL (i := n) hb h1 h2 hj (by rw [List.getElem?_map, hv]; rfl)
theorem de_catT {r : α → As} {xs ys : List α} (h1 : De X F e1 C (rLs r xs) C1) (h2 : De X F e2 C1 (rLs r ys) C2) (hl : xs.length + ys.length ≤ sizeLine) : De X F (.BinOp e1 .Add e2 pos) C (rLs r (xs ++ ys)) C2 := by
  have := de_cat (pos := pos) h1 h2 (by rw [List.length_map, List.length_map]; exact hl)
  rw [← List.map_append] at this
  exact this

/-! ### typed comprehensions -/
variable {tg elt iter : Expr} {ifs : List Expr} {scope : Scope}
theorem filt_take {f : β → γ} {q : β → Bool} : ∀ (ys : List β) (k : Nat) (y : β), ys[k]? = some y → ((ys.take (k + 1)).filter q).map f = if q y = true then ((ys.take k).filter q).map f ++ [f y] else ((ys.take k).filter q).map f
  | [], k, y, h => by simp at h
  | z :: ys, 0, y, h => by
    have h : z = y := Option.some.inj h
    subst h
    cases hq : q z <;> simp [hq]
  | z :: ys, k + 1, y, h => by
    have ih := filt_take (f := f) (q := q) ys k y (by simpa using h)
    rw [List.take_succ_cons, List.take_succ_cons, List.filter_cons, List.filter_cons]
    cases hz : q z with
    | true =>
      rw [if_pos rfl, if_pos rfl, List.map_cons, List.map_cons, ih]
      split <;> simp
    | false =>
      rw [if_neg Bool.false_ne_true, if_neg Bool.false_ne_true, ih]
/-- [f y for y in ys if q y], no cell changed -/
theorem de_lcT {g : TG} {r : β → As} {ys : List β} {own : List (Str × Nat)} {u : β → Ctx → Ctx} {Γ : List (Option As)} {μ : List Cell} {lk : List Addr} {S' : Sc} {r' : γ → As} {f : β → γ} {q : β → Bool}
    (xf : Xf Sx X) (B : Blk Sx S' scope own) (hi : DI X F tg iter C r ys ⟨Γ, μ, lk⟩) (hg : ∀ X', InBlk X scope X' → Xf S' X' → PG X' tg g) (gok : ∀ F, GOk F g (own.map (·.2)) r u) (hlen : ys.length ≤ sizeLine)
    (hmono : ∀ (y : β) (C : Ctx), (u y C).μ = C.μ ∧ (u y C).lk = C.lk)
    (htt : ∀ (y : β) F' X', y ∈ ys → InBlk X scope X' → Xf S' X' → DTs X' F' ifs (u y ⟨wipeA Γ (own.map (·.2)), μ, []⟩) (q y) (u y ⟨wipeA Γ (own.map (·.2)), μ, []⟩))
    (hte : ∀ (y : β) F' X', y ∈ ys → InBlk X scope X' → Xf S' X' → q y = true → De X' F' elt (u y ⟨wipeA Γ (own.map (·.2)), μ, []⟩) (r' (f y)) (u y ⟨wipeA Γ (own.map (·.2)), μ, []⟩))
    (hs : ∀ x, foldedSetIterable iter X.env x = pure x := by intro _; rfl) :
    De X F (.ListComp elt [⟨tg, iter, ifs, 0⟩] scope pos) C (rLs r' ((ys.filter q).map f)) ⟨Γ, μ, lk⟩ := by
  by_cases hne : ys = []
  · subst hne
    have := dx_lc (pos := pos) (elt := elt) (ifs := ifs) (fun _ => μ) (fun _ => true) (fun _ => sN) (fun _ => ⟨Γ, μ, []⟩) (fun _ => ⟨Γ, μ, []⟩) (fun _ => []) xf B hi hg gok rfl (fun k hk => by simp at hk) hlen (fun _ => ⟨rfl, fun _ => rfl⟩) (fun _ => ⟨rfl, rfl⟩) (fun k y F' X' _ _ h => by simp at h) (fun k y F' X' _ _ h => by simp at h) hmono hs
    exact this.frz
  obtain ⟨y0, hy0⟩ : ∃ y0, y0 ∈ ys := by
    cases ys with
    | nil => exact absurd rfl hne
    | cons y _ => exact ⟨y, List.mem_cons_self⟩
  let at_ : Nat → β := fun k => ys.getD k y0
  have hat : ∀ k y, ys[k]? = some y → at_ k = y := fun k y h => by
    show ys.getD k y0 = y
    rw [List.getD_eq_getElem?_getD, h]
    rfl
  have key := dx_lc (pos := pos) (elt := elt) (ifs := ifs) (fun _ => μ) (fun k => q (at_ k)) (fun k => r' (f (at_ k))) (fun k => u (at_ k) ⟨wipeA Γ (own.map (·.2)), μ, []⟩) (fun k => u (at_ k) ⟨wipeA Γ (own.map (·.2)), μ, []⟩) (fun k => (((ys.take k).filter q).map f).map r') xf B hi hg gok (by simp) (fun k hk => ?_) hlen
    (fun k => ⟨(hmono _ _).2, fun _ => (hmono _ _).1⟩) (fun k => ⟨(hmono _ _).2, (hmono _ _).1⟩) (fun k y F' X' h1 h2 h3 => ?_) (fun k y F' X' h1 h2 h3 h4 => ?_) hmono hs
  · rw [List.take_length] at key
    exact key.frz
  · have hy : ys[k]? = some ys[k] := List.getElem?_eq_getElem hk
    rw [filt_take ys k _ hy, hat k _ hy]
    split
    · rw [List.map_append]
      rfl
    · rfl
  · rw [hat k y h3]
    exact htt y F' X' (List.mem_of_getElem? h3) h1 h2
  · rw [hat k y h3] at h4 ⊢
    exact hte y F' X' (List.mem_of_getElem? h3) h1 h2 h4
end
end L3

/-! L3, part k: bits as texts. -/
namespace L3
open PySem PySem.Spec L2

abbrev Bits := List Bool
def bit (b : Bool) : Nat := if b then 49 else 48
/-- a row of bits as a text -/
def bs (p : Bits) : Str := ⟨(p.map bit).toArray⟩
def sP (p : Bits) : As := sS (bs p)
theorem bs_tl (p : Bits) : (bs p).cps.toList = p.map bit := rfl
theorem bs_len (p : Bits) : (bs p).length = p.length := by
  show ((p.map bit).toArray).size = _
  rw [List.size_toArray, List.length_map]
theorem bit_inj : ∀ {a b : Bool}, bit a = bit b → a = b := by decide
theorem bits_inj : ∀ {p q : Bits}, p.map bit = q.map bit → p = q
  | [], [], _ => rfl
  | [], _ :: _, h => by simp at h
  | _ :: _, [], h => by simp at h
  | a :: p, b :: q, h => by
    rw [List.map_cons, List.map_cons] at h
    obtain ⟨h1, h2⟩ := List.cons.inj h
    rw [bit_inj h1, bits_inj h2]
theorem bs_inj {p q : Bits} (h : bs p = bs q) : p = q := bits_inj (by rw [← bs_tl, ← bs_tl, h])
theorem bs_eq {p q : Bits} : (bs p = bs q) = (p = q) := propext ⟨bs_inj, fun h => by rw [h]⟩
theorem str_ext {x y : Str} (h : x.cps.toList = y.cps.toList) : x = y := by
  cases x
  cases y
  simp at h
  rw [h]
theorem str_app (x y : Str) : (x ++ y).cps.toList = x.cps.toList ++ y.cps.toList := by
  first
    | rfl
    | exact Array.toList_append
    | (show (Str.append x y).cps.toList = _; unfold Str.append; simp)
theorem bs_app (p q : Bits) : bs p ++ bs q = bs (p ++ q) := str_ext (by rw [str_app, bs_tl, bs_tl, bs_tl, List.map_append])
theorem bs_one (b : Bool) : bs [b] = ⟨#[bit b]⟩ := rfl
theorem bs_nil : bs [] = ("" : Str) := by decide +kernel
theorem bs_0 : bs [false] = ("0" : Str) := by decide +kernel
theorem bs_1 : bs [true] = ("1" : Str) := by decide +kernel
theorem str01 : (("01" : Str)).cps.toList = [48, 49] := by decide +kernel
/-! order of prefixes -/
def ltB : Bits → Bits → Bool
  | [], [] => false
  | [], _ :: _ => true
  | _ :: _, [] => false
  | a :: p, b :: q => if a = b then ltB p q else b
/-! slices -/
theorem cut_to (p : Bits) (n : Nat) : cutS (bs p) none (some (n : Int)) = bs (p.take n) := by
  refine str_ext ?_
  unfold cutS
  rw [bs_len, HT.sIx_none, show HT.sIx p.length p.length (some (n : Int)) = min n p.length from HT.sIx_nat p.length p.length n]
  show (List.take (min n p.length - 0) (List.drop 0 ((bs p).cps.toList))) = _
  rw [bs_tl, bs_tl, List.drop_zero, Nat.sub_zero, List.map_take]
  have : (p.map bit).length = p.length := List.length_map ..
  rw [← this, List.take_eq_take_min]
  simp
section
variable {X : Cx} {F : Fr} {Sx : Sc} {C C1 C2 C3 : Ctx} {pos p2 pos' apos : Pos} {a b c e o : Expr} {p q : Bits}
theorem non_P : NonB (sP p) false := non_S
theorem de_emptyP {j} : De X F (.Constant (.str ("" : Str)) j pos) C (sP []) C := de_str.cast (by unfold sP; rw [bs_nil])
theorem de_zeroP {j} : De X F (.Constant (.str ("0" : Str)) j pos) C (sP [false]) C := de_str.cast (by unfold sP; rw [bs_0])
theorem de_oneP {j} : De X F (.Constant (.str ("1" : Str)) j pos) C (sP [true]) C := de_str.cast (by unfold sP; rw [bs_1])
theorem de_appP (ha : De X F a C (sP p) C1) (hb : De X F b C1 (sP q) C2) (h : p.length + q.length ≤ 1000000) : De X F (.BinOp a .Add b pos) C (sP (p ++ q)) C2 :=
  (de_adds ha hb (by rw [bs_len, bs_len]; exact Nat.le_trans h (by decide))).cast (by unfold sP; rw [bs_app])
theorem ca_lenP (h : p.length ≤ 1000000) : CalV X F C (.builtin "len") [sP p] (sI p.length) C := by
  have := ca_lenS (X := X) (F := F) (C := C) (z := bs p) (by rw [bs_len]; exact Nat.le_trans h (by decide))
  rw [bs_len] at this
  exact this
theorem cv_eqP : CmpV X F C .Eq (sP p) (sP q) (decide (p = q)) := by
  have := cv_eqS (X := X) (F := F) (C := C) (i := bs p) (j := bs q)
  rw [show decide (bs p = bs q) = decide (p = q) by simp only [bs_eq]] at this
  exact this
theorem cv_neP : CmpV X F C .NotEq (sP p) (sP q) (!decide (p = q)) := by
  have := cv_neS (X := X) (F := F) (C := C) (i := bs p) (j := bs q)
  rw [show decide (bs p = bs q) = decide (p = q) by simp only [bs_eq]] at this
  exact this
theorem de_takeP {hi : Expr} {n : Nat} (he : De X F e C (sP p) C1) (hh : De X F hi C1 (sI (n : Int)) C2) (h : p.length ≤ 1000000) : De X F (.Subscript e (.Slice none (some hi) none p2) pos) C (sP (p.take n)) C2 :=
  (de_slS he do_none (do_some hh) (by rw [bs_len]; exact Nat.le_trans h (by decide))).cast (by unfold sP; rw [cut_to])
/-- sign by sign -/
theorem di_P {tg : Expr} (h : De X F e C (sP p) C1) : DI X F tg e C (fun b : Bool => sP [b]) p C1 := by
  refine piW (pi_str h) ?_
  rintro σ H R ⟨P, k, q⟩
  refine ⟨P, k, fun v P1 H1 k1 m1 hv => ?_⟩
  refine ⟨bs p, hv, q _ P1 H1 k1 m1 ⟨fun P' H' m s => ?_, fun i y P' H' e m s => ?_, fun i y P' H' x H'' e m s hy C σ k' => ?_⟩⟩
  · show (bs p).cps.size ≤ p.length
    exact Nat.le_of_eq (bs_len p)
  · show i < (bs p).cps.size
    rw [show (bs p).cps.size = p.length from bs_len p]
    exact (List.getElem?_eq_some_iff.mp e).1
  · obtain ⟨rfl, c, hc, rfl⟩ := hy
    have e2 : (bs p).cps[i]? = some (bit y) := by rw [← Array.getElem?_toList, bs_tl, List.getElem?_map, e]; rfl
    rw [e2] at hc
    cases hc
    exact ⟨P', Same.refl _, k', rfl⟩
theorem cv_sign01 {b : Bool} : CmpV X F C .In (sP [b]) (sS ("01" : Str)) true := by
  have := cv_sign (X := X) (F := F) (C := C) (n := bit b) (z := ("01" : Str))
  rw [str01, show decide (bit b ∈ [48, 49]) = true by cases b <;> decide] at this
  exact this
theorem int_bit (b : Bool) : PySem.intText? (bs [b]) = some (if b then 1 else 0) := by cases b <;> decide +kernel
theorem ca_intP {b : Bool} : CalV X F C (.type "int") [sP [b]] (sI (if b then 1 else 0)) C := ca_intS (int_bit b) (by rw [bs_len]; show 1 ≤ 640; decide)
/-- '01'[n] -/
theorem de_pick01 {n : Int} {j} (hi : De X F e C (sI n) C1) (h0 : 0 ≤ n) (h1 : n < 2) (hb : PlainIxT e := by exact fun _ _ => rfl) : De X F (.Subscript (.Constant (.str ("01" : Str)) j pos') e pos) C (sP [decide (n = 1)]) C1 := by
  refine peW (pe_item_str (pe_str) hi hb) ?_
  rintro σ H Q ⟨P, k, q⟩
  refine ⟨P, k, fun v P1 H1 k1 m1 hv => ?_⟩
  have e : n = 0 ∨ n = 1 := by omega
  rcases e with e | e <;> subst e
  · exact ⟨("01" : Str), 0, 48, rfl, hv, by decide, by decide, by decide +kernel, by decide +kernel, q _ P1 H1 k1 m1 rfl⟩
  · exact ⟨("01" : Str), 1, 49, rfl, hv, by decide, by decide, by decide +kernel, by decide +kernel, q _ P1 H1 k1 m1 rfl⟩
/-- startswith -/
theorem sw_bits (p q : Bits) : Txt.startswith (bs p) (bs q) = q.isPrefixOf p := by
  unfold Txt.startswith
  rw [PySem.StrLaws.subAt_eq, bs_len, bs_len, bs_tl, bs_tl, List.drop_zero, ← List.map_take]
  have h : ((p.take q.length).map bit == q.map bit) = decide (p.take q.length = q) := by
    by_cases e : p.take q.length = q
    · rw [e]; simp
    · have h1 : ¬ (p.take q.length).map bit = q.map bit := fun z => e (bits_inj z)
      rw [decide_eq_false e, beq_eq_false_iff_ne.mpr h1]
  rw [h]
  have iff : q.isPrefixOf p = true ↔ q = p.take q.length := by rw [List.isPrefixOf_iff_prefix, List.prefix_iff_eq_take]
  cases hq : q.isPrefixOf p with
  | true =>
    have e := iff.mp hq
    have l : q.length ≤ p.length := by
      have := congrArg List.length e
      rw [List.length_take] at this
      omega
    simp [← e, l]
  | false =>
    have e : ¬ p.take q.length = q := fun z => by
      rw [iff.mpr z.symm] at hq
      cases hq
    simp [e]
theorem de_startsP (ho : De X F o C (sP p) C1) (ha : De X F e C1 (sP q) C2)
    (hbase : attributeBase o "startswith" X.env (eval o X.env) = eval o X.env := by rfl)
    (hfew : ((backTo pos (starEach [e] X.env)).all (fun x => !x.1) && (backToKw pos (keywordEach [] X.env)).all (fun x => x.1.isSome)
      && decide (([e] : List Expr).length + ([] : List Keyword).length + (if ([] : List Keyword).isEmpty then 0 else 1) < 30)) = true := by rfl)
    (hline : (apos.endLine == pos.line) = true := by rfl) (hs : starEach [e] X.env = (false, eval e X.env) :: starEach [] X.env := by rfl)
    (hplain : (backTo pos (starEach [] X.env)).any (·.1) = false := by rfl) :
    De X F (.Call (.Attribute o "startswith" apos) [e] [] pos) C (sB (q.isPrefixOf p)) C2 :=
  (de_startswith ho ha hbase hfew hline hs hplain).cast (by rw [sw_bits])
/-- ''.join of bits -/
theorem joinL_nil : ∀ ys : List (List Nat), TL.joinL [] ys = ys.flatten
  | [] => rfl
  | [p] => by simp [TL.joinL]
  | p :: q :: r => by
    show p ++ ([] ++ TL.joinL [] (q :: r)) = _
    rw [joinL_nil (q :: r)]
    simp
theorem join_bits (ys : List Bits) : Txt.join ("" : Str) (ys.map bs) = bs ys.flatten := by
  rw [TL.join_eq]
  refine str_ext ?_
  show TL.tl (Str.join ("" : Str) (ys.map bs)) = TL.tl (bs ys.flatten)
  rw [TL.tl_join, show TL.tl ("" : Str) = [] by decide +kernel, joinL_nil, List.map_map]
  show (ys.map fun p => p.map bit).flatten = ys.flatten.map bit
  rw [List.map_flatten]
theorem de_joinP {ys : List Bits} (ho : De X F o C (sS ("" : Str)) C1) (ha : De X F e C1 (rLs sP ys) C2) (hl : (ys.map (·.length)).sum ≤ 1000000)
    (hbase : attributeBase o "join" X.env (eval o X.env) = eval o X.env := by rfl)
    (hfew : ((backTo pos (starEach [e] X.env)).all (fun x => !x.1) && (backToKw pos (keywordEach [] X.env)).all (fun x => x.1.isSome)
      && decide (([e] : List Expr).length + ([] : List Keyword).length + (if ([] : List Keyword).isEmpty then 0 else 1) < 30)) = true := by rfl)
    (hline : (apos.endLine == pos.line) = true := by rfl) (hs : starEach [e] X.env = (false, eval e X.env) :: starEach [] X.env := by rfl)
    (hplain : (backTo pos (starEach [] X.env)).any (·.1) = false := by rfl) :
    De X F (.Call (.Attribute o "join" apos) [e] [] pos) C (sP ys.flatten) C2 := by
  have e1 : rLs sP ys = sL ((ys.map bs).map sS) := by
    show sL (ys.map sP) = _
    rw [List.map_map]
    rfl
  rw [e1] at ha
  refine (de_join ho ha ?_ hbase hfew hline hs hplain).cast (by unfold sP; rw [join_bits])
  rw [List.map_map, show ((fun x : Str => x.length) ∘ bs) = (fun p : Bits => p.length) from funext fun p => bs_len p, show (("" : Str)).length = 0 by decide +kernel]
  omega
end
end L3

/-! L3, part l: item stores, defs of the module, the laws' draws. -/
namespace L3
open PySem PySem.Spec L2

/-! ### a def of the top as it stands -/
structure Dfn (K : PySem.W.Frag) (mg : Str → Option Value) (x : Str) (st : Stmt) (ps : List Str) : Prop where
  ex : ∃ f fd, Fun K x x st f fd ∧ mg x = some (.ref f) ∧ Binds K fd ps []
structure DfnM (K : PySem.W.Frag) (A : Addr) (x qual : Str) (st : Stmt) (ps : List Str) : Prop where
  ex : ∃ f fd, Fun K x qual st f fd ∧ Meth K A x f ∧ Cls K A ∧ Binds K fd ps []
section
variable {Pg : Program} {w : World} {K : PySem.W.Frag} {mg : Str → Option Value} {base : Heap} {x qual : Str} {st : Stmt} {ps : List Str} {Sx : Sc} {S : FS} {kL : Nat} {A : Addr}
/-- what a body may use -/
structure Env1 (Pg : Program) (w : World) (K : PySem.W.Frag) (mg : Str → Option Value) (base : Heap) (Sx : Sc) (kL : Nat) (X : Cx) : Prop where
  e1 : X.prog = Pg
  e2 : X.w = w
  e3 : X.K = K
  e4 : X.mg = mg
  e5 : X.base = base
  xf : Xf Sx X
  hr : Room kL X.A
  hp : PassesOwn (model X.prog X.w) X.A X.env X.xe
theorem Env1.hu {X : Cx} (h : Env1 Pg w K mg base Sx kL X) : X.A.units + 1 < cLine := hu_of h.hr
theorem cal_of (D : Dfn K mg x st ps) (sc : FnScope Sx.N ps (defScope st)) (hS : Sx.sc = defScope st) (htab : tabC Sx = true) (hlen : ∀ i, (S.ar i).length = ps.length)
    (hb : ∀ (X : Cx) (F : Fr) (i : S.ι), Env1 Pg w K mg base Sx kL X → S.pre i → DB X F (defBody st) ⟨ent Sx.N.length (S.ar i), S.μ i, []⟩ (outs S i)) : Cal Pg w K mg base (kL + 1) x S := by
  obtain ⟨f, fd, Fu, hm, hb'⟩ := D.ex
  exact ⟨f, fd, ps, fn_ok Fu sc hS htab hlen fun X F i e1 e2 e3 e4 e5 xf hr hp => hb X F i ⟨e1, e2, e3, e4, e5, xf, hr, hp⟩, hm, Fu.kp, hb'⟩
theorem mtd_of (D : DfnM K A x qual st ps) (sc : FnScope Sx.N ps (defScope st)) (hS : Sx.sc = defScope st) (htab : tabC Sx = true) (hlen : ∀ i, (S.ar i).length = ps.length)
    (hb : ∀ (X : Cx) (F : Fr) (i : S.ι), Env1 Pg w K mg base Sx kL X → S.pre i → DB X F (defBody st) ⟨ent Sx.N.length (S.ar i), S.μ i, []⟩ (outs S i)) : Mtd Pg w K mg base (kL + 1) A x S := by
  obtain ⟨f, fd, Fu, hm, hc, hb'⟩ := D.ex
  exact ⟨f, fd, ps, fn_ok Fu sc hS htab hlen fun X F i e1 e2 e3 e4 e5 xf hr hp => hb X F i ⟨e1, e2, e3, e4, e5, xf, hr, hp⟩, hm, hc, hb'⟩
theorem cal_vac (D : Dfn K mg x st ps) (hlen : ∀ i, (S.ar i).length = ps.length) (h : ∀ i, ¬ S.pre i) : Cal Pg w K mg base kL x S := by
  obtain ⟨f, fd, Fu, hm, hb'⟩ := D.ex
  exact ⟨f, fd, ps, ⟨fun vs H Q E ⟨i, P, hp, _⟩ => absurd hp (h i), fun A outer s H args us vs Q E _ _ _ _ ⟨i, P, hp, _⟩ => absurd hp (h i)⟩, hm, Fu.kp, hb'⟩
end

section
variable {X : Cx} {F : Fr} {Sx : Sc} {C C1 C2 C3 C4 : Ctx} {s s1 s2 s3 : As} {pos p pos' apos : Pos} {a b c e e1 e2 e3 e4 o i : Expr} {b1 b2 : Bool} {es : List Expr} {ss rr : List As} {x y : Str} {σ : L2.St} {P H : Hp} {O : Out} {st : Stmt} {sts rest body orelse : List Stmt} {kL : Nat} {α β γ δ : Type}
/-- l[i] = e -/
theorem db_ixset {l : Addr} {Γ : List (Option As)} {μ : List Cell} {lk : List Addr} {j : Int} {m : Nat} (n : Nat) (hv : De X F e C s C1) (ho : De X F o C1 (sAt l) C2) (hi : De X F i C2 (sI j) ⟨Γ, μ, lk⟩) (hc : μ[n]? = some (cL l ss) := by rfl) (hj : j = (m : Int)) (hm : m < ss.length)
    (h : DB X F rest ⟨Γ, μ.set n (cL l (ss.set m s)), lk⟩ O)
    (ha : ∀ v, assign (.Subscript o i pos') X.env v = (do
      let ov ← holding [v] (eval o X.env)
      let iv ← holding [v, ov] (eval i X.env)
      standAt pos'
      holding [v, ov, iv] (setItem ov iv v)
      release [v, ov, iv] []) := by intro _; rfl) (hs : swapsWithSole [.Subscript o i pos'] e pos.line X.env = pure false := by rfl) (hw : swappedStores [.Subscript o i pos'] e X.env = pure none := by rfl)
    (h1 : (assignEach [.Subscript o i pos'] X.env).map (·.2) = [assign (.Subscript o i pos') X.env] := by rfl) : DB X F (.Assign [.Subscript o i pos'] e pos :: rest) C O := by
  refine pssW (pss_cons (ps_asg hv (pg_sub ho hi set_list ha) hs hw h1) h) ?_
  rintro D σ H ⟨P, k, q⟩
  refine ⟨P, k, fun v P1 H1 k1 m1 hv => ⟨P1, k1, fun u P2 H2 k2 m2 hu => ⟨P2, k2, fun w P3 H3 k3 m3 hw => ?_⟩⟩⟩
  obtain ⟨_, ⟨z, hz, xs, rfl, hx⟩, _⟩ := k3.cells _ (List.mem_of_getElem? hc)
  have hu : u = .ref l := hu
  have hw : w = .int j := hw
  subst hu hw
  have hlen := hx.len
  refine ⟨l, xs, j, m, rfl, rfl, hz, ?_, P3, ?_, Fol.later q ((m1.trans m2).trans m3)⟩
  · subst hj
    unfold ixN
    rw [if_pos (Int.natCast_nonneg m), if_pos (by omega)]
    simp
  · exact k3.writeAt (c' := cL l (ss.set m s)) hc rfl ⟨_, rfl, Each.set (s.mono (m2.trans m3) hv) m hx⟩

/-! ### the draws -/
/-- the script: a list that is only read -/
def kSeq (K : PySem.W.Frag) (a : Addr) (xs : List V) : Prop := ∃ (o : Obj) (its : Array Value) (n : Nat), K.lookup a = some o ∧ o.cls = .type "list" ∧ o.dict = none ∧ o.data = .seq its n ∧ its.size ≤ sizeLine ∧ Vals xs its.toList
def sScr (K : PySem.W.Frag) (ns : List Int) : As := ⟨fun P v => ∃ a, v = .ref a ∧ ((∃ od, P a = some (.frz od (.lst (ns.map V.int)))) ∨ kSeq K a (ns.map V.int)), fun h ⟨a, e, k⟩ => ⟨a, e, k.imp (fun ⟨od, k⟩ => ⟨od, h _ _ k⟩) id⟩⟩
theorem scr_seq {K : PySem.W.Frag} {ns : List Int} {P H : Hp} (k : Sub P H) {v : V} (h : (sScr K ns).holds P v) : ∃ a, v = .ref a ∧ SqL K H a (ns.map V.int) := by
  obtain ⟨a, e, ⟨od, h⟩ | h⟩ := h
  · exact ⟨a, e, .inl (.inr ⟨od, k.frz h⟩)⟩
  · exact ⟨a, e, .inr h⟩
structure Draw where
  ns : List Int
  i : Nat
  seed : Int
  cur : Int
def Draw.fs (K : PySem.W.Frag) (d : Draw) : List As := [sScr K d.ns, sI d.i, sI d.seed, sI d.cur]
abbrev cDr (K : PySem.W.Frag) (l : Addr) (d : Draw) : Cell := cL l (d.fs K)
/-- a draw below m, and what is left -/
def Draw.next (d : Draw) (m : Int) : Draw :=
  if 0 < d.cur then { d with cur := d.cur / m }
  else if (d.ns.length : Int) < (d.i : Int) + 1 then { d with i := d.i + 1, seed := (d.seed * 48271 + 11) % 2147483647 }
  else { d with i := d.i + 1, seed := (d.seed * 48271 + d.ns.getD d.i 0 + 11) % 2147483647, cur := if 1000000000000000000 ≤ d.ns.getD d.i 0 then d.ns.getD d.i 0 / m else d.cur }
def Draw.val (d : Draw) (m : Int) : Int :=
  if 0 < d.cur then d.cur % m
  else if (d.ns.length : Int) < (d.i : Int) + 1 then (((d.seed * 48271 + 11) % 2147483647) / 7) % m
  else d.ns.getD d.i 0 % m
theorem Draw.val_ge (d : Draw) {m : Int} (h : 0 < m) : 0 ≤ d.val m := by
  unfold Draw.val
  split
  · exact Int.emod_nonneg _ (by omega)
  · split <;> exact Int.emod_nonneg _ (by omega)
theorem Draw.val_lt (d : Draw) {m : Int} (h : 0 < m) : d.val m < m := by
  unfold Draw.val
  split
  · exact Int.emod_lt_of_pos _ h
  · split <;> exact Int.emod_lt_of_pos _ h
theorem ca_lenScr {ns : List Int} : CalV X F C (.builtin "len") [sScr X.K ns] (sI ns.length) C := ⟨_, call_len_seq, fun σ P H vs Q k h q => by
  obtain ⟨v, rfl, hv⟩ := each1 h
  obtain ⟨a, rfl, hp⟩ := scr_seq k.sub hv
  exact ⟨a, _, rfl, .inl hp, by rw [List.length_map]; exact q _ P H k (Same.refl _) rfl⟩⟩
theorem de_ixScr {ns : List Int} {j : Int} {n : Nat} {v : Int} (ha : De X F a C (sScr X.K ns) C1) (hi : De X F b C1 (sI j) C2) (hj : j = (n : Int)) (hv : ns[n]? = some v) (hb : PlainIx b := by exact fun _ _ => rfl) : De X F (.Subscript a b pos) C (sI v) C2 := by
  refine peW (pe_ix ix_list ha hi hb) ?_
  rintro σ H Q ⟨P, k, q⟩
  refine ⟨P, k, fun w P1 H1 k1 m1 hw => ⟨P1, k1, fun u P2 H2 k2 m2 hu => ?_⟩⟩
  obtain ⟨p, rfl, hp⟩ := scr_seq k2.sub ((sScr X.K ns).mono m2 hw)
  exact ⟨p, _, j, .int v, rfl, hu, hp, at_of hj (by rw [List.getElem?_map, hv]; rfl), q _ P2 H2 k2 (m1.trans m2) rfl⟩
/-! promises of defs that draw: the row first -/
abbrev FS.dr0 (K : PySem.W.Frag) {κ : Type} (res : Draw → As) (nx : Draw → Draw) : FS := FS.st (α := Addr × Draw) (fun _ => True) (fun x => [sAt x.1]) (fun x => [cDr K x.1 x.2]) (fun x => res x.2) fun x => [cDr K x.1 (nx x.2)]
abbrev FS.dr1 (K : PySem.W.Frag) (r1 : α → As) (pre : α → Prop) (res : Draw → α → As) (nx : Draw → α → Draw) : FS := FS.st (α := Addr × Draw × α) (fun x => pre x.2.2) (fun x => [sAt x.1, r1 x.2.2]) (fun x => [cDr K x.1 x.2.1]) (fun x => res x.2.1 x.2.2) fun x => [cDr K x.1 (nx x.2.1 x.2.2)]
abbrev FS.dr2 (K : PySem.W.Frag) (r1 : α → As) (r2 : β → As) (pre : α → β → Prop) (res : Draw → α → β → As) (nx : Draw → α → β → Draw) : FS := FS.st (α := Addr × Draw × α × β) (fun x => pre x.2.2.1 x.2.2.2) (fun x => [sAt x.1, r1 x.2.2.1, r2 x.2.2.2]) (fun x => [cDr K x.1 x.2.1]) (fun x => res x.2.1 x.2.2.1 x.2.2.2) fun x => [cDr K x.1 (nx x.2.1 x.2.2.1 x.2.2.2)]
abbrev FS.dr3 (K : PySem.W.Frag) (r1 : α → As) (r2 : β → As) (r3 : γ → As) (pre : α → β → γ → Prop) (res : Draw → α → β → γ → As) (nx : Draw → α → β → γ → Draw) : FS := FS.st (α := Addr × Draw × α × β × γ) (fun x => pre x.2.2.1 x.2.2.2.1 x.2.2.2.2) (fun x => [sAt x.1, r1 x.2.2.1, r2 x.2.2.2.1, r3 x.2.2.2.2]) (fun x => [cDr K x.1 x.2.1]) (fun x => res x.2.1 x.2.2.1 x.2.2.2.1 x.2.2.2.2) fun x => [cDr K x.1 (nx x.2.1 x.2.2.1 x.2.2.2.1 x.2.2.2.2)]
variable {l : Addr} {d : Draw} {Γ : List (Option As)} {μ : List Cell} {lk : List Addr}
theorem de_dr1 {r1 : α → As} {pre : α → Prop} {res : Draw → α → As} {nx : Draw → α → Draw} {v1 : α} (xf : Xf Sx X) (j : Nat) (h : Cal X.prog X.w X.K X.mg X.base kL x (FS.dr1 X.K r1 pre res nx)) (hr : Room kL X.A) (h0 : De X F e C (sAt l) C1) (h1 : De X F e1 C1 (r1 v1) ⟨Γ, cDr X.K l d :: μ, lk⟩) (hp : pre v1)
    (hg : Sx.G[j]? = some x := by rfl) (hdb : (x == ("__debug__" : Str)) = false := by decide) (he0 : starEach [e, e1] X.env = (false, eval e X.env) :: starEach [e1] X.env := by rfl) (he : starEach [e1] X.env = (false, eval e1 X.env) :: starEach [] X.env := by rfl) (hpl : (backTo pos (starEach [e1] X.env)).any (·.1) = false := by rfl) :
    De X F (.Call (.Name x p) [e, e1] [] pos) C (res d v1) ⟨Γ, cDr X.K l (nx d v1) :: μ, lk⟩ := de_callS xf j h hr (da_cons h0 (da_cons h1 da_nil he) he0) (l, d, v1) hp μ rfl rfl hg hdb he0 hpl
theorem de_dr2 {r1 : α → As} {r2 : β → As} {pre : α → β → Prop} {res : Draw → α → β → As} {nx : Draw → α → β → Draw} {v1 : α} {v2 : β} (xf : Xf Sx X) (j : Nat) (h : Cal X.prog X.w X.K X.mg X.base kL x (FS.dr2 X.K r1 r2 pre res nx)) (hr : Room kL X.A) (h0 : De X F e C (sAt l) C1) (h1 : De X F e1 C1 (r1 v1) C2) (h2 : De X F e2 C2 (r2 v2) ⟨Γ, cDr X.K l d :: μ, lk⟩) (hp : pre v1 v2)
    (hg : Sx.G[j]? = some x := by rfl) (hdb : (x == ("__debug__" : Str)) = false := by decide) (he0 : starEach [e, e1, e2] X.env = (false, eval e X.env) :: starEach [e1, e2] X.env := by rfl) (he : starEach [e1, e2] X.env = (false, eval e1 X.env) :: starEach [e2] X.env := by rfl) (he2 : starEach [e2] X.env = (false, eval e2 X.env) :: starEach [] X.env := by rfl) (hpl : (backTo pos (starEach [e1, e2] X.env)).any (·.1) = false := by rfl) :
    De X F (.Call (.Name x p) [e, e1, e2] [] pos) C (res d v1 v2) ⟨Γ, cDr X.K l (nx d v1 v2) :: μ, lk⟩ := de_callS xf j h hr (da_cons h0 (da_cons h1 (da_cons h2 da_nil he2) he) he0) (l, d, v1, v2) hp μ rfl rfl hg hdb he0 hpl
theorem de_dr3 {r1 : α → As} {r2 : β → As} {r3 : γ → As} {pre : α → β → γ → Prop} {res : Draw → α → β → γ → As} {nx : Draw → α → β → γ → Draw} {v1 : α} {v2 : β} {v3 : γ} (xf : Xf Sx X) (j : Nat) (h : Cal X.prog X.w X.K X.mg X.base kL x (FS.dr3 X.K r1 r2 r3 pre res nx)) (hr : Room kL X.A) (h0 : De X F e C (sAt l) C1) (h1 : De X F e1 C1 (r1 v1) C2) (h2 : De X F e2 C2 (r2 v2) C3) (h3 : De X F e3 C3 (r3 v3) ⟨Γ, cDr X.K l d :: μ, lk⟩) (hp : pre v1 v2 v3)
    (hg : Sx.G[j]? = some x := by rfl) (hdb : (x == ("__debug__" : Str)) = false := by decide) (he0 : starEach [e, e1, e2, e3] X.env = (false, eval e X.env) :: starEach [e1, e2, e3] X.env := by rfl) (he : starEach [e1, e2, e3] X.env = (false, eval e1 X.env) :: starEach [e2, e3] X.env := by rfl) (he2 : starEach [e2, e3] X.env = (false, eval e2 X.env) :: starEach [e3] X.env := by rfl) (he3 : starEach [e3] X.env = (false, eval e3 X.env) :: starEach [] X.env := by rfl) (hpl : (backTo pos (starEach [e1, e2, e3] X.env)).any (·.1) = false := by rfl) :
    De X F (.Call (.Name x p) [e, e1, e2, e3] [] pos) C (res d v1 v2 v3) ⟨Γ, cDr X.K l (nx d v1 v2 v3) :: μ, lk⟩ := de_callS xf j h hr (da_cons h0 (da_cons h1 (da_cons h2 (da_cons h3 da_nil he3) he2) he) he0) (l, d, v1, v2, v3) hp μ rfl rfl hg hdb he0 hpl
/-- return, from a def that draws -/
theorem db_retD {α : Type} {pre : α → Prop} {ar : α → List As} {l : α → Addr} {d d' : α → Draw} {res : α → As} {i : α} {nx bk ct : Ctx → Prop} {dd : Draw} {more : List Cell} (he : De X F e C s ⟨Γ, cDr X.K (l i) dd :: more, []⟩) (h : s = res i) (hd : dd = d' i) : DB X F (.Return (some e) pos :: rest) C ⟨nx, (outs (FS.st pre ar (fun i => [cDr X.K (l i) (d i)]) res fun i => [cDr X.K (l i) (d' i)]) i).rt, bk, ct⟩ := by
  subst hd
  exact db_retS he h more rfl rfl
end
end L3

/-! L3, part m: the end of a law. -/
namespace L3
open PySem PySem.Spec L2
section
variable {K : PySem.W.Frag} {mg : Str → Option Value} {h : Heap}
theorem dfn_mk {x : Str} {st : Stmt} {ps : List Str} {f : Addr} {od an : Option Addr} {sl : Array (Option Value)} {oc kV dc pm cd ct : Value} (X : K.In h) (G : h.Ns mainGlobals mg) (a : PySem.W.nsIn K mainGlobals x = some (some (.ref f))) (l : K.lookup f = some ⟨oc, od, .func (PySem.W.fnOf x x (defArgs st) (defBody st) (defScope st) .none kV dc pm an cd ct), sl⟩) (c : PySem.W.codeIn K cd x = true) (k : PySem.W.keepIn K (.ref f) = true)
    (hb : ∀ (kV doc pm : Value) (an : Option Addr) (cdv ct : Value) (us : List Value), us.length = ps.length → bindArgs (PySem.W.fnOf x x (defArgs st) (defBody st) (defScope st) .none kV doc pm an cdv ct) ⟨us, []⟩ = pure (ps.zip us)) : Dfn K mg x st ps :=
  ⟨f, _, fun_mk l c k, PySem.W.mg_of X G a, (fun_mk l c k).binds hb⟩
theorem dfnM_mk {x qual : Str} {st : Stmt} {ps : List Str} {f A : Addr} {od an : Option Addr} {sl : Array (Option Value)} {oc kV dc pm cd ct : Value} (hc : Cls K A) (a : PySem.W.findIn K (.ref A) x = some (some (.ref f))) (i : PySem.W.isFn K (.ref f) = true) (l : K.lookup f = some ⟨oc, od, .func (PySem.W.fnOf x qual (defArgs st) (defBody st) (defScope st) .none kV dc pm an cd ct), sl⟩) (c : PySem.W.codeIn K cd qual = true) (k : PySem.W.keepIn K (.ref f) = true)
    (hb : ∀ (kV doc pm : Value) (an : Option Addr) (cdv ct : Value) (us : List Value), us.length = ps.length → bindArgs (PySem.W.fnOf x qual (defArgs st) (defBody st) (defScope st) .none kV doc pm an cdv ct) ⟨us, []⟩ = pure (ps.zip us)) : DfnM K A x qual st ps :=
  ⟨f, _, fun_mk l c k, ⟨a, i, k⟩, hc, (fun_mk l c k).binds hb⟩
end
theorem bind {p q : Prop} (h : p) (k : p → q) : q := k h
def spLaw (K : PySem.W.Frag) : Sp := fun vs H Q _ => ∃ (a : Addr) (ns : List Int), vs = [.ref a] ∧ Only H ∧ SqL K H a (ns.map V.int) ∧ ns.length ≤ 63 ∧ ∀ H', Q (.bl true) H'
/-- the law's own promise -/
abbrev SP_law (K : PySem.W.Frag) : FS := FS.fn1 (sScr K) (fun ns => ns.length ≤ 63) fun _ => sB true
theorem law_sp (K : PySem.W.Frag) (vs : List V) (H : Hp) (Q : VK) (E : XK) (h : spLaw K vs H Q E) : (SP_law K).sp vs H Q E := by
  obtain ⟨a, ns, rfl, ho, hs, hl, q⟩ := h
  refine ⟨ns, H, hl, fun b o e => .inl e, ⟨⟨a, rfl, ?_⟩, trivial⟩, ⟨fun c hc => absurd hc (by simp), List.nodup_nil⟩, fun k v P' H' _ _ _ _ _ hv _ => ?_⟩
  · rcases hs with (hs | ⟨o, hs⟩) | hs
    · rcases ho a with h | ⟨o, xs, h⟩ <;> rw [h] at hs <;> cases hs
    · exact .inl ⟨o, hs⟩
    · exact .inr hs
  · have hv : v = .bl true := hv
    subst hv
    exact q H'
theorem walk {l : PySem.W.OpenLaw} {q : Program} {loose : List Str} {XP : (Str → Option Value) → Heap → Prop} {YP : World → Heap → Prop} {d : DefRec} {K : Params → PySem.W.Frag} {kL : Nat} (hn : l.most = some 63) (hdf : d.params.defaults = []) (hnm : d.name = ("law" : Str)) (hr : Room kL callerA)
    (hY : ∀ (w : World) (h : Heap), YP w h → (K w.params).In h)
    (F : ∀ (w : World) (mg : Str → Option Value) (h : Heap), (K w.params).In h → h.Ns mainGlobals mg →
      ∃ (fa : Addr) (fd : FuncData), mg "law" = some (.ref fa) ∧ (∀ (s : Shared) (u : Value), BindsTo s fd ⟨[u], []⟩ [("script", u)]) ∧ ∀ base : Heap, (K w.params).In base → base.Ns mainGlobals mg → FnOk l.prog w (K w.params) mg base CX0 kL fa fd ["script"] (SP_law (K w.params)).sp) :
    PySem.W.WalkO q loose XP YP l.row.toRowW d [] (fun f vs => PySem.call f vs) := by
  refine L2.walk_of (n := 63) (k := kL) (x := "script") (CX := fun _ => CX0) (sp := fun w => spLaw (K w.params)) hn (by decide) hdf hr hY (fun w mg fa h X G hm => ?_) (fun _ _ a ns hl ho hS => ⟨a, ns, rfl, ho, hS, hl, fun _ => rfl⟩) fun _ _ _ _ _ z => z
  obtain ⟨fa', fd, h1, h2, h3⟩ := F w mg h X G
  rw [hnm, h1] at hm
  cases hm
  exact ⟨fd, h2, fun base hb hg => (h3 base hb hg).imp (law_sp _)⟩
end L3

/-! L3, part n: truth of rows, comprehensions that draw, a changing list handed to a def that only reads it. -/
namespace L3
open PySem PySem.Spec L2
section
variable {X : Cx} {F : Fr} {Sx : Sc} {C C1 C2 C3 C4 : Ctx} {s s1 s2 s3 : As} {pos p pos' apos : Pos} {a b c e e1 e2 e3 e4 o i : Expr} {b1 b2 : Bool} {es : List Expr} {ss rr : List As} {x y : Str} {σ : L2.St} {P H : Hp} {O : Out} {st : Stmt} {sts rest body orelse : List Stmt} {kL : Nat} {α β γ δ : Type}
theorem dt_truL (h : De X F e C (sL ss) C1) (he : ∀ whole, isTrue e X.env whole = (do let v ← whole; standAt e.pos; holding [v] (truthy v)) := by intro _; rfl) : DT X F e C (!ss.isEmpty) C1 := by
  refine ptW (pt_truth h he) ?_
  rintro σ H Q ⟨P, k, q⟩
  refine ⟨P, k, fun v P1 H1 k1 m1 ⟨a, vs, ev, hp, hv⟩ => ⟨_, ?_, q P1 H1 k1 m1⟩⟩
  subst ev
  refine .inl ⟨vs, SqL.of (k1.sub.lst hp), ?_⟩
  have := hv.len
  cases vs <;> cases ss <;> simp_all
theorem dt_truT (h : De X F e C (sT ss) C1) (he : ∀ whole, isTrue e X.env whole = (do let v ← whole; standAt e.pos; holding [v] (truthy v)) := by intro _; rfl) : DT X F e C (!ss.isEmpty) C1 := by
  refine ptW (pt_truth h he) ?_
  rintro σ H Q ⟨P, k, q⟩
  refine ⟨P, k, fun v P1 H1 k1 m1 ⟨a, vs, ev, hp, hv⟩ => ⟨_, ?_, q P1 H1 k1 m1⟩⟩
  subst ev
  refine .inr (.inl ⟨vs, SqT.of (k1.sub.tup hp), ?_⟩)
  have := hv.len
  cases vs <;> cases ss <;> simp_all
theorem dt_truC {l : Addr} (h : De X F e C (sAt l) C1) (hc : cL l ss ∈ C1.μ) (he : ∀ whole, isTrue e X.env whole = (do let v ← whole; standAt e.pos; holding [v] (truthy v)) := by intro _; rfl) : DT X F e C (!ss.isEmpty) C1 := by
  refine ptW (pt_truth h he) ?_
  rintro σ H Q ⟨P, k, q⟩
  refine ⟨P, k, fun v P1 H1 k1 m1 ev => ⟨_, ?_, q P1 H1 k1 m1⟩⟩
  obtain ⟨_, ⟨w, hw, vs, rfl, hv⟩, _⟩ := k1.cells _ hc
  have ev : v = .ref l := ev
  subst ev
  refine .inl ⟨vs, SqL.of hw, ?_⟩
  have := hv.len
  cases vs <;> cases ss <;> simp_all

/-! ### comprehensions that draw -/
def runD (f : Draw → β → γ) (nx : Draw → β → Draw) : Draw → List β → List γ
  | _, [] => []
  | d, y :: ys => f d y :: runD f nx (nx d y) ys
def endD (nx : Draw → β → Draw) : Draw → List β → Draw
  | d, [] => d
  | d, y :: ys => endD nx (nx d y) ys
theorem endD_take (nx : Draw → β → Draw) : ∀ (ys : List β) (d : Draw) (k : Nat) (y : β), ys[k]? = some y → endD nx d (ys.take (k + 1)) = nx (endD nx d (ys.take k)) y
  | [], _, _, _, h => by simp at h
  | z :: ys, d, 0, y, h => by
    have h : z = y := Option.some.inj h
    subst h
    rfl
  | z :: ys, d, k + 1, y, h => endD_take nx ys (nx d z) k y (by simpa using h)
theorem runD_take (f : Draw → β → γ) (nx : Draw → β → Draw) : ∀ (ys : List β) (d : Draw) (k : Nat) (y : β), ys[k]? = some y → runD f nx d (ys.take (k + 1)) = runD f nx d (ys.take k) ++ [f (endD nx d (ys.take k)) y]
  | [], _, _, _, h => by simp at h
  | z :: ys, d, 0, y, h => by
    have h : z = y := Option.some.inj h
    subst h
    rfl
  | z :: ys, d, k + 1, y, h => by
    have ih := runD_take f nx ys (nx d z) k y (by simpa using h)
    rw [List.take_succ_cons, List.take_succ_cons]
    show f d z :: runD f nx (nx d z) (ys.take (k + 1)) = f d z :: runD f nx (nx d z) (ys.take k) ++ [f (endD nx (nx d z) (ys.take k)) y]
    rw [ih]
    rfl
theorem runD_len (f : Draw → β → γ) (nx : Draw → β → Draw) : ∀ (ys : List β) (d : Draw), (runD f nx d ys).length = ys.length
  | [], _ => rfl
  | _ :: ys, d => congrArg (· + 1) (runD_len f nx ys _)
theorem runD_mem {f : Draw → β → γ} {nx : Draw → β → Draw} {z : γ} : ∀ {ys : List β} {d : Draw}, z ∈ runD f nx d ys → ∃ d' y, y ∈ ys ∧ z = f d' y
  | [], _, h => by simp [runD] at h
  | y :: ys, d, h => by
    rcases List.mem_cons.mp h with e | h
    · exact ⟨d, y, List.mem_cons_self, e⟩
    · obtain ⟨d', y', h1, h2⟩ := runD_mem h
      exact ⟨d', y', List.mem_cons_of_mem _ h1, h2⟩
variable {tg elt iter : Expr} {scope : Scope} {l : Addr} {Γ : List (Option As)} {μ : List Cell} {lk : List Addr}
theorem de_lcD {g : TG} {r : β → As} {ys : List β} {own : List (Str × Nat)} {u : β → Ctx → Ctx} {S' : Sc} {r' : γ → As} {f : Draw → β → γ} {nx : Draw → β → Draw} {d : Draw}
    (xf : Xf Sx X) (B : Blk Sx S' scope own) (hi : DI X F tg iter C r ys ⟨Γ, cDr X.K l d :: μ, lk⟩) (hg : ∀ X', InBlk X scope X' → Xf S' X' → PG X' tg g) (gok : ∀ F, GOk F g (own.map (·.2)) r u) (hlen : ys.length ≤ sizeLine)
    (hmono : ∀ (y : β) (C : Ctx), (u y C).μ = C.μ ∧ (u y C).lk = C.lk)
    (hte : ∀ (d : Draw) (y : β) F' X', y ∈ ys → InBlk X scope X' → Xf S' X' → ∃ C', De X' F' elt (u y ⟨wipeA Γ (own.map (·.2)), cDr X.K l d :: μ, []⟩) (r' (f d y)) C' ∧ C'.μ = cDr X.K l (nx d y) :: μ ∧ C'.lk = [] ∧ C'.Γ = (u y ⟨wipeA Γ (own.map (·.2)), cDr X.K l d :: μ, []⟩).Γ)
    (hs : ∀ x, foldedSetIterable iter X.env x = pure x := by intro _; rfl) :
    De X F (.ListComp elt [⟨tg, iter, [], 0⟩] scope pos) C (rLs r' (runD f nx d ys)) ⟨Γ, cDr X.K l (endD nx d ys) :: μ, lk⟩ := by
  by_cases hne : ys = []
  · subst hne
    have := dx_lc (pos := pos) (elt := elt) (ifs := []) (fun _ => cDr X.K l d :: μ) (fun _ => true) (fun _ => sN) (fun _ => ⟨Γ, cDr X.K l d :: μ, []⟩) (fun _ => ⟨Γ, cDr X.K l d :: μ, []⟩) (fun _ => []) xf B hi hg gok rfl (fun k hk => by simp at hk) hlen (fun _ => ⟨rfl, fun _ => rfl⟩) (fun _ => ⟨rfl, rfl⟩) (fun k y F' X' _ _ h => by simp at h) (fun k y F' X' _ _ h => by simp at h) hmono hs
    exact this.frz
  obtain ⟨y0, hy0⟩ : ∃ y0, y0 ∈ ys := by
    cases ys with
    | nil => exact absurd rfl hne
    | cons y _ => exact ⟨y, List.mem_cons_self⟩
  let at_ : Nat → β := fun k => ys.getD k y0
  have hat : ∀ k y, ys[k]? = some y → at_ k = y := fun k y h => by
    show ys.getD k y0 = y
    rw [List.getD_eq_getElem?_getD, h]
    rfl
  let dk : Nat → Draw := fun k => endD nx d (ys.take k)
  let dn : Nat → Draw := fun k => if k < ys.length then dk k else nx (dk (k - 1)) (at_ (k - 1))
  let μs : Nat → List Cell := fun k => cDr X.K l (dk k) :: μ
  have hdk : ∀ k y, ys[k]? = some y → dk (k + 1) = nx (dk k) y := fun k y h => endD_take nx ys d k y h
  let Ck : Nat → Ctx := fun k => u (at_ k) ⟨wipeA Γ (own.map (·.2)), μs k, []⟩
  have key := dx_lc (pos := pos) (elt := elt) (ifs := []) μs (fun _ => true) (fun k => r' (f (dk k) (at_ k))) (fun k => ⟨(Ck k).Γ, μs k, []⟩) (fun k => ⟨(Ck k).Γ, μs (k + 1), []⟩) (fun k => (runD f nx d (ys.take k)).map r') xf B hi hg gok (by simp [runD]) (fun k hk => ?_) hlen
    (fun k => ⟨rfl, fun h => by cases h⟩) (fun k => ⟨rfl, rfl⟩) (fun k y F' X' h1 h2 h3 => ?_) (fun k y F' X' h1 h2 h3 h4 => ?_) hmono hs
  · have e1 : μs ys.length = cDr X.K l (endD nx d ys) :: μ := by
      show cDr X.K l (endD nx d (ys.take ys.length)) :: μ = _
      rw [List.take_length]
    rw [List.take_length, e1] at key
    exact key.frz
  · have hy : ys[k]? = some ys[k] := List.getElem?_eq_getElem hk
    rw [if_pos rfl, runD_take f nx ys d k _ hy, List.map_append, hat k _ hy]
    rfl
  · have e : u y ⟨wipeA Γ (own.map (·.2)), μs k, []⟩ = ⟨(Ck k).Γ, μs k, []⟩ := by
      obtain ⟨h5, h6⟩ := hmono y ⟨wipeA Γ (own.map (·.2)), μs k, []⟩
      have : Ck k = u y ⟨wipeA Γ (own.map (·.2)), μs k, []⟩ := by
        show u (at_ k) _ = _
        rw [hat k y h3]
      rw [this]
      cases hh : u y ⟨wipeA Γ (own.map (·.2)), μs k, []⟩ with
      | mk a b c =>
        rw [hh] at h5 h6
        have h5 : b = μs k := h5
        have h6 : c = [] := h6
        rw [h5, h6]
    rw [e]
    exact dts_nil
  · obtain ⟨C', h5, h6, h7, h8⟩ := hte (dk k) y F' X' (List.mem_of_getElem? h3) h1 h2
    have e : u y ⟨wipeA Γ (own.map (·.2)), μs k, []⟩ = ⟨(Ck k).Γ, μs k, []⟩ := by
      obtain ⟨h9, h10⟩ := hmono y ⟨wipeA Γ (own.map (·.2)), μs k, []⟩
      have : Ck k = u y ⟨wipeA Γ (own.map (·.2)), μs k, []⟩ := by
        show u (at_ k) _ = _
        rw [hat k y h3]
      rw [this]
      cases hh : u y ⟨wipeA Γ (own.map (·.2)), μs k, []⟩ with
      | mk a b c =>
        rw [hh] at h9 h10
        have h9 : b = μs k := h9
        have h10 : c = [] := h10
        rw [h9, h10]
    have e2 : C' = ⟨(Ck k).Γ, μs (k + 1), []⟩ := by
      have e3 : (Ck k).Γ = C'.Γ := by
        rw [h8]
        show _ = (u y ⟨wipeA Γ (own.map (·.2)), μs k, []⟩).Γ
        rw [e]
      have e4 : μs (k + 1) = C'.μ := by
        rw [h6]
        show cDr X.K l (dk (k + 1)) :: μ = _
        rw [hdk k y h3]
      rw [e3, e4, ← h7]
    show De X' F' elt ⟨(Ck k).Γ, μs k, []⟩ (r' (f (dk k) (at_ k))) ⟨(Ck k).Γ, μs (k + 1), []⟩
    rw [← e, ← e2, hat k y h3]
    exact h5

/-! ### a changing list, read by a callee as if it were known -/
def without (P : Hp) (l : Addr) : Hp := fun a => if a = l then none else P a
/-- an assertion that never leans on a list at l -/
def NoL (s : As) : Prop := ∀ (P : Hp) (l : Addr) (vs : List V) (v : V), P l = some (.lst vs) → s.holds P v → s.holds (without P l) v
theorem nol_I (i : Int) : NoL (sI i) := fun _ _ _ _ _ h => h
theorem nol_S (i : Str) : NoL (sS i) := fun _ _ _ _ _ h => h
theorem nol_P (i : Bits) : NoL (sP i) := fun _ _ _ _ _ h => h
theorem nol_B (i : Bool) : NoL (sB i) := fun _ _ _ _ _ h => h
theorem nol_N : NoL sN := fun _ _ _ _ _ h => h
theorem nol_scr {K : PySem.W.Frag} (ns : List Int) : NoL (sScr K ns) := fun P l vs v hl ⟨a, e, h⟩ => ⟨a, e, h.imp (fun ⟨od, h⟩ => ⟨od, by
  unfold without
  rw [if_neg (fun z => by rw [z, hl] at h; cases h)]
  exact h⟩) id⟩
def NoLs (ss : List As) : Prop := ∀ s ∈ ss, NoL s
theorem NoLs.each {P : Hp} {l : Addr} {vs : List V} (hl : P l = some (.lst vs)) : ∀ {ss : List As} {us : List V}, NoLs ss → Each P ss us → Each (without P l) ss us
  | [], [], _, _ => trivial
  | s :: ss, u :: us, h, ⟨h1, h2⟩ => ⟨h s List.mem_cons_self P l vs u hl h1, NoLs.each hl (fun t ht => h t (List.mem_cons_of_mem _ ht)) h2⟩
  | [], _ :: _, _, h => h.elim
  | _ :: _, [], _, h => h.elim
theorem nol_dr {K : PySem.W.Frag} (d : Draw) : NoLs (d.fs K) := by
  intro s hs
  unfold Draw.fs at hs
  rcases List.mem_cons.mp hs with e | hs
  · subst e; exact nol_scr _
  · rcases List.mem_cons.mp hs with e | hs
    · subst e; exact nol_I _
    · rcases List.mem_cons.mp hs with e | hs
      · subst e; exact nol_I _
      · rcases List.mem_cons.mp hs with e | hs
        · subst e; exact nol_I _
        · exact absurd hs (by simp)
theorem Ok.leaveN {σ σ' : L2.St} {P P' H H' : Hp} {Γ Γ' : List (Option As)} {μa μb μc : List Cell} {lk : List Addr} (k : Ok F ⟨Γ, μa ++ μb, lk⟩ σ P H) (k' : Ok ⟨H, P, μa.map (·.ad)⟩ ⟨Γ', μc, []⟩ σ' P' H') (m : Same P P') : Ok F ⟨Γ, μc ++ μb, lk⟩ σ P' H' := by
  have hcell : ∀ d ∈ μa, CellOk F lk P H d := fun d hd => k.cells d (List.mem_append_left _ hd)
  have nd : ((μa ++ μb).map (·.ad)).Nodup := k.nd
  rw [List.map_append, List.nodup_append] at nd
  obtain ⟨nd1, nd2, nd3⟩ := nd
  have hin : ∀ a, a ∈ μa.map (·.ad) → F.H0 a = none ∨ a ∈ F.ls := fun a ha => by
    obtain ⟨d, hd, e⟩ := List.mem_map.mp ha
    exact e ▸ (hcell d hd).2.2.1
  have hlk : ∀ a, a ∈ μa.map (·.ad) → a ∉ lk := fun a ha => by
    obtain ⟨d, hd, e⟩ := List.mem_map.mp ha
    exact e ▸ (hcell d hd).2.2.2
  have hk : ∀ a o, H a = some o → a ∉ μa.map (·.ad) → H' a = some o := fun a o e n => k'.mods a o e n (by simp)
  refine ⟨k'.sub, k.p0.trans m, fun a o e n l => ?_, fun a ha => ?_, fun a o e => ?_, k.len, fun j t e => ?_, fun c hc => ?_, ?_⟩
  · refine hk a o (k.mods a o e n l) fun z => ?_
    rcases hin a z with h | h
    · rw [h] at e; cases e
    · exact n h
  · obtain ⟨od, u, e⟩ := k.lks a ha
    exact ⟨od, u, hk a _ e fun z => hlk a z ha⟩
  · rcases k'.new a o e with h | h | h
    · exact k.new a o h
    · exact .inr (k.fresh h).1
    · exact .inr (hin a h)
  · obtain ⟨v, e1, e2⟩ := k.slots j t e
    exact ⟨v, e1, t.mono m e2⟩
  · rcases List.mem_append.mp hc with hc | hc
    · obtain ⟨h1, h2, h3, _⟩ := k'.cells c hc
      refine ⟨h1, h2, ?_⟩
      rcases h3 with h | h
      · exact k.fresh h
      · exact ⟨hin _ h, hlk _ h⟩
    · obtain ⟨h1, ⟨o, h2, h3⟩, h4, h5⟩ := k.cells c (List.mem_append_right _ hc)
      have hno : c.ad ∉ μa.map (·.ad) := fun z => nd3 _ z _ (List.mem_map.mpr ⟨c, hc, rfl⟩) rfl
      refine ⟨?_, ⟨o, hk _ _ h2 hno, c.mono m h3⟩, h4, h5⟩
      cases e : P' c.ad with
      | none => rfl
      | some o' =>
        rcases k'.new _ _ e with h | h | h
        · have h : P c.ad = some o' := h
          rw [h1] at h; cases h
        · have h : H c.ad = none := h
          rw [h2] at h; cases h
        · exact absurd h hno
  · show ((μc ++ μb).map (·.ad)).Nodup
    rw [List.map_append, List.nodup_append]
    refine ⟨k'.nd, nd2, fun a ha b hb e => ?_⟩
    subst e
    obtain ⟨c, hc, e⟩ := List.mem_map.mp ha
    obtain ⟨d, hd, e'⟩ := List.mem_map.mp hb
    obtain ⟨h1, ⟨o, h2, h3⟩, h4⟩ := k.cells d (List.mem_append_right _ hd)
    rcases (k'.cells c hc).2.2.1 with h | h
    · rw [e, ← e'] at h
      have h : H d.ad = none := h
      rw [h2] at h; cases h
    · rw [e] at h
      exact nd3 _ h _ hb rfl
/-- f(row, found, e2): found a changing list that f only reads -/
theorem de_drV {l2 : Addr} {r0 : α → As} {r2 : β → As} {d : Draw} {pre : List α → β → Prop} {rs : Draw → List α → β → As} {nx : Draw → List α → β → Draw} {xs : List α} {v2 : β} (n : Nat) (xf : Xf Sx X) (j : Nat) (h : Cal X.prog X.w X.K X.mg X.base kL x (FS.dr2 X.K (rLs r0) r2 pre rs nx)) (hr : Room kL X.A) (h0 : De X F e C (sAt l) C1) (h1 : De X F e1 C1 (sAt l2) C2) (h2 : De X F e2 C2 (r2 v2) ⟨Γ, cDr X.K l d :: μ, lk⟩) (hc : μ[n]? = some (cL l2 (xs.map r0)) := by rfl) (hp : pre xs v2) (hs : NoL (rs d xs v2)) (hf2 : NoL (r2 v2))
    (hg : Sx.G[j]? = some x := by rfl) (hdb : (x == ("__debug__" : Str)) = false := by decide) (he0 : starEach [e, e1, e2] X.env = (false, eval e X.env) :: starEach [e1, e2] X.env := by rfl) (he : starEach [e1, e2] X.env = (false, eval e1 X.env) :: starEach [e2] X.env := by rfl) (he2 : starEach [e2] X.env = (false, eval e2 X.env) :: starEach [] X.env := by rfl) (hpl : (backTo pos (starEach [e1, e2] X.env)).any (·.1) = false := by rfl) :
    De X F (.Call (.Name x p) [e, e1, e2] [] pos) C (rs d xs v2) ⟨Γ, cDr X.K l (nx d xs v2) :: μ, lk⟩ := by
  obtain ⟨f, fd, ps, g1, g2, g3, g4⟩ := h.ex
  refine peW (pe_call g1 hr (xf.gl j hg) g2 g3 g4 .nil pass0 (da_cons h0 (da_cons h1 (da_cons h2 da_nil he2) he) he0) hdb he0 hpl) ?_
  rintro σ H Q ⟨P, k, q⟩
  refine ⟨P, k, fun vs P1 H1 k1 m1 hvs => ?_⟩
  show (FS.dr2 X.K (rLs r0) r2 pre rs nx).sp (vs ++ []) H1 Q E0
  rw [List.append_nil]
  obtain ⟨v0, t1, rfl, hv0, hvs⟩ : ∃ v t, vs = v :: t ∧ (sAt l).holds P1 v ∧ Each P1 [sAt l2, r2 v2] t := by
    match vs, hvs with
    | v :: t, h => exact ⟨v, t, rfl, h.1, h.2⟩
    | [], h => exact h.elim
  obtain ⟨v1, v3, rfl, hv1, hv2⟩ := each2 hvs
  have hv1 : v1 = .ref l2 := hv1
  subst hv1
  -- the list is known for the call alone
  have hc1 : (cDr X.K l d :: μ)[n + 1]? = some (cL l2 (xs.map r0)) := hc
  obtain ⟨hn, ⟨o, hH, us, rfl, hus⟩, _, _⟩ := k1.cells _ (List.mem_of_getElem? hc1)
  have hn : P1 l2 = none := hn
  have hH : H1 l2 = some (.lst us) := hH
  have mf : Same P1 (upd P1 l2 (.lst us)) := same_upd hn
  have nd : (l :: μ.map (·.ad)).Nodup := k1.nd
  have ne : l ≠ l2 := fun z => (List.nodup_cons.mp nd).1 (List.mem_map.mpr ⟨_, List.mem_of_getElem? hc, z.symm⟩)
  obtain ⟨hp1, ⟨oD, hD, hD2⟩, _⟩ := k1.cells (cDr X.K l d) List.mem_cons_self
  have kf : Ok ⟨H1, upd P1 l2 (.lst us), [l]⟩ ⟨Γ, [cDr X.K l d] ++ [], []⟩ σ (upd P1 l2 (.lst us)) H1 := by
    refine ⟨fun a o e => ?_, Same.refl _, fun a o e _ _ => e, fun a ha => absurd ha (by simp), fun a o e => .inl e, k1.len, fun i t e => ?_, fun c hc => ?_, by simp⟩
    · by_cases h : a = l2
      · subst h
        rw [upd_same] at e
        cases e
        exact .inl hH
      · rw [upd_ne h] at e
        exact k1.sub a o e
    · obtain ⟨w, e1, e2⟩ := k1.slots i t e
      exact ⟨w, e1, t.mono mf e2⟩
    · have e : c = cDr X.K l d := by simpa using hc
      subst e
      exact ⟨by rw [show (cDr X.K l d).ad = l from rfl, upd_ne ne]; exact hp1, ⟨oD, hD, (cDr X.K l d).mono mf hD2⟩, .inr (by simp [cL]), by simp⟩
  have hargs : Each (upd P1 l2 (.lst us)) [sAt l, rLs r0 xs, r2 v2] (v0 :: [.ref l2, v3]) := ⟨hv0, ⟨l2, us, rfl, upd_same, hus.mono mf⟩, (r2 v2).mono mf hv2, trivial⟩
  refine call_core (S := FS.dr2 X.K (rLs r0) r2 pre rs nx) (F := ⟨H1, upd P1 l2 (.lst us), [l]⟩) (Γ := Γ) (μ := []) (lk := []) (l, d, xs, v2) kf hp hargs fun kk v P' H' _ k' m' hv => ?_
  have k' : Ok ⟨H1, upd P1 l2 (.lst us), [l]⟩ ⟨Γ, [cDr X.K l (nx d xs v2)], []⟩ σ P' H' := k'
  have hl2 : P' l2 = some (.lst us) := m' _ _ upd_same
  have sm : Same P1 (without P' l2) := fun a o e => by
    have ne : a ≠ l2 := fun z => by rw [z, hn] at e; cases e
    unfold without
    rw [if_neg ne]
    exact m' _ _ (by rw [upd_ne ne]; exact e)
  have k2 : Ok ⟨H1, P1, [cDr X.K l d].map (·.ad)⟩ ⟨Γ, [cDr X.K l (nx d xs v2)], []⟩ σ (without P' l2) H' := by
    refine ⟨fun a o e => ?_, sm, k'.mods, fun a ha => absurd ha (by simp), fun a o e => ?_, k1.len, fun i t e => ?_, fun c hc => ?_, k'.nd⟩
    · unfold without at e
      split at e
      · cases e
      · exact k'.sub a o e
    · unfold without at e
      split at e
      · cases e
      · rename_i h
        rcases k'.new a o e with h' | h' | h'
        · have h' : (upd P1 l2 (.lst us)) a = some o := h'
          rw [upd_ne h] at h'
          exact .inl h'
        · exact .inr (.inl h')
        · exact .inr (.inr h')
    · obtain ⟨w, e1, e2⟩ := k1.slots i t e
      exact ⟨w, e1, t.mono sm e2⟩
    · have e : c = cDr X.K l (nx d xs v2) := by simpa using hc
      subst e
      obtain ⟨h1, ⟨o, h2, ws, e1, e2⟩, h4⟩ := k'.cells _ List.mem_cons_self
      refine ⟨by show without P' l2 l = none; unfold without; rw [if_neg ne]; exact h1, ⟨o, h2, ws, e1, NoLs.each hl2 (nol_dr _) e2⟩, h4⟩
  have fin := Ok.leaveN (μa := [cDr X.K l d]) (μb := μ) k1 k2 sm
  exact q v _ H' fin (m1.trans sm) (hs _ l2 us v hl2 hv)
end
end L3

/-! L3, part o: blocks by tables. -/
namespace L3
open PySem PySem.Spec L2
def Sc.blk (S : Sc) (us ws : List Bool) (G : List Str) (scope : Scope) : Sc := ⟨S.N, us, ws, G, relS scope S.sc⟩
theorem blk_by {Sx : Sc} {us ws : List Bool} {G : List Str} {scope : Scope} {own : List (Str × Nat)} (h1 : blkC Sx.N Sx.sc scope own = true) (h2 : tabB (Sx.blk us ws G scope) = true) : Blk Sx (Sx.blk us ws G scope) scope own := ⟨blkOk_by h1, rfl, rfl, h2⟩
section
variable {X : Cx} {F : Fr} {Sx : Sc} {C C1 : L3.Ctx} {pos : Pos} {e : Expr} {rest body : List Stmt} {tg : Expr} {O : Out}
/-- for .. : the invariant I by the turn -/
theorem db_for {β : Type} {g : TG} {r : β → As} {ys : List β} {own : List Nat} {u : β → L3.Ctx → L3.Ctx} (I : Nat → L3.Ctx → Prop) (hi : DI X F tg e C r ys C1) (xf : Xf Sx X) (hp : PassesOwn (model X.prog X.w) X.A X.env X.xe) (hg : PG X tg g) (gok : GOk F g own r u) (h0 : I 0 C1)
    (hb : ∀ (k : Nat) (y : β) C2, ys[k]? = some y → I k C2 → DB X F body (u y C2) { O with nx := I (k + 1), ct := I (k + 1), bk := I ys.length }) (hr : ∀ C2, I ys.length C2 → DB X F rest C2 O) (hs : ∀ x, foldedSetIterable e X.env x = pure x := by intro _; rfl) :
    DB X F (.For tg e body [] pos :: rest) C O :=
  db_cons (M := I ys.length) (ds_for (O := { O with nx := I ys.length }) I hi xf hp hg gok h0 hb (fun _ h => h) hs) hr
end
end L3

/-! L3, part p: sorted, of flat tuples, of ints. -/
namespace L3
open PySem PySem.Spec L2

/-! ### a stable insertion sort -/
section
variable {α β : Type}
def ins (lt : α → α → Bool) (y : α) : List α → List α
  | [] => [y]
  | x :: l => if lt y x then y :: x :: l else x :: ins lt y l
def isrt (lt : α → α → Bool) (l : List α) : List α := l.foldl (fun acc y => ins lt y acc) []
theorem ins_split {lt : α → α → Bool} (O : SrtO.Swo lt) (y : α) : ∀ (l : List α), SrtO.Srtd lt l → ∃ M N, l = M ++ N ∧ ins lt y l = M ++ y :: N ∧ (∀ x ∈ M, lt y x = false) ∧ ∀ x ∈ N, lt y x = true
  | [], _ => ⟨[], [], rfl, rfl, by simp, by simp⟩
  | x :: l, h => by
    unfold ins
    by_cases e : lt y x = true
    · rw [if_pos e]
      exact ⟨[], x :: l, rfl, rfl, by simp, O.lt_all h e⟩
    · rw [if_neg e]
      obtain ⟨M, N, h1, h2, h3, h4⟩ := ins_split O y l (List.pairwise_cons.mp h).2
      refine ⟨x :: M, N, by rw [h1] <;> rfl, by rw [h2] <;> rfl, fun z hz => ?_, h4⟩
      rcases List.mem_cons.mp hz with q | q
      · subst q; exact by simpa using e
      · exact h3 z q
theorem isrt_go {lt : α → α → Bool} (O : SrtO.Swo lt) : ∀ (l acc O1 : List α), SrtO.Srtd lt acc → SrtO.Stb lt acc O1 →
    SrtO.Srtd lt (l.foldl (fun acc y => ins lt y acc) acc) ∧ SrtO.Stb lt (l.foldl (fun acc y => ins lt y acc) acc) (O1 ++ l)
  | [], acc, O1, h1, h2 => ⟨h1, by rw [List.append_nil]; exact h2⟩
  | y :: l, acc, O1, h1, h2 => by
    obtain ⟨M, N, e1, e2, e3, e4⟩ := ins_split O y acc h1
    subst e1
    have a := isrt_go O l (M ++ y :: N) (O1 ++ [y]) (SrtO.ins_srtd O h1 e3 e4) (SrtO.ins_stb O e4 h2)
    rw [List.foldl_cons, e2]
    rw [List.append_assoc] at a
    exact a
theorem isrt_srtd {lt : α → α → Bool} (O : SrtO.Swo lt) (l : List α) : SrtO.Srtd lt (isrt lt l) := (isrt_go O l [] [] List.Pairwise.nil (SrtO.Stb.refl _)).1
theorem isrt_stb {lt : α → α → Bool} (O : SrtO.Swo lt) (l : List α) : SrtO.Stb lt (isrt lt l) l := (isrt_go O l [] [] List.Pairwise.nil (SrtO.Stb.refl _)).2
theorem ins_perm {lt : α → α → Bool} (y : α) : ∀ (l : List α), (ins lt y l).Perm (y :: l)
  | [] => List.Perm.refl _
  | x :: l => by
    unfold ins
    by_cases e : lt y x = true
    · rw [if_pos e]
    · rw [if_neg e]
      exact ((ins_perm y l).cons x).trans (List.Perm.swap y x l)
theorem isrt_perm {lt : α → α → Bool} (l : List α) : (isrt lt l).Perm l := by
  have h : ∀ (l acc : List α), (l.foldl (fun acc y => ins lt y acc) acc).Perm (acc ++ l) := by
    intro l
    induction l with
    | nil => intro acc; rw [List.append_nil]; exact List.Perm.refl _
    | cons y l ih =>
      intro acc
      rw [List.foldl_cons]
      refine (ih _).trans ?_
      refine ((ins_perm y acc).append_right l).trans ?_
      exact (List.perm_middle (a := y) (l₁ := acc) (l₂ := l)).symm
  exact h l []
theorem ins_map {lt : β → β → Bool} {lt' : α → α → Bool} {f : α → β} (y : α) : ∀ (l : List α), (∀ x ∈ l, lt' y x = lt (f y) (f x)) → ins lt (f y) (l.map f) = (ins lt' y l).map f
  | [], _ => rfl
  | x :: l, h => by
    rw [List.map_cons]
    unfold ins
    rw [h x List.mem_cons_self]
    by_cases e : lt (f y) (f x) = true
    · rw [if_pos e, if_pos e]; rfl
    · rw [if_neg e, if_neg e, ins_map y l fun z hz => h z (List.mem_cons_of_mem _ hz)]; rfl
theorem isrt_map {lt : β → β → Bool} {lt' : α → α → Bool} {f : α → β} {l : List α} (h : ∀ x ∈ l, ∀ y ∈ l, lt' x y = lt (f x) (f y)) : isrt lt (l.map f) = (isrt lt' l).map f := by
  have go : ∀ (m acc : List α), (∀ x ∈ m, x ∈ l) → (∀ x ∈ acc, x ∈ l) → (m.map f).foldl (fun acc y => ins lt y acc) (acc.map f) = (m.foldl (fun acc y => ins lt' y acc) acc).map f := by
    intro m
    induction m with
    | nil => intro acc _ _; rfl
    | cons y m ih =>
      intro acc h1 h2
      rw [List.map_cons, List.foldl_cons, List.foldl_cons, ins_map (lt' := lt') y acc fun x hx => h y (h1 y List.mem_cons_self) x (h2 x hx)]
      refine ih _ (fun x hx => h1 x (List.mem_cons_of_mem _ hx)) fun x hx => ?_
      rcases List.mem_cons.mp ((ins_perm y acc).mem_iff.mp hx) with q | q
      · subst q; exact h1 x List.mem_cons_self
      · exact h2 x q
  exact go l [] (fun _ h => h) (by simp)
end

/-! ### flat tuples -/
abbrev It := Int ⊕ List Nat
abbrev ltI (x y : List It) : Bool := PyProof.Rows.lexLt PyProof.Rows.itemOrd x y
theorem ltI_swo {α : Type} (k : α → List It) : SrtO.Swo fun x y => ltI (k x) (k y) := by
  refine ⟨fun x y h => ?_, fun x y z h1 h2 => ?_⟩
  · cases e : ltI (k y) (k x) with
    | false => rfl
    | true => exact absurd (PyProof.Rows.lex_trans (O := PyProof.Rows.itemOrd) _ _ _ h e) (by rw [PyProof.Rows.lex_irrefl]; exact Bool.false_ne_true)
  · cases e : ltI (k z) (k x) with
    | false => rfl
    | true => rcases PyProof.Rows.lex_negTrans (O := PyProof.Rows.itemOrd) _ (k y) _ e with q | q
              · exact absurd (h2.symm.trans q) Bool.false_ne_true
              · exact absurd (h1.symm.trans q) Bool.false_ne_true
/-- the items of a flat tuple: a text where shape says so, an int elsewhere -/
def itV (shape : Nat → Bool) : Nat → List V → Option (List It)
  | _, [] => some []
  | i, .int n :: r => if shape i = true then none else (itV shape (i + 1) r).map (Sum.inl n :: ·)
  | i, .str x :: r => if shape i = true then (itV shape (i + 1) r).map (Sum.inr x.cps.toList :: ·) else none
  | _, _ :: _ => none
theorem it_vals {shape : Nat → Bool} : ∀ {i : Nat} {ws : List V} {us : List Value} {l : List It}, Vals ws us → itV shape i ws = some l → PyProof.Rows.tupItems shape i us = some l
  | i, _, _, l, .nil, h => by
    rw [itV] at h
    rw [PyProof.Rows.tupItems]
    exact h
  | i, w :: ws, u :: us, l, .cons r t, h => by
    cases w with
    | int n =>
      obtain ⟨tk, rfl⟩ := r
      rw [itV] at h
      rw [PyProof.Rows.tupItems]
      by_cases e : shape i = true
      · rw [if_pos e] at h; cases h
      · rw [if_neg e] at h ⊢
        cases q : itV shape (i + 1) ws with
        | none => rw [q] at h; cases h
        | some l' => rw [q] at h; rw [it_vals t q]; exact h
    | str z =>
      obtain ⟨tk, rfl⟩ := r
      rw [itV] at h
      rw [PyProof.Rows.tupItems]
      by_cases e : shape i = true
      · rw [if_pos e] at h ⊢
        cases q : itV shape (i + 1) ws with
        | none => rw [q] at h; cases h
        | some l' => rw [q] at h; rw [it_vals t q]; exact h
      · rw [if_neg e] at h; cases h
    | _ => simp [itV] at h
theorem it_first {shape : Nat → Bool} {u : Value} {us : List Value} {l : List It} (h : PyProof.Rows.tupItems shape 0 (u :: us) = some l) :
    (shape 0 = false → ∃ k t, u = .int k t) ∧ (shape 0 = true → ∃ x t, u = .str x t) := by
  constructor
  · intro e
    obtain ⟨n, t, _, rfl, _⟩ := PyProof.Rows.tupItems_int e h
    exact ⟨n, t, rfl⟩
  · intro e
    obtain ⟨n, t, _, rfl, _⟩ := PyProof.Rows.tupItems_str e h
    exact ⟨n, t, rfl⟩

def rSortedT (shape : Nat → Bool) (K : PySem.W.Frag) : List V → Hp → VK → Prop := fun vs H Q => ∃ (a : Addr) (xs : List V) (k : V → List It), vs = [V.ref a] ∧ SqL K H a xs ∧
  (∀ x ∈ xs, ∃ t w ws, x = V.ref t ∧ H t = some (.tup (w :: ws)) ∧ itV shape 0 (w :: ws) = some (k x)) ∧
  ∀ p, H p = none → Q (.ref p) (upd H p (.lst (isrt (fun x y => ltI (k x) (k y)) xs)))

/-- the values' tuples, at a heap that keeps them -/
def TupIn (h : Heap) (shape : Nat → Bool) (v : Value) (l : List It) : Prop :=
  ∃ a o u us n, v = .ref a ∧ h.get? a = some o ∧ o.cls = .type "tuple" ∧ o.data = .seq (u :: us).toArray n ∧ PyProof.Rows.tupItems shape 0 (u :: us) = some l
theorem TupIn.keeps {h h' : Heap} {shape : Nat → Bool} {v : Value} {l : List It} (p : TupIn h shape v l) (k : ∀ b o, h.get? b = some o → o.cls = .type "tuple" → h'.get? b = some o) : TupIn h' shape v l := by
  obtain ⟨a, o, u, us, n, e, ho, hc, hd, hi⟩ := p
  exact ⟨a, o, u, us, n, e, k _ _ ho hc, hc, hd, hi⟩
theorem TupIn.key {h : Heap} {shape : Nat → Bool} {v : Value} {l : List It} (p : TupIn h shape v l) : PyProof.Rows.tupKey h shape v = some l := by
  obtain ⟨a, o, u, us, n, rfl, ho, hc, hd, hi⟩ := p
  simp only [PyProof.Rows.tupKey, ho, hd]
  exact hi
theorem tups_of {h : Heap} {shape : Nat → Bool} : ∀ {vs : List Value}, (∀ v ∈ vs, ∃ l, TupIn h shape v l) → ∃ fs, PyProof.Rows.TupsOf h shape vs fs ∧ fs.length = vs.length
  | [], _ => ⟨[], .nil, rfl⟩
  | v :: vs, hv => by
    obtain ⟨fs, h1, h2⟩ := tups_of (vs := vs) fun u hu => hv u (List.mem_cons_of_mem _ hu)
    obtain ⟨l, a, o, u, us, n, e, ho, hc, hd, hi⟩ := hv v List.mem_cons_self
    obtain ⟨q1, q2⟩ := it_first hi
    exact ⟨u :: fs, .cons ⟨a, o, _, n, e, ho, hc, hd, rfl, q1, q2⟩ h1, congrArg (· + 1) h2⟩
section
variable {prog : Program} {w : World} {A : Around} {s : Shared}
theorem tup_sortable {shape : Nat → Bool} {a : Addr} {vs : List Value} {k : Value → List It} (h0 : 0 < vs.length) (hp : ∀ v ∈ vs, TupIn s.heap shape v (k v)) (ha : ∀ o, s.heap.get? a = some o → o.cls ≠ .type "tuple") :
    SrtO.SortableO prog w A s a vs fun v u => ltI (k v) (k u) := by
  intro h' keep
  have hp' : ∀ v ∈ vs, TupIn h' shape v (k v) := fun v hm => (hp v hm).keeps fun b o e c => keep b o (fun z => by subst z; exact ha o e c) e
  obtain ⟨fs, h1, h2⟩ := tups_of fun v hm => ⟨_, hp' v hm⟩
  refine ⟨PyProof.Rows.tuples' true, fun Q E hq => PyProof.Rows.tup_kind (s := { s with heap := h' }) (by omega) h1 hq, fun p q hm hm' => ?_⟩
  exact PyProof.Rows.tup_ltAt (s := { s with heap := h' }) true A _ p.1 q.1 (k p.1) (k q.1) (hp' _ hm).key (hp' _ hm').key ⟨rfl, rfl⟩
end
section
variable {X : Cx}
theorem cr_sortedT {shape : Nat → Bool} : CallR X (.builtin "sorted") (rSortedT shape X.K) := by
  intro pins s σ H vs us Q I r h
  obtain ⟨a, xs, k, rfl, hs, hx, q⟩ := h
  obtain ⟨its, rv, hl, hz⟩ := I.list hs
  obtain ⟨u, rfl, ru⟩ := vals1 r
  obtain rfl : u = Value.ref a := ru
  obtain ⟨e1, e2⟩ := refs_back rv fun x m => by
    obtain ⟨t, _, _, e, _⟩ := hx x m
    exact ⟨t, e⟩
  have hp : ∀ v ∈ its, TupIn s.heap shape v (k (backV v)) := fun v hv => by
    obtain ⟨t, rfl⟩ := e2 v hv
    have hm : V.ref t ∈ xs := by rw [e1]; exact List.mem_map.mpr ⟨_, hv, rfl⟩
    obtain ⟨t', w, ws, e, ht, hi⟩ := hx _ hm
    cases e
    obtain ⟨_, its2, r2, o, ho, hc, n, hd⟩ := I.hok _ _ ht
    cases r2 with
    | cons r1 r2 => exact ⟨t, o, _, _, n, rfl, ho, hc, hd, it_vals (.cons r1 r2) hi⟩
  refine SrtO.sorted_ord (ltI_swo fun v => k (backV v)) hl.isList (by rw [← rv.length]; exact hz) (fun h2 h₁ a' ha kk => ?_) fun out h1 h2 => ?_
  · refine tup_sortable (s := { s with heap := h₁ }) (by omega) (fun v hm => (hp v hm).keeps fun b o e _ => (kk b o e).2) fun o e => ?_
    have e' : some o = some (PyProof.Rows.seqObj "list" its.toArray 0) := e.symm.trans ha
    cases e'
    intro c
    exact absurd (Value.type.inj c) (by decide)
  · obtain ⟨ep, he'⟩ := PyProof.Rows.sortedAll_at s.heap its out.toArray
    have h3 : ∀ u ∈ out, ∃ a, u = Value.ref a := fun u hu => e2 u (h2.perm.mem_iff.mp hu)
    have hb : SrtO.Stb (fun x y => ltI (k x) (k y)) (out.map backV) xs := by
      rw [e1]
      exact SrtO.Stb.map (lt := fun x y => ltI (k x) (k y)) (ltI_swo k) backV h2
    have eq : out.map backV = isrt (fun x y => ltI (k x) (k y)) xs := by
      refine SrtO.stb_uniq (ltI_swo k) (SrtO.srtd_map (lt := fun x y => ltI (k x) (k y)) h1) (isrt_srtd (ltI_swo k) xs) ?_
      refine hb.trans ⟨(isrt_perm xs).symm, fun z => ((isrt_stb (ltI_swo k) xs).cls z).symm⟩
    rw [← eq] at q
    have hlen : (out.map backV).length ≤ sizeLine := by
      rw [hb.len]
      exact hz
    exact ⟨.ref _, upd H (s.heap.objs.size + 1) (.lst (out.map backV)), I.laid (t' := s.toks) (fun _ _ => PyProof.Rows.sortedAll_old) (Nat.le_succ _) ⟨hlen, out, ep, vals_back h3, he'⟩, rfl, q _ (I.hok.fresh (Nat.le_succ _))⟩
end

/-! ### typed -/
section
variable {X : Cx} {F : Fr} {C : Ctx} {α : Type}
theorem each_zip {P : Hp} {r : α → As} : ∀ {xs : List α} {vs : List V}, Each P (xs.map r) vs → ∃ zs : List (α × V), xs = zs.map Prod.fst ∧ vs = zs.map Prod.snd ∧ ∀ z ∈ zs, (r z.1).holds P z.2
  | [], [], _ => ⟨[], rfl, rfl, by simp⟩
  | x :: xs, v :: vs, h => by
    obtain ⟨h1, h2⟩ := (show (r x).holds P v ∧ Each P (xs.map r) vs from h)
    obtain ⟨zs, e1, e2, e3⟩ := each_zip h2
    refine ⟨(x, v) :: zs, by rw [e1] <;> rfl, by rw [e2] <;> rfl, fun z hz => ?_⟩
    rcases List.mem_cons.mp hz with q | q
    · subst q; exact h1
    · exact e3 z q
  | [], _ :: _, h => h.elim
  | _ :: _, [], h => h.elim
theorem each_unzip {P : Hp} {r : α → As} : ∀ {zs : List (α × V)}, (∀ z ∈ zs, (r z.1).holds P z.2) → Each P ((zs.map Prod.fst).map r) (zs.map Prod.snd)
  | [], _ => trivial
  | z :: zs, h => ⟨h z List.mem_cons_self, each_unzip fun y hy => h y (List.mem_cons_of_mem _ hy)⟩
theorem ca_sortedT {shape : Nat → Bool} {r : α → As} {k : α → List It} {xs : List α}
    (hr : ∀ x, x ∈ xs → ∀ P v, (r x).holds P v → ∃ t w ws, v = V.ref t ∧ P t = some (.tup (w :: ws)) ∧ itV shape 0 (w :: ws) = some (k x)) :
    CalV X F C (.builtin "sorted") [sL (xs.map r)] (sL ((isrt (fun x y => ltI (k x) (k y)) xs).map r)) C := ⟨_, cr_sortedT (shape := shape), fun σ P H vs Q kk h q => by
  obtain ⟨v, rfl, a, bs, rfl, hp, he⟩ := each1 h
  obtain ⟨zs, e1, e2, hz⟩ := each_zip he
  subst e1
  subst e2
  let kv : V → List It := fun v => match v with
    | .ref t => match P t with
      | some (.tup ws) => (itV shape 0 ws).getD []
      | _ => []
    | _ => []
  have hk : ∀ z ∈ zs, kv z.2 = k z.1 ∧ ∃ t w ws, z.2 = V.ref t ∧ P t = some (.tup (w :: ws)) ∧ itV shape 0 (w :: ws) = some (k z.1) := fun z m => by
    obtain ⟨t, w, ws, e, ht, hi⟩ := hr z.1 (List.mem_map.mpr ⟨z, m, rfl⟩) P z.2 (hz z m)
    refine ⟨?_, t, w, ws, e, ht, hi⟩
    rw [e]
    show (match P t with | some (.tup ws) => (itV shape 0 ws).getD [] | _ => []) = _
    rw [ht]
    show (itV shape 0 (w :: ws)).getD [] = _
    rw [hi]
    rfl
  refine ⟨a, zs.map Prod.snd, kv, rfl, SqL.of (kk.sub.lst hp), fun x hx => ?_, fun p hp' => ?_⟩
  · obtain ⟨z, m, rfl⟩ := List.mem_map.mp hx
    obtain ⟨h1, t, w, ws, h2, h3, h4⟩ := hk z m
    refine ⟨t, w, ws, h2, ?_, by rw [h1]; exact h4⟩
    exact kk.sub.tup h3
  · have ea : isrt (fun x y => ltI (kv x) (kv y)) (zs.map Prod.snd) = (isrt (fun x y : α × V => ltI (k x.1) (k y.1)) zs).map Prod.snd :=
      isrt_map fun x hx y hy => by rw [(hk x hx).1, (hk y hy).1]
    have eb : isrt (fun x y => ltI (k x) (k y)) (zs.map Prod.fst) = (isrt (fun x y : α × V => ltI (k x.1) (k y.1)) zs).map Prod.fst :=
      isrt_map fun x hx y hy => rfl
    rw [eb] at q
    rw [ea]
    obtain ⟨k2, m2⟩ := kk.laid (o := .lst ((isrt (fun x y : α × V => ltI (k x.1) (k y.1)) zs).map Prod.snd)) hp'
    refine q _ _ _ k2 m2 ⟨p, _, rfl, upd_same, (each_unzip fun z m => hz z ?_).mono m2⟩
    exact (isrt_perm zs).mem_iff.mp m⟩
/-- ints: the one sorted list -/
def srtI (ns : List Int) : List Int := isrt (fun x y => decide (x < y)) ns
theorem swoI : SrtO.Swo fun x y : Int => decide (x < y) := ⟨fun x y h => by simp at h ⊢; omega, fun x y z h1 h2 => by simp at h1 h2 ⊢; omega⟩
theorem srtI_perm (ns : List Int) : (srtI ns).Perm ns := isrt_perm ns
theorem srtI_le (ns : List Int) : (srtI ns).Pairwise (· ≤ ·) := (isrt_srtd swoI ns).imp fun h => by simp at h; omega
theorem srtI_uniq {ns ms : List Int} (h1 : ms.Perm ns) (h2 : ms.Pairwise (· ≤ ·)) : ms = srtI ns :=
  List.Perm.eq_of_pairwise (fun a b _ _ p q => Int.le_antisymm p q) h2 (srtI_le ns) (h1.trans (srtI_perm ns).symm)
theorem ca_sortedI {ns : List Int} : CalV X F C (.builtin "sorted") [sL (ns.map sI)] (sL ((srtI ns).map sI)) C := ⟨_, cr_sortedI, fun σ P H vs Q kk h q => by
  obtain ⟨v, rfl, a, bs, rfl, hp, he⟩ := each1 h
  have e := each_map (f := V.int) (fun _ _ h => h) he
  subst e
  refine ⟨a, ns, rfl, SqL.of (kk.sub.lst hp), fun ms p h1 h2 hp' => ?_⟩
  obtain rfl := srtI_uniq h1 h2
  obtain ⟨k2, m2⟩ := kk.laid (o := .lst ((srtI ns).map V.int)) hp'
  exact q _ _ _ k2 m2 ⟨p, _, rfl, upd_same, each_of (fun _ => rfl) _⟩⟩
end
end L3

/-! L3, part q: classes, making, methods of objects that change, isinstance by facts. -/
namespace L3
open PySem PySem.Spec L2

theorem kit_me {K : PySem.W.Frag} {t : Value} : PySem.W.kitOne K t t = some true := if_pos (beq_self_eq_true _)
theorem kitAny_me {K : PySem.W.Frag} {t : Value} {r : List Value} : PySem.W.kitAny K t (t :: r) = some true := by
  unfold PySem.W.kitAny
  rw [kit_me]
theorem kitAny_me2 {K : PySem.W.Frag} {t u : Value} {r : List Value} (h : PySem.W.kitOne K t u = some false) : PySem.W.kitAny K t (u :: t :: r) = some true := by
  unfold PySem.W.kitAny
  rw [h]
  exact kitAny_me
/-- what is known of an own class -/
structure ClsF (K : PySem.W.Frag) (mg : Str → Option Value) (x : Str) (A : Addr) : Prop where
  cls : Cls K A
  ins : InsT K A
  makes : PySem.W.makesIn K A = true
  kp : PySem.W.keepIn K (.ref A) = true
  mg : mg x = some (.ref A)
theorem ins_of {K : PySem.W.Frag} {A : Addr} (cl : Cls K A) (ha : PySem.W.findIn K (.ref A) "__class__" = some (some (.builtin "object.__class__")))
      (hn : PySem.W.specialIn K (.builtin "object.__class__") "__get__" = some (some (.builtin "getset_descriptor.__get__"))) (htk : PySem.W.takesIn K (.builtin "object.__class__") = some true)
      (hm : PySem.W.mroIn K A (.type "object") = some true) : InsT K A := ⟨fun H a dx fs e => .base (.ins e cl ha hn htk hm)⟩
section
variable {Pg : Program} {w : World} {K : PySem.W.Frag} {mg : Str → Option Value} {base : Heap} {x qual : Str} {st : Stmt} {ps : List Str} {Sx : Sc} {S : FS} {kL : Nat} {A : Addr}
theorem mak_of (D : DfnM K A "__init__" qual st ps) (c : ClsF K mg x A) (sc : FnScope Sx.N ps (defScope st)) (hS : Sx.sc = defScope st) (htab : tabC Sx = true) (hlen : ∀ i, (S.ar i).length = ps.length)
    (hb : ∀ (X : Cx) (F : Fr) (i : S.ι), Env1 Pg w K mg base Sx kL X → S.pre i → DB X F (defBody st) ⟨ent Sx.N.length (S.ar i), S.μ i, []⟩ (outs S i)) : Mak Pg w K mg base (kL + 1) A x S.sp := by
  obtain ⟨f, fd, Fu, hm, hc, hb'⟩ := D.ex
  exact ⟨f, fd, ps, fn_ok Fu sc hS htab hlen fun X F i e1 e2 e3 e4 e5 xf hr hp => hb X F i ⟨e1, e2, e3, e4, e5, xf, hr, hp⟩, ⟨c.makes, hm.at_, hm.fn, c.kp⟩, c.mg, hb'⟩
end
section
variable {F : Fr} {Γ : List (Option As)} {μ : List Cell} {lk : List Addr} {σ : L2.St} {P H : Hp}
/-- an object is known from now on -/
theorem frz_one {l A : Addr} {fs : List (Str × As)} (k : Ok F ⟨Γ, μ ++ [cI l A fs], lk⟩ σ P H) : ∃ P', Ok F ⟨Γ, μ, lk⟩ σ P' H ∧ Same P P' ∧ (sC A fs).holds P' (.ref l) := by
  have k1 : Ok F ⟨Γ, cI l A fs :: μ, lk⟩ σ P H := k.wk (Wk.perm List.perm_append_comm)
  obtain ⟨o, h1, h2, h3, h4⟩ := k1.freeze
  exact ⟨_, h4, h3, frz_I P o h1 h2⟩
theorem each_imp {P : Hp} : ∀ {ss rr : List As} {vs : List V}, ss.length = rr.length → (∀ (i : Nat) (s r : As), ss[i]? = some s → rr[i]? = some r → ∀ v, s.holds P v → r.holds P v) → Each P ss vs → Each P rr vs
  | [], [], [], _, _, _ => trivial
  | s :: ss, r :: rr, v :: vs, hl, h, ⟨h1, h2⟩ => ⟨h 0 s r rfl rfl v h1, each_imp (by simpa using hl) (fun i s r a b => h (i + 1) s r a b) h2⟩
  | _ :: _, [], _, hl, _, _ => by simp at hl
  | [], _ :: _, _, hl, _, _ => by simp at hl
  | [], [], _ :: _, _, _, h => h.elim
  | _ :: _, _ :: _, [], _, _, h => h.elim
/-- .. with a dict, or a list, of its own, in its i-th field -/
theorem frz_two {l A : Addr} {c : Cell} {s' : As} {fs : List (Str × As)} (i : Nat) {f : Str} (hi : fs[i]? = some (f, sAt c.ad)) (k : Ok F ⟨Γ, μ ++ [cI l A fs, c], lk⟩ σ P H) (hf : ∀ P o, P c.ad = none → c.ok P o → s'.holds (upd P c.ad o) (.ref c.ad)) :
    ∃ P', Ok F ⟨Γ, μ, lk⟩ σ P' H ∧ Same P P' ∧ (sC A (fs.set i (f, s'))).holds P' (.ref l) := by
  have k1 : Ok F ⟨Γ, c :: (μ ++ [cI l A fs]), lk⟩ σ P H := k.wk (Wk.perm (by
    rw [show μ ++ [cI l A fs, c] = (μ ++ [cI l A fs]) ++ [c] by simp]
    exact List.perm_append_comm))
  obtain ⟨o, h1, h2, h3, h4⟩ := k1.freeze
  have h5 := hf P o h1 h2
  obtain ⟨P2, k2, m2, hh⟩ := frz_one h4
  refine ⟨P2, k2, h3.trans m2, ?_⟩
  obtain ⟨a, dx, fl, e, hp, hk, hv⟩ := hh
  refine ⟨a, dx, fl, e, hp, ?_, ?_⟩
  · rw [hk]
    refine List.ext_getElem? fun j => ?_
    rw [List.getElem?_map, List.getElem?_map, List.getElem?_set]
    by_cases e : i = j
    · subst e
      have := (List.getElem?_eq_some_iff.mp hi).1
      rw [if_pos rfl, hi, if_pos this]
      rfl
    · rw [if_neg e]
  · refine each_imp (by simp) (fun j s r ha hb v hs => ?_) hv
    rw [List.getElem?_map] at ha hb
    rw [List.getElem?_set] at hb
    by_cases e : i = j
    · subst e
      have := (List.getElem?_eq_some_iff.mp hi).1
      rw [if_pos rfl, if_pos this] at hb
      rw [hi] at ha
      obtain rfl := Option.some.inj ha
      obtain rfl := Option.some.inj hb
      have hs : v = .ref c.ad := hs
      subst hs
      exact s'.mono m2 h5
    · rw [if_neg e, ha] at hb
      obtain rfl := Option.some.inj hb
      exact hs
end
section
variable {X : Cx} {F : Fr} {Sx : Sc} {C C1 C2 C3 C4 : Ctx} {s s1 s2 s3 : As} {pos p pos' apos : Pos} {a b c e e1 e2 e3 e4 o i : Expr} {b1 b2 : Bool} {es : List Expr} {ss rr : List As} {x y : Str} {σ : L2.St} {P H : Hp} {O : Out} {st : Stmt} {sts rest body orelse : List Stmt} {kL : Nat} {α β γ δ : Type}
/-- making by a promise about cells -/
theorem dx_make {S : FS} {A : Addr} (xf : Xf Sx X) (j : Nat) (h : Mak X.prog X.w X.K X.mg X.base kL A x S.sp) (hr : Room (kL + 1) X.A) (ha : DA X F (e :: es) C ss C1) (i : Addr → S.ι) (hp : ∀ l, S.pre (i l)) (har : ∀ l, S.ar (i l) = sAt l :: ss) (hμ : ∀ l, S.μ (i l) = [cI l A []]) (hres : ∀ l kk v P, (S.res (i l) kk).holds P v → v = .non)
    (hg : Sx.G[j]? = some x := by rfl) (hdb : (x == ("__debug__" : Str)) = false := by decide) (he : starEach (e :: es) X.env = (false, eval e X.env) :: starEach es X.env := by rfl) (hpl : (backTo pos (starEach es X.env)).any (·.1) = false := by rfl) :
    DX X F (.Call (.Name x p) (e :: es) [] pos) C (fun q : (l : Addr) × S.κ => S.post (i q.1) q.2) (fun q => sAt q.1) (fun q => ⟨C1.Γ, C1.μ ++ S.μ' (i q.1) q.2, C1.lk⟩) := by
  obtain ⟨f, fd, ps, h1, h2, h3, h4⟩ := h.ex
  refine peW (pe_make h2 h1 hr (xf.gl j hg) h3 h4 .nil pass0 ha hdb he hpl) ?_
  rintro σ H Q ⟨P, k, q⟩
  refine ⟨P, k, fun vs P1 H1 k1 m1 hvs l dx hl hdx hne => ?_⟩
  exact call_make (S := S) (C := C1) (i l) k1 hl hdx hne (hp l) ⟨ss, har l, hvs⟩ (hμ l) (hres l) fun kk P' H' hpost k' m' => q ⟨l, kk⟩ _ P' H' hpost k' (m1.trans m') rfl
theorem dx_make0 {S : FS} {A : Addr} (xf : Xf Sx X) (j : Nat) (h : Mak X.prog X.w X.K X.mg X.base kL A x S.sp) (hr : Room (kL + 1) X.A) (i : Addr → S.ι) (hp : ∀ l, S.pre (i l)) (har : ∀ l, S.ar (i l) = [sAt l]) (hμ : ∀ l, S.μ (i l) = [cI l A []]) (hres : ∀ l kk v P, (S.res (i l) kk).holds P v → v = .non)
    (hg : Sx.G[j]? = some x := by rfl) (hdb : (x == ("__debug__" : Str)) = false := by decide) :
    DX X F (.Call (.Name x p) [] [] pos) C (fun q : (l : Addr) × S.κ => S.post (i q.1) q.2) (fun q => sAt q.1) (fun q => ⟨C.Γ, C.μ ++ S.μ' (i q.1) q.2, C.lk⟩) := by
  obtain ⟨f, fd, ps, h1, h2, h3, h4⟩ := h.ex
  refine peW (pe_make0 h2 h1 hr (xf.gl j hg) h3 h4 .nil pass0 hdb) ?_
  rintro σ H Q ⟨P, k, q⟩ l dx hl hdx hne
  exact call_make (S := S) (C := C) (vs := []) (i l) k hl hdx hne (hp l) ⟨[], har l, trivial⟩ (hμ l) (hres l) fun kk P' H' hpost k' m' => q ⟨l, kk⟩ _ P' H' hpost k' m' rfl
/-- what a reading leaves may be known from now on -/
theorem DX.known {κ : Type} {B : κ → Prop} {sk : κ → As} {C' : κ → Ctx} (h : DX X F e C B sk C') (hf : ∀ kk, B kk → ∀ σ P H v, Ok F (C' kk) σ P H → (sk kk).holds P v → ∃ P', Ok F C1 σ P' H ∧ Same P P' ∧ s.holds P' v) : De X F e C s C1 :=
  peW h fun σ H Q ⟨P, k, q⟩ => ⟨P, k, fun kk v P1 H1 hb k1 m1 hv => by
    obtain ⟨P', k', m', hs⟩ := hf kk hb σ P1 H1 v k1 hv
    exact q v P' H1 k' (m1.trans m') hs⟩
/-- o.m(e, ..), o one that may change -/
theorem dx_methC {kL : Nat} {A l : Addr} {m : Str} {S : FS} {fs : List (Str × As)} {Γ : List (Option As)} {μ : List Cell} {lk : List Addr} {pl : Sem Bool} (h : Mtd X.prog X.w X.K X.mg X.base kL A m S) (hr : Room kL X.A) (ho : De X F a C (sAt l) C1) (n : Nat) (hc : C1.μ[n]? = some (cI l A fs)) (hn : fs.lookup m = none) (ha : DA X F (e :: es) C1 ss ⟨Γ, μ, lk⟩) (i : S.ι) (hp : S.pre i) (rest : List Cell) (hss : sAt l :: ss = S.ar i := by rfl) (hμ : μ = S.μ i ++ rest := by rfl)
    (hst : starEach (e :: es) X.env = (false, eval e X.env) :: starEach es X.env := by rfl) (hpl : (backTo pos (starEach es X.env)).any (·.1) = false := by rfl)
    (ht : eval (.Call (.Attribute a m apos) (e :: es) [] pos) X.env = (do
      let ov ← eval a X.env
      standAt apos.atName
      let (f, first) ← holding [ov] (getMethod ov m pl)
      callWith pos f first (backTo pos (starEach (e :: es) X.env)) (backToKw pos (keywordEach [] X.env))) := by rfl) :
    DX X F (.Call (.Attribute a m apos) (e :: es) [] pos) C (S.post i) (S.res i) (fun kk => ⟨Γ, S.μ' i kk ++ rest, lk⟩) := by
  obtain ⟨f, fd, ps, h1, h2, h3, h4⟩ := h.ex
  subst hμ
  refine peW (pe_meth (pl := pl) ho h3 h2 h1 hr h4 .nil pass0 ha hst hpl ht) ?_
  rintro σ H Q ⟨P, k, q⟩
  refine ⟨P, k, fun v P1 H1 k1 m1 hv => ?_⟩
  have hv : v = .ref l := hv
  subst hv
  obtain ⟨_, ⟨o, ho2, dx, fl, rfl, he, hr2⟩, _⟩ := k1.cells _ (List.mem_of_getElem? hc)
  refine ⟨l, dx, fl, rfl, ho2, look_none he hn, P1, k1, fun vs P2 H2 k2 m2 hvs => ?_⟩
  show S.sp (V.ref l :: (vs ++ [])) H2 Q E0
  rw [List.append_nil]
  refine call_core (S := S) (Γ := Γ) (μ := rest) (lk := lk) i k2 hp ?_ fun kk v P' H' hpost k' m' hv => q kk v P' H' hpost k' ((m1.trans m2).trans m') hv
  rw [← hss]
  exact ⟨rfl, hvs⟩
/-- e alone, its reading by an index -/
theorem db_exprX {κ : Type} {B : κ → Prop} {sk : κ → As} {C' : κ → Ctx} (he : DX X F e C B sk C') (h : ∀ kk, B kk → DB X F rest (C' kk) O) (hs : swapsWith e none pos.line X.env = pure false := by rfl) : DB X F (.Expr e pos :: rest) C O := by
  refine pssW (pss_cons (ps_expr he hs) (pssEx fun q : {kk : κ // B kk} => h q.1 q.2)) ?_
  rintro D σ H ⟨P, k, q⟩
  exact ⟨P, k, fun kk v P' H' hb k' m hv => ⟨⟨kk, hb⟩, P', k', Fol.later q m⟩⟩
end
end L3

/-! L3, part r: fields set by indexed readings, two names as a target, dicts by typed pairs. -/
namespace L3
open PySem PySem.Spec L2
section
variable {X : Cx} {F : Fr} {Sx : Sc} {C C1 C2 C3 C4 : Ctx} {s s1 s2 s3 : As} {pos p pos' apos p1 p2 : Pos} {a b c e e1 e2 e3 e4 o i : Expr} {b1 b2 : Bool} {es : List Expr} {ss rr : List As} {x y : Str} {σ : L2.St} {P H : Hp} {O : Out} {st : Stmt} {sts rest body orelse : List Stmt} {kL : Nat} {α β γ δ : Type}
theorem peEx {e : Expr} {ι : Type} {t : ι → TE} (h : ∀ i, PE X e (t i)) : PE X e (fun σ H Q => ∃ i, t i σ H Q) := ⟨fun pins s σ H Q I ⟨i, q⟩ => (h i).run pins s σ H Q I q⟩
theorem db_fldX {κ : Type} {B : κ → Prop} {sk : κ → As} {C' : κ → Ctx} {l A : Addr} {f : Str} {fs : κ → List (Str × As)} {Γ : κ → List (Option As)} {μ : κ → List Cell} {lk : List Addr} (n : Nat) (hv : DX X F e C B sk C') (ho : ∀ kk, De X F o (C' kk) (sAt l) ⟨Γ kk, μ kk, lk⟩) (hc : ∀ kk, (μ kk)[n]? = some (cI l A (fs kk)) := by intro _; rfl) (hA : Cls X.K A) (hn : NoAttr X.K A f) (hl : ∀ kk, (fs kk).length < 1000 := by intro _; decide)
    (h : ∀ kk, B kk → DB X F rest ⟨Γ kk, (μ kk).set n (cI l A (putF' f (sk kk) (fs kk))), lk⟩ O) (hs : swapsWith e (some (.Attribute o f pos')) pos.line X.env = pure false := by rfl) : DB X F (.Assign [.Attribute o f pos'] e pos :: rest) C O := by
  refine pssW (pss_cons (ps_fld (peEx ho) hv hs) (pssEx fun q : {kk : κ // B kk} => h q.1 q.2)) ?_
  rintro D σ H ⟨P, k0, q⟩
  refine ⟨P, k0, fun kk v P1 H1 hb k1 m1 hv => ⟨kk, P1, k1, fun u P2 H2 k2 m2 hu => ?_⟩⟩
  obtain ⟨_, ⟨w', hw', dx, fl, rfl, h1, h2⟩, _⟩ := k2.cells _ (List.mem_of_getElem? (hc kk))
  have hlen : fl.length = (fs kk).length := by
    have := congrArg List.length h1
    rw [List.length_map, List.length_map] at this
    exact this
  refine ⟨l, A, dx, fl, hu, hw', hA, hn, by rw [hlen]; exact hl kk, ⟨kk, hb⟩, P2, ?_, Fol.later q (m1.trans m2)⟩
  obtain ⟨i1, i2⟩ := putF_each (f := f) ((sk kk).mono m2 hv) h1 h2
  exact k2.writeAt (c' := cI l A (putF' f (sk kk) (fs kk))) (hc kk) rfl ⟨dx, _, rfl, i1, i2⟩
theorem pg_two (xf : Xf Sx X) (i j : Nat) {k} (hi : Sx.N[i]? = some x := by rfl) (hj : Sx.N[j]? = some y := by rfl) (hw : Sx.ws[i]? = some true := by rfl) (hw2 : Sx.ws[j]? = some true := by rfl)
    (hs : (assignEach [.Name x p1, .Name y p2] X.env).map (·.2) = assign (.Name x p1) X.env :: (assignEach [.Name y p2] X.env).map (·.2) := by rfl) (hs2 : (assignEach [.Name y p2] X.env).map (·.2) = assign (.Name y p2) X.env :: (assignEach [] X.env).map (·.2) := by rfl)
    (hn : (assignEach [.Name x p1, .Name y p2] X.env).length = 2 := by rfl) (hst : (assignEach [.Name x p1, .Name y p2] X.env).findIdx? (·.1) = none := by rfl) :
    PG X (.Tuple [.Name x p1, .Name y p2] k pos) (gTup X.K 2 (gNs [i, j])) := pg_tup xf.calm (pgs_cons (pg_nm xf i hi hw) (pgs_cons (pg_nm xf j hj hw2) pgs_nil hs2) hs) hn hst
theorem go_two {K : PySem.W.Frag} {r1 : α → As} {r2 : β → As} {i j : Nat} : GOk F (gTup K 2 (gNs [i, j])) [i, j] (rP2 r1 r2) (fun (y : α × β) C => (C.put i (r1 y.1)).put j (r2 y.2)) := go_tup (ss := fun y : α × β => [r1 y.1, r2 y.2]) (fun _ => rfl) rfl

theorem DW.cast (h : DW X F e C b1 C1) (k : b1 = b2) : DW X F e C b2 C1 := k ▸ h
/-- or .. of what is false, and .. of what is true: one context -/
theorem dw_orF (ha : DT X F a C false C) (hb : DW X F (.BoolOp .Or (b :: es) pos) C false C) : DW X F (.BoolOp .Or (a :: b :: es) pos) C false C := dw_or (b1 := false) (b2 := false) ha (fun _ => hb) fun h => absurd h (by decide)
theorem dw_andT (ha : DT X F a C true C) (hb : DW X F (.BoolOp .And (b :: es) pos) C true C) : DW X F (.BoolOp .And (a :: b :: es) pos) C true C := dw_and (b1 := true) (b2 := true) ha (fun _ => hb) fun h => absurd h (by decide)
theorem dt_notT (h : DT X F a C true C1) : DT X F (.UnaryOp .Not a pos) C false C1 := dt_not h
theorem dt_notF (h : DT X F a C false C1) : DT X F (.UnaryOp .Not a pos) C true C1 := dt_not h
/-- a class's statements -/
def clsStmts : Stmt → List Stmt
  | .ClassDef _ _ _ b _ _ _ _ _ _ _ => b
  | _ => []
/-! ### dicts by texts of bits -/
def kvP (r : α → As) (rs : List (Bits × α)) : List (Key × As) := rs.map fun q => (.inr (bs q.1), r q.2)
theorem sK_P {q : Bits} : sK (.inr (bs q)) = sP q := rfl
theorem valP_isSome {r : α → As} {p : Bits} : ∀ {rs : List (Bits × α)}, (valA (kvP r rs) (.inr (bs p))).isSome = decide (p ∈ rs.map Prod.fst)
  | [] => rfl
  | q :: rs => by
    have ih := valP_isSome (r := r) (p := p) (rs := rs)
    unfold valA kvP at ih ⊢
    rw [List.map_cons, List.find?_cons]
    by_cases h : q.1 = p
    · subst h
      simp
    · have h1 : (decide ((.inr (bs q.1) : Key) = .inr (bs p))) = false := decide_eq_false fun e => h (bs_inj (Sum.inr.inj e))
      have h2 : decide (p ∈ q.1 :: rs.map Prod.fst) = decide (p ∈ rs.map Prod.fst) := by
        congr 1
        refine propext ⟨fun h' => ?_, fun h' => List.mem_cons_of_mem _ h'⟩
        rcases List.mem_cons.mp h' with e | e
        · exact absurd e.symm h
        · exact e
      simp only [h1]
      rw [List.map_cons, h2]
      exact ih
theorem valP_some {r : α → As} {p : Bits} {v : α} : ∀ {rs : List (Bits × α)}, (rs.map Prod.fst).Nodup → (p, v) ∈ rs → valA (kvP r rs) (.inr (bs p)) = some (r v)
  | [], _, h => by simp at h
  | q :: rs, nd, h => by
    have nd := (List.nodup_cons (a := q.1) (l := rs.map Prod.fst)).mp (by simpa using nd)
    unfold valA kvP
    rw [List.map_cons, List.find?_cons]
    rcases List.mem_cons.mp h with e | h'
    · subst e
      simp
    · have h1 : (decide ((.inr (bs q.1) : Key) = .inr (bs p))) = false := decide_eq_false fun e => nd.1 (by rw [bs_inj (Sum.inr.inj e)]; exact List.mem_map.mpr ⟨_, h', rfl⟩)
      simp only [h1]
      exact valP_some (rs := rs) nd.2 h'
theorem valP_none {r : α → As} {p : Bits} {rs : List (Bits × α)} (h : p ∉ rs.map Prod.fst) : valA (kvP r rs) (.inr (bs p)) = none := by
  have := valP_isSome (r := r) (p := p) (rs := rs)
  rw [decide_eq_false h] at this
  cases hv : valA (kvP r rs) (.inr (bs p)) with
  | none => rfl
  | some z => rw [hv] at this; cases this
theorem putP {r : α → As} {p : Bits} {v : α} {rs : List (Bits × α)} (h : p ∉ rs.map Prod.fst) : putA (kvP r rs) (.inr (bs p)) (r v) = kvP r (rs ++ [(p, v)]) := by
  unfold putA
  have e : ((kvP r rs).any fun q => decide (q.1 = .inr (bs p))) = false := by
    rw [List.any_eq_false]
    intro q hq
    obtain ⟨z, hz, rfl⟩ := List.mem_map.mp hq
    simp only [decide_eq_true_eq]
    intro e
    exact h (by rw [← bs_inj (Sum.inr.inj e)]; exact List.mem_map.mpr ⟨z, hz, rfl⟩)
  rw [e, if_neg Bool.false_ne_true]
  unfold kvP
  rw [List.map_append]
  rfl
end
end L3

/-! L3, part s: unpacking, comparing rows of ints, a list grown and handed back. -/
namespace L3
open PySem PySem.Spec L2
section
variable {X : Cx} {F : Fr} {Sx : Sc} {C C1 C2 C3 C4 : Ctx} {s s1 s2 s3 : As} {pos p pos' apos p1 p2 : Pos} {a b c e e1 e2 e3 e4 o i : Expr} {b1 b2 : Bool} {es : List Expr} {ss rr : List As} {x y : Str} {σ : L2.St} {P H : Hp} {O : Out} {st : Stmt} {sts rest body orelse : List Stmt} {kL : Nat} {α β γ δ : Type}
/-- a, b = e, e a pair -/
theorem db_unp {k} {ptg : Pos} (xf : Xf Sx X) (i j : Nat) (he : De X F e C (sT [s1, s2]) C1) (h : DB X F rest ((C1.put i s1).put j s2) O) (hi : Sx.N[i]? = some x := by rfl) (hj : Sx.N[j]? = some y := by rfl) (hw : Sx.ws[i]? = some true := by rfl) (hw2 : Sx.ws[j]? = some true := by rfl)
    (hs : (assignEach [.Name x p1, .Name y p2] X.env).map (·.2) = assign (.Name x p1) X.env :: (assignEach [.Name y p2] X.env).map (·.2) := by rfl) (hs2 : (assignEach [.Name y p2] X.env).map (·.2) = assign (.Name y p2) X.env :: (assignEach [] X.env).map (·.2) := by rfl)
    (hn : (assignEach [.Name x p1, .Name y p2] X.env).length = 2 := by rfl) (hst : (assignEach [.Name x p1, .Name y p2] X.env).findIdx? (·.1) = none := by rfl)
    (hsw : swapsWithSole [.Tuple [.Name x p1, .Name y p2] k ptg] e pos.line X.env = pure false := by rfl) (hsn : swappedStores [.Tuple [.Name x p1, .Name y p2] k ptg] e X.env = pure none := by rfl)
    (h1 : (assignEach [.Tuple [.Name x p1, .Name y p2] k ptg] X.env).map (·.2) = [assign (.Tuple [.Name x p1, .Name y p2] k ptg) X.env] := by rfl) : DB X F (.Assign [.Tuple [.Name x p1, .Name y p2] k ptg] e pos :: rest) C O := by
  refine pssW (pss_cons (ps_asg he (pg_two xf i j hi hj hw hw2 hs hs2 hn hst) hsw hsn h1) h) ?_
  rintro D σ H ⟨P, k, q⟩
  refine ⟨P, k, fun v P1 H1 k1 m1 hv => ?_⟩
  have g := go_tup (β := Unit) (K := X.K) (F := F) (ss := fun _ => [s1, s2]) (is := [i, j]) (n := 2) (fun _ => rfl) rfl
  exact g () C1 P1 H1 σ v _ k1 hv fun σ' k' _ => ⟨P1, k', Fol.later q m1⟩

/-! ### rows of ints, == -/
abbrev sIs : List Int → As := rTs sI
def dIs (o : Option (List Int)) : PyData := match o with
  | none => .none
  | some xs => .tuple (xs.map PyData.int)
theorem ip_Is {K : PySem.W.Frag} (xs : List Int) : IsP K (sIs xs) (.tuple (xs.map PyData.int)) := ip_T (IsPs.map (t := PyData.int) (fun _ => ip_I) xs)
theorem ip_OIs {K : PySem.W.Frag} : ∀ o : Option (List Int), IsP K (sO sIs o) (dIs o)
  | none => ip_N
  | some xs => ip_Is xs
theorem eqvI : ∀ xs ys : List Int, PyData.eqvAll (xs.map PyData.int) (ys.map PyData.int) = decide (xs = ys)
  | [], [] => by simp [PyData.eqvAll]
  | x :: xs, y :: ys => by
    rw [List.map_cons, List.map_cons]
    simp only [PyData.eqvAll, PyData.eqv]
    rw [eqvI xs ys]
    by_cases h : x = y <;> simp [h]
  | [], _ :: _ => by simp [PyData.eqvAll]
  | _ :: _, [] => by simp [PyData.eqvAll]
theorem eqvOI (o1 o2 : Option (List Int)) : PyData.eqv (dIs o1) (dIs o2) = decide (o1 = o2) := by
  cases o1 with
  | none => cases o2 <;> simp [dIs, PyData.eqv]
  | some xs =>
    cases o2 with
    | none => simp [dIs, PyData.eqv]
    | some ys => simp [dIs, PyData.eqv, eqvI]
theorem shapedI (o : Option (List Int)) : SeqAt.shaped (dIs o) = true := by
  cases o with
  | none => decide
  | some xs =>
    have h1 : ∀ xs : List Int, PyData.canLayAll0 (xs.map PyData.int) = true := by
      intro xs
      induction xs with
      | nil => simp [PyData.canLayAll0]
      | cons x xs ih => simp [PyData.canLayAll0, PyData.canLay0, ih]
    have h2 : ∀ xs : List Int, PyData.depthAll (xs.map PyData.int) = 0 := by
      intro xs
      induction xs with
      | nil => simp [PyData.depthAll]
      | cons x xs ih => simp [PyData.depthAll, PyData.depth, ih]
    simp [SeqAt.shaped, dIs, PyData.canLay0, PyData.depth, h1, h2]
theorem cv_neOI {o1 o2 : Option (List Int)} (hr : Room kL X.A) : CmpV X F C .NotEq (sO sIs o1) (sO sIs o2) (!decide (o1 = o2)) := cv_neD hr (ip_OIs o1) (ip_OIs o2) (shapedI o1) (shapedI o2) (by rw [eqvOI])
theorem cv_eqOI {o1 o2 : Option (List Int)} (hr : Room kL X.A) : CmpV X F C .Eq (sO sIs o1) (sO sIs o2) (decide (o1 = o2)) := cv_eqD hr (ip_OIs o1) (ip_OIs o2) (shapedI o1) (shapedI o2) (eqvOI _ _)

/-! ### lists that grow -/
theorem de_appendT {r : α → As} {xs : List α} {v : α} {l : Addr} {Γ : List (Option As)} {μ : List Cell} {lk : List Addr} (n m : Nat) {rr : List As} (ho : De X F o C (sAt l) C1) (hc1 : C1.μ[m]? = some (cL l rr) := by rfl) (ha : De X F e C1 (r v) ⟨Γ, μ, lk⟩) (hc : μ[n]? = some (cL l (xs.map r)) := by rfl) (hlen : xs.length < 1000000)
    (hbase : attributeBase o "append" X.env (eval o X.env) = eval o X.env := by rfl)
    (hfew : ((backTo pos (starEach [e] X.env)).all (fun x => !x.1) && (backToKw pos (keywordEach [] X.env)).all (fun x => x.1.isSome)
      && decide (([e] : List Expr).length + ([] : List Keyword).length + (if ([] : List Keyword).isEmpty then 0 else 1) < 30)) = true := by rfl)
    (hline : (apos.endLine == pos.line) = true := by rfl) (hs : starEach [e] X.env = (false, eval e X.env) :: starEach [] X.env := by rfl)
    (hplain : (backTo pos (starEach [] X.env)).any (·.1) = false := by rfl) :
    De X F (.Call (.Attribute o "append" apos) [e] [] pos) C sN ⟨Γ, μ.set n (cL l ((xs ++ [v]).map r)), lk⟩ := by
  have := de_append n m ho hc1 (da_cons ha da_nil hs) hc (by rw [List.length_map]; exact Nat.lt_of_lt_of_le hlen (by decide)) hbase hfew hline hs hplain
  rw [List.map_append]
  exact this
theorem de_extendT {r : α → As} {xs ys : List α} {l : Addr} {Γ : List (Option As)} {μ : List Cell} {lk : List Addr} (n m : Nat) {rr : List As} (ho : De X F o C (sAt l) C1) (hc1 : C1.μ[m]? = some (cL l rr) := by rfl) (ha : De X F e C1 (rLs r ys) ⟨Γ, μ, lk⟩) (hc : μ[n]? = some (cL l (xs.map r)) := by rfl) (hlen : xs.length + ys.length ≤ 1000000)
    (hbase : attributeBase o "extend" X.env (eval o X.env) = eval o X.env := by rfl)
    (hfew : ((backTo pos (starEach [e] X.env)).all (fun x => !x.1) && (backToKw pos (keywordEach [] X.env)).all (fun x => x.1.isSome)
      && decide (([e] : List Expr).length + ([] : List Keyword).length + (if ([] : List Keyword).isEmpty then 0 else 1) < 30)) = true := by rfl)
    (hline : (apos.endLine == pos.line) = true := by rfl) (hs : starEach [e] X.env = (false, eval e X.env) :: starEach [] X.env := by rfl)
    (hplain : (backTo pos (starEach [] X.env)).any (·.1) = false := by rfl) :
    De X F (.Call (.Attribute o "extend" apos) [e] [] pos) C sN ⟨Γ, μ.set n (cL l ((xs ++ ys).map r)), lk⟩ := by
  have := de_extend n m ho hc1 (da_cons ha da_nil hs) hc (by rw [List.length_map, List.length_map]; exact Nat.le_trans hlen (by decide)) hbase hfew hline hs hplain
  rw [List.map_append]
  exact this
end
end L3
namespace L3
open PySem PySem.Spec L2
theorem sw_env {ts : List Expr} {v : Expr} {e1 e2 : Env} (h : e1.scope = e2.scope) : swappedStores ts v e1 = swappedStores ts v e2 := by
  unfold swappedStores Env.kindOf Env.blockKind
  rw [h]
/-- a, b = e1, e2 where the order of the stores is looked up by the scope -/
theorem sw_of {X : Cx} {Sx : Sc} (xf : Xf Sx X) {ts : List Expr} {v : Expr} {r : Sem (Option (List Str))} (h : ∀ env : Env, swappedStores ts v { env with scope := Sx.sc } = r) : swappedStores ts v X.env = r :=
  (sw_env (e2 := { X.env with scope := Sx.sc }) xf.hsc).trans (h X.env)
end L3

/-! L3, part t: items set by indexed readings. -/
namespace L3
open PySem PySem.Spec L2
section
variable {X : Cx} {F : Fr} {Sx : Sc} {C C1 C2 C3 C4 : Ctx} {s s1 s2 s3 : As} {pos p pos' apos p1 p2 : Pos} {a b c e e1 e2 e3 e4 o i : Expr} {b1 b2 : Bool} {es : List Expr} {ss rr : List As} {x y : Str} {σ : L2.St} {P H : Hp} {O : Out} {st : Stmt} {sts rest body orelse : List Stmt} {kL : Nat} {α β γ δ : Type}
theorem db_ixsetX {κ : Type} {B : κ → Prop} {sk : κ → As} {C' C'' : κ → Ctx} {l : Addr} {Γ : κ → List (Option As)} {μ : κ → List Cell} {lk : List Addr} {j : Int} {m : Nat} (n : Nat) (hv : DX X F e C B sk C') (ho : ∀ kk, De X F o (C' kk) (sAt l) (C'' kk)) (hi : ∀ kk, De X F i (C'' kk) (sI j) ⟨Γ kk, μ kk, lk⟩) (hc : ∀ kk, (μ kk)[n]? = some (cL l ss)) (hj : j = (m : Int)) (hm : m < ss.length)
    (h : ∀ kk, B kk → DB X F rest ⟨Γ kk, (μ kk).set n (cL l (ss.set m (sk kk))), lk⟩ O)
    (ha : ∀ v, assign (.Subscript o i pos') X.env v = (do
      let ov ← holding [v] (eval o X.env)
      let iv ← holding [v, ov] (eval i X.env)
      standAt pos'
      holding [v, ov, iv] (setItem ov iv v)
      release [v, ov, iv] []) := by intro _; rfl) (hs : swapsWithSole [.Subscript o i pos'] e pos.line X.env = pure false := by rfl) (hw : swappedStores [.Subscript o i pos'] e X.env = pure none := by rfl)
    (h1 : (assignEach [.Subscript o i pos'] X.env).map (·.2) = [assign (.Subscript o i pos') X.env] := by rfl) : DB X F (.Assign [.Subscript o i pos'] e pos :: rest) C O := by
  refine pssW (pss_cons (ps_asg hv (pg_sub (peEx ho) (peEx hi) set_list ha) hs hw h1) (pssEx fun q : {kk : κ // B kk} => h q.1 q.2)) ?_
  rintro D σ H ⟨P, k, q⟩
  refine ⟨P, k, fun kk v P1 H1 hb k1 m1 hv => ⟨kk, P1, k1, fun u P2 H2 k2 m2 hu => ⟨kk, P2, k2, fun w P3 H3 k3 m3 hw => ?_⟩⟩⟩
  obtain ⟨_, ⟨z, hz, xs, rfl, hx⟩, _⟩ := k3.cells _ (List.mem_of_getElem? (hc kk))
  have hu : u = .ref l := hu
  have hw : w = .int j := hw
  subst hu hw
  have hlen := hx.len
  refine ⟨l, xs, j, m, rfl, rfl, hz, ?_, ⟨kk, hb⟩, P3, ?_, Fol.later q ((m1.trans m2).trans m3)⟩
  · subst hj
    unfold ixN
    rw [if_pos (Int.natCast_nonneg m), if_pos (by omega)]
    simp
  · exact k3.writeAt (c' := cL l (ss.set m (sk kk))) (hc kk) rfl ⟨_, rfl, Each.set ((sk kk).mono (m2.trans m3) hv) m hx⟩
end
end L3

/-! L3, part u: dict(pairs), == of rows of (bits, int). -/
namespace L3
open PySem PySem.Spec L2
section
variable {X : Cx} {F : Fr} {Sx : Sc} {C C1 C2 C3 C4 : Ctx} {kL : Nat} {α β γ δ : Type}
theorem pairs_each {K : PySem.W.Frag} {r : α → As} {P H : Hp} (k : Sub P H) : ∀ {rs : List (Bits × α)} {vs : List V}, Each P (rs.map (rP2 sP r)) vs →
    ∃ (ps : List Addr) (kvs : List (Key × V)), vs = ps.map V.ref ∧ Paired (fun p (kv : Key × V) => SqT K H p [kV kv.1, kv.2]) ps kvs ∧ kvs.map Prod.fst = (kvP r rs).map Prod.fst ∧ Each P ((kvP r rs).map Prod.snd) (kvs.map Prod.snd)
  | [], [], _ => ⟨[], [], rfl, .nil, rfl, trivial⟩
  | x :: rs, v :: vs, h => by
    obtain ⟨h1, h2⟩ := (show (rP2 sP r x).holds P v ∧ Each P (rs.map (rP2 sP r)) vs from h)
    obtain ⟨ps, kvs, e1, e2, e3, e4⟩ := pairs_each k h2
    obtain ⟨t, ws, rfl, hp, hw⟩ := h1
    obtain ⟨u1, u2, rfl, g1, g2⟩ := each2 hw
    have g1 : u1 = .str (bs x.1) := g1
    subst g1
    refine ⟨t :: ps, (.inr (bs x.1), u2) :: kvs, by rw [e1]; rfl, .cons (SqT.of (k.tup hp)) e2, ?_, g2, e4⟩
    rw [List.map_cons, e3]
    rfl
  | [], _ :: _, h => h.elim
  | _ :: _, [], h => h.elim
theorem merge_new : ∀ (more kvs : List (Key × V)), ((kvs ++ more).map Prod.fst).Nodup → mergeK kvs more = kvs ++ more
  | [], kvs, _ => by rw [List.append_nil]; rfl
  | q :: more, kvs, nd => by
    show mergeK (putK kvs q.1 q.2) more = kvs ++ q :: more
    have hn : q.1 ∉ kvs.map Prod.fst := by
      rw [List.map_append, List.nodup_append] at nd
      exact fun h => nd.2.2 _ h _ (List.mem_map.mpr ⟨q, List.mem_cons_self, rfl⟩) rfl
    have e : putK kvs q.1 q.2 = kvs ++ [q] := by
      rw [putK_def]
      have : (kvs.any fun z => decide (z.1 = q.1)) = false := by
        rw [List.any_eq_false]
        intro z hz
        simp only [decide_eq_true_eq]
        exact fun e => hn (List.mem_map.mpr ⟨z, hz, e⟩)
      rw [this, if_neg Bool.false_ne_true]
    rw [e, merge_new more (kvs ++ [q]) (by rw [List.append_assoc]; exact nd), List.append_assoc]
    rfl
theorem bs_inj' : Function.Injective bs := fun _ _ h => bs_inj h
theorem nodup_bs {rs : List (Bits × α)} {r : α → As} (nd : (rs.map Prod.fst).Nodup) : ((kvP r rs).map Prod.fst).Nodup := by
  have e : (kvP r rs).map Prod.fst = (rs.map Prod.fst).map fun p => (Sum.inr (bs p) : Key) := by
    unfold kvP
    rw [List.map_map, List.map_map]
    rfl
  rw [e]
  unfold List.Nodup at nd ⊢
  rw [List.pairwise_map]
  exact nd.imp fun h e => h (bs_inj (Sum.inr.inj e))
/-- dict(rows), the rows' keys all different -/
theorem ca_dictP {r : α → As} {rs : List (Bits × α)} (hc : X.calm = true) (nd : (rs.map Prod.fst).Nodup) : CalV X F C (.type "dict") [rLs (rP2 sP r) rs] (sD (kvP r rs)) C := ⟨_, call_dictP hc, fun σ P H vs Q k h q => by
  obtain ⟨v, rfl, a, xs, rfl, hp, he⟩ := each1 h
  obtain ⟨ps, kvs, e1, e2, e3, e4⟩ := pairs_each (K := X.K) k.sub he
  subst e1
  refine ⟨a, ps, kvs, rfl, SqL.of (k.sub.lst hp), e2, fun l hl => ?_⟩
  have em : mergeK [] kvs = kvs := merge_new kvs [] (by
    rw [List.nil_append, e3]
    exact nodup_bs nd)
  rw [em]
  obtain ⟨k2, m2⟩ := k.laid (o := .dK kvs) hl
  exact q _ _ _ k2 m2 ⟨l, kvs, rfl, upd_same, e3, e4.mono m2⟩⟩

/-! ### == of rows -/
def dR (x : Bits × Int) : PyData := .tuple [.str (bs x.1), .int x.2]
theorem ip_R {K : PySem.W.Frag} (x : Bits × Int) : IsP K (rP2 sP sI x) (dR x) := ip_T (.cons ip_S (.cons ip_I .nil))
theorem ip_Rs {K : PySem.W.Frag} (xs : List (Bits × Int)) : IsP K (rLs (rP2 sP sI) xs) (.list (xs.map dR)) := ip_L (IsPs.map (t := dR) ip_R xs)
theorem eqvR : ∀ xs ys : List (Bits × Int), PyData.eqvAll (xs.map dR) (ys.map dR) = decide (xs = ys)
  | [], [] => by simp [PyData.eqvAll]
  | x :: xs, y :: ys => by
    rw [List.map_cons, List.map_cons]
    simp only [PyData.eqvAll]
    rw [eqvR xs ys]
    have : PyData.eqv (dR x) (dR y) = decide (x = y) := by
      obtain ⟨p, i⟩ := x
      obtain ⟨q, j⟩ := y
      simp only [dR, PyData.eqv, PyData.eqvAll, Bool.and_true]
      by_cases h1 : p = q
      · subst h1
        by_cases h2 : i = j
        · simp [h2]
        · simp [h2]
      · have : (bs p == bs q) = false := by
          rw [beq_eq_false_iff_ne]
          exact fun e => h1 (bs_inj e)
        simp [this, h1]
    rw [this]
    by_cases h : x = y <;> simp [h]
  | [], _ :: _ => by simp [PyData.eqvAll]
  | _ :: _, [] => by simp [PyData.eqvAll]
theorem strOk_bs (p : Bits) : PyData.strOk (bs p) = true := by
  unfold PyData.strOk
  rw [Array.all_eq_true]
  intro i hi
  have : (bs p).cps[i] = bit p[i]! := by
    have e : (bs p).cps[i]? = (p.map bit)[i]? := by rw [← Array.getElem?_toList, bs_tl]
    rw [Array.getElem?_eq_getElem hi, List.getElem?_map] at e
    cases h : p[i]? with
    | none => rw [h] at e; cases e
    | some b =>
      rw [h] at e
      have e := Option.some.inj e
      rw [e]
      congr 1
      simp [h]
  rw [this]
  cases p[i]! <;> decide
theorem shapedR (xs : List (Bits × Int)) : SeqAt.shaped (.list (xs.map dR)) = true := by
  have h1 : ∀ xs : List (Bits × Int), PyData.canLayAll0 (xs.map dR) = true := by
    intro xs
    induction xs with
    | nil => simp [PyData.canLayAll0]
    | cons x xs ih =>
      rw [List.map_cons]
      simp [PyData.canLayAll0, dR, PyData.canLay0, ih, strOk_bs]
  have h2 : ∀ xs : List (Bits × Int), PyData.depthAll (xs.map dR) ≤ 1 := by
    intro xs
    induction xs with
    | nil => simp [PyData.depthAll]
    | cons x xs ih =>
      rw [List.map_cons]
      simp only [PyData.depthAll, dR, PyData.depth]
      have := ih
      omega
  have h3 := h2 xs
  simp only [SeqAt.shaped, PyData.canLay0, PyData.depth, h1, Bool.true_and]
  exact decide_eq_true (show PyData.depthAll (xs.map dR) + 1 ≤ 64 by omega)
theorem cv_neR {xs ys : List (Bits × Int)} (hr : Room kL X.A) : CmpV X F C .NotEq (rLs (rP2 sP sI) xs) (rLs (rP2 sP sI) ys) (!decide (xs = ys)) := cv_neD hr (ip_Rs xs) (ip_Rs ys) (shapedR xs) (shapedR ys) (by simp only [PyData.eqv, eqvR])
theorem cv_eqR {xs ys : List (Bits × Int)} (hr : Room kL X.A) : CmpV X F C .Eq (rLs (rP2 sP sI) xs) (rLs (rP2 sP sI) ys) (decide (xs = ys)) := cv_eqD hr (ip_Rs xs) (ip_Rs ys) (shapedR xs) (shapedR ys) (by simp only [PyData.eqv, eqvR])
/-- the text "01", as bits -/
theorem de_01 {j} {pos : Pos} : De X F (.Constant (.str ("01" : Str)) j pos) C (sP [false, true]) C := de_str.cast (by
  unfold sP
  rw [show bs [false, true] = ("01" : Str) by decide +kernel])
end
end L3

/-! L3, part v: name = a comprehension, typed. -/
namespace L3
open PySem PySem.Spec L2
section
variable {X : Cx} {F : Fr} {Sx : Sc} {C C1 C2 C3 C4 : Ctx} {s s1 s2 s3 : As} {pos p pos' apos : Pos} {x y : Str} {O : Out} {rest : List Stmt} {α β γ δ : Type} {tg elt iter : Expr} {ifs : List Expr} {scope : Scope}
theorem sws_env {v : Expr} {t : Option Expr} {n : Nat} {e1 e2 : Env} (h : e1.scope = e2.scope) : swapsWith v t n e1 = swapsWith v t n e2 := by
  unfold swapsWith Env.kindOf Env.blockKind
  rw [h]
theorem sws_of (xf : Xf Sx X) {v : Expr} {t : Option Expr} {n : Nat} {r : Sem Bool} (h : ∀ env : Env, swapsWith v t n { env with scope := Sx.sc } = r) : swapsWith v t n X.env = r := (sws_env (e2 := { X.env with scope := Sx.sc }) xf.hsc).trans (h X.env)
theorem put_frz {Γ : List (Option As)} {μ : List Cell} {lk : List Addr} {i : Nat} {ss : List As} {l : Addr} (hi : i < Γ.length) (h : DB X F rest (Ctx.put ⟨Γ, μ, lk⟩ i (sL ss)) O) : DB X F rest (Ctx.put (Ctx.cell ⟨Γ, μ, lk⟩ (cL l ss)) i (sAt l)) O := by
  refine db_frzAt (c := cL l ss) (s := sL ss) μ.length i (by simp [Ctx.put, Ctx.cell]) (by
    show (Γ.set i (some (sAt l)))[i]? = _
    rw [List.getElem?_set_self hi]
    rfl) frz_L ?_
  have e1 : (Γ.set i (some (sAt l))).set i (some (sL ss)) = Γ.set i (some (sL ss)) := by rw [List.set_set]
  have e2 : (μ ++ [cL l ss]).eraseIdx μ.length = μ := by
    rw [List.eraseIdx_append_of_length_le (Nat.le_refl _)]
    simp
  show DB X F rest ⟨(Γ.set i (some (sAt l))).set i (some (sL ss)), (μ ++ [cL l ss]).eraseIdx μ.length, lk⟩ O
  rw [e1, e2]
  exact h
/-- name = [f y for y in ys if q y], no cell changed, the list known from then on -/
theorem db_setLcT {g : TG} {r : β → As} {ys : List β} {own : List (Str × Nat)} {u : β → Ctx → Ctx} {Γ : List (Option As)} {μ : List Cell} {lk : List Addr} {S' : Sc} {r' : γ → As} {f : β → γ} {q : β → Bool}
    (xf : Xf Sx X) (i : Nat) (B : Blk Sx S' scope own) (hi : DI X F tg iter C r ys ⟨Γ, μ, lk⟩) (hg : ∀ X', InBlk X scope X' → Xf S' X' → PG X' tg g) (gok : ∀ F, GOk F g (own.map (·.2)) r u) (hlen : ys.length ≤ sizeLine)
    (hmono : ∀ (y : β) (C : Ctx), (u y C).μ = C.μ ∧ (u y C).lk = C.lk)
    (htt : ∀ (y : β) F' X', y ∈ ys → InBlk X scope X' → Xf S' X' → DTs X' F' ifs (u y ⟨wipeA Γ (own.map (·.2)), μ, []⟩) (q y) (u y ⟨wipeA Γ (own.map (·.2)), μ, []⟩))
    (hte : ∀ (y : β) F' X', y ∈ ys → InBlk X scope X' → Xf S' X' → q y = true → De X' F' elt (u y ⟨wipeA Γ (own.map (·.2)), μ, []⟩) (r' (f y)) (u y ⟨wipeA Γ (own.map (·.2)), μ, []⟩))
    (hrest : DB X F rest (Ctx.put ⟨Γ, μ, lk⟩ i (rLs r' ((ys.filter q).map f))) O) (hiΓ : Nat.ble (i + 1) Γ.length = true := by rfl)
    (hN : Sx.N[i]? = some x := by rfl) (hyl : Sx.sc.names.lookup x = some .local := by first | rfl | decide +kernel) (hkf : Sx.sc.kind = .function := by rfl) (hl : (pos'.line == pos.line) = true := by rfl)
    (ha : (scope.names.any fun (n, k) => n == x && (k == .local || k == .cell)) = false := by first | rfl | decide +kernel) (hs : ∀ x, foldedSetIterable iter X.env x = pure x := by intro _; rfl) :
    DB X F (.Assign [.Name x pos'] (.ListComp elt [⟨tg, iter, ifs, 0⟩] scope pos) p :: rest) C O := by
  by_cases hne : ys = []
  · subst hne
    exact db_setLc (ifs := ifs) (fun _ => μ) (fun _ => true) (fun _ => sN) (fun _ => ⟨Γ, μ, []⟩) (fun _ => ⟨Γ, μ, []⟩) (fun _ => []) xf i B hi hg gok rfl (fun k hk => by simp at hk) hlen (fun _ => ⟨rfl, fun _ => rfl⟩) (fun _ => ⟨rfl, rfl⟩) (fun k y F' X' _ _ h => by simp at h) (fun k y F' X' _ _ h => by simp at h) hmono (fun l => put_frz (Nat.le_of_ble_eq_true hiΓ) hrest) hN hyl hkf hl ha hs
  obtain ⟨y0, hy0⟩ : ∃ y0, y0 ∈ ys := by
    cases ys with
    | nil => exact absurd rfl hne
    | cons y _ => exact ⟨y, List.mem_cons_self⟩
  let at_ : Nat → β := fun k => ys.getD k y0
  have hat : ∀ k y, ys[k]? = some y → at_ k = y := fun k y h => by
    show ys.getD k y0 = y
    rw [List.getD_eq_getElem?_getD, h]
    rfl
  refine db_setLc (ifs := ifs) (fun _ => μ) (fun k => q (at_ k)) (fun k => r' (f (at_ k))) (fun k => u (at_ k) ⟨wipeA Γ (own.map (·.2)), μ, []⟩) (fun k => u (at_ k) ⟨wipeA Γ (own.map (·.2)), μ, []⟩) (fun k => (((ys.take k).filter q).map f).map r') xf i B hi hg gok (by simp) (fun k hk => ?_) hlen
    (fun k => ⟨(hmono _ _).2, fun _ => (hmono _ _).1⟩) (fun k => ⟨(hmono _ _).2, (hmono _ _).1⟩) (fun k y F' X' h1 h2 h3 => ?_) (fun k y F' X' h1 h2 h3 h4 => ?_) hmono (fun l => ?_) hN hyl hkf hl ha hs
  · have hy : ys[k]? = some ys[k] := List.getElem?_eq_getElem hk
    rw [filt_take ys k _ hy, hat k _ hy]
    split
    · rw [List.map_append]
      rfl
    · rfl
  · rw [hat k y h3]
    exact htt y F' X' (List.mem_of_getElem? h3) h1 h2
  · rw [hat k y h3] at h4 ⊢
    exact hte y F' X' (List.mem_of_getElem? h3) h1 h2 h4
  · rw [List.take_length]
    exact put_frz (Nat.le_of_ble_eq_true hiΓ) hrest
end
end L3

/-! L3, part w: chains as tests. -/
namespace L3
open PySem PySem.Spec L2
section
variable {X : Cx} {F : Fr} {C C1 C2 : Ctx} {s1 s2 s3 : As} {pos : Pos} {a b c : Expr}
theorem dt_chain {op op' : CmpOp} {d1 d2 : Bool} (h : CmpV X F C2 op s1 s2 d1) (h' : CmpV X F C2 op' s2 s3 d2) (ha : De X F a C s1 C1) (hb : De X F b C1 s2 C2) (hc : De X F c C2 s3 C2) (hm : lastMarks [op, op'] [b, c] = false := by with_unfolding_all rfl) :
    DT X F (.Compare a [op, op'] [b, c] pos) C (d1 && d2) C2 := by
  obtain ⟨r, ho, hr⟩ := h.ex
  obtain ⟨r', ho', hr'⟩ := h'.ex
  refine ptW (pt_chain ho ho' ha hb hc hm) ?_
  rintro σ H Q ⟨P, k, q⟩
  refine ⟨P, k, fun v P1 H1 k1 m1 hv => ⟨P1, k1, fun u P2 H2 k2 m2 hu => ?_⟩⟩
  refine hr σ P2 H2 v u _ k2 (s1.mono m2 hv) hu ⟨d1, rfl, ?_⟩
  cases d1 with
  | true => exact ⟨P2, k2, fun w P3 H3 k3 m3 hw => hr' σ P3 H3 u w _ k3 (s2.mono m3 hu) hw ⟨d2, rfl, q P3 H3 k3 ((m1.trans m2).trans m3)⟩⟩
  | false => exact ⟨false, rfl, q P2 H2 k2 (m1.trans m2)⟩
end
end L3

/-! L3, part x: facts of the top. -/
namespace L3
open PySem PySem.Spec L2
section
variable {Pg : Program} {w : World} {K : PySem.W.Frag} {mg : Str → Option Value} {base : Heap} {x qual : Str} {st : Stmt} {ps : List Str} {Sx : Sc} {S : FS} {kL : Nat} {A : Addr}
theorem fn_of1 {f : Addr} {fd : FuncData} (Fu : Fun K x qual st f fd) (sc : FnScope Sx.N ps (defScope st)) (hS : Sx.sc = defScope st) (htab : tabC Sx = true) (hlen : ∀ i, (S.ar i).length = ps.length)
    (hb : ∀ (X : Cx) (F : Fr) (i : S.ι), Env1 Pg w K mg base Sx kL X → S.pre i → DB X F (defBody st) ⟨ent Sx.N.length (S.ar i), S.μ i, []⟩ (outs S i)) : FnOk Pg w K mg base CX0 (kL + 1) f fd ps S.sp :=
  fn_ok Fu sc hS htab hlen fun X F i e1 e2 e3 e4 e5 xf hr hp => hb X F i ⟨e1, e2, e3, e4, e5, xf, hr, hp⟩
end
section
variable {K : PySem.W.Frag} {mg : Str → Option Value} {h : Heap}
theorem law_mk {st : Stmt} {f : Addr} {od an : Option Addr} {sl : Array (Option Value)} {oc kV dc pm cd ct : Value} (X : K.In h) (G : h.Ns mainGlobals mg) (a : PySem.W.nsIn K mainGlobals "law" = some (some (.ref f))) (l : K.lookup f = some ⟨oc, od, .func (PySem.W.fnOf "law" "law" (defArgs st) (defBody st) (defScope st) .none kV dc pm an cd ct), sl⟩) (c : PySem.W.codeIn K cd "law" = true) (k : PySem.W.keepIn K (.ref f) = true)
    (hb : ∀ (u : Value), bindArgs (PySem.W.fnOf "law" "law" (defArgs st) (defBody st) (defScope st) .none kV dc pm an cd ct) ⟨[u], []⟩ = pure [(("script" : Str), u)]) : ∃ f fd, Fun K "law" "law" st f fd ∧ mg "law" = some (.ref f) ∧ ∀ (s : Shared) (u : Value), BindsTo s fd ⟨[u], []⟩ [(("script" : Str), u)] :=
  ⟨f, _, fun_mk l c k, PySem.W.mg_of X G a, fun s u => BindsTo.of_eq (hb u)⟩
theorem clsF_mk {x : Str} {A : Addr} (X : K.In h) (G : h.Ns mainGlobals mg) (a : PySem.W.nsIn K mainGlobals x = some (some (.ref A))) (pg : PySem.W.plainGet K A Str.empty = true) (hd : PySem.W.hasDictIn K A = true) (po : PySem.W.plainOver K A = true) (sa : PySem.W.findIn K (.ref A) "__setattr__" = some (some (.builtin "object.__setattr__")))
    (ha : PySem.W.findIn K (.ref A) "__class__" = some (some (.builtin "object.__class__"))) (hn : PySem.W.specialIn K (.builtin "object.__class__") "__get__" = some (some (.builtin "getset_descriptor.__get__"))) (htk : PySem.W.takesIn K (.builtin "object.__class__") = some true) (hm : PySem.W.mroIn K A (.type "object") = some true)
    (makes : PySem.W.makesIn K A = true) (kp : PySem.W.keepIn K (.ref A) = true) : ClsF K mg x A :=
  ⟨⟨pg, hd, po, sa⟩, ins_of ⟨pg, hd, po, sa⟩ ha hn htk hm, makes, kp, PySem.W.mg_of X G a⟩
theorem kitF {t u : Value} {v : Bool} (X : K.In h) (a : PySem.W.kitOne K t u = some v) : PySem.W.kitOne K t u = some v := a
theorem noAttr_mk {x y : Str} {A : Addr} (C : ClsF K mg y A) (a : PySem.W.findIn K (.ref A) x = some none) : NoAttr K A x := a
theorem int_mk {x : Str} {i : Int} {t : Tok} (X : K.In h) (G : h.Ns mainGlobals mg) (a : PySem.W.nsIn K mainGlobals x = some (some (.int i t))) : ∃ t, mg x = some (.int i t) := ⟨t, PySem.W.mg_of X G a⟩
end
end L3

namespace Law
open PySem PySem.Spec L2 L3
def topS (i : Nat) : Stmt := PySem.Challenge.pw_leastroutes_k04_whole_halves.main.body.getD i (.Pass ⟨0, 0, 0, 0⟩)
def clsS (i j : Nat) : Stmt := (clsStmts (topS i)).getD j (.Pass ⟨0, 0, 0, 0⟩)
end Law
/-! draws -/
namespace Law
open PySem PySem.Spec L2 L3
section
variable {Pg : Program} {w : World} {K : PySem.W.Frag} {mg : Str → Option Value} {base : Heap}
abbrev st_taken : Stmt := topS 47
def S_taken : Sc := ⟨["row", "many", "found", "cell"], [true, true, true, true], [true, true, true, true], ["int", "len"], defScope st_taken⟩
abbrev SP_taken (K : PySem.W.Frag) : FS := FS.dr1 K sI (fun m => 0 < m ∧ m < 1073741824) (fun d m => sI (d.val m)) fun d m => d.next m
theorem ok_taken (D__law_taken : Dfn K mg "_law_taken" st_taken ["row", "many"]) (m_int : mg "int" = none) (m_len : mg "len" = none) : Cal Pg w K mg base 1 "_law_taken" (SP_taken K) := by
  refine cal_of (Sx := S_taken) (kL := 0) D__law_taken ⟨rfl, rfl, rfl, by decide +kernel, rfl, by decide +kernel, by decide +kernel⟩ rfl (by decide +kernel) (fun _ => rfl) ?_
  rintro X F ⟨l, d, m⟩ ⟨rfl, rfl, rfl, rfl, rfl, xf, hr, hp⟩ ⟨hm, hm2⟩
  obtain ⟨ns, i, seed, cur⟩ := d
  have hm : 0 < m := hm
  have hm2 : m < 1073741824 := hm2
  refine db_ifr (C1 := ⟨[some (sAt l), some (sI m), none, none], [cL l [sScr X.K ns, sI i, sI seed, sI cur]], []⟩) (dt_cmp cv_gt (de_ixC (i := 3) (fun _ _ => rfl) (de_var xf 0) de_int (List.mem_of_getElem? (i := 0) rfl) rfl rfl) de_int) (fun h => ?_) (fun h => ?_)
  · have hc : 0 < cur := by simpa using h
    refine db_set xf 2 (de_mod (de_callTy xf 0 m_int (by decide +kernel) ca_int (da_cons (de_ixC (i := 3) (fun _ _ => rfl) (de_var xf 0) de_int (List.mem_of_getElem? (i := 0) rfl) rfl rfl) da_nil)) (de_var xf 1) hm) ?_
    refine db_ixset 0 (de_fdiv (de_ixC (i := 3) (fun _ _ => rfl) (de_var xf 0) de_int (List.mem_of_getElem? (i := 0) rfl) rfl rfl) (de_var xf 1) ⟨hm, hm2⟩) (de_var xf 0) de_int rfl (m := 3) rfl (by show 3 < 4; decide) ?_
    exact db_retS (de_var xf 2) (by simp [Draw.val, hc]) [] (by simp [Draw.next, Draw.fs, hc]; rfl)
  · have hc : ¬ 0 < cur := by simpa using h
    refine db_ixset 0 (de_add (de_ixC (i := 1) (fun _ _ => rfl) (de_var xf 0) de_int (List.mem_of_getElem? (i := 0) rfl) rfl rfl) de_int) (de_var xf 0) de_int rfl (m := 1) rfl (by show 1 < 4; decide) ?_
    refine db_ifr (dt_cmp cv_gt (de_ixC (s := sI ((i : Int) + 1)) (i := 1) (fun _ _ => rfl) (de_var xf 0) de_int (List.mem_of_getElem? (i := 0) rfl) rfl rfl) (de_callB xf 1 m_len (by decide +kernel) ca_lenScr (da_cons (de_ixC (i := 0) (fun _ _ => rfl) (de_var xf 0) de_int (List.mem_of_getElem? (i := 0) rfl) rfl rfl) da_nil))) (fun h => ?_) (fun h => ?_)
    · have h2 : (ns.length : Int) < (i : Int) + 1 := by simpa using h
      refine db_ixset 0 (de_mod (de_callTy xf 0 m_int (by decide +kernel) ca_int (da_cons (de_add (de_mul (de_ixC (s := sI seed) (i := 2) (fun _ _ => rfl) (de_var xf 0) de_int (List.mem_of_getElem? (i := 0) rfl) rfl rfl) de_int (.inr (by decide))) de_int) da_nil)) de_int (by decide)) (de_var xf 0) de_int rfl (m := 2) rfl (by show 2 < 4; decide) ?_
      refine db_retS (de_mod (de_callTy xf 0 m_int (by decide +kernel) ca_int (da_cons (de_fdiv (de_ixC (s := sI ((seed * 48271 + 11) % 2147483647)) (i := 2) (fun _ _ => rfl) (de_var xf 0) de_int (List.mem_of_getElem? (i := 0) rfl) rfl rfl) de_int (by decide)) da_nil)) (de_var xf 1) hm) (by simp [Draw.val, hc, h2]) [] (by simp [Draw.next, Draw.fs, hc, h2]; rfl)
    · have h2 : ¬ (ns.length : Int) < (i : Int) + 1 := by simpa using h
      have hi : i < ns.length := by omega
      have hcell : ns[i]? = some (ns.getD i 0) := by rw [List.getD_eq_getElem?_getD, List.getElem?_eq_getElem hi]; rfl
      refine db_set xf 3 (de_ixScr (n := i) (v := ns.getD i 0) (de_ixC (i := 0) (fun _ _ => rfl) (de_var xf 0) de_int (List.mem_of_getElem? (i := 0) rfl) rfl rfl) (de_sub (de_ixC (s := sI ((i : Int) + 1)) (i := 1) (fun _ _ => rfl) (de_var xf 0) de_int (List.mem_of_getElem? (i := 0) rfl) rfl rfl) de_int) (by omega) hcell) ?_
      refine db_ixset 0 (de_mod (de_callTy xf 0 m_int (by decide +kernel) ca_int (da_cons (de_add (de_add (de_mul (de_ixC (s := sI seed) (i := 2) (fun _ _ => rfl) (de_var xf 0) de_int (List.mem_of_getElem? (i := 0) rfl) rfl rfl) de_int (.inr (by decide))) (de_var xf 3)) de_int) da_nil)) de_int (by decide)) (de_var xf 0) de_int rfl (m := 2) rfl (by show 2 < 4; decide) ?_
      refine db_if (fun C' => C' = ⟨[some (sAt l), some (sI m), none, some (sI (ns.getD i 0))], [cL l [sScr X.K ns, sI ((i + 1 : Nat) : Int), sI ((seed * 48271 + ns.getD i 0 + 11) % 2147483647), sI (if 1000000000000000000 ≤ ns.getD i 0 then ns.getD i 0 / m else cur)]], []⟩) (dt_cmp cv_ge (de_var xf 3) (de_pow de_int de_int (by unfold CPow; decide))) (fun h => ?_) (fun h => ?_) ?_
      · have h3 : 1000000000000000000 ≤ ns.getD i 0 := by simpa using h
        refine db_ixset 0 (de_fdiv (de_var xf 3) (de_var xf 1) ⟨hm, hm2⟩) (de_var xf 0) de_int rfl (m := 3) rfl (by show 3 < 4; decide) (db_nil ?_)
        rw [if_pos h3]; rfl
      · have h3 : ¬ 1000000000000000000 ≤ ns.getD i 0 := by simpa using h
        refine db_nil ?_
        rw [if_neg h3]; rfl
      · rintro _ rfl
        exact db_retS (de_mod (de_callTy xf 0 m_int (by decide +kernel) ca_int (da_cons (de_var xf 3) da_nil)) (de_var xf 1) hm) (by simp [Draw.val, hc, h2]) [] (by simp [Draw.next, Draw.fs, hc, h2]; rfl)

/-! _law_pick -/
abbrev st_pick : Stmt := topS 48
def S_pick : Sc := ⟨["row", "some"], [true, true], [true, true], ["_law_taken", "len"], defScope st_pick⟩
def pick {α : Type} (d : Draw) (xs : List α) : Option α := xs[(d.val xs.length).toNat]?
theorem pick_some {α : Type} (d : Draw) {xs : List α} (h : xs ≠ []) : ∃ x, pick d xs = some x ∧ x ∈ xs := by
  have h0 : 0 < xs.length := List.length_pos_iff.mpr h
  have h1 := d.val_ge (m := (xs.length : Int)) (by omega)
  have h2 := d.val_lt (m := (xs.length : Int)) (by omega)
  have h3 : (d.val xs.length).toNat < xs.length := by omega
  exact ⟨xs[(d.val xs.length).toNat], List.getElem?_eq_getElem h3, List.getElem_mem h3⟩
abbrev SP_pick {α : Type} (K : PySem.W.Frag) (r : α → As) : FS := FS.dr1 K (rLs r) (fun xs => xs ≠ [] ∧ xs.length ≤ 1000000) (fun d xs => sO r (pick d xs)) fun d xs => d.next xs.length
theorem ok_pick (D__law_pick : Dfn K mg "_law_pick" st_pick ["row", "some"]) (m_len : mg "len" = none) (h_taken : Cal Pg w K mg base 1 "_law_taken" (SP_taken K)) : ∀ {α : Type} (r : α → As), Cal Pg w K mg base 2 "_law_pick" (SP_pick K r) := by
  intro α r
  refine cal_of (Sx := S_pick) (kL := 1) D__law_pick ⟨rfl, rfl, rfl, by decide +kernel, rfl, by decide +kernel, by decide +kernel⟩ rfl (by decide +kernel) (fun _ => rfl) ?_
  rintro X F ⟨l, d, xs⟩ ⟨rfl, rfl, rfl, rfl, rfl, xf, hr, hp⟩ ⟨hne, hl⟩
  have hne : xs ≠ [] := hne
  have hl : xs.length ≤ 1000000 := hl
  have h0 : 0 < xs.length := List.length_pos_iff.mpr hne
  obtain ⟨x, hx, _⟩ := pick_some d hne
  have h1 := d.val_ge (m := (xs.length : Int)) (by omega)
  refine db_ret (de_ixLs (n := (d.val xs.length).toNat) (de_var xf 1) (de_dr1 (v1 := (xs.length : Int)) xf 0 h_taken hr (de_var xf 0) ((de_callB xf 1 m_len (by decide +kernel) ca_lenL (da_cons (de_var xf 1) da_nil)).cast (by rw [List.length_map])) ⟨by omega, by omega⟩) (by show d.val (xs.length : Int) = ((d.val xs.length).toNat : Int); omega) hx) ?_
  exact ⟨(), [], trivial, fun P v hv => by show (sO r (pick d xs)).holds P v; rw [hx]; exact hv, rfl, rfl⟩

/-! _law_bits -/
abbrev st_bits : Stmt := topS 49
def S_bits : Sc := ⟨["row", "most", "many", "k"], [true, true, true, false], [true, true, true, false], ["_law_taken", "min", "range"], defScope st_bits⟩
def bitsLen (d : Draw) (m : Int) : Nat :=
  let many := d.val (m + 1)
  if 0 < (d.next (m + 1)).val 3 then (if 1 + ((d.next (m + 1)).next 3).val 4 < many then 1 + ((d.next (m + 1)).next 3).val 4 else many).toNat else many.toNat
def bitsAt (d : Draw) (m : Int) : Draw := if 0 < (d.next (m + 1)).val 3 then ((d.next (m + 1)).next 3).next 4 else (d.next (m + 1)).next 3
def bit1 (d : Draw) : Bits := [decide (d.val 2 = 1)]
def bitsN (n : Nat) (d : Draw) : Bits := (runD (fun d (_ : Int) => bit1 d) (fun d _ => d.next 2) d ((List.range n).map fun i : Nat => (0 : Int) + (i : Int))).flatten
def bitsE (n : Nat) (d : Draw) : Draw := endD (fun d (_ : Int) => d.next 2) d ((List.range n).map fun i : Nat => (0 : Int) + (i : Int))
theorem flat_bit1 : ∀ (ys : List Int) (d : Draw), ((runD (fun d (_ : Int) => bit1 d) (fun d _ => d.next 2) d ys).flatten).length = ys.length
  | [], _ => rfl
  | y :: ys, d => by
    show (bit1 d ++ (runD (fun d (_ : Int) => bit1 d) (fun d _ => d.next 2) (d.next 2) ys).flatten).length = _
    rw [List.length_append, flat_bit1 ys, List.length_cons]
    show 1 + _ = _
    omega
theorem sum_bit1 : ∀ (ys : List Int) (d : Draw), ((runD (fun d (_ : Int) => bit1 d) (fun d _ => d.next 2) d ys).map (·.length)).sum = ys.length
  | [], _ => rfl
  | y :: ys, d => by
    show (((bit1 d) :: (runD (fun d (_ : Int) => bit1 d) (fun d _ => d.next 2) (d.next 2) ys)).map (·.length)).sum = _
    rw [List.map_cons, List.sum_cons, sum_bit1 ys, List.length_cons]
    show 1 + _ = _
    omega
theorem bitsN_len (n : Nat) (d : Draw) : (bitsN n d).length = n := by
  unfold bitsN
  rw [flat_bit1, List.length_map, List.length_range]
theorem bitsLen_le (d : Draw) {m : Int} (h : 0 ≤ m) : (bitsLen d m : Int) ≤ m := by
  have h1 := d.val_lt (m := m + 1) (by omega)
  have h2 := d.val_ge (m := m + 1) (by omega)
  unfold bitsLen
  dsimp only
  split
  · split <;> omega
  · omega
def drawBits (d : Draw) (m : Int) : Bits := bitsN (bitsLen d m) (bitsAt d m)
def drawBitsE (d : Draw) (m : Int) : Draw := bitsE (bitsLen d m) (bitsAt d m)
theorem drawBits_len (d : Draw) {m : Int} (h : 0 ≤ m) : ((drawBits d m).length : Int) ≤ m := by
  unfold drawBits
  rw [bitsN_len]
  exact bitsLen_le d h
abbrev SP_bits (K : PySem.W.Frag) : FS := FS.dr1 K sI (fun m => 0 ≤ m ∧ m ≤ 1000) (fun d m => sP (drawBits d m)) drawBitsE
/-- ['01'[_law_taken(row, 2)] for k in range(n)] -/
theorem ok_bits (D__law_bits : Dfn K mg "_law_bits" st_bits ["row", "most"]) (m_min : mg "min" = none) (m_range : mg "range" = none) (h_taken : Cal Pg w K mg base 1 "_law_taken" (SP_taken K)) : Cal Pg w K mg base 2 "_law_bits" (SP_bits K) := by
  refine cal_of (Sx := S_bits) (kL := 1) D__law_bits ⟨rfl, rfl, rfl, by decide +kernel, rfl, by decide +kernel, by decide +kernel⟩ rfl (by decide +kernel) (fun _ => rfl) ?_
  rintro X F ⟨l, d, m⟩ ⟨rfl, rfl, rfl, rfl, rfl, xf, hr, hp⟩ ⟨hm, hm2⟩
  have hm : 0 ≤ m := hm
  have hm2 : m ≤ 1000 := hm2
  have h1 := d.val_lt (m := m + 1) (by omega)
  have h2 := d.val_ge (m := m + 1) (by omega)
  have h3 := ((d.next (m + 1)).next 3).val_ge (m := 4) (by omega)
  have hb := bitsLen_le d hm
  refine db_set xf 2 (de_dr1 xf 0 h_taken hr (de_var xf 0) (de_add (de_var xf 1) de_int) ⟨by omega, by omega⟩) ?_
  refine db_if (fun C' => C' = ⟨[some (sAt l), some (sI m), some (sI (bitsLen d m : Nat)), none], [cDr X.K l (bitsAt d m)], []⟩) (dt_cmp cv_gt (de_dr1 xf 0 h_taken hr (de_var xf 0) de_int (by decide)) de_int) (fun h => ?_) (fun h => ?_) ?_
  · have hc : 0 < (d.next (m + 1)).val 3 := by simpa using h
    refine db_set xf 2 (de_callB xf 1 m_min (by decide +kernel) (ca_min2 xf.calm) (da_cons (de_var xf 2) (da_cons (de_add de_int (de_dr1 xf 0 h_taken hr (de_var xf 0) de_int (by decide))) da_nil))) (db_nil ?_)
    have e1 : bitsAt d m = ((d.next (m + 1)).next 3).next 4 := by unfold bitsAt; rw [if_pos hc]
    have e2 : ((bitsLen d m : Nat) : Int) = if 1 + ((d.next (m + 1)).next 3).val 4 < d.val (m + 1) then 1 + ((d.next (m + 1)).next 3).val 4 else d.val (m + 1) := by
      unfold bitsLen
      dsimp only
      rw [if_pos hc]
      split <;> omega
    rw [e1, e2]
    rfl
  · have hc : ¬ 0 < (d.next (m + 1)).val 3 := by simpa using h
    refine db_nil ?_
    have e1 : bitsAt d m = (d.next (m + 1)).next 3 := by unfold bitsAt; rw [if_neg hc]
    have e2 : ((bitsLen d m : Nat) : Int) = d.val (m + 1) := by
      unfold bitsLen
      dsimp only
      rw [if_neg hc]
      omega
    rw [e1, e2]
    rfl
  · rintro _ rfl
    refine db_retS (de_joinP de_str (de_lcD (r' := sP) (f := fun d (_ : Int) => bit1 d) (nx := fun d _ => d.next 2) xf (blk_by (own := [("k", 3)]) (us := [true, false, false, true]) (ws := [false, false, false, true]) (G := ["_law_taken"]) (by decide +kernel) (by decide +kernel)) (di_range1 xf 2 m_range (de_var xf 2) (by omega) (by omega)) (fun X' _ xf' => pg_nm xf' 3) (fun _ => go_name) ?_ (fun _ _ => ⟨rfl, rfl⟩) (fun d' y F' X' _ hX xf' => ?_)) ?_) ?_ [] rfl
    · rw [List.length_map, List.length_range]
      exact Nat.le_trans (show _ ≤ 1000 by omega) (by decide)
    · obtain ⟨s, H, C, cl, fp, rfl⟩ := hX
      exact ⟨_, de_pick01 (de_dr1 xf' 0 h_taken hr (de_var xf' 0) de_int (by decide)) (Draw.val_ge _ (by decide)) (Draw.val_lt _ (by decide)), rfl, rfl, rfl⟩
    · rw [sum_bit1, List.length_map, List.length_range]
      omega
    · show sP _ = sP (drawBits d m)
      unfold drawBits bitsN
      simp
/-! _law_longer -/
abbrev st_longer : Stmt := topS 50
def S_longer : Sc := ⟨["row", "some", "most", "one", "k"], [true, true, true, true, false], [true, true, true, true, false], ["_law_taken", "_law_bits", "_law_pick", "len", "range"], defScope st_longer⟩
def longer (d : Draw) (xs : List Bits) (m : Int) : Bits :=
  if xs = [] then drawBits d m
  else if d.val 3 = 0 then drawBits (d.next 3) m
  else match pick (d.next 3) xs with
    | none => []
    | some one => if ((d.next 3).next xs.length).val 4 = 0 then one.take ((((d.next 3).next xs.length).next 4).val (one.length + 1)).toNat
      else (one ++ bitsN (1 + (((d.next 3).next xs.length).next 4).val 3).toNat ((((d.next 3).next xs.length).next 4).next 3)).take m.toNat
def longerE (d : Draw) (xs : List Bits) (m : Int) : Draw :=
  if xs = [] then drawBitsE d m
  else if d.val 3 = 0 then drawBitsE (d.next 3) m
  else match pick (d.next 3) xs with
    | none => d
    | some one => if ((d.next 3).next xs.length).val 4 = 0 then (((d.next 3).next xs.length).next 4).next (one.length + 1)
      else bitsE (1 + (((d.next 3).next xs.length).next 4).val 3).toNat ((((d.next 3).next xs.length).next 4).next 3)
theorem longer_len (d : Draw) {xs : List Bits} {m : Int} (h0 : 0 ≤ m) (h : ∀ p ∈ xs, (p.length : Int) ≤ m) : ((longer d xs m).length : Int) ≤ m := by
  unfold longer
  split
  · exact drawBits_len _ h0
  · split
    · exact drawBits_len _ h0
    · rename_i hne _
      obtain ⟨x, hx, hm⟩ := pick_some (d.next 3) hne
      rw [hx]
      have := h x hm
      dsimp only
      split
      · rw [List.length_take]; omega
      · rw [List.length_take]; omega
abbrev SP_longer (K : PySem.W.Frag) : FS := FS.dr2 K (rLs sP) sI (fun xs m => (∀ p ∈ xs, (p.length : Int) ≤ m) ∧ xs.length ≤ 1000 ∧ 0 ≤ m ∧ m ≤ 1000) (fun d xs m => sP (longer d xs m)) longerE
theorem ok_longer (D__law_longer : Dfn K mg "_law_longer" st_longer ["row", "some", "most"]) (m_len : mg "len" = none) (m_range : mg "range" = none) (h_taken : Cal Pg w K mg base 1 "_law_taken" (SP_taken K)) (h_bits : Cal Pg w K mg base 2 "_law_bits" (SP_bits K)) (h_pick : ∀ {α : Type} (r : α → As), Cal Pg w K mg base 2 "_law_pick" (SP_pick K r)) : Cal Pg w K mg base 3 "_law_longer" (SP_longer K) := by
  refine cal_of (Sx := S_longer) (kL := 2) D__law_longer ⟨rfl, rfl, rfl, by decide +kernel, rfl, by decide +kernel, by decide +kernel⟩ rfl (by decide +kernel) (fun _ => rfl) ?_
  rintro X F ⟨l, d, xs, m⟩ ⟨rfl, rfl, rfl, rfl, rfl, xf, hr, hp⟩ ⟨hx, hxl, hm, hm2⟩
  have hx : ∀ p ∈ xs, (p.length : Int) ≤ m := hx
  have hxl : xs.length ≤ 1000 := hxl
  have hm : 0 ≤ m := hm
  have hm2 : m ≤ 1000 := hm2
  have hr1 := hr.mono (show 1 ≤ 2 by decide)
  by_cases hne : xs = []
  · subst hne
    refine db_ifTr (C1 := ⟨[some (sAt l), some (rLs sP []), some (sI m), none, none], [cDr X.K l d], []⟩) (dt_bool (dw_or (C := ⟨[some (sAt l), some (rLs sP []), some (sI m), none, none], [cDr X.K l d], []⟩) (C1 := ⟨[some (sAt l), some (rLs sP []), some (sI m), none, none], [cDr X.K l d], []⟩) (b1 := true) (b2 := true) (dt_not (dt_truL (ss := []) (de_var xf 1))) (fun h => absurd h (by decide)))) ?_
    exact db_retS (de_dr1 xf 1 h_bits hr (de_var xf 0) (de_var xf 2) ⟨hm, hm2⟩) (by simp [longer]) [] (by simp [longerE])
  · have he : (xs.map sP).isEmpty = false := by
      cases xs with
      | nil => exact absurd rfl hne
      | cons _ _ => rfl
    refine db_ifr (C1 := ⟨[some (sAt l), some (rLs sP xs), some (sI m), none, none], [cDr X.K l (d.next 3)], []⟩) (dt_bool (dw_or (b1 := false) (DT.cast (dt_not (dt_truL (de_var xf 1))) (by rw [he]; rfl)) (fun _ => dw_or1 (dt_cmp cv_eqI (de_dr1 xf 0 h_taken hr1 (de_var xf 0) de_int (by decide)) de_int)) (fun h => absurd h (by decide)))) (fun h => ?_) (fun h => ?_)
    · have h1 : d.val 3 = 0 := by simpa using h
      exact db_retS (de_dr1 xf 1 h_bits hr (de_var xf 0) (de_var xf 2) ⟨hm, hm2⟩) (by simp [longer, hne, h1]) [] (by simp [longerE, hne, h1])
    · have h1 : ¬ d.val 3 = 0 := by simpa using h
      obtain ⟨one, hone, hmem⟩ := pick_some (d.next 3) hne
      have hol := hx one hmem
      have h4 := (((d.next 3).next xs.length).next 4).val_ge (m := one.length + 1) (by omega)
      have h5 := (((d.next 3).next xs.length).next 4).val_ge (m := 3) (by omega)
      have h6 := (((d.next 3).next xs.length).next 4).val_lt (m := 3) (by omega)
      refine db_set xf 3 (De.cast (s1 := sP one) (de_dr1 xf 2 (h_pick sP) hr (de_var xf 0) (de_var xf 1) ⟨hne, by omega⟩) (by rw [hone]; rfl)) ?_
      refine db_ifr (dt_cmp cv_eqI (de_dr1 xf 0 h_taken hr1 (de_var xf 0) de_int (by decide)) de_int) (fun h => ?_) (fun h => ?_)
      · have h2 : ((d.next 3).next xs.length).val 4 = 0 := by simpa using h
        refine db_retS (de_takeP (n := ((((d.next 3).next xs.length).next 4).val (one.length + 1)).toNat) (de_var xf 3) (De.cast (de_dr1 xf 0 h_taken hr1 (de_var xf 0) (de_add (de_callB xf 3 m_len (by decide +kernel) (ca_lenP (p := one) (by omega)) (da_cons (de_var xf 3) da_nil)) de_int) ⟨by omega, by omega⟩) (by rw [Int.toNat_of_nonneg h4])) (by omega)) ?_ [] ?_
        · show sP _ = sP (longer d xs m)
          simp [longer, hne, h1, hone, h2]
        · show [cDr X.K l _] = [cDr X.K l (longerE d xs m)]
          simp [longerE, hne, h1, hone, h2]
      · have h2 : ¬ ((d.next 3).next xs.length).val 4 = 0 := by simpa using h
        refine db_retS (de_takeP (n := m.toNat) (de_appP (de_var xf 3) (de_joinP de_str (de_lcD (r' := sP) (f := fun d (_ : Int) => bit1 d) (nx := fun d _ => d.next 2) xf (blk_by (own := [("k", 4)]) (us := [true, false, false, false, true]) (ws := [false, false, false, false, true]) (G := ["_law_taken"]) (by decide +kernel) (by decide +kernel)) (di_range1 xf 4 m_range (de_add de_int (de_dr1 xf 0 h_taken hr1 (de_var xf 0) de_int (by decide))) (by omega) (by omega)) (fun X' _ xf' => pg_nm xf' 4) (fun _ => go_name) ?_ (fun _ _ => ⟨rfl, rfl⟩) (fun d' y F' X' _ hX xf' => ?_)) ?_) ?_) (De.cast (de_var xf 2) (by rw [Int.toNat_of_nonneg hm])) ?_) ?_ [] ?_
        · rw [List.length_map, List.length_range]
          exact Nat.le_trans (show _ ≤ 1000 by omega) (by decide)
        · obtain ⟨s, H, C, cl, fp, rfl⟩ := hX
          exact ⟨_, de_pick01 (de_dr1 xf' 0 h_taken hr1 (de_var xf' 0) de_int (by decide)) (Draw.val_ge _ (by decide)) (Draw.val_lt _ (by decide)), rfl, rfl, rfl⟩
        · rw [sum_bit1, List.length_map, List.length_range]
          omega
        · rw [flat_bit1, List.length_map, List.length_range]
          omega
        · rw [List.length_append, flat_bit1, List.length_map, List.length_range]
          omega
        · show sP _ = sP (longer d xs m)
          simp [longer, hne, h1, hone, h2, bitsN]
        · show [cDr X.K l _] = [cDr X.K l (longerE d xs m)]
          simp [longerE, hne, h1, hone, h2, bitsE]

/-! _law_prefixes -/
abbrev st_prefixes : Stmt := topS 51
def S_prefixes : Sc := ⟨["row", "many", "most", "found", "k", "one"], [true, true, true, true, true, true], [true, true, true, true, true, true], ["_law_taken", "_law_longer", "range"], defScope st_prefixes⟩
/-- n turns -/
def preN : Nat → Draw → Int → List Bits × Draw
  | 0, d, _ => ([], d)
  | n + 1, d, m =>
    let q := preN n d m
    let one := longer q.2 q.1 m
    (if one ∈ q.1 then q.1 else q.1 ++ [one], longerE q.2 q.1 m)
theorem preN_facts (d : Draw) {m : Int} (h0 : 0 ≤ m) : ∀ n : Nat, (preN n d m).1.Nodup ∧ (∀ p ∈ (preN n d m).1, (p.length : Int) ≤ m) ∧ (preN n d m).1.length ≤ n
  | 0 => ⟨List.nodup_nil, by simp [preN], Nat.le_refl _⟩
  | n + 1 => by
    obtain ⟨h1, h2, h3⟩ := preN_facts d h0 n
    have hl := longer_len (preN n d m).2 h0 h2
    show (if longer (preN n d m).2 (preN n d m).1 m ∈ (preN n d m).1 then (preN n d m).1 else (preN n d m).1 ++ [longer (preN n d m).2 (preN n d m).1 m]).Nodup ∧ (∀ p ∈ (if longer (preN n d m).2 (preN n d m).1 m ∈ (preN n d m).1 then (preN n d m).1 else (preN n d m).1 ++ [longer (preN n d m).2 (preN n d m).1 m]), (p.length : Int) ≤ m) ∧ (if longer (preN n d m).2 (preN n d m).1 m ∈ (preN n d m).1 then (preN n d m).1 else (preN n d m).1 ++ [longer (preN n d m).2 (preN n d m).1 m]).length ≤ n + 1
    split
    · exact ⟨h1, h2, by omega⟩
    · rename_i hn
      refine ⟨?_, fun p hp => ?_, ?_⟩
      · rw [List.nodup_append]
        refine ⟨h1, by simp, fun a ha b hb e => ?_⟩
        have : b = longer (preN n d m).2 (preN n d m).1 m := by simpa using hb
        exact hn (by rw [← this, ← e]; exact ha)
      · rcases List.mem_append.mp hp with hp | hp
        · exact h2 p hp
        · have : p = longer (preN n d m).2 (preN n d m).1 m := by simpa using hp
          rw [this]
          exact hl
      · rw [List.length_append, List.length_singleton]
        omega
def prefs (d : Draw) (many m : Int) : List Bits := (preN (d.val (many + 1)).toNat (d.next (many + 1)) m).1
def prefsE (d : Draw) (many m : Int) : Draw := (preN (d.val (many + 1)).toNat (d.next (many + 1)) m).2
theorem prefs_facts (d : Draw) {many m : Int} (h : 0 ≤ many) (h0 : 0 ≤ m) : (prefs d many m).Nodup ∧ (∀ p ∈ prefs d many m, (p.length : Int) ≤ m) ∧ ((prefs d many m).length : Int) ≤ many := by
  obtain ⟨h1, h2, h3⟩ := preN_facts (d.next (many + 1)) h0 (d.val (many + 1)).toNat
  have h4 := d.val_lt (m := many + 1) (by omega)
  have h5 := d.val_ge (m := many + 1) (by omega)
  exact ⟨h1, h2, by show ((preN _ _ _).1.length : Int) ≤ many; omega⟩
theorem mem_bs {p : Bits} {xs : List Bits} : (bs p ∈ xs.map bs) = (p ∈ xs) := by
  refine propext ⟨fun h => ?_, fun h => List.mem_map.mpr ⟨p, h, rfl⟩⟩
  obtain ⟨q, hq, e⟩ := List.mem_map.mp h
  rw [← bs_inj e]
  exact hq
theorem cv_niCP {X : Cx} {F : Fr} {C : L3.Ctx} {p : Bits} {xs : List Bits} {l : Addr} (hc : cL l (xs.map sP) ∈ C.μ) : CmpV X F C .NotIn (sP p) (sAt l) (!decide (p ∈ xs)) := by
  have := cv_niCS (X := X) (F := F) (C := C) (i := bs p) (xs := xs.map bs) (l := l) (by rw [List.map_map]; exact hc)
  simp only [mem_bs] at this
  exact this
abbrev SP_prefixes (K : PySem.W.Frag) : FS := FS.dr2 K sI sI (fun many m => 0 ≤ many ∧ many ≤ 900 ∧ 0 ≤ m ∧ m ≤ 1000) (fun d many m => rLs sP (prefs d many m)) prefsE
theorem ok_prefixes (D__law_prefixes : Dfn K mg "_law_prefixes" st_prefixes ["row", "many", "most"]) (m_range : mg "range" = none) (h_taken : Cal Pg w K mg base 1 "_law_taken" (SP_taken K)) (h_longer : Cal Pg w K mg base 3 "_law_longer" (SP_longer K)) : Cal Pg w K mg base 4 "_law_prefixes" (SP_prefixes K) := by
  refine cal_of (Sx := S_prefixes) (kL := 3) D__law_prefixes ⟨rfl, rfl, rfl, by decide +kernel, rfl, by decide +kernel, by decide +kernel⟩ rfl (by decide +kernel) (fun _ => rfl) ?_
  rintro X F ⟨l, d, many, m⟩ ⟨rfl, rfl, rfl, rfl, rfl, xf, hr, hp⟩ ⟨hx, hxl, hm, hm2⟩
  have hx : 0 ≤ many := hx
  have hxl : many ≤ 900 := hxl
  have hm : 0 ≤ m := hm
  have hm2 : m ≤ 1000 := hm2
  have hr1 := hr.mono (show 1 ≤ 3 by decide)
  have h4 := d.val_lt (m := many + 1) (by omega)
  have h5 := d.val_ge (m := many + 1) (by omega)
  show DB X F (defBody st_prefixes) ⟨[some (sAt l), some (sI many), some (sI m), none, none, none], [cDr X.K l d], []⟩ (outs (SP_prefixes X.K) (l, d, many, m))
  refine db_setX xf 3 (dx_lst da_nil) fun lf _ => ?_
  let I : Nat → L3.Ctx → Prop := fun k C => ∃ o1 o2, C = ⟨[some (sAt l), some (sI many), some (sI m), some (sAt lf), o1, o2], [cDr X.K l (preN k (d.next (many + 1)) m).2, cL lf ((preN k (d.next (many + 1)) m).1.map sP)], []⟩
  refine db_for I (di_range1 xf 2 m_range (de_dr1 xf 0 h_taken hr1 (de_var xf 0) (de_add (de_var xf 1) de_int) ⟨by omega, by omega⟩) (by omega) (by omega)) xf hp (pg_nm xf 4) go_name ⟨none, none, rfl⟩ (fun k y C2 hy hI => ?_) (fun C2 hI => ?_)
  · obtain ⟨o1, o2, rfl⟩ := hI
    obtain ⟨f1, f2, f3⟩ := preN_facts (d.next (many + 1)) hm k
    have hk : k < (d.val (many + 1)).toNat := by
      have := (List.getElem?_eq_some_iff.mp hy).1
      simpa using this
    refine db_set xf 5 (de_drV (r0 := sP) 0 xf 1 h_longer hr (de_var xf 0) (de_var xf 3) (de_var xf 2) rfl ⟨f2, by omega, hm, hm2⟩ (nol_P _) (nol_I _)) ?_
    refine db_if (fun C' => I (k + 1) C') (dt_cmp (cv_niCP (List.mem_of_getElem? (i := 1) rfl)) (de_var xf 5) (de_var xf 3)) (fun h => ?_) (fun h => ?_) (fun C' hC => db_nil hC)
    · have h1 : ¬ longer (preN k (d.next (many + 1)) m).2 (preN k (d.next (many + 1)) m).1 m ∈ (preN k (d.next (many + 1)) m).1 := by simpa using h
      refine db_expr (de_append 1 1 (de_var xf 3) rfl (da_cons (de_var xf 5) da_nil) rfl (by rw [List.length_map]; exact Nat.lt_of_lt_of_le (show _ < 1000 by omega) (by decide))) (db_nil ⟨some (sI y), some (sP (longer (preN k (d.next (many + 1)) m).2 (preN k (d.next (many + 1)) m).1 m)), ?_⟩)
      have e : preN (k + 1) (d.next (many + 1)) m = ((preN k (d.next (many + 1)) m).1 ++ [longer (preN k (d.next (many + 1)) m).2 (preN k (d.next (many + 1)) m).1 m], longerE (preN k (d.next (many + 1)) m).2 (preN k (d.next (many + 1)) m).1 m) := by
        show (if _ then _ else _, _) = _
        rw [if_neg h1]
      rw [e, List.map_append]
      rfl
    · have h1 : longer (preN k (d.next (many + 1)) m).2 (preN k (d.next (many + 1)) m).1 m ∈ (preN k (d.next (many + 1)) m).1 := by simpa using h
      refine db_nil ⟨some (sI y), some (sP (longer (preN k (d.next (many + 1)) m).2 (preN k (d.next (many + 1)) m).1 m)), ?_⟩
      have e : preN (k + 1) (d.next (many + 1)) m = ((preN k (d.next (many + 1)) m).1, longerE (preN k (d.next (many + 1)) m).2 (preN k (d.next (many + 1)) m).1 m) := by
        show (if _ then _ else _, _) = _
        rw [if_pos h1]
      rw [e]
      rfl
  · rw [List.length_map, List.length_range] at hI
    obtain ⟨o1, o2, rfl⟩ := hI
    exact db_frzAt 1 3 rfl rfl frz_L (db_retS (de_var xf 3) rfl [] rfl)
/-! _law_routes -/
abbrev st_routes : Stmt := topS 52
def S_routes : Sc := ⟨["row", "many", "most", "hops", "one"], [true, true, true, true, false], [true, true, true, true, false], ["_law_prefixes"], defScope st_routes⟩
abbrev Rt := Bits × Int
abbrev sR : Rt → As := rP2 sP sI
def routesD (d : Draw) (many m h : Int) : List Rt := runD (fun d p => (p, d.val (h + 1) - 1)) (fun d _ => d.next (h + 1)) (prefsE d many m) (prefs d many m)
def routesE (d : Draw) (many m h : Int) : Draw := endD (fun d _ => d.next (h + 1)) (prefsE d many m) (prefs d many m)
theorem runD_fst {h : Int} : ∀ (ps : List Bits) (d : Draw), (runD (fun d (p : Bits) => (p, d.val (h + 1) - 1)) (fun d _ => d.next (h + 1)) d ps).map Prod.fst = ps
  | [], _ => rfl
  | p :: ps, d => by
    show p :: (runD (fun d (p : Bits) => (p, d.val (h + 1) - 1)) (fun d _ => d.next (h + 1)) (d.next (h + 1)) ps).map Prod.fst = p :: ps
    rw [runD_fst ps]
theorem routesD_facts (d : Draw) {many m h : Int} (h1 : 0 ≤ many) (h0 : 0 ≤ m) (hh : 0 ≤ h) : ((routesD d many m h).map Prod.fst).Nodup ∧ (∀ r ∈ routesD d many m h, (r.1.length : Int) ≤ m ∧ -1 ≤ r.2 ∧ r.2 < h) ∧ ((routesD d many m h).length : Int) ≤ many := by
  obtain ⟨f1, f2, f3⟩ := prefs_facts d h1 h0
  refine ⟨by unfold routesD; rw [runD_fst]; exact f1, fun r hr => ?_, by unfold routesD; rw [runD_len]; exact f3⟩
  obtain ⟨d', p, hp, rfl⟩ := runD_mem hr
  have a := d'.val_ge (m := h + 1) (by omega)
  have b := d'.val_lt (m := h + 1) (by omega)
  exact ⟨f2 p hp, by show -1 ≤ d'.val (h + 1) - 1; omega, by show d'.val (h + 1) - 1 < h; omega⟩
abbrev SP_routes (K : PySem.W.Frag) : FS := FS.dr3 K sI sI sI (fun many m h => (0 ≤ many ∧ many ≤ 900 ∧ 0 ≤ m ∧ m ≤ 1000) ∧ 0 ≤ h ∧ h ≤ 1000) (fun d many m h => rLs sR (routesD d many m h)) routesE
theorem ok_routes (D__law_routes : Dfn K mg "_law_routes" st_routes ["row", "many", "most", "hops"]) (h_taken : Cal Pg w K mg base 1 "_law_taken" (SP_taken K)) (h_prefixes : Cal Pg w K mg base 4 "_law_prefixes" (SP_prefixes K)) : Cal Pg w K mg base 5 "_law_routes" (SP_routes K) := by
  refine cal_of (Sx := S_routes) (kL := 4) D__law_routes ⟨rfl, rfl, rfl, by decide +kernel, rfl, by decide +kernel, by decide +kernel⟩ rfl (by decide +kernel) (fun _ => rfl) ?_
  rintro X F ⟨l, d, many, m, h⟩ ⟨rfl, rfl, rfl, rfl, rfl, xf, hr, hp⟩ ⟨hx, hh, hh2⟩
  show DB X F (defBody st_routes) ⟨[some (sAt l), some (sI many), some (sI m), some (sI h), none], [cDr X.K l d], []⟩ (outs (SP_routes X.K) (l, d, many, m, h))
  have hx : 0 ≤ many ∧ many ≤ 900 ∧ 0 ≤ m ∧ m ≤ 1000 := hx
  have hh : 0 ≤ h := hh
  have hh2 : h ≤ 1000 := hh2
  have hr1 := hr.mono (show 1 ≤ 4 by decide)
  obtain ⟨f1, f2, f3⟩ := prefs_facts d hx.1 hx.2.2.1
  refine db_retS (de_lcD (r' := sR) (r := sP) (f := fun d p => (p, d.val (h + 1) - 1)) (nx := fun d _ => d.next (h + 1)) xf (blk_by (own := [("one", 4)]) (us := [true, false, false, true, true]) (ws := [false, false, false, false, true]) (G := ["_law_taken"]) (by decide +kernel) (by decide +kernel)) (di_list (de_dr2 xf 0 h_prefixes hr (de_var xf 0) (de_var xf 1) (de_var xf 2) hx)) (fun X' _ xf' => pg_nm xf' 4) (fun _ => go_name) ?_ (fun _ _ => ⟨rfl, rfl⟩) (fun d' y F' X' _ hX xf' => ?_)) rfl [] rfl
  · exact Nat.le_trans (show _ ≤ 900 by omega) (by decide)
  · obtain ⟨s, H, C, cl, fp, rfl⟩ := hX
    exact ⟨_, de_pair (de_var xf' 4) (de_sub (de_dr1 xf' 0 h_taken hr1 (de_var xf' 0) (de_add (de_var xf' 3) de_int) ⟨by omega, by omega⟩) de_int), rfl, rfl, rfl⟩
end

end Law
/-! basics -/
namespace Law
open PySem PySem.Spec L2 L3
section
variable {Pg : Program} {w : World} {K : PySem.W.Frag} {mg : Str → Option Value} {base : Heap}
abbrev st_is_integer : Stmt := topS 18
def S_is_integer : Sc := ⟨["thing"], [true], [true], ["isinstance", "int", "bool"], defScope st_is_integer⟩
theorem ok_is_integer (D_is_integer : Dfn K mg "is_integer" st_is_integer ["thing"]) (m_isinstance : mg "isinstance" = none) (m_int : mg "int" = none) (m_bool : mg "bool" = none) (q_int_bool : PySem.W.kitOne K (.type "int") (.type "bool") = some false) : Cal Pg w K mg base 1 "is_integer" (FS.fn1 sI (fun _ => True) fun _ => sB true) := by
  refine cal_of (Sx := S_is_integer) (kL := 0) D_is_integer ⟨rfl, rfl, rfl, by decide +kernel, rfl, by decide +kernel, by decide +kernel⟩ rfl (by decide +kernel) (fun _ => rfl) ?_
  rintro X F i ⟨rfl, rfl, rfl, rfl, rfl, xf, hr, hp⟩ -
  exact db_retF (de_and (de_isi xf 0 m_isinstance (de_var xf 0) ty_I (pe_tyv xf 1 m_int (by decide +kernel)) (.ty _) kit_me) (fun _ => de_one (de_not (de_isi xf 0 m_isinstance (de_var xf 0) ty_I (pe_tyv xf 2 m_bool (by decide +kernel)) (.ty _) q_int_bool)))) rfl

abbrev st_is_within : Stmt := topS 19
def S_is_within : Sc := ⟨["thing", "least", "most"], [true, true, true], [true, true, true], ["is_integer"], defScope st_is_within⟩
theorem ok_is_within (D_is_within : Dfn K mg "is_within" st_is_within ["thing", "least", "most"]) (h_is_integer : Cal Pg w K mg base 1 "is_integer" (FS.fn1 sI (fun _ => True) fun _ => sB true)) : Cal Pg w K mg base 2 "is_within" (FS.fn3 sI sI sI (fun _ _ _ => True) fun i a b => sB (decide (a ≤ i ∧ i ≤ b))) := by
  refine cal_of (Sx := S_is_within) (kL := 1) D_is_within ⟨rfl, rfl, rfl, by decide +kernel, rfl, by decide +kernel, by decide +kernel⟩ rfl (by decide +kernel) (fun _ => rfl) ?_
  rintro X F ⟨i, a, b⟩ ⟨rfl, rfl, rfl, rfl, rfl, xf, hr, hp⟩ -
  exact db_retF (de_and (de_call1 (res := fun _ => sB true) (v1 := i) xf 0 h_is_integer hr (de_var xf 0) trivial) (fun _ => de_one (de_chain cv_le cv_le (de_var xf 1) (de_var xf 0) (de_var xf 2)))) (by simp)

abbrev st_is_row : Stmt := topS 20
def S_is_row : Sc := ⟨["thing"], [true], [true], ["isinstance", "list", "tuple"], defScope st_is_row⟩
theorem ok_is_row (D_is_row : Dfn K mg "is_row" st_is_row ["thing"]) (m_isinstance : mg "isinstance" = none) (m_list : mg "list" = none) (m_tuple : mg "tuple" = none) : Cal Pg w K mg base 1 "is_row" (FS.fn1 sL (fun _ => True) fun _ => sB true) := by
  refine cal_of (Sx := S_is_row) (kL := 0) D_is_row ⟨rfl, rfl, rfl, by decide +kernel, rfl, by decide +kernel, by decide +kernel⟩ rfl (by decide +kernel) (fun _ => rfl) ?_
  rintro X F ss ⟨rfl, rfl, rfl, rfl, rfl, xf, hr, hp⟩ -
  exact db_retF (de_isi2 xf 0 m_isinstance (de_var xf 0) ty_L (pe_tyv (T := "list") xf 1 m_list (by decide +kernel)) (pe_tyv (T := "tuple") xf 2 m_tuple (by decide +kernel)) (.ty _) (.ty _) kitAny_me) rfl

abbrev st_is_bits : Stmt := topS 21
def S_is_bits : Sc := ⟨["thing", "most", "sign"], [true, true, false], [true, true, false], ["isinstance", "str", "len", "all"], defScope st_is_bits⟩
theorem ok_is_bits (D_is_bits : Dfn K mg "is_bits" st_is_bits ["thing", "most"]) (m_isinstance : mg "isinstance" = none) (m_str : mg "str" = none) (m_len : mg "len" = none) (m_all : mg "all" = none) : Cal Pg w K mg base 1 "is_bits" (FS.fn2 sP sI (fun p _ => p.length ≤ 1000000) fun p m => sB (decide ((p.length : Int) ≤ m))) := by
  refine cal_of (Sx := S_is_bits) (kL := 0) D_is_bits ⟨rfl, rfl, rfl, by decide +kernel, rfl, by decide +kernel, by decide +kernel⟩ rfl (by decide +kernel) (fun _ => rfl) ?_
  rintro X F ⟨p, m⟩ ⟨rfl, rfl, rfl, rfl, rfl, xf, hr, hp⟩ hl
  have hl : p.length ≤ 1000000 := hl
  refine db_retF (de_and (de_isi xf 0 m_isinstance (de_var xf 0) ty_S (pe_tyv xf 1 m_str (by decide +kernel)) (.ty _) kit_me) (fun _ => de_and (de_cmp cv_le (de_callB xf 2 m_len (by decide +kernel) (ca_lenP hl) (da_cons (de_var xf 0) da_nil)) (de_var xf 1)) (fun _ => de_one (de_callB xf 3 m_all (by decide +kernel) (ca_all xf.calm) (da_cons
    (de_lcT (r' := sB) (f := fun _ : Bool => true) (q := fun _ => true) xf (blk_by (own := [("sign", 2)]) (us := [false, false, true]) (ws := [false, false, true]) (G := []) (by decide +kernel) (by decide +kernel)) (di_P (de_var xf 0)) (fun X' _ xf' => pg_nm xf' 2) (fun _ => go_name) (Nat.le_trans hl (by decide)) (fun _ _ => ⟨rfl, rfl⟩) (fun y F' X' _ hX xf' => dts_nil) (fun y F' X' _ hX xf' _ => de_cmp cv_sign01 (de_var xf' 2) de_str)) da_nil))))) ?_
  have e : ((p.filter fun _ => true).map fun _ => true).all id = true := by
    rw [List.all_eq_true]
    intro b hb
    obtain ⟨_, _, rfl⟩ := List.mem_map.mp hb
    rfl
  rw [e]
  simp

abbrev st_is_prefix : Stmt := topS 22
def S_is_prefix : Sc := ⟨["thing"], [true], [true], ["is_bits", "MOST_BITS"], defScope st_is_prefix⟩
theorem ok_is_prefix (D_is_prefix : Dfn K mg "is_prefix" st_is_prefix ["thing"]) (g_MOST_BITS : ∃ t, mg "MOST_BITS" = some (.int 64 t)) (h_is_bits : Cal Pg w K mg base 1 "is_bits" (FS.fn2 sP sI (fun p _ => p.length ≤ 1000000) fun p m => sB (decide ((p.length : Int) ≤ m)))) : Cal Pg w K mg base 2 "is_prefix" (FS.fn1 sP (fun p => p.length ≤ 64) fun _ => sB true) := by
  obtain ⟨t, ht⟩ := g_MOST_BITS
  refine cal_of (Sx := S_is_prefix) (kL := 1) D_is_prefix ⟨rfl, rfl, rfl, by decide +kernel, rfl, by decide +kernel, by decide +kernel⟩ rfl (by decide +kernel) (fun _ => rfl) ?_
  rintro X F p ⟨rfl, rfl, rfl, rfl, rfl, xf, hr, hp⟩ hl
  have hl : p.length ≤ 64 := hl
  refine db_retF (de_call2 xf 0 h_is_bits hr (de_var xf 0) (de_glob (s := sI 64) (v := .int 64) xf 1 ht ⟨t, rfl⟩ fun _ => rfl) (by omega)) ?_
  have : decide ((p.length : Int) ≤ 64) = true := decide_eq_true (by omega)
  show sB (decide ((p.length : Int) ≤ 64)) = sB true
  rw [this]

abbrev st_is_hop : Stmt := topS 23
def S_is_hop : Sc := ⟨["thing"], [true], [true], ["is_within", "MOST_HOP"], defScope st_is_hop⟩
theorem ok_is_hop (D_is_hop : Dfn K mg "is_hop" st_is_hop ["thing"]) (g_MOST_HOP : ∃ t, mg "MOST_HOP" = some (.int 999 t)) (h_is_within : Cal Pg w K mg base 2 "is_within" (FS.fn3 sI sI sI (fun _ _ _ => True) fun i a b => sB (decide (a ≤ i ∧ i ≤ b)))) : Cal Pg w K mg base 3 "is_hop" (FS.fn1 sI (fun i => -1 ≤ i ∧ i ≤ 999) fun _ => sB true) := by
  obtain ⟨t, ht⟩ := g_MOST_HOP
  refine cal_of (Sx := S_is_hop) (kL := 2) D_is_hop ⟨rfl, rfl, rfl, by decide +kernel, rfl, by decide +kernel, by decide +kernel⟩ rfl (by decide +kernel) (fun _ => rfl) ?_
  rintro X F i ⟨rfl, rfl, rfl, rfl, rfl, xf, hr, hp⟩ hl
  have hl : -1 ≤ i ∧ i ≤ 999 := hl
  refine db_retF (de_call3 xf 0 h_is_within hr (de_var xf 0) (de_neg de_int) (de_glob (s := sI 999) (v := .int 999) xf 1 ht ⟨t, rfl⟩ fun _ => rfl) trivial) ?_
  show sB (decide (-1 ≤ i ∧ i ≤ 999)) = sB true
  rw [decide_eq_true hl]

abbrev st_is_pair : Stmt := topS 24
def S_is_pair : Sc := ⟨["thing"], [true], [true], ["isinstance", "tuple", "len"], defScope st_is_pair⟩
theorem ok_is_pair (D_is_pair : Dfn K mg "is_pair" st_is_pair ["thing"]) (m_isinstance : mg "isinstance" = none) (m_tuple : mg "tuple" = none) (m_len : mg "len" = none) : Cal Pg w K mg base 1 "is_pair" (FS.fn1 sT (fun _ => True) fun ss => sB (decide (ss.length = 2))) := by
  refine cal_of (Sx := S_is_pair) (kL := 0) D_is_pair ⟨rfl, rfl, rfl, by decide +kernel, rfl, by decide +kernel, by decide +kernel⟩ rfl (by decide +kernel) (fun _ => rfl) ?_
  rintro X F ss ⟨rfl, rfl, rfl, rfl, rfl, xf, hr, hp⟩ -
  refine db_retF (de_and (de_isi xf 0 m_isinstance (de_var xf 0) ty_T (pe_tyv xf 1 m_tuple (by decide +kernel)) (.ty _) kit_me) (fun _ => de_one (de_cmp cv_eqI (de_callB xf 2 m_len (by decide +kernel) ca_lenT (da_cons (de_var xf 0) da_nil)) de_int))) ?_
  show sB (true && decide ((ss.length : Int) = 2)) = sB (decide (ss.length = 2))
  congr 1
  rw [Bool.true_and]
  congr 1
  exact propext (by omega)
end

end Law
/-! tables -/
namespace Law
open PySem PySem.Spec L2 L3
/-! tables -/
abbrev keyR (x : Rt) : List L3.It := [Sum.inr (x.1.map bit), Sum.inl x.2]
def srtR (rs : List Rt) : List Rt := isrt (fun x y => ltI (keyR x) (keyR y)) rs
theorem srtR_perm (rs : List Rt) : (srtR rs).Perm rs := isrt_perm rs
abbrev rTab (A : Addr) (rs : List Rt) : As := sC A [("hop_by", sD (kvP sI rs)), ("routes", rTs sR (srtR rs))]
structure TabPre (rs : List Rt) : Prop where
  nd : (rs.map Prod.fst).Nodup
  len : rs.length ≤ 400
  ok : ∀ r ∈ rs, r.1.length ≤ 64 ∧ -1 ≤ r.2 ∧ r.2 ≤ 999
abbrev SPm_Table (A : Addr) : FS := ⟨Addr × List Rt, Addr, fun x => TabPre x.2, fun x => [sAt x.1, rLs sR x.2], fun x => [cI x.1 A []], fun _ _ => True, fun _ _ => sN, fun x d => [cI x.1 A [("hop_by", sAt d), ("routes", rTs sR (srtR x.2))], cD d (kvP sI x.2)]⟩
section
variable {Pg : Program} {w : World} {K : PySem.W.Frag} {mg : Str → Option Value} {base : Heap} {A_Table : Addr}
abbrev st_Table__init : Stmt := clsS 27 0
def S_Table__init : Sc := ⟨["self", "routes", "index", "route"], [true, true, true, true], [true, true, true, true], ["is_row", "len", "MOST_ROUTES", "enumerate", "is_pair", "is_prefix", "is_hop", "tuple", "sorted"], defScope st_Table__init⟩
theorem ok_Table (D_Table__init : DfnM K A_Table "__init__" "Table.__init__" st_Table__init ["self", "routes"]) (C_Table : ClsF K mg "Table" A_Table) (n_Table_hop_by : NoAttr K A_Table "hop_by") (n_Table_routes : NoAttr K A_Table "routes") (m_len : mg "len" = none) (m_enumerate : mg "enumerate" = none) (m_tuple : mg "tuple" = none) (m_sorted : mg "sorted" = none) (g_MOST_ROUTES : ∃ t, mg "MOST_ROUTES" = some (.int 400 t))
    (h_is_row : Cal Pg w K mg base 1 "is_row" (FS.fn1 sL (fun _ => True) fun _ => sB true)) (h_is_pair : Cal Pg w K mg base 1 "is_pair" (FS.fn1 sT (fun _ => True) fun ss => sB (decide (ss.length = 2)))) (h_is_prefix : Cal Pg w K mg base 2 "is_prefix" (FS.fn1 sP (fun p => p.length ≤ 64) fun _ => sB true)) (h_is_hop : Cal Pg w K mg base 3 "is_hop" (FS.fn1 sI (fun i => -1 ≤ i ∧ i ≤ 999) fun _ => sB true)) : Mak Pg w K mg base 4 A_Table "Table" (SPm_Table A_Table).sp := by
  obtain ⟨t, ht⟩ := g_MOST_ROUTES
  refine mak_of (Sx := S_Table__init) (kL := 3) D_Table__init C_Table ⟨rfl, rfl, rfl, by decide +kernel, rfl, by decide +kernel, by decide +kernel⟩ rfl (by decide +kernel) (fun _ => rfl) ?_
  rintro X F ⟨l, rs⟩ ⟨rfl, rfl, rfl, rfl, rfl, xf, hr, hp⟩ ⟨nd, hlen, hok⟩
  have nd : (rs.map Prod.fst).Nodup := nd
  have hlen : rs.length ≤ 400 := hlen
  have hok : ∀ r ∈ rs, r.1.length ≤ 64 ∧ -1 ≤ r.2 ∧ r.2 ≤ 999 := hok
  have hr1 := hr.mono (show 1 ≤ 3 by decide)
  have hr2 := hr.mono (show 2 ≤ 3 by decide)
  show DB X F (defBody st_Table__init) ⟨[some (sAt l), some (rLs sR rs), none, none], [cI l A_Table []], []⟩ (outs (SPm_Table A_Table) (l, rs))
  refine db_ifFa (C1 := ⟨[some (sAt l), some (rLs sR rs), none, none], [cI l A_Table []], []⟩) (dt_bool (dw_orF (dt_notT (dt_val (c := true) (de_call1 (r1 := sL) (res := fun _ => sB true) (v1 := rs.map sR) xf 0 h_is_row hr1 (de_var xf 1) trivial))) (dw_or1 (DT.cast (dt_cmp cv_gt (de_callB xf 1 m_len (by decide +kernel) ca_lenL (da_cons (de_var xf 1) da_nil)) (de_glob (s := sI 400) (v := .int 400) xf 2 ht ⟨t, rfl⟩ fun _ => rfl)) ?_)))) ?_
  · rw [List.length_map]
    exact decide_eq_false (by omega)
  refine db_fldX 0 dx_dict (fun d => de_var xf 0) (fun d => rfl) C_Table.cls n_Table_hop_by (fun _ => (by decide : 0 < 1000)) fun d _ => ?_
  let I : Nat → L3.Ctx → Prop := fun k C => ∃ o1 o2, C = ⟨[some (sAt l), some (rLs sR rs), o1, o2], [cI l A_Table [("hop_by", sAt d)], cD d (kvP sI (rs.take k))], []⟩
  refine db_for I (di_enum xf 3 m_enumerate (de_var xf 1)) xf hp (pg_two xf 2 3) (go_tup (ss := fun y : Rt × Nat => [sI (y.2 : Int), sR y.1]) (fun _ => rfl) rfl) ⟨none, none, rfl⟩ (fun k y C2 hy hI => ?_) (fun C2 hI => ?_)
  · obtain ⟨o1, o2, rfl⟩ := hI
    obtain ⟨⟨p, h⟩, j⟩ := y
    have hk : rs[k]? = some (p, h) ∧ j = k := by
      rw [List.getElem?_zipIdx] at hy
      cases e : rs[k]? with
      | none => rw [e] at hy; cases hy
      | some z =>
        rw [e] at hy
        have hy := Option.some.inj hy
        have e1 := (Prod.mk.inj hy).1
        have e2 := (Prod.mk.inj hy).2
        exact ⟨by rw [e1], by omega⟩
    obtain ⟨hk, rfl⟩ := hk
    have hm : (p, h) ∈ rs := List.mem_of_getElem? hk
    obtain ⟨o1', o2', o3'⟩ := hok _ hm
    have o1' : p.length ≤ 64 := o1'
    have hnot : p ∉ (rs.take j).map Prod.fst := by
      intro hc
      obtain ⟨z, hz, e⟩ := List.mem_map.mp hc
      obtain ⟨m, hm1, hm2⟩ := List.mem_take_iff_getElem.mp hz
      have hlt := (List.getElem?_eq_some_iff.mp hk).1
      have h1 : (rs.map Prod.fst)[m]'(by rw [List.length_map]; omega) = (rs.map Prod.fst)[j]'(by rw [List.length_map]; omega) := by
        rw [List.getElem_map, List.getElem_map, hm2, e]
        have := (List.getElem?_eq_some_iff.mp hk).2
        rw [this]
      have := (List.getElem_inj nd).mp h1
      omega
    show DB X F _ ⟨[some (sAt l), some (rLs sR rs), some (sI (j : Int)), some (sR (p, h))], [cI l A_Table [("hop_by", sAt d)], cD d (kvP sI (rs.take j))], []⟩ _
    have hf : ∀ {apos pos}, De X F (.Attribute (.Name "self" apos) "hop_by" pos) ⟨[some (sAt l), some (rLs sR rs), some (sI (j : Int)), some (sR (p, h))], [cI l A_Table [("hop_by", sAt d)], cD d (kvP sI (rs.take j))], []⟩ (sAt d) ⟨[some (sAt l), some (rLs sR rs), some (sI (j : Int)), some (sR (p, h))], [cI l A_Table [("hop_by", sAt d)], cD d (kvP sI (rs.take j))], []⟩ := fun {apos pos} => de_fldC (de_var xf 0) (List.mem_of_getElem? (i := 0) rfl) C_Table.cls n_Table_hop_by rfl
    refine db_ifFa (C1 := ⟨[some (sAt l), some (rLs sR rs), some (sI (j : Int)), some (sR (p, h))], [cI l A_Table [("hop_by", sAt d)], cD d (kvP sI (rs.take j))], []⟩) (dt_bool (dw_orF (dt_notT (dt_val (c := true) (de_call1 (r1 := sT) (res := fun ss => sB (decide (ss.length = 2))) (v1 := [sP p, sI h]) xf 4 h_is_pair hr1 (de_var xf 3) trivial)))
      (dw_orF (dt_notT (dt_val (c := true) (de_call1 (r1 := sP) (res := fun _ => sB true) (v1 := p) xf 5 h_is_prefix hr2 (de_fst (r1 := sP) (r2 := sI) (v := (p, h)) (de_var xf 3) de_int) o1')))
      (dw_orF (dt_notT (dt_val (c := true) (de_call1 (r1 := sI) (res := fun _ => sB true) (v1 := h) xf 6 h_is_hop hr (de_snd (r1 := sP) (r2 := sI) (v := (p, h)) (de_var xf 3) de_int) ⟨o2', o3'⟩)))
      (dw_or1 (DT.cast (dt_dinC (hu_of hr) (k := .inr (bs p)) (de_fst (r1 := sP) (r2 := sI) (v := (p, h)) (de_var xf 3) de_int) hf (List.mem_of_getElem? (i := 1) rfl)) (by rw [valP_isSome]; exact decide_eq_false hnot))))))) ?_
    refine db_dput 1 (hu_of hr) (de_snd (r1 := sP) (r2 := sI) (v := (p, h)) (de_var xf 3) de_int) hf (de_fst (r1 := sP) (r2 := sI) (v := (p, h)) (de_var xf 3) de_int) rfl ?_ (k := .inr (bs p)) (db_nil ⟨some (sI (j : Int)), some (sR (p, h)), ?_⟩)
    · show ((rs.take j).map _).length < sizeLine
      rw [List.length_map, List.length_take]
      exact Nat.lt_of_lt_of_le (show _ < 1000 by omega) (by decide)
    · have e : rs.take (j + 1) = rs.take j ++ [(p, h)] := by
        rw [List.take_succ, hk]
        rfl
      rw [e]
      show (⟨_, [_, cD d (putA (kvP sI (rs.take j)) (.inr (bs p)) (sI h))], _⟩ : L3.Ctx) = _
      rw [putP hnot]
  · rw [List.length_zipIdx] at hI
    obtain ⟨o1, o2, rfl⟩ := hI
    rw [List.take_length]
    refine db_fld 0 (de_callTy xf 7 m_tuple (by decide +kernel) ca_tupleL (da_cons (de_callB xf 8 m_sorted (by decide +kernel) (ca_sortedT (r := sR) (k := keyR) (shape := fun i => i == 0) (xs := rs) ?_) (da_cons (de_var xf 1) da_nil)) da_nil)) (de_var xf 0) rfl C_Table.cls n_Table_routes (show 1 < 1000 by decide) (db_nil ⟨d, [], trivial, fun _ => rfl, rfl, rfl⟩)
    rintro ⟨p, h⟩ _ P v ⟨a, vs, e, hp, hv⟩
    obtain ⟨v1, v2, rfl, h1, h2⟩ := each2 hv
    refine ⟨a, v1, [v2], e, hp, ?_⟩
    have h1 : v1 = .str (bs p) := h1
    have h2 : v2 = .int h := h2
    subst h1 h2
    rfl
theorem de_mkTab {X : Cx} {F : Fr} {Sx : Sc} {C C1 : L3.Ctx} {A : Addr} {kL : Nat} {rs : List Rt} {e : Expr} {p pos : Pos} (xf : Xf Sx X) (j : Nat) (h : Mak X.prog X.w X.K X.mg X.base kL A "Table" (SPm_Table A).sp) (hr : Room (kL + 1) X.A) (he : De X F e C (rLs sR rs) C1) (hp : TabPre rs) (hg : Sx.G[j]? = some ("Table" : Str) := by rfl)
    (hst : starEach [e] X.env = (false, eval e X.env) :: starEach [] X.env := by rfl) (hpl : (backTo pos (starEach [] X.env)).any (·.1) = false := by rfl) : De X F (.Call (.Name "Table" p) [e] [] pos) C (rTab A rs) C1 :=
  DX.known (dx_make (S := SPm_Table A) xf j h hr (da_cons he da_nil hst) (fun l => (l, rs)) (fun _ => hp) (fun _ => rfl) (fun _ => rfl) (fun _ _ _ _ h => h) hg (by decide) hst hpl) fun kk _ σ P H v k hv => by
    obtain ⟨l, d⟩ := kk
    have hv : v = .ref l := hv
    subst hv
    exact frz_two (c := cD d (kvP sI rs)) 0 rfl k frz_D

abbrev st_need_table : Stmt := topS 28
def S_need_table : Sc := ⟨["table"], [true], [true], ["isinstance", "Table"], defScope st_need_table⟩
theorem ok_need_table (D_need_table : Dfn K mg "need_table" st_need_table ["table"]) (m_isinstance : mg "isinstance" = none) (C_Table : ClsF K mg "Table" A_Table) : Cal Pg w K mg base 1 "need_table" (FS.fn1 (rTab A_Table) (fun _ => True) fun _ => sN) := by
  refine cal_of (Sx := S_need_table) (kL := 0) D_need_table ⟨rfl, rfl, rfl, by decide +kernel, rfl, by decide +kernel, by decide +kernel⟩ rfl (by decide +kernel) (fun _ => rfl) ?_
  rintro X F rs ⟨rfl, rfl, rfl, rfl, rfl, xf, hr, hp⟩ -
  exact db_ifFa (C1 := ⟨[some (rTab A_Table rs)], [], []⟩) (dt_not (dt_val (c := true) (de_isi xf 0 m_isinstance (de_var xf 0) (ty_C C_Table.ins) (pe_clsv xf 1 C_Table.mg) (.own _) kit_me))) (db_endF rfl)

abbrev st_need_width : Stmt := topS 36
def S_need_width : Sc := ⟨["width"], [true], [true], ["is_within", "MOST_BITS"], defScope st_need_width⟩
theorem ok_need_width (D_need_width : Dfn K mg "need_width" st_need_width ["width"]) (g_MOST_BITS : ∃ t, mg "MOST_BITS" = some (.int 64 t)) (h_is_within : Cal Pg w K mg base 2 "is_within" (FS.fn3 sI sI sI (fun _ _ _ => True) fun i a b => sB (decide (a ≤ i ∧ i ≤ b)))) : Cal Pg w K mg base 3 "need_width" (FS.fn1 sI (fun i => 1 ≤ i ∧ i ≤ 64) fun _ => sN) := by
  obtain ⟨t, ht⟩ := g_MOST_BITS
  refine cal_of (Sx := S_need_width) (kL := 2) D_need_width ⟨rfl, rfl, rfl, by decide +kernel, rfl, by decide +kernel, by decide +kernel⟩ rfl (by decide +kernel) (fun _ => rfl) ?_
  rintro X F i ⟨rfl, rfl, rfl, rfl, rfl, xf, hr, hp⟩ hi
  have hi : 1 ≤ i ∧ i ≤ 64 := hi
  exact db_ifFa (C1 := ⟨[some (sI i)], [], []⟩) (DT.cast (dt_not (dt_val (c := decide (1 ≤ i ∧ i ≤ 64)) (de_call3 (res := fun i a b => sB (decide (a ≤ i ∧ i ≤ b))) (v1 := i) (v2 := 1) (v3 := 64) xf 0 h_is_within hr (de_var xf 0) de_int (de_glob (s := sI 64) (v := .int 64) xf 1 ht ⟨t, rfl⟩ fun _ => rfl) trivial))) (by rw [decide_eq_true hi]; rfl)) (db_endF rfl)
end

end Law
/-! choices -/
namespace Law
open PySem PySem.Spec L2 L3
/-! choices -/
inductive Ch where
  | leaf (size : Int) (hops : Option (List Int))
  | node (size : Int) (hops : Option (List Int)) (a b : Ch)
namespace Ch
def size : Ch → Int
  | leaf s _ => s
  | node s _ _ _ => s
def hops : Ch → Option (List Int)
  | leaf _ h => h
  | node _ h _ _ => h
def depth : Ch → Nat
  | leaf _ _ => 0
  | node _ _ a b => max a.depth b.depth + 1
def nodes : Ch → Nat
  | leaf _ _ => 1
  | node _ _ a b => a.nodes + b.nodes + 1
def allows (c : Ch) (h : Int) : Bool := match c.hops with
  | none => true
  | some hs => decide (h ∈ hs)
def first (c : Ch) : Int := match c.hops with
  | some (h :: _) => h
  | _ => 0
/-- no node's hops are the empty row -/
def Full : Ch → Prop
  | leaf _ h => h ≠ some []
  | node _ h a b => h ≠ some [] ∧ a.Full ∧ b.Full
theorem Full.hops_ne {c : Ch} (h : c.Full) : c.hops ≠ some [] := by
  cases c with
  | leaf s hs => exact h
  | node s hs a b => exact h.1
end Ch
def commonI : Option (List Int) → Option (List Int) → Option (List Int)
  | none, b => b
  | a, none => a
  | some x, some y => some (x.filter fun h => decide (h ∈ y))
def unitedI : Option (List Int) → Option (List Int) → Option (List Int)
  | some x, some y => some (srtI (x ++ y.filter fun h => !decide (h ∈ x)))
  | _, _ => none
def leafC (hops : Option (List Int)) : Ch := .leaf 0 hops
def joinedC (a b : Ch) (own : Option (List Int)) : Ch :=
  if commonI own (commonI a.hops b.hops) ≠ some [] then .node (a.size + b.size) (commonI own (commonI a.hops b.hops)) a b
  else if commonI own (unitedI a.hops b.hops) ≠ some [] then .node (a.size + b.size + 1) (commonI own (unitedI a.hops b.hops)) a b
  else .node (a.size + b.size + 2) own a b
def pickL : Ch → Bits → Int → List Rt
  | .leaf s hs, p, h => if (Ch.leaf s hs).allows h then [] else [(p, (Ch.leaf s hs).first)]
  | .node s hs a b, p, h =>
    let h' := if (Ch.node s hs a b).allows h then h else (Ch.node s hs a b).first
    (if (Ch.node s hs a b).allows h then [] else [(p, (Ch.node s hs a b).first)]) ++ pickL a (p ++ [false]) h' ++ pickL b (p ++ [true]) h'
theorem pickL_len : ∀ (c : Ch) (p : Bits) (h : Int), (pickL c p h).length ≤ c.nodes
  | .leaf s hs, p, h => by
    unfold pickL
    split <;> simp [Ch.nodes]
  | .node s hs a b, p, h => by
    unfold pickL
    have h1 := fun h' => pickL_len a (p ++ [false]) h'
    have h2 := fun h' => pickL_len b (p ++ [true]) h'
    simp only [List.length_append, Ch.nodes]
    have h3 : (if (Ch.node s hs a b).allows h = true then ([] : List Rt) else [(p, (Ch.node s hs a b).first)]).length ≤ 1 := by split <;> simp
    have := h1 (if (Ch.node s hs a b).allows h = true then h else (Ch.node s hs a b).first)
    have := h2 (if (Ch.node s hs a b).allows h = true then h else (Ch.node s hs a b).first)
    omega
section
variable {Pg : Program} {w : World} {K : PySem.W.Frag} {mg : Str → Option Value} {base : Heap} {A_Choice : Addr}
def rCh (A : Addr) : Ch → As
  | .leaf s h => sC A [("size", sI s), ("hops", sO sIs h), ("children", sN)]
  | .node s h a b => sC A [("size", sI s), ("hops", sO sIs h), ("children", sT [rCh A a, rCh A b])]
def kidsA (A : Addr) : Ch → As
  | .leaf _ _ => sN
  | .node _ _ a b => sT [rCh A a, rCh A b]
theorem rCh_view (A : Addr) (c : Ch) : rCh A c = sC A [("size", sI c.size), ("hops", sO sIs c.hops), ("children", kidsA A c)] := by cases c <;> rfl
theorem non_Ch (A : Addr) (c : Ch) : NonB (rCh A c) false := by rw [rCh_view]; exact non_C
structure ChF (K : PySem.W.Frag) (A : Addr) : Prop where
  cls : Cls K A
  size : NoAttr K A "size"
  hops : NoAttr K A "hops"
  kids : NoAttr K A "children"
section
variable {X : Cx} {F : Fr} {C C1 : L3.Ctx} {e : Expr} {A : Addr} {c : Ch} {pos : Pos} {f : Str}
theorem de_size (N : ChF X.K A) (he : De X F e C (rCh A c) C1) (hb : attributeBase e "size" X.env (eval e X.env) = eval e X.env := by rfl) : De X F (.Attribute e "size" pos) C (sI c.size) C1 := de_fld (De.cast he (rCh_view A c)) N.cls N.size rfl hb
theorem de_hops (N : ChF X.K A) (he : De X F e C (rCh A c) C1) (hb : attributeBase e "hops" X.env (eval e X.env) = eval e X.env := by rfl) : De X F (.Attribute e "hops" pos) C (sO sIs c.hops) C1 := de_fld (De.cast he (rCh_view A c)) N.cls N.hops rfl hb
theorem de_kids (N : ChF X.K A) (he : De X F e C (rCh A c) C1) (hb : attributeBase e "children" X.env (eval e X.env) = eval e X.env := by rfl) : De X F (.Attribute e "children" pos) C (kidsA A c) C1 := de_fld (De.cast he (rCh_view A c)) N.cls N.kids rfl hb
end
abbrev SPm_Choice (A : Addr) : FS := ⟨Addr × Ch, Unit, fun _ => True, fun x => [sAt x.1, sI x.2.size, sO sIs x.2.hops, kidsA A x.2], fun x => [cI x.1 A []], fun _ _ => True, fun _ _ => sN, fun x _ => [cI x.1 A [("size", sI x.2.size), ("hops", sO sIs x.2.hops), ("children", kidsA A x.2)]]⟩
abbrev st_Choice__init : Stmt := clsS 2 0
def S_Choice__init : Sc := ⟨["self", "size", "hops", "children"], [true, true, true, true], [true, true, true, true], [], defScope st_Choice__init⟩
theorem ok_Choice (D_Choice__init : DfnM K A_Choice "__init__" "Choice.__init__" st_Choice__init ["self", "size", "hops", "children"]) (C_Choice : ClsF K mg "Choice" A_Choice) (n_Choice_size : NoAttr K A_Choice "size") (n_Choice_hops : NoAttr K A_Choice "hops") (n_Choice_children : NoAttr K A_Choice "children") : Mak Pg w K mg base 1 A_Choice "Choice" (SPm_Choice A_Choice).sp := by
  refine mak_of (Sx := S_Choice__init) (kL := 0) D_Choice__init C_Choice ⟨rfl, rfl, rfl, by decide +kernel, rfl, by decide +kernel, by decide +kernel⟩ rfl (by decide +kernel) (fun _ => rfl) ?_
  rintro X F ⟨l, c⟩ ⟨rfl, rfl, rfl, rfl, rfl, xf, hr, hp⟩ -
  show DB X F (defBody st_Choice__init) ⟨[some (sAt l), some (sI c.size), some (sO sIs c.hops), some (kidsA A_Choice c)], [cI l A_Choice []], []⟩ (outs (SPm_Choice A_Choice) (l, c))
  refine db_fld 0 (de_var xf 1) (de_var xf 0) rfl C_Choice.cls n_Choice_size (show 0 < 1000 by decide) ?_
  refine db_fld 0 (de_var xf 2) (de_var xf 0) rfl C_Choice.cls n_Choice_hops (show 1 < 1000 by decide) ?_
  exact db_fld 0 (de_var xf 3) (de_var xf 0) rfl C_Choice.cls n_Choice_children (show 2 < 1000 by decide) (db_nil ⟨(), [], trivial, fun _ => rfl, rfl, rfl⟩)
theorem de_mkCh {X : Cx} {F : Fr} {Sx : Sc} {C C1 C2 C3 : L3.Ctx} {A : Addr} {kL : Nat} {e1 e2 e3 : Expr} {p pos : Pos} (c : Ch) (xf : Xf Sx X) (j : Nat) (h : Mak X.prog X.w X.K X.mg X.base kL A "Choice" (SPm_Choice A).sp) (hr : Room (kL + 1) X.A) (h1 : De X F e1 C (sI c.size) C1) (h2 : De X F e2 C1 (sO sIs c.hops) C2) (h3 : De X F e3 C2 (kidsA A c) C3) (hg : Sx.G[j]? = some ("Choice" : Str) := by rfl)
    (he : starEach [e1, e2, e3] X.env = (false, eval e1 X.env) :: starEach [e2, e3] X.env := by rfl) (he2 : starEach [e2, e3] X.env = (false, eval e2 X.env) :: starEach [e3] X.env := by rfl) (he3 : starEach [e3] X.env = (false, eval e3 X.env) :: starEach [] X.env := by rfl) (hpl : (backTo pos (starEach [e2, e3] X.env)).any (·.1) = false := by rfl) : De X F (.Call (.Name "Choice" p) [e1, e2, e3] [] pos) C (rCh A c) C3 :=
  DX.known (dx_make (S := SPm_Choice A) xf j h hr (da_cons h1 (da_cons h2 (da_cons h3 da_nil he3) he2) he) (fun l => (l, c)) (fun _ => trivial) (fun _ => rfl) (fun _ => rfl) (fun _ _ _ _ h => h) hg (by decide) he hpl) fun kk _ σ P H v k hv => by
    obtain ⟨l, u⟩ := kk
    have hv : v = .ref l := hv
    subst hv
    rw [rCh_view]
    exact frz_one k
theorem eq_joined {A : Addr} (c a b : Ch) (h : c = .node c.size c.hops a b) : kidsA A c = sT [rCh A a, rCh A b] := by rw [h]; rfl

abbrev st_Choice__allows : Stmt := clsS 2 1
def S_Choice__allows : Sc := ⟨["self", "hop"], [true, true], [true, true], [], defScope st_Choice__allows⟩
theorem ok_Choice__allows (D_Choice__allows : DfnM K A_Choice "allows" "Choice.allows" st_Choice__allows ["self", "hop"]) (N_Choice : ChF K A_Choice) : Mtd Pg w K mg base 1 A_Choice "allows" (FS.fn2 (rCh A_Choice) sI (fun _ _ => True) fun c h => sB (c.allows h)) := by
  refine mtd_of (Sx := S_Choice__allows) (kL := 0) D_Choice__allows ⟨rfl, rfl, rfl, by decide +kernel, rfl, by decide +kernel, by decide +kernel⟩ rfl (by decide +kernel) (fun _ => rfl) ?_
  rintro X F ⟨c, h⟩ ⟨rfl, rfl, rfl, rfl, rfl, xf, hr, hp⟩ -
  show DB X F (defBody st_Choice__allows) ⟨[some (rCh A_Choice c), some (sI h)], [], []⟩ _
  have hh := fun {pos1 pos2} => de_hops (X := X) (F := F) (C := ⟨[some (rCh A_Choice c), some (sI h)], [], []⟩) (C1 := ⟨[some (rCh A_Choice c), some (sI h)], [], []⟩) (c := c) (pos := pos1) N_Choice (de_var (x := "self") (pos := pos2) xf 0)
  cases e : c.hops with
  | none =>
    rw [e] at hh
    exact db_retF (de_or (b1 := true) (b2 := true) (de_cmp (cv_isN non_N) hh de_non) (fun h => absurd h (by decide))) (by simp [Ch.allows, e])
  | some hs =>
    rw [e] at hh
    exact db_retF (de_or (b1 := false) (de_cmp (cv_isN non_T) hh de_non) (fun _ => de_one (de_cmp cv_inTI (de_var xf 1) hh))) (by simp [Ch.allows, e])

abbrev st_Choice__first_hop : Stmt := clsS 2 2
def S_Choice__first_hop : Sc := ⟨["self"], [true], [true], [], defScope st_Choice__first_hop⟩
theorem ok_Choice__first_hop (D_Choice__first_hop : DfnM K A_Choice "first_hop" "Choice.first_hop" st_Choice__first_hop ["self"]) (N_Choice : ChF K A_Choice) : Mtd Pg w K mg base 1 A_Choice "first_hop" (FS.fn1 (rCh A_Choice) (fun c => ∃ h r, c.hops = some (h :: r)) fun c => sI c.first) := by
  refine mtd_of (Sx := S_Choice__first_hop) (kL := 0) D_Choice__first_hop ⟨rfl, rfl, rfl, by decide +kernel, rfl, by decide +kernel, by decide +kernel⟩ rfl (by decide +kernel) (fun _ => rfl) ?_
  rintro X F c ⟨rfl, rfl, rfl, rfl, rfl, xf, hr, hp⟩ ⟨h0, r, e⟩
  show DB X F (defBody st_Choice__first_hop) ⟨[some (rCh A_Choice c)], [], []⟩ _
  exact db_retF (de_ixTs (n := 0) (De.cast (s1 := sIs (h0 :: r)) (de_hops (c := c) N_Choice (de_var xf 0)) (by rw [e]; rfl)) de_int rfl rfl) (by simp [Ch.first, e])

abbrev st_common : Stmt := topS 3
def S_common : Sc := ⟨["one", "two", "hop"], [true, true, false], [true, true, false], ["tuple"], defScope st_common⟩
abbrev SP_common : FS := FS.fn2 (sO sIs) (sO sIs) (fun a _ => ∀ x, a = some x → x.length ≤ 1000000) fun a b => sO sIs (commonI a b)
theorem ok_common (D_common : Dfn K mg "common" st_common ["one", "two"]) (m_tuple : mg "tuple" = none) : Cal Pg w K mg base 1 "common" SP_common := by
  refine cal_of (Sx := S_common) (kL := 0) D_common ⟨rfl, rfl, rfl, by decide +kernel, rfl, by decide +kernel, by decide +kernel⟩ rfl (by decide +kernel) (fun _ => rfl) ?_
  rintro X F ⟨a, b⟩ ⟨rfl, rfl, rfl, rfl, rfl, xf, hr, hp⟩ hl
  cases a with
  | none =>
    exact db_ifTr (C1 := ⟨[some sN, some (sO sIs b), none], [], []⟩) (dt_cmp (cv_isN non_N) (de_var (s := sN) xf 0) de_non) (db_retG (s := sO sIs b) (de_var xf 1) (by cases b <;> rfl))
  | some x =>
    have hl1 : x.length ≤ 1000000 := hl x rfl
    cases b with
    | none =>
      exact db_ifFa (C1 := ⟨[some (sIs x), some sN, none], [], []⟩) (dt_cmp (cv_isN non_T) (de_var (s := sIs x) xf 0) de_non) (db_retF (de_ifTr (C1 := ⟨[some (sIs x), some sN, none], [], []⟩) (dt_cmp (cv_isN non_N) (de_var (s := sN) xf 1) de_non) (de_var (s := sIs x) xf 0)) rfl)
    | some y =>
      refine db_ifFa (C1 := ⟨[some (sIs x), some (sIs y), none], [], []⟩) (dt_cmp (cv_isN non_T) (de_var (s := sIs x) xf 0) de_non) (db_retF (de_ifFa (C1 := ⟨[some (sIs x), some (sIs y), none], [], []⟩) (dt_cmp (cv_isN non_T) (de_var (s := sIs y) xf 1) de_non) (de_callTy xf 0 m_tuple (by decide +kernel) ca_tupleL (da_cons
        (de_lcT (r := sI) (r' := sI) (f := fun h : Int => h) (q := fun h => decide (h ∈ y)) xf (blk_by (own := [("hop", 2)]) (us := [false, true, true]) (ws := [false, false, true]) (G := []) (by decide +kernel) (by decide +kernel)) (di_tup (de_var xf 0)) (fun X' _ xf' => pg_nm xf' 2) (fun _ => go_name) (Nat.le_trans hl1 (by decide)) (fun _ _ => ⟨rfl, rfl⟩) (fun h F' X' _ hX xf' => dts_one (dt_cmp cv_inTI (de_var xf' 2) (de_var xf' 1))) (fun h F' X' _ hX xf' _ => de_var xf' 2)) da_nil))) ?_)
      simp [commonI, sO]

abbrev st_united : Stmt := topS 4
def S_united : Sc := ⟨["one", "two", "hop"], [true, true, false], [true, true, false], ["tuple", "sorted", "list"], defScope st_united⟩
abbrev SP_united : FS := FS.fn2 (sO sIs) (sO sIs) (fun a b => (∀ x, a = some x → x.length ≤ 1000000) ∧ ∀ x, b = some x → x.length ≤ 1000000) fun a b => sO sIs (unitedI a b)
theorem ok_united (D_united : Dfn K mg "united" st_united ["one", "two"]) (m_tuple : mg "tuple" = none) (m_sorted : mg "sorted" = none) (m_list : mg "list" = none) : Cal Pg w K mg base 1 "united" SP_united := by
  refine cal_of (Sx := S_united) (kL := 0) D_united ⟨rfl, rfl, rfl, by decide +kernel, rfl, by decide +kernel, by decide +kernel⟩ rfl (by decide +kernel) (fun _ => rfl) ?_
  rintro X F ⟨a, b⟩ ⟨rfl, rfl, rfl, rfl, rfl, xf, hr, hp⟩ ⟨hl1, hl2⟩
  cases a with
  | none =>
    exact db_ifTr (C1 := ⟨[some sN, some (sO sIs b), none], [], []⟩) (dt_bool (dw_or (b1 := true) (b2 := true) (C1 := ⟨[some sN, some (sO sIs b), none], [], []⟩) (C2 := ⟨[some sN, some (sO sIs b), none], [], []⟩) (dt_cmp (cv_isN non_N) (de_var (s := sN) xf 0) de_non) (fun h => absurd h (by decide)))) (db_retG de_non (by cases b <;> rfl))
  | some x =>
    have hl1 : x.length ≤ 1000000 := hl1 x rfl
    cases b with
    | none =>
      exact db_ifTr (C1 := ⟨[some (sIs x), some sN, none], [], []⟩) (dt_bool (dw_or (b1 := false) (b2 := true) (C1 := ⟨[some (sIs x), some sN, none], [], []⟩) (C2 := ⟨[some (sIs x), some sN, none], [], []⟩) (dt_cmp (cv_isN non_T) (de_var (s := sIs x) xf 0) de_non) (fun _ => dw_or1 (dt_cmp (cv_isN non_N) (de_var (s := sN) xf 1) de_non)))) (db_retG de_non rfl)
    | some y =>
      have hl2 : y.length ≤ 1000000 := hl2 y rfl
      have hf : (y.filter fun h => !decide (h ∈ x)).length ≤ y.length := List.length_filter_le _ _
      refine db_ifFa (C1 := ⟨[some (sIs x), some (sIs y), none], [], []⟩) (dt_bool (dw_orF (dt_cmp (cv_isN non_T) (de_var (s := sIs x) xf 0) de_non) (dw_or1 (dt_cmp (cv_isN non_T) (de_var (s := sIs y) xf 1) de_non)))) (db_retF (de_callTy xf 0 m_tuple (by decide +kernel) ca_tupleL (da_cons (de_callB xf 1 m_sorted (by decide +kernel) (ca_sortedI (ns := x ++ y.filter fun h => !decide (h ∈ x))) (da_cons
        (de_catT (r := sI) (xs := x) (ys := y.filter fun h => !decide (h ∈ x)) (de_callTy xf 2 m_list (by decide +kernel) ca_listT (da_cons (de_var xf 0) da_nil))
        (De.cast (de_lcT (r := sI) (r' := sI) (f := fun h : Int => h) (q := fun h => !decide (h ∈ x)) xf (blk_by (own := [("hop", 2)]) (us := [true, false, true]) (ws := [false, false, true]) (G := []) (by decide +kernel) (by decide +kernel)) (di_tup (de_var xf 1)) (fun X' _ xf' => pg_nm xf' 2) (fun _ => go_name) (Nat.le_trans hl2 (by decide)) (fun _ _ => ⟨rfl, rfl⟩) (fun h F' X' _ hX xf' => dts_one (dt_cmp cv_niTI (de_var xf' 2) (de_var xf' 0))) (fun h F' X' _ hX xf' _ => de_var xf' 2)) (by rw [List.map_id'])) ?_) da_nil)) da_nil)) rfl)
      exact Nat.le_trans (show _ ≤ 2000000 by omega) (by decide)

abbrev st_leaf : Stmt := topS 5
def S_leaf : Sc := ⟨["hops"], [true], [true], ["Choice"], defScope st_leaf⟩
theorem ok_leaf (D_leaf : Dfn K mg "leaf" st_leaf ["hops"]) (h_Choice : Mak Pg w K mg base 1 A_Choice "Choice" (SPm_Choice A_Choice).sp) : Cal Pg w K mg base 3 "leaf" (FS.fn1 (sO sIs) (fun _ => True) fun o => rCh A_Choice (leafC o)) := by
  refine cal_of (Sx := S_leaf) (kL := 2) D_leaf ⟨rfl, rfl, rfl, by decide +kernel, rfl, by decide +kernel, by decide +kernel⟩ rfl (by decide +kernel) (fun _ => rfl) ?_
  rintro X F o ⟨rfl, rfl, rfl, rfl, rfl, xf, hr, hp⟩ -
  exact db_retF (de_mkCh (leafC o) xf 0 h_Choice hr de_int (de_var xf 0) de_non) rfl

def LenO (o : Option (List Int)) (n : Nat) : Prop := ∀ x, o = some x → x.length ≤ n
theorem LenO.mono {o : Option (List Int)} {n m : Nat} (h : LenO o n) (l : n ≤ m) : LenO o m := fun x e => Nat.le_trans (h x e) l
abbrev st_joined : Stmt := topS 6
def S_joined : Sc := ⟨["children", "own", "one", "two", "size", "both", "either"], [true, true, true, true, true, true, true], [true, true, true, true, true, true, true], ["common", "united", "Choice"], defScope st_joined⟩
abbrev SP_joined (A : Addr) : FS := FS.fn2 (rP2 (rCh A) (rCh A)) (sO sIs) (fun ab own => LenO own 1000000 ∧ LenO ab.1.hops 1000000 ∧ LenO ab.2.hops 1000000) fun ab own => rCh A (joinedC ab.1 ab.2 own)
theorem ok_joined (D_joined : Dfn K mg "joined" st_joined ["children", "own"]) (N_Choice : ChF K A_Choice) (h_Choice : Mak Pg w K mg base 1 A_Choice "Choice" (SPm_Choice A_Choice).sp) (h_common : Cal Pg w K mg base 1 "common" SP_common) (h_united : Cal Pg w K mg base 1 "united" SP_united) : Cal Pg w K mg base 3 "joined" (SP_joined A_Choice) := by
  refine cal_of (Sx := S_joined) (kL := 2) D_joined ⟨rfl, rfl, rfl, by decide +kernel, rfl, by decide +kernel, by decide +kernel⟩ rfl (by decide +kernel) (fun _ => rfl) ?_
  rintro X F ⟨⟨a, b⟩, own⟩ ⟨rfl, rfl, rfl, rfl, rfl, xf, hr, hp⟩ ⟨l1, l2, l3⟩
  have l1 : LenO own 1000000 := l1
  have l2 : LenO a.hops 1000000 := l2
  have l3 : LenO b.hops 1000000 := l3
  have hr1 := hr.mono (show 1 ≤ 2 by decide)
  show DB X F (defBody st_joined) ⟨[some (rP2 (rCh A_Choice) (rCh A_Choice) (a, b)), some (sO sIs own), none, none, none, none, none], [], []⟩ (outs (SP_joined A_Choice) ((a, b), own))
  refine db_unp xf 2 3 (de_var (s := sT [rCh A_Choice a, rCh A_Choice b]) xf 0) ?_
  refine db_set xf 4 (de_add (de_size (c := a) N_Choice (de_var xf 2)) (de_size (c := b) N_Choice (de_var xf 3))) ?_
  refine db_par xf 5 6 (de_call2 (r1 := sO sIs) (r2 := sO sIs) (v1 := own) (v2 := commonI a.hops b.hops) xf 0 h_common hr1 (de_var xf 1) (de_call2 (r1 := sO sIs) (r2 := sO sIs) (v1 := a.hops) (v2 := b.hops) xf 0 h_common hr1 (de_hops (c := a) N_Choice (de_var xf 2)) (de_hops (c := b) N_Choice (de_var xf 3)) l2) l1)
    (de_call2 (r1 := sO sIs) (r2 := sO sIs) (v1 := own) (v2 := unitedI a.hops b.hops) xf 0 h_common hr1 (de_var xf 1) (de_call2 (r1 := sO sIs) (r2 := sO sIs) (v1 := a.hops) (v2 := b.hops) xf 1 h_united hr1 (de_hops (c := a) N_Choice (de_var xf 2)) (de_hops (c := b) N_Choice (de_var xf 3)) ⟨l2, l3⟩) l1) ?_ (hw := sw_of xf fun _ => by rfl)
  refine db_ifr (dt_cmp (cv_neOI (o1 := commonI own (commonI a.hops b.hops)) (o2 := some []) hr) (de_var xf 5) (de_tup0 (r1 := sI))) (fun h => ?_) (fun h => ?_)
  · have h1 : commonI own (commonI a.hops b.hops) ≠ some [] := by simpa using h
    exact db_retG (de_mkCh (.node (a.size + b.size) (commonI own (commonI a.hops b.hops)) a b) xf 2 h_Choice hr (de_var xf 4) (de_var xf 5) (de_var xf 0)) (by simp only [joinedC, if_pos h1])
  have h1 : ¬ commonI own (commonI a.hops b.hops) ≠ some [] := by simpa using h
  refine db_ifr (dt_cmp (cv_neOI (o1 := commonI own (unitedI a.hops b.hops)) (o2 := some []) hr) (de_var xf 6) (de_tup0 (r1 := sI))) (fun h => ?_) (fun h => ?_)
  · have h2 : commonI own (unitedI a.hops b.hops) ≠ some [] := by simpa using h
    exact db_retG (de_mkCh (.node (a.size + b.size + 1) (commonI own (unitedI a.hops b.hops)) a b) xf 2 h_Choice hr (de_add (de_var xf 4) de_int) (de_var xf 6) (de_var xf 0)) (by simp only [joinedC, if_neg h1, if_pos h2])
  have h2 : ¬ commonI own (unitedI a.hops b.hops) ≠ some [] := by simpa using h
  exact db_retF (de_mkCh (.node (a.size + b.size + 2) own a b) xf 2 h_Choice hr (de_add (de_var xf 4) de_int) (de_var xf 1) (de_var xf 0)) (by simp only [joinedC, if_neg h1, if_neg h2])

abbrev st_picked : Stmt := topS 7
def S_picked : Sc := ⟨["choice", "prefix", "hop", "found"], [true, true, true, true], [true, true, true, true], ["picked"], defScope st_picked⟩
abbrev SP_picked (A : Addr) (d : Nat) : FS := FS.fn3 (rCh A) sP sI (fun c p _ => c.depth < d ∧ p.length + c.depth ≤ 1000 ∧ c.nodes ≤ 100000 ∧ c.Full) fun c p h => rLs sR (pickL c p h)
theorem ok_picked (D_picked : Dfn K mg "picked" st_picked ["choice", "prefix", "hop"]) (N_Choice : ChF K A_Choice) (h_Choice__allows : Mtd Pg w K mg base 1 A_Choice "allows" (FS.fn2 (rCh A_Choice) sI (fun _ _ => True) fun c h => sB (c.allows h))) (h_Choice__first_hop : Mtd Pg w K mg base 1 A_Choice "first_hop" (FS.fn1 (rCh A_Choice) (fun c => ∃ h r, c.hops = some (h :: r)) fun c => sI c.first)) : ∀ d, Cal Pg w K mg base (d + 1) "picked" (SP_picked A_Choice d)
  | 0 => cal_vac D_picked (fun _ => rfl) fun i h => Nat.not_lt_zero _ h.1
  | d + 1 => by
    have ih := ok_picked D_picked N_Choice h_Choice__allows h_Choice__first_hop d
    refine cal_of (Sx := S_picked) (kL := d + 1) D_picked ⟨rfl, rfl, rfl, by decide +kernel, rfl, by decide +kernel, by decide +kernel⟩ rfl (by decide +kernel) (fun _ => rfl) ?_
    rintro X F ⟨c, p, h⟩ ⟨rfl, rfl, rfl, rfl, rfl, xf, hr, hp⟩ ⟨h1, h2, h3, h4⟩
    have h1 : c.depth < d + 1 := h1
    have h2 : p.length + c.depth ≤ 1000 := h2
    have h3 : c.nodes ≤ 100000 := h3
    have h4 : c.Full := h4
    have hr1 := hr.mono (show 1 ≤ d + 1 by omega)
    show DB X F (defBody st_picked) ⟨[some (rCh A_Choice c), some (sP p), some (sI h), none], [], []⟩ (outs (SP_picked A_Choice (d + 1)) (c, p, h))
    refine db_setX xf 3 (dx_lst da_nil) fun lf _ => ?_
    refine db_if (fun C' => C' = ⟨[some (rCh A_Choice c), some (sP p), some (sI (if c.allows h = true then h else c.first)), some (sAt lf)], [cL lf ((if c.allows h = true then [] else [(p, c.first)] : List Rt).map sR)], []⟩)
      (dt_not (dt_val (c := c.allows h) (de_meth (A := A_Choice) (fs := [("size", sI c.size), ("hops", sO sIs c.hops), ("children", kidsA A_Choice c)]) h_Choice__allows hr1 (De.cast (de_var (s := rCh A_Choice c) xf 0) (rCh_view _ _)) rfl (da_cons (de_var xf 2) da_nil) (c, h) trivial (congrArg (fun s => [s, sI h]) (rCh_view A_Choice c).symm)))) (fun hb => ?_) (fun hb => ?_) ?_
    · have hb : c.allows h = false := by simpa using hb
      have hh : ∃ h r, c.hops = some (h :: r) := by
        have hn := h4.hops_ne
        unfold Ch.allows at hb
        cases e : c.hops with
        | none => rw [e] at hb; cases hb
        | some hs =>
          cases hs with
          | nil => exact absurd e hn
          | cons x r => exact ⟨x, r, rfl⟩
      refine db_set xf 2 (de_meth0 (A := A_Choice) (fs := [("size", sI c.size), ("hops", sO sIs c.hops), ("children", kidsA A_Choice c)]) h_Choice__first_hop hr1 (De.cast (de_var (s := rCh A_Choice c) xf 0) (rCh_view _ _)) rfl c hh (congrArg (fun s => [s]) (rCh_view A_Choice c).symm)) ?_
      refine db_expr (de_appendT (r := sR) (xs := []) (v := (p, c.first)) 0 0 (de_var xf 3) rfl (de_pair (de_var xf 1) (de_var xf 2)) rfl (by decide)) (db_nil ?_)
      rw [if_neg (by rw [hb]; exact Bool.false_ne_true), if_neg (by rw [hb]; exact Bool.false_ne_true)]
      rfl
    · have hb : c.allows h = true := by simpa using hb
      refine db_nil ?_
      rw [if_pos hb, if_pos hb]
      rfl
    rintro _ rfl
    cases c with
    | leaf s hs =>
      refine db_ifFa (DT.cast (dt_cmp (cv_notN non_N) (de_kids (c := .leaf s hs) N_Choice (de_var xf 0)) de_non) rfl) (db_frzAt 0 3 rfl rfl frz_L (db_retF (de_var xf 3) ?_))
      show rLs sR _ = rLs sR _
      rw [pickL]
    | node s hs a b =>
      have d1 : a.depth < d := by simp only [Ch.depth] at h1; omega
      have d2 : b.depth < d := by simp only [Ch.depth] at h1; omega
      have e1 : p.length + 1 + a.depth ≤ 1000 := by simp only [Ch.depth] at h2; omega
      have e2 : p.length + 1 + b.depth ≤ 1000 := by simp only [Ch.depth] at h2; omega
      have n1 : a.nodes ≤ 100000 := by simp only [Ch.nodes] at h3; omega
      have n2 : b.nodes ≤ 100000 := by simp only [Ch.nodes] at h3; omega
      have n3 : ∀ q h', (pickL a q h').length ≤ 100000 := fun q h' => Nat.le_trans (pickL_len a q h') n1
      have n4 : ∀ q h', (pickL b q h').length ≤ 100000 := fun q h' => Nat.le_trans (pickL_len b q h') n2
      have e5 : ∀ bb : Bool, (if bb = true then ([] : List Rt) else [(p, (Ch.node s hs a b).first)]).length ≤ 1 := by intro bb; cases bb <;> simp
      generalize hh' : (if (Ch.node s hs a b).allows h = true then h else (Ch.node s hs a b).first) = h'
      refine db_if (fun C' => C' = ⟨[some (rCh A_Choice (.node s hs a b)), some (sP p), some (sI h'), some (sAt lf)], [cL lf ((pickL (.node s hs a b) p h).map sR)], []⟩) (DT.cast (dt_cmp (cv_notN non_T) (de_kids (c := .node s hs a b) N_Choice (de_var xf 0)) de_non) rfl) (fun _ => ?_) (fun h => absurd h (by decide)) ?_
      · refine db_expr (de_extendT (r := sR) (ys := pickL a (p ++ [false]) h') 0 0 (de_var xf 3) rfl (de_call3 (r1 := rCh A_Choice) (r2 := sP) (r3 := sI) (v1 := a) (v2 := p ++ [false]) (v3 := h') xf 0 ih hr (de_fst (r1 := rCh A_Choice) (r2 := rCh A_Choice) (v := (a, b)) (de_kids (c := .node s hs a b) N_Choice (de_var xf 0)) de_int) (de_appP (de_var xf 1) de_zeroP (by simp; omega)) (de_var xf 2) ⟨d1, by simp; omega, n1, h4.2.1⟩) rfl ?_) ?_
        · have := n3 (p ++ [false]) h'; have := e5 ((Ch.node s hs a b).allows h); omega
        refine db_expr (de_extendT (r := sR) (ys := pickL b (p ++ [true]) h') 0 0 (de_var xf 3) rfl (de_call3 (r1 := rCh A_Choice) (r2 := sP) (r3 := sI) (v1 := b) (v2 := p ++ [true]) (v3 := h') xf 0 ih hr (de_snd (r1 := rCh A_Choice) (r2 := rCh A_Choice) (v := (a, b)) (de_kids (c := .node s hs a b) N_Choice (de_var xf 0)) de_int) (de_appP (de_var xf 1) de_oneP (by simp; omega)) (de_var xf 2) ⟨d2, by simp; omega, n2, h4.2.2⟩) rfl ?_) (db_nil ?_)
        · rw [List.length_append]; have := n3 (p ++ [false]) h'; have := n4 (p ++ [true]) h'; have := e5 ((Ch.node s hs a b).allows h); omega
        · subst hh'
          rw [pickL]
          rfl
      · rintro _ rfl
        exact db_frzAt 0 3 rfl rfl frz_L (db_retF (de_var xf 3) rfl)
end

end Law
/-! tries -/
namespace Law
open PySem PySem.Spec L2 L3
/-! tries -/
inductive Tr (α : Type) where
  | nil
  | node (told : Option α) (l r : Tr α)
namespace Tr
variable {α : Type}
def put : Bits → α → Tr α → Tr α
  | [], v, nil => node (some v) nil nil
  | [], v, node _ l r => node (some v) l r
  | false :: p, v, nil => node none (put p v nil) nil
  | true :: p, v, nil => node none nil (put p v nil)
  | false :: p, v, node t l r => node t (put p v l) r
  | true :: p, v, node t l r => node t l (put p v r)
theorem put_new (p : Bits) (v : α) : put p v (node none nil nil) = put p v nil := by
  cases p with
  | nil => rfl
  | cons b p => cases b <;> rfl
def even : Tr α → Bool
  | nil => true
  | node _ nil nil => true
  | _ => false
def kid : Tr α → Bool → Tr α
  | nil, _ => nil
  | node _ l _, false => l
  | node _ _ r, true => r
def toldAt (t : Tr α) (v : α) : α := match t with
  | node (some u) _ _ => u
  | _ => v
def depth : Tr α → Nat
  | nil => 0
  | node _ l r => max l.depth r.depth + 1
def nodes : Tr α → Nat
  | nil => 0
  | node _ l r => l.nodes + r.nodes + 1
end Tr
def trieOf {α : Type} (rs : List (Bits × α)) (m : Int) : Tr α := (rs.filter fun q => decide ((q.1.length : Int) ≤ m)).foldl (fun t q => t.put q.1 q.2) (.node none .nil .nil)
/-- a trie while it grows: where each node and its row stand -/
inductive TC (α : Type) where
  | nil
  | node (x c : Addr) (told : Option α) (l r : TC α)
section
variable {α : Type}
def TC.tr : TC α → Tr α
  | .nil => .nil
  | .node _ _ t l r => .node t l.tr r.tr
def TC.rd : TC α → As
  | .nil => sN
  | .node x _ _ _ _ => sAt x
def TC.cells (A : Addr) (r : α → As) : TC α → List Cell
  | .nil => []
  | .node x c t l q => cI x A [("told", sO r t), ("children", sAt c)] :: cL c [l.rd, q.rd] :: (l.cells A r ++ q.cells A r)
def TC.isNode : TC α → Prop
  | .nil => False
  | .node .. => True
def rTr (A : Addr) (r : α → As) : Tr α → As
  | .nil => sN
  | .node t l q => sC A [("told", sO r t), ("children", sL [rTr A r l, rTr A r q])]
def nonTr (A : Addr) (r : α → As) : ∀ t : Tr α, NonB (rTr A r t) (match t with | .nil => true | .node .. => false)
  | .nil => non_N
  | .node .. => non_C
theorem frz_tree {A : Addr} {r : α → As} {F : Fr} {Γ : List (Option As)} {lk : List Addr} {σ : L2.St} {H : Hp} : ∀ (T : TC α) (μ : List Cell) (P : Hp), Ok F ⟨Γ, T.cells A r ++ μ, lk⟩ σ P H → ∃ P', Ok F ⟨Γ, μ, lk⟩ σ P' H ∧ Same P P' ∧ ∀ v, T.rd.holds P v → (rTr A r T.tr).holds P' v
  | .nil, μ, P, k => ⟨P, k, Same.refl _, fun v h => h⟩
  | .node x c t l q, μ, P, k => by
    have k1 : Ok F ⟨Γ, l.cells A r ++ (q.cells A r ++ (cL c [l.rd, q.rd] :: cI x A [("told", sO r t), ("children", sAt c)] :: μ)), lk⟩ σ P H := k.wk (Wk.perm (by
      show (cI x A [("told", sO r t), ("children", sAt c)] :: cL c [l.rd, q.rd] :: ((l.cells A r ++ q.cells A r) ++ μ)).Perm _
      rw [← List.append_assoc]
      refine (List.Perm.swap _ _ _).trans ?_
      refine (List.Perm.trans ?_ (List.perm_append_comm_assoc _ [cL c [l.rd, q.rd], cI x A [("told", sO r t), ("children", sAt c)]] μ).symm)
      exact List.Perm.refl _))
    obtain ⟨P1, k2, m1, g1⟩ := frz_tree l _ P k1
    obtain ⟨P2, k3, m2, g2⟩ := frz_tree q _ P1 k2
    obtain ⟨o, n1, ⟨vs, rfl, hv⟩, m3, k4⟩ := k3.freeze
    obtain ⟨o', n2, ⟨dx, fl, rfl, hk, hf⟩, m4, k5⟩ := k4.freeze
    refine ⟨_, k5, ((m1.trans m2).trans m3).trans m4, fun v h => ?_⟩
    have h : v = .ref x := h
    subst h
    obtain ⟨v1, v2, rfl, e1, e2⟩ := each2 hv
    have hrow : (sL [rTr A r l.tr, rTr A r q.tr]).holds (upd (upd P2 c (.lst [v1, v2])) x (.ins A dx fl)) (.ref c) := by
      refine ⟨c, [v1, v2], rfl, m4 _ _ upd_same, ?_, ?_, trivial⟩
      · refine As.mono _ ((m2.trans m3).trans m4) (g1 v1 ?_)
        cases l <;> exact e1
      · refine As.mono _ (m3.trans m4) (g2 v2 ?_)
        cases q <;> exact e2
    refine ⟨x, dx, fl, rfl, upd_same, hk, ?_⟩
    have hf' := hf.mono m4
    match fl, hk, hf' with
    | [(_, w1), (_, w2)], _, hf' =>
      obtain ⟨f1, f2, _⟩ := hf'
      have f2 : w2 = .ref c := f2
      subst f2
      exact ⟨f1, hrow, trivial⟩
    | [], hk, _ => simp at hk
    | [_], hk, _ => simp at hk
    | _ :: _ :: _ :: _, hk, _ => simp at hk
theorem db_frzTree {A : Addr} {r : α → As} {X : Cx} {F : Fr} {sts : List Stmt} {O : Out} {Γ : List (Option As)} {μ : List Cell} {lk : List Addr} (T : TC α) (i : Nat) (hi : Γ[i]? = some (some T.rd)) (h : DB X F sts ⟨Γ.set i (some (rTr A r T.tr)), μ, lk⟩ O) : DB X F sts ⟨Γ, T.cells A r ++ μ, lk⟩ O := by
  refine pssW h ?_
  rintro D σ H ⟨P, k, q⟩
  obtain ⟨P', k', m, g⟩ := frz_tree T μ P k
  obtain ⟨v, e, hv⟩ := k.slots i _ hi
  have k2 := k'.put (i := i) (g v hv)
  rw [show σ.set i (some v) = σ from List.ext_getElem? fun j => by
    rw [List.getElem?_set]
    by_cases hj : i = j
    · subst hj
      rw [if_pos rfl, e]
      have := (List.getElem?_eq_some_iff.mp e).1
      rw [if_pos this]
    · rw [if_neg hj]] at k2
  exact ⟨P', k2, Fol.later q m⟩
end
section
variable {Pg : Program} {w : World} {K : PySem.W.Frag} {mg : Str → Option Value} {base : Heap} {A_Trie : Addr} {α : Type}
structure TrF (K : PySem.W.Frag) (A : Addr) : Prop where
  cls : Cls K A
  told : NoAttr K A "told"
  kids : NoAttr K A "children"
abbrev SPm_Trie (A : Addr) : FS := ⟨Addr, Addr, fun _ => True, fun l => [sAt l], fun l => [cI l A []], fun _ _ => True, fun _ _ => sN, fun l c => [cI l A [("told", sN), ("children", sAt c)], cL c [sN, sN]]⟩
abbrev st_Trie__init : Stmt := clsS 30 0
def S_Trie__init : Sc := ⟨["self"], [true], [true], [], defScope st_Trie__init⟩
theorem ok_Trie (D_Trie__init : DfnM K A_Trie "__init__" "Trie.__init__" st_Trie__init ["self"]) (C_Trie : ClsF K mg "Trie" A_Trie) (N_Trie : TrF K A_Trie) : Mak Pg w K mg base 1 A_Trie "Trie" (SPm_Trie A_Trie).sp := by
  refine mak_of (Sx := S_Trie__init) (kL := 0) D_Trie__init C_Trie ⟨rfl, rfl, rfl, by decide +kernel, rfl, by decide +kernel, by decide +kernel⟩ rfl (by decide +kernel) (fun _ => rfl) ?_
  rintro X F l ⟨rfl, rfl, rfl, rfl, rfl, xf, hr, hp⟩ -
  show DB X F (defBody st_Trie__init) ⟨[some (sAt l)], [cI l A_Trie []], []⟩ (outs (SPm_Trie A_Trie) l)
  refine db_fld 0 de_non (de_var xf 0) rfl C_Trie.cls N_Trie.told (show 0 < 1000 by decide) ?_
  exact db_fldX 0 (dx_lst (da_cons de_non (da_cons de_non da_nil))) (fun d => de_var xf 0) (fun d => rfl) C_Trie.cls N_Trie.kids (fun _ => (show 1 < 1000 by decide)) fun c _ => db_nil ⟨c, [], trivial, fun _ => rfl, rfl, rfl⟩

abbrev st_Trie__put : Stmt := clsS 30 1
def S_Trie__put : Sc := ⟨["self", "prefix", "told", "node", "sign", "place"], [true, true, true, true, true, true], [true, true, true, true, true, true], ["int", "Trie"], defScope st_Trie__put⟩
abbrev SP_put (A : Addr) (r : α → As) : FS := ⟨TC α × Bits × α, TC α, fun x => x.1.isNode ∧ x.2.1.length ≤ 1000000, fun x => [x.1.rd, sP x.2.1, r x.2.2], fun x => x.1.cells A r, fun x T => T.tr = x.1.tr.put x.2.1 x.2.2 ∧ T.rd = x.1.rd, fun _ _ => sN, fun _ T => T.cells A r⟩
structure PutI (A : Addr) (r : α → As) (T0 sub : TC α) (rest : List Cell) (hole : TC α → TC α) (p q : Bits) (v : α) : Prop where
  perm : ∀ s', s'.rd = sub.rd → (s'.cells A r ++ rest).Perm ((hole s').cells A r)
  rd : ∀ s', s'.rd = sub.rd → (hole s').rd = T0.rd
  tr : ∀ s', s'.tr = sub.tr.put q v → (hole s').tr = T0.tr.put p v
theorem non_rd : ∀ T : TC α, NonB T.rd (match T with | .nil => true | .node .. => false)
  | .nil => non_N
  | .node .. => non_At
theorem ok_put (D_Trie__put : DfnM K A_Trie "put" "Trie.put" st_Trie__put ["self", "prefix", "told"]) (N_Trie : TrF K A_Trie) (m_int : mg "int" = none) (h_Trie : Mak Pg w K mg base 1 A_Trie "Trie" (SPm_Trie A_Trie).sp) : ∀ {α : Type} (r : α → As), Mtd Pg w K mg base 3 A_Trie "put" (SP_put A_Trie r) := by
  intro α r
  refine mtd_of (Sx := S_Trie__put) (kL := 2) D_Trie__put ⟨rfl, rfl, rfl, by decide +kernel, rfl, by decide +kernel, by decide +kernel⟩ rfl (by decide +kernel) (fun _ => rfl) ?_
  rintro X F ⟨T0, p, v⟩ ⟨rfl, rfl, rfl, rfl, rfl, xf, hr, hp⟩ ⟨hT, hl⟩
  have hT : T0.isNode := hT
  have hl : p.length ≤ 1000000 := hl
  show DB X F (defBody st_Trie__put) ⟨[some T0.rd, some (sP p), some (r v), none, none, none], T0.cells A_Trie r, []⟩ (outs (SP_put A_Trie r) (T0, p, v))
  refine db_set xf 3 (de_var xf 0) ?_
  let I : Nat → L3.Ctx → Prop := fun k C => ∃ sub rest hole o1 o2, C = ⟨[some T0.rd, some (sP p), some (r v), some sub.rd, o1, o2], sub.cells A_Trie r ++ rest, []⟩ ∧ sub.isNode ∧ PutI A_Trie r T0 sub rest hole p (p.drop k) v
  refine db_for I (di_P (de_var xf 1)) xf hp (pg_nm xf 4) go_name ⟨T0, [], id, none, none, by rw [List.append_nil]; rfl, hT, fun s' h => by rw [List.append_nil]; exact List.Perm.refl _, fun s' h => h, fun s' h => h⟩ (fun k b C2 hy hI => ?_) (fun C2 hI => ?_)
  · obtain ⟨sub, rest, hole, o1, o2, rfl, hs, pi⟩ := hI
    have hlt := (List.getElem?_eq_some_iff.mp hy).1
    have hd : p.drop k = b :: p.drop (k + 1) := by
      rw [List.drop_eq_getElem_cons hlt, (List.getElem?_eq_some_iff.mp hy).2]
    rw [hd] at pi
    match sub, hs, pi with
    | .node x c t l q, _, pi =>
      show DB X F _ ⟨[some T0.rd, some (sP p), some (r v), some (sAt x), some (sP [b]), o2], cI x A_Trie [("told", sO r t), ("children", sAt c)] :: cL c [l.rd, q.rd] :: (l.cells A_Trie r ++ q.cells A_Trie r ++ rest), []⟩ _
      refine db_set xf 5 (de_callTy xf 0 m_int (by decide +kernel) ca_intP (da_cons (de_var xf 4) da_nil)) ?_
      -- the row's item, read
      have key : ∀ (sl sq : As) (μ : List Cell), ∀ {p1 p2 p3 p4}, De X F (.Subscript (.Attribute (.Name "node" p1) "children" p2) (.Name "place" p3) p4) ⟨[some T0.rd, some (sP p), some (r v), some (sAt x), some (sP [b]), some (sI (if b then 1 else 0))], cI x A_Trie [("told", sO r t), ("children", sAt c)] :: cL c [sl, sq] :: μ, []⟩ (if b then sq else sl) ⟨[some T0.rd, some (sP p), some (r v), some (sAt x), some (sP [b]), some (sI (if b then 1 else 0))], cI x A_Trie [("told", sO r t), ("children", sAt c)] :: cL c [sl, sq] :: μ, []⟩ := fun sl sq μ {p1 p2 p3 p4} => by
        refine de_ixC (i := if b then 1 else 0) (fun _ _ => rfl) (de_fldC (de_var xf 3) (List.mem_of_getElem? (i := 0) rfl) N_Trie.cls N_Trie.kids rfl) (de_var xf 5) (List.mem_of_getElem? (i := 1) rfl) (by cases b <;> rfl) (by cases b <;> rfl)
      -- the walk down, once the child stands
      have down : ∀ (l' q' ch : TC α) (μ : List Cell), ch = (if b then q' else l') → ch.isNode → (∀ (s' : TC α), s'.tr = ch.tr.put (p.drop (k + 1)) v → (hole (if b then .node x c t l' s' else .node x c t s' q')).tr = T0.tr.put p v) → μ.Perm (l'.cells A_Trie r ++ q'.cells A_Trie r ++ rest) →
          ∀ {p1 p2 p3 p4 p5 p6 O} , O.nx = I (k + 1) → DB X F [.Assign [.Name "node" p5] (.Subscript (.Attribute (.Name "node" p1) "children" p2) (.Name "place" p3) p4) p6] ⟨[some T0.rd, some (sP p), some (r v), some (sAt x), some (sP [b]), some (sI (if b then 1 else 0))], cI x A_Trie [("told", sO r t), ("children", sAt c)] :: cL c [l'.rd, q'.rd] :: μ, []⟩ O := by
        intro l' q' ch μ hch hn htr hperm p1 p2 p3 p4 p5 p6 O hO
        have hrd : (if b then q'.rd else l'.rd) = ch.rd := by subst hch; cases b <;> rfl
        refine db_set xf 3 (De.cast (key l'.rd q'.rd μ) hrd) (db_wk (db_nil ?_) (Wk.perm (μ' := ch.cells A_Trie r ++ (cI x A_Trie [("told", sO r t), ("children", sAt c)] :: cL c [l'.rd, q'.rd] :: ((if b then l' else q').cells A_Trie r ++ rest))) ?_))
        · rw [hO]
          refine ⟨ch, cI x A_Trie [("told", sO r t), ("children", sAt c)] :: cL c [l'.rd, q'.rd] :: ((if b then l' else q').cells A_Trie r ++ rest), fun s' => hole (if b then .node x c t l' s' else .node x c t s' q'), _, _, rfl, hn, ⟨fun s' hs => ?_, fun s' hs => ?_, htr⟩⟩
          · have hrd2 : (if b then TC.node x c t l' s' else .node x c t s' q').rd = (TC.node x c t l q).rd := by cases b <;> rfl
            refine List.Perm.trans ?_ (pi.perm _ hrd2)
            subst hch
            cases b with
            | true =>
              show (s'.cells A_Trie r ++ (cI x A_Trie _ :: cL c [l'.rd, q'.rd] :: (l'.cells A_Trie r ++ rest))).Perm (cI x A_Trie _ :: cL c [l'.rd, s'.rd] :: (l'.cells A_Trie r ++ s'.cells A_Trie r) ++ rest)
              rw [show s'.rd = q'.rd from hs]
              refine (List.perm_append_comm_assoc _ [cI x A_Trie [("told", sO r t), ("children", sAt c)], cL c [l'.rd, q'.rd]] _).trans ?_
              refine ((List.Perm.cons _ (List.Perm.cons _ ?_)))
              show (s'.cells A_Trie r ++ (l'.cells A_Trie r ++ rest)).Perm ((l'.cells A_Trie r ++ s'.cells A_Trie r) ++ rest)
              refine (List.perm_append_comm_assoc _ _ _).trans ?_
              rw [List.append_assoc]
            | false =>
              show (s'.cells A_Trie r ++ (cI x A_Trie _ :: cL c [l'.rd, q'.rd] :: (q'.cells A_Trie r ++ rest))).Perm (cI x A_Trie _ :: cL c [s'.rd, q'.rd] :: (s'.cells A_Trie r ++ q'.cells A_Trie r) ++ rest)
              rw [show s'.rd = l'.rd from hs]
              refine (List.perm_append_comm_assoc _ [cI x A_Trie [("told", sO r t), ("children", sAt c)], cL c [l'.rd, q'.rd]] _).trans ?_
              refine ((List.Perm.cons _ (List.Perm.cons _ ?_)))
              show (s'.cells A_Trie r ++ (q'.cells A_Trie r ++ rest)).Perm ((s'.cells A_Trie r ++ q'.cells A_Trie r) ++ rest)
              rw [List.append_assoc]
          · exact pi.rd _ (by cases b <;> rfl)
        · show (cI x A_Trie _ :: cL c [l'.rd, q'.rd] :: μ).Perm _
          refine ((List.Perm.cons _ (List.Perm.cons _ hperm))).trans ?_
          refine List.Perm.trans ?_ (List.perm_append_comm_assoc [cI x A_Trie [("told", sO r t), ("children", sAt c)], cL c [l'.rd, q'.rd]] (ch.cells A_Trie r) _)
          refine List.Perm.cons _ (List.Perm.cons _ ?_)
          subst hch
          cases b with
          | true =>
            show (l'.cells A_Trie r ++ q'.cells A_Trie r ++ rest).Perm (q'.cells A_Trie r ++ (l'.cells A_Trie r ++ rest))
            rw [List.append_assoc]
            exact List.perm_append_comm_assoc _ _ _
          | false =>
            show (l'.cells A_Trie r ++ q'.cells A_Trie r ++ rest).Perm (l'.cells A_Trie r ++ (q'.cells A_Trie r ++ rest))
            rw [List.append_assoc]
      generalize hch : (if b then q else l) = ch
      have hrd : (if b then q.rd else l.rd) = ch.rd := by subst hch; cases b <;> rfl
      cases ch with
      | node x1 c1 t1 l1 q1 =>
        refine db_ifFa (dt_cmp (cv_isN non_At) (De.cast (key l.rd q.rd _) hrd) de_non) ?_
        refine down l q _ _ hch.symm trivial (fun s' hs' => pi.tr _ ?_) (List.Perm.refl _) rfl
        cases b with
        | true =>
          have hch : q = .node x1 c1 t1 l1 q1 := hch
          subst hch
          show Tr.node t l.tr s'.tr = Tr.node t l.tr (Tr.put (p.drop (k + 1)) v _)
          rw [hs']
        | false =>
          have hch : l = .node x1 c1 t1 l1 q1 := hch
          subst hch
          show Tr.node t s'.tr q.tr = Tr.node t (Tr.put (p.drop (k + 1)) v _) q.tr
          rw [hs']
      | nil =>
        refine db_if (fun C' => ∃ x1 c1, C' = ⟨[some T0.rd, some (sP p), some (r v), some (sAt x), some (sP [b]), some (sI (if b then 1 else 0))], cI x A_Trie [("told", sO r t), ("children", sAt c)] :: cL c [if b then l.rd else sAt x1, if b then sAt x1 else q.rd] :: ((l.cells A_Trie r ++ q.cells A_Trie r ++ rest) ++ [cI x1 A_Trie [("told", sN), ("children", sAt c1)], cL c1 [sN, sN]]), []⟩) (dt_cmp (cv_isN non_N) (De.cast (key l.rd q.rd _) hrd) de_non) (fun _ => ?_) (fun h => absurd h (by decide)) ?_
        · refine db_ixsetX (ss := [l.rd, q.rd]) (m := if b then 1 else 0) 1 (dx_make0 (S := SPm_Trie A_Trie) xf 1 h_Trie hr (fun l => l) (fun _ => trivial) (fun _ => rfl) (fun _ => rfl) (fun _ _ _ _ h => h)) (fun kk => de_fldC (fs := [("told", sO r t), ("children", sAt c)]) (de_var xf 3) (List.mem_of_getElem? (i := 0) rfl) N_Trie.cls N_Trie.kids rfl) (fun kk => de_var (s := sI (if b then 1 else 0)) xf 5) (fun kk => rfl) (by cases b <;> rfl) (by cases b <;> simp) fun kk _ => db_nil ?_
          obtain ⟨x1, c1⟩ := kk
          refine ⟨x1, c1, ?_⟩
          cases b <;> rfl
        · rintro _ ⟨x1, c1, rfl⟩
          have e1 : (if b then l.rd else sAt x1) = (if b then l else .node x1 c1 none .nil .nil : TC α).rd := by cases b <;> rfl
          have e2 : (if b then sAt x1 else q.rd) = (if b then .node x1 c1 none .nil .nil else q : TC α).rd := by cases b <;> rfl
          rw [e1, e2]
          refine down (if b then l else .node x1 c1 none .nil .nil) (if b then .node x1 c1 none .nil .nil else q) (.node x1 c1 none .nil .nil) _ (by cases b <;> rfl) trivial (fun s' hs' => ?_) ?_ rfl
          · have hs' : s'.tr = Tr.put (p.drop (k + 1)) v .nil := hs'.trans (Tr.put_new _ _)
            cases b with
            | true =>
              have hch : q = .nil := hch
              subst hch
              refine pi.tr (.node x c t l s') ?_
              show Tr.node t l.tr s'.tr = Tr.node t l.tr (Tr.put (p.drop (k + 1)) v .nil)
              rw [hs']
            | false =>
              have hch : l = .nil := hch
              subst hch
              refine pi.tr (.node x c t s' q) ?_
              show Tr.node t s'.tr q.tr = Tr.node t (Tr.put (p.drop (k + 1)) v .nil) q.tr
              rw [hs']
          · cases b with
            | true =>
              have hch : q = .nil := hch
              subst hch
              show ((l.cells A_Trie r ++ [] ++ rest) ++ [cI x1 A_Trie [("told", sN), ("children", sAt c1)], cL c1 [sN, sN]]).Perm ((l.cells A_Trie r ++ [cI x1 A_Trie [("told", sN), ("children", sAt c1)], cL c1 [sN, sN]]) ++ rest)
              rw [List.append_nil, List.append_assoc, List.append_assoc]
              exact List.Perm.append_left _ List.perm_append_comm
            | false =>
              have hch : l = .nil := hch
              subst hch
              show (([] ++ q.cells A_Trie r ++ rest) ++ [cI x1 A_Trie [("told", sN), ("children", sAt c1)], cL c1 [sN, sN]]).Perm (([cI x1 A_Trie [("told", sN), ("children", sAt c1)], cL c1 [sN, sN]] ++ q.cells A_Trie r) ++ rest)
              rw [List.nil_append, List.append_assoc [_, _]]
              exact List.perm_append_comm
  · obtain ⟨sub, rest, hole, o1, o2, rfl, hs, pi⟩ := hI
    rw [List.drop_length] at pi
    match sub, hs, pi with
    | .node x c t l q, _, pi =>
      refine db_fld (A := A_Trie) (fs := [("told", sO r t), ("children", sAt c)]) 0 (de_var xf 2) (de_var xf 3) rfl N_Trie.cls N_Trie.told (show 2 < 1000 by decide) (db_wk (db_nil ?_) (Wk.perm (μ' := (hole (.node x c (some v) l q)).cells A_Trie r ++ []) ?_))
      · exact ⟨hole (.node x c (some v) l q), [], ⟨pi.tr _ rfl, pi.rd _ rfl⟩, fun _ => rfl, rfl, rfl⟩
      · rw [List.append_nil]
        exact pi.perm (.node x c (some v) l q) rfl

abbrev st_Trie__is_leaf : Stmt := clsS 30 2
def S_Trie__is_leaf : Sc := ⟨["self"], [true], [true], [], defScope st_Trie__is_leaf⟩
theorem non_Tr (A : Addr) (r : α → As) : ∀ t : Tr α, NonB (rTr A r t) (match t with | .nil => true | .node .. => false)
  | .nil => non_N
  | .node .. => non_C
def Tr.leafB : Tr α → Bool
  | .node _ .nil .nil => true
  | _ => false
theorem ok_Trie__is_leaf (D_Trie__is_leaf : DfnM K A_Trie "is_leaf" "Trie.is_leaf" st_Trie__is_leaf ["self"]) (N_Trie : TrF K A_Trie) : ∀ {α : Type} (r : α → As), Mtd Pg w K mg base 1 A_Trie "is_leaf" (FS.fn1 (rTr A_Trie r) (fun t => t ≠ .nil) fun t => sB t.leafB) := by
  intro α r
  refine mtd_of (Sx := S_Trie__is_leaf) (kL := 0) D_Trie__is_leaf ⟨rfl, rfl, rfl, by decide +kernel, rfl, by decide +kernel, by decide +kernel⟩ rfl (by decide +kernel) (fun _ => rfl) ?_
  rintro X F t ⟨rfl, rfl, rfl, rfl, rfl, xf, hr, hp⟩ hn
  have hn : t ≠ .nil := hn
  cases t with
  | nil => exact absurd rfl hn
  | node t l q =>
    show DB X F (defBody st_Trie__is_leaf) ⟨[some (sC A_Trie [("told", sO r t), ("children", sL [rTr A_Trie r l, rTr A_Trie r q])])], [], []⟩ _
    have hk : ∀ {p1 p2}, De X F (.Attribute (.Name "self" p1) "children" p2) ⟨[some (sC A_Trie [("told", sO r t), ("children", sL [rTr A_Trie r l, rTr A_Trie r q])])], [], []⟩ (sL [rTr A_Trie r l, rTr A_Trie r q]) ⟨[some (sC A_Trie [("told", sO r t), ("children", sL [rTr A_Trie r l, rTr A_Trie r q])])], [], []⟩ := fun {p1 p2} => de_fld (de_var xf 0) N_Trie.cls N_Trie.kids rfl
    refine db_retF (de_and (de_cmp (cv_isN (non_Tr A_Trie r l)) (de_ixL (i := 0) (fun _ _ => rfl) hk de_int rfl rfl) de_non) (fun _ => de_one (de_cmp (cv_isN (non_Tr A_Trie r q)) (de_ixL (i := 1) (fun _ _ => rfl) hk de_int rfl rfl) de_non))) ?_
    cases l <;> cases q <;> rfl

abbrev st_child : Stmt := topS 32
def S_child : Sc := ⟨["node", "place"], [true, true], [true, true], [], defScope st_child⟩
abbrev rBI (b : Bool) : As := sI (if b then 1 else 0)
abbrev SP_child (A : Addr) (r : α → As) : FS := FS.fn2 (rTr A r) rBI (fun _ _ => True) fun t b => rTr A r (t.kid b)
theorem ok_child (D_child : Dfn K mg "child" st_child ["node", "place"]) (N_Trie : TrF K A_Trie) : ∀ {α : Type} (r : α → As), Cal Pg w K mg base 1 "child" (SP_child A_Trie r) := by
  intro α r
  refine cal_of (Sx := S_child) (kL := 0) D_child ⟨rfl, rfl, rfl, by decide +kernel, rfl, by decide +kernel, by decide +kernel⟩ rfl (by decide +kernel) (fun _ => rfl) ?_
  rintro X F ⟨t, b⟩ ⟨rfl, rfl, rfl, rfl, rfl, xf, hr, hp⟩ -
  cases t with
  | nil => exact db_retF (de_ifTr (C1 := ⟨[some sN, some (rBI b)], [], []⟩) (dt_cmp (cv_isN non_N) (de_var (s := sN) xf 0) de_non) de_non) rfl
  | node t l q =>
    refine db_retF (s := if b then rTr A_Trie r q else rTr A_Trie r l) (de_ifFa (C1 := ⟨[some (sC A_Trie [("told", sO r t), ("children", sL [rTr A_Trie r l, rTr A_Trie r q])]), some (rBI b)], [], []⟩) (dt_cmp (cv_isN non_C) (de_var (s := sC A_Trie [("told", sO r t), ("children", sL [rTr A_Trie r l, rTr A_Trie r q])]) xf 0) de_non) (de_ixL (i := if b then 1 else 0) (fun _ _ => rfl) (de_fld (de_var (s := sC A_Trie [("told", sO r t), ("children", sL [rTr A_Trie r l, rTr A_Trie r q])]) xf 0) N_Trie.cls N_Trie.kids rfl) (de_var (s := rBI b) xf 1) (by cases b <;> rfl) (by cases b <;> rfl))) ?_
    cases b <;> rfl

abbrev st_told_at : Stmt := topS 33
def S_told_at : Sc := ⟨["node", "told"], [true, true], [true, true], [], defScope st_told_at⟩
abbrev SP_told_at (A : Addr) (r : α → As) : FS := FS.fn2 (rTr A r) r (fun _ _ => True) fun t v => r (t.toldAt v)
theorem ok_told_at (D_told_at : Dfn K mg "told_at" st_told_at ["node", "told"]) (N_Trie : TrF K A_Trie) : ∀ {α : Type} (r : α → As), (∀ x, NonB (r x) false) → Cal Pg w K mg base 1 "told_at" (SP_told_at A_Trie r) := by
  intro α r hr0
  refine cal_of (Sx := S_told_at) (kL := 0) D_told_at ⟨rfl, rfl, rfl, by decide +kernel, rfl, by decide +kernel, by decide +kernel⟩ rfl (by decide +kernel) (fun _ => rfl) ?_
  rintro X F ⟨t, v⟩ ⟨rfl, rfl, rfl, rfl, rfl, xf, hr, hp⟩ -
  cases t with
  | nil => exact db_retF (de_ifTr (C1 := ⟨[some sN, some (r v)], [], []⟩) (dt_bool (dw_or (b1 := true) (b2 := true) (C1 := ⟨[some sN, some (r v)], [], []⟩) (C2 := ⟨[some sN, some (r v)], [], []⟩) (dt_cmp (cv_isN non_N) (de_var (s := sN) xf 0) de_non) (fun h => absurd h (by decide)))) (de_var (s := r v) xf 1)) rfl
  | node t l q =>
    have ht : ∀ {p1 p2}, De X F (.Attribute (.Name "node" p1) "told" p2) ⟨[some (sC A_Trie [("told", sO r t), ("children", sL [rTr A_Trie r l, rTr A_Trie r q])]), some (r v)], [], []⟩ (sO r t) ⟨[some (sC A_Trie [("told", sO r t), ("children", sL [rTr A_Trie r l, rTr A_Trie r q])]), some (r v)], [], []⟩ := fun {p1 p2} => de_fld (de_var xf 0) N_Trie.cls N_Trie.told rfl
    cases t with
    | none => exact db_retF (de_ifTr (C1 := ⟨[some (sC A_Trie [("told", sO r none), ("children", sL [rTr A_Trie r l, rTr A_Trie r q])]), some (r v)], [], []⟩) (dt_bool (dw_or (b1 := false) (b2 := true) (C1 := ⟨[some (sC A_Trie [("told", sO r none), ("children", sL [rTr A_Trie r l, rTr A_Trie r q])]), some (r v)], [], []⟩) (C2 := ⟨[some (sC A_Trie [("told", sO r none), ("children", sL [rTr A_Trie r l, rTr A_Trie r q])]), some (r v)], [], []⟩) (dt_cmp (cv_isN non_C) (de_var xf 0) de_non) (fun _ => dw_or1 (dt_cmp (cv_isN (non_O (o := (none : Option α)) hr0)) ht de_non)))) (de_var (s := r v) xf 1)) rfl
    | some u => exact db_retF (s := r u) (de_ifFa (C1 := ⟨[some (sC A_Trie [("told", sO r (some u)), ("children", sL [rTr A_Trie r l, rTr A_Trie r q])]), some (r v)], [], []⟩) (dt_bool (dw_orF (dt_cmp (cv_isN non_C) (de_var xf 0) de_non) (dw_or1 (dt_cmp (cv_isN (non_O (o := some u) hr0)) ht de_non)))) ht) rfl

abbrev st_is_even : Stmt := topS 34
def S_is_even : Sc := ⟨["node"], [true], [true], [], defScope st_is_even⟩
abbrev SP_is_even (A : Addr) (r : α → As) : FS := FS.fn1 (rTr A r) (fun _ => True) fun t => sB t.even
theorem ok_is_even (D_is_even : Dfn K mg "is_even" st_is_even ["node"]) (h_Trie__is_leaf : ∀ {α : Type} (r : α → As), Mtd Pg w K mg base 1 A_Trie "is_leaf" (FS.fn1 (rTr A_Trie r) (fun t => t ≠ .nil) fun t => sB t.leafB)) : ∀ {α : Type} (r : α → As), Cal Pg w K mg base 2 "is_even" (SP_is_even A_Trie r) := by
  intro α r
  refine cal_of (Sx := S_is_even) (kL := 1) D_is_even ⟨rfl, rfl, rfl, by decide +kernel, rfl, by decide +kernel, by decide +kernel⟩ rfl (by decide +kernel) (fun _ => rfl) ?_
  rintro X F t ⟨rfl, rfl, rfl, rfl, rfl, xf, hr, hp⟩ -
  cases t with
  | nil => exact db_retF (de_or (C1 := ⟨[some sN], [], []⟩) (C2 := ⟨[some sN], [], []⟩) (b1 := true) (b2 := true) (de_cmp (cv_isN non_N) (de_var (s := sN) xf 0) de_non) (fun h => absurd h (by decide))) rfl
  | node t l q =>
    refine db_retF (de_or (b1 := false) (de_cmp (cv_isN non_C) (de_var (s := sC A_Trie [("told", sO r t), ("children", sL [rTr A_Trie r l, rTr A_Trie r q])]) xf 0) de_non) (fun _ => de_one (de_meth0 (h_Trie__is_leaf r) hr (de_var (s := sC A_Trie [("told", sO r t), ("children", sL [rTr A_Trie r l, rTr A_Trie r q])]) xf 0) rfl (.node t l q) (fun h => by cases h)))) ?_
    cases l <;> cases q <;> rfl

abbrev st_trie_of : Stmt := topS 31
def S_trie_of : Sc := ⟨["pairs", "most", "found", "prefix", "told"], [true, true, true, true, true], [true, true, true, true, true], ["Trie", "len"], defScope st_trie_of⟩
abbrev SP_trie_of (A : Addr) (r : α → As) : FS := FS.fn2 (rTs (rP2 sP r)) sI (fun rs _ => ∀ q ∈ rs, q.1.length ≤ 1000000) fun rs m => rTr A r (trieOf rs m)
theorem ok_trie_of (D_trie_of : Dfn K mg "trie_of" st_trie_of ["pairs", "most"]) (m_len : mg "len" = none) (h_Trie : Mak Pg w K mg base 1 A_Trie "Trie" (SPm_Trie A_Trie).sp) (h_put : ∀ {α : Type} (r : α → As), Mtd Pg w K mg base 3 A_Trie "put" (SP_put A_Trie r)) : ∀ {α : Type} (r : α → As), Cal Pg w K mg base 4 "trie_of" (SP_trie_of A_Trie r) := by
  intro α r
  refine cal_of (Sx := S_trie_of) (kL := 3) D_trie_of ⟨rfl, rfl, rfl, by decide +kernel, rfl, by decide +kernel, by decide +kernel⟩ rfl (by decide +kernel) (fun _ => rfl) ?_
  rintro X F ⟨rs, m⟩ ⟨rfl, rfl, rfl, rfl, rfl, xf, hr, hp⟩ hl
  have hl : ∀ q ∈ rs, q.1.length ≤ 1000000 := hl
  show DB X F (defBody st_trie_of) ⟨[some (rTs (rP2 sP r) rs), some (sI m), none, none, none], [], []⟩ (outs (SP_trie_of A_Trie r) (rs, m))
  refine db_setX xf 2 (dx_make0 (S := SPm_Trie A_Trie) xf 0 h_Trie (hr.mono (show 2 ≤ 3 by decide)) (fun l => l) (fun _ => trivial) (fun _ => rfl) (fun _ => rfl) (fun _ _ _ _ h => h)) fun kk _ => ?_
  obtain ⟨x, c⟩ := kk
  let I : Nat → L3.Ctx → Prop := fun k C => ∃ (T : TC α) (o1 o2 : Option As), C = ⟨[some (rTs (rP2 sP r) rs), some (sI m), some T.rd, o1, o2], T.cells A_Trie r ++ [], []⟩ ∧ T.isNode ∧ T.tr = trieOf (rs.take k) m
  refine db_for I (di_tup (r := rP2 sP r) (de_var xf 0)) xf hp (pg_two xf 3 4) go_two ⟨.node x c none .nil .nil, none, none, rfl, trivial, rfl⟩ (fun k q C2 hy hI => ?_) (fun C2 hI => ?_)
  · obtain ⟨T, o1, o2, rfl, hT, ht⟩ := hI
    have hq := hl q (List.mem_of_getElem? hy)
    have htk : trieOf (rs.take (k + 1)) m = if (q.1.length : Int) ≤ m then (trieOf (rs.take k) m).put q.1 q.2 else trieOf (rs.take k) m := by
      unfold trieOf
      rw [List.take_succ, hy]
      show ((rs.take k ++ [q]).filter _).foldl _ _ = _
      rw [List.filter_append, List.foldl_append]
      by_cases e : (q.1.length : Int) ≤ m
      · rw [if_pos e, List.filter_cons_of_pos (by simpa using e)]
        rfl
      · rw [if_neg e, List.filter_cons_of_neg (by simpa using e)]
        rfl
    match T, hT, ht with
    | .node x c t l q', hT, ht =>
      refine db_if (I (k + 1)) (dt_cmp cv_le (de_callB xf 1 m_len (by decide +kernel) (ca_lenP (p := q.1) hq) (da_cons (de_var xf 3) da_nil)) (de_var xf 1)) (fun h => ?_) (fun h => ?_) (fun C' hC => db_nil hC)
      · have h : (q.1.length : Int) ≤ m := by simpa using h
        rw [if_pos h] at htk
        refine db_exprX (dx_methC (S := SP_put A_Trie r) (fs := [("told", sO r t), ("children", sAt c)]) (h_put r) hr (de_var (s := sAt x) xf 2) 0 rfl rfl (da_cons (de_var xf 3) (da_cons (de_var xf 4) da_nil)) (.node x c t l q', q.1, q.2) ⟨trivial, hq⟩ []) fun T' hT' => db_nil ⟨T', some (sP q.1), some (r q.2), ?_, ?_, ?_⟩
        · obtain ⟨h1, h2⟩ := hT'
          show (⟨[_, _, some (sAt x), _, _], _, _⟩ : L3.Ctx) = ⟨[_, _, some T'.rd, _, _], _, _⟩
          have h2 : T'.rd = sAt x := h2
          rw [h2]
          rfl
        · obtain ⟨h1, h2⟩ := hT'
          cases T' with
          | nil =>
            have h1 : Tr.nil = Tr.put q.1 q.2 (Tr.node t l.tr q'.tr) := h1
            exfalso
            revert h1
            match q.1 with
            | [] => intro h; cases h
            | true :: _ => intro h; cases h
            | false :: _ => intro h; cases h
          | node => trivial
        · rw [htk, ← ht]
          exact hT'.1
      · have h : ¬ (q.1.length : Int) ≤ m := by simpa using h
        rw [if_neg h] at htk
        exact db_nil ⟨.node x c t l q', some (sP q.1), some (r q.2), rfl, hT, by rw [htk]; exact ht⟩
  · obtain ⟨T, o1, o2, rfl, hT, ht⟩ := hI
    rw [List.take_length] at ht
    refine db_frzTree T 2 rfl (db_retF (de_var xf 2) ?_)
    show rTr A_Trie r T.tr = rTr A_Trie r (trieOf rs m)
    rw [ht]
end

end Law
/-! fewest -/
namespace Law
open PySem PySem.Spec L2 L3
/-! fewest -/
theorem Tr.told_node {α : Type} (v : Option α) (l q : Tr α) (h : α) : (Tr.node v l q).toldAt h = v.getD h := by cases v <;> rfl
/-- regions(node, hop, prefix) -/
def regL : Tr Int → Int → Bits → List Rt
  | .nil, h, p => [(p, h)]
  | .node v l q, h, p => if (Tr.node v l q).even = true then [(p, v.getD h)] else regL l (v.getD h) (p ++ [false]) ++ regL q (v.getD h) (p ++ [true])
def chF : Tr Int → Int → Ch
  | .nil, h => leafC (some [h])
  | .node v l q, h => if (Tr.node v l q).even = true then leafC (some [v.getD h]) else joinedC (chF l (v.getD h)) (chF q (v.getD h)) none
/-- a plain tree: its choice if all below is led, its two halves -/
inductive Pt where
  | tip (c : Option Ch)
  | fork (c : Option Ch) (a b : Pt)
def Pt.ch : Pt → Option Ch
  | tip c => c
  | fork c _ _ => c
def Pt.depth : Pt → Nat
  | tip _ => 0
  | fork _ a b => max a.depth b.depth + 1
def forkP (a b : Pt) : Pt := .fork (match a.ch, b.ch with
  | some x, some y => some (joinedC x y none)
  | _, _ => none) a b
def tipP (h : Int) : Pt := .tip (if h = -1 then none else some (leafC (some [h])))
def ptF : Tr Int → Int → Pt
  | .nil, h => tipP h
  | .node v l q, h => if (Tr.node v l q).even = true then tipP (v.getD h) else forkP (ptF l (v.getD h)) (ptF q (v.getD h))
def prL : Pt → Bits → List Rt
  | .tip c, p => match c with
    | some c => pickL c p (-1)
    | none => []
  | .fork c a b, p => match c with
    | some c => pickL c p (-1)
    | none => prL a (p ++ [false]) ++ prL b (p ++ [true])
/-! sizes -/
theorem even_dep {α : Type} {v : Option α} {l q : Tr α} (h : ¬ (Tr.node v l q).even = true) : 1 ≤ max l.depth q.depth := by
  cases l with
  | nil =>
    cases q with
    | nil => exact absurd rfl h
    | node => simp only [Tr.depth]; omega
  | node => simp only [Tr.depth]; omega
theorem regL_len : ∀ (t : Tr Int) (h : Int) (p : Bits), (regL t h p).length ≤ t.nodes + 1 ∧ ∀ q ∈ regL t h p, q.1.length ≤ p.length + (t.depth - 1)
  | .nil, h, p => by simp [regL]
  | .node v l q, h, p => by
    rw [regL]
    split
    · simp
    · rename_i e
      have ed := even_dep e
      obtain ⟨a1, a2⟩ := regL_len l (v.getD h) (p ++ [false])
      obtain ⟨b1, b2⟩ := regL_len q (v.getD h) (p ++ [true])
      simp only [Tr.nodes, Tr.depth, List.length_append]
      refine ⟨by omega, fun z hz => ?_⟩
      rcases List.mem_append.mp hz with hz | hz
      · have := a2 z hz
        rw [List.length_append, List.length_singleton] at this
        omega
      · have := b2 z hz
        rw [List.length_append, List.length_singleton] at this
        omega
theorem commonI_none (o : Option (List Int)) : commonI none o = o := by cases o <;> rfl
theorem joinedC_node (a b : Ch) (o : Option (List Int)) : ∃ s h, joinedC a b o = .node s h a b := by
  unfold joinedC
  split
  · exact ⟨_, _, rfl⟩
  · split <;> exact ⟨_, _, rfl⟩
/-- a choice whose hops are a row of different hops of a known row, none of them empty -/
structure ChOk (M : List Int) (c : Ch) : Prop where
  full : c.Full
  hops : ∃ x, c.hops = some x ∧ x ≠ [] ∧ x.Nodup ∧ ∀ h ∈ x, h ∈ M
theorem nodup_len {α : Type} [BEq α] [LawfulBEq α] : ∀ {l M : List α}, l.Nodup → (∀ h ∈ l, h ∈ M) → l.length ≤ M.length
  | [], M, _, _ => Nat.zero_le _
  | x :: l, M, nd, h => by
    have hx := h x List.mem_cons_self
    obtain ⟨n1, n2⟩ := List.nodup_cons.mp nd
    have ih := nodup_len (l := l) (M := M.erase x) n2 fun y hy => by
      have hne : y ≠ x := fun e => n1 (e ▸ hy)
      exact (List.mem_erase_of_ne hne).mpr (h y (List.mem_cons_of_mem _ hy))
    rw [List.length_erase_of_mem hx] at ih
    have := List.length_pos_of_mem hx
    rw [List.length_cons]
    omega
theorem ChOk.len {M : List Int} {c : Ch} (h : ChOk M c) : LenO c.hops M.length := fun x e => by
  obtain ⟨y, e2, _, nd, hm⟩ := h.hops
  rw [e] at e2
  cases e2
  exact nodup_len nd hm
theorem ChOk.leaf {M : List Int} {h : Int} (hm : h ∈ M) : ChOk M (leafC (some [h])) := ⟨fun e => (by cases e), [h], rfl, by simp, by simp, fun x hx => by rw [List.mem_singleton.mp hx]; exact hm⟩
theorem ChOk.joined {M : List Int} {a b : Ch} (ha : ChOk M a) (hb : ChOk M b) : ChOk M (joinedC a b none) := by
  obtain ⟨x, ex, nx, dx, mx⟩ := ha.hops
  obtain ⟨y, ey, ny, dy, my⟩ := hb.hops
  have nu : (x ++ y.filter fun h => !decide (h ∈ x)).Nodup := by
    rw [List.nodup_append]
    refine ⟨dx, dy.filter _, fun u hu v hv e => ?_⟩
    subst e
    have := (List.mem_filter.mp hv).2
    simp at this
    exact this hu
  have mu : ∀ h ∈ x ++ y.filter (fun h => !decide (h ∈ x)), h ∈ M := fun h hh => by
    rcases List.mem_append.mp hh with q | q
    · exact mx h q
    · exact my h (List.mem_filter.mp q).1
  have hu : srtI (x ++ y.filter fun h => !decide (h ∈ x)) ≠ [] := fun e => by
    have := (srtI_perm (x ++ y.filter fun h => !decide (h ∈ x))).length_eq
    rw [e, List.length_append] at this
    have : 0 < x.length := List.length_pos_iff.mpr nx
    simp at *
    omega
  unfold joinedC
  rw [ex, ey, commonI_none, commonI_none]
  split
  · rename_i h
    have h : x.filter (fun h => decide (h ∈ y)) ≠ [] := fun e => h (by show some _ = _; rw [e])
    exact ⟨⟨fun e => h (Option.some.inj e), ha.full, hb.full⟩, x.filter fun h => decide (h ∈ y), rfl, h, dx.filter _, fun z hz => mx z (List.mem_filter.mp hz).1⟩
  · rw [if_pos (show unitedI (some x) (some y) ≠ some [] from fun e => hu (Option.some.inj e))]
    refine ⟨⟨fun e => hu (Option.some.inj e), ha.full, hb.full⟩, srtI (x ++ y.filter fun h => !decide (h ∈ x)), rfl, hu, ?_, fun z hz => mu z ((srtI_perm _).mem_iff.mp hz)⟩
    exact (srtI_perm _).nodup_iff.mpr nu
/-- every told hop of a trie is of the row -/
def Tr.All {α : Type} (M : List α) : Tr α → Prop
  | .nil => True
  | .node t l q => (∀ v, t = some v → v ∈ M) ∧ l.All M ∧ q.All M
theorem Tr.All.kid {α : Type} {M : List α} {t : Tr α} (h : t.All M) (b : Bool) : (t.kid b).All M := by
  cases t with
  | nil => exact trivial
  | node v l q =>
    cases b with
    | false => exact h.2.1
    | true => exact h.2.2
theorem Tr.All.told {α : Type} {M : List α} {t : Tr α} (h : t.All M) {v : α} (hv : v ∈ M) : t.toldAt v ∈ M := by
  cases t with
  | nil => exact hv
  | node u l q =>
    cases u with
    | none => exact hv
    | some u => exact h.1 u rfl
theorem Tr.All.put {α : Type} {M : List α} {v : α} (hv : v ∈ M) : ∀ {p : Bits} {t : Tr α}, t.All M → (t.put p v).All M
  | [], .nil, _ => ⟨fun u e => by cases e; exact hv, trivial, trivial⟩
  | [], .node _ l r, h => ⟨fun u e => by cases e; exact hv, h.2⟩
  | false :: p, .nil, _ => ⟨fun u e => (nomatch e), Tr.All.put hv (p := p) (t := .nil) trivial, trivial⟩
  | true :: p, .nil, _ => ⟨fun u e => (nomatch e), trivial, Tr.All.put hv (p := p) (t := .nil) trivial⟩
  | false :: p, .node t l r, h => ⟨h.1, Tr.All.put hv (p := p) h.2.1, h.2.2⟩
  | true :: p, .node t l r, h => ⟨h.1, h.2.1, Tr.All.put hv (p := p) h.2.2⟩
theorem Tr.put_depth {α : Type} {v : α} : ∀ (p : Bits) (t : Tr α), (t.put p v).depth ≤ max t.depth (p.length + 1) ∧ (t.put p v).nodes ≤ t.nodes + p.length + 1
  | [], .nil => by simp [Tr.put, Tr.depth, Tr.nodes]
  | [], .node _ l r => by simp [Tr.put, Tr.depth, Tr.nodes]
  | false :: p, .nil => by
    have := Tr.put_depth (v := v) p .nil
    simp only [Tr.put, Tr.depth, Tr.nodes, List.length_cons] at this ⊢
    omega
  | true :: p, .nil => by
    have := Tr.put_depth (v := v) p .nil
    simp only [Tr.put, Tr.depth, Tr.nodes, List.length_cons] at this ⊢
    omega
  | false :: p, .node t l r => by
    have := Tr.put_depth (v := v) p l
    simp only [Tr.put, Tr.depth, Tr.nodes, List.length_cons] at this ⊢
    omega
  | true :: p, .node t l r => by
    have := Tr.put_depth (v := v) p r
    simp only [Tr.put, Tr.depth, Tr.nodes, List.length_cons] at this ⊢
    omega
theorem trieOf_ok {α : Type} {M : List α} {rs : List (Bits × α)} {m : Nat} (hm : ∀ q ∈ rs, q.2 ∈ M) : (trieOf rs (m : Int)).All M ∧ (trieOf rs (m : Int)).depth ≤ m + 1 ∧ (trieOf rs (m : Int)).nodes ≤ rs.length * (m + 1) + 1 := by
  unfold trieOf
  have go : ∀ (l : List (Bits × α)) (t : Tr α), (∀ q ∈ l, q.2 ∈ M ∧ q.1.length ≤ m) → t.All M → t.depth ≤ m + 1 → (l.foldl (fun t q => t.put q.1 q.2) t).All M ∧ (l.foldl (fun t q => t.put q.1 q.2) t).depth ≤ m + 1 ∧ (l.foldl (fun t q => t.put q.1 q.2) t).nodes ≤ t.nodes + l.length * (m + 1) := by
    intro l
    induction l with
    | nil => intro t _ h1 h2; exact ⟨h1, h2, by simp⟩
    | cons q l ih =>
      intro t hq h1 h2
      obtain ⟨q1, q2⟩ := hq q List.mem_cons_self
      obtain ⟨d1, d2⟩ := Tr.put_depth (v := q.2) q.1 t
      obtain ⟨a1, a2, a3⟩ := ih (t.put q.1 q.2) (fun z hz => hq z (List.mem_cons_of_mem _ hz)) (h1.put q1) (by omega)
      refine ⟨a1, a2, ?_⟩
      rw [List.foldl_cons, List.length_cons, Nat.succ_mul]
      omega
  obtain ⟨a1, a2, a3⟩ := go (rs.filter fun q => decide ((q.1.length : Int) ≤ (m : Int))) (.node none .nil .nil) (fun q hq => by
    obtain ⟨h1, h2⟩ := List.mem_filter.mp hq
    refine ⟨hm q h1, ?_⟩
    have := of_decide_eq_true h2
    omega) ⟨fun v e => (nomatch e), trivial, trivial⟩ (by simp [Tr.depth])
  refine ⟨a1, a2, ?_⟩
  have hl : (rs.filter fun q => decide ((q.1.length : Int) ≤ (m : Int))).length ≤ rs.length := List.length_filter_le _ _
  have := Nat.mul_le_mul_right (m + 1) hl
  simp only [Tr.nodes] at a3
  omega
theorem All_getD {α : Type} {M : List α} {v : Option α} {l q : Tr α} (ht : (Tr.node v l q).All M) {h : α} (hh : h ∈ M) : v.getD h ∈ M := by
  have := ht.told hh
  rw [Tr.told_node] at this
  exact this
theorem chF_ok {M : List Int} : ∀ (t : Tr Int) (h : Int), t.All M → h ∈ M → ChOk M (chF t h) ∧ (chF t h).depth ≤ t.depth ∧ (chF t h).nodes ≤ 2 * t.nodes + 1
  | .nil, h, ht, hh => by
    rw [chF]
    exact ⟨ChOk.leaf hh, by simp [leafC, Ch.depth], by simp [leafC, Ch.nodes]⟩
  | .node v l q, h, ht, hh => by
    rw [chF]
    split
    · exact ⟨ChOk.leaf (All_getD ht hh), by simp [leafC, Ch.depth], by simp [leafC, Ch.nodes]⟩
    · obtain ⟨a1, a2, a3⟩ := chF_ok l (v.getD h) ht.2.1 (All_getD ht hh)
      obtain ⟨b1, b2, b3⟩ := chF_ok q (v.getD h) ht.2.2 (All_getD ht hh)
      refine ⟨a1.joined b1, ?_⟩
      obtain ⟨s, hs, ej⟩ := joinedC_node (chF l (v.getD h)) (chF q (v.getD h)) none
      rw [ej]
      simp only [Ch.depth, Ch.nodes, Tr.depth, Tr.nodes]
      omega
/-! plain trees' sizes -/
def Pt.wt : Pt → Nat
  | .tip _ => 1
  | .fork _ a b => a.wt + b.wt + 1
def Pt.Ok (M : List Int) : Pt → Prop
  | .tip c => ∀ x, c = some x → ChOk M x ∧ x.depth ≤ 0 ∧ x.nodes ≤ 1
  | .fork c a b => (∀ x, c = some x → ChOk M x ∧ x.depth ≤ max a.depth b.depth + 1 ∧ x.nodes ≤ a.wt + b.wt + 1) ∧ a.Ok M ∧ b.Ok M
theorem Pt.Ok.ch {M : List Int} {t : Pt} (h : t.Ok M) {x : Ch} (e : t.ch = some x) : ChOk M x ∧ x.depth ≤ t.depth ∧ x.nodes ≤ t.wt := by
  cases t with
  | tip c => exact h x e
  | fork c a b => exact h.1 x e
theorem tipP_ok {M : List Int} {h : Int} (hh : h ∈ M) : (tipP h).Ok M := by
  unfold tipP
  intro x e
  split at e
  · cases e
  · cases e
    exact ⟨ChOk.leaf hh, by simp [leafC, Ch.depth], by simp [leafC, Ch.nodes]⟩
theorem forkP_ok {M : List Int} {a b : Pt} (ha : a.Ok M) (hb : b.Ok M) : (forkP a b).Ok M := by
  refine ⟨fun x e => ?_, ha, hb⟩
  cases ea : a.ch with
  | none => rw [ea] at e; cases e
  | some u =>
    cases eb : b.ch with
    | none => rw [ea, eb] at e; cases e
    | some v =>
      rw [ea, eb] at e
      cases e
      obtain ⟨a1, a2, a3⟩ := ha.ch ea
      obtain ⟨b1, b2, b3⟩ := hb.ch eb
      obtain ⟨s, hs, ej⟩ := joinedC_node u v none
      refine ⟨a1.joined b1, ?_⟩
      rw [ej]
      simp only [Ch.depth, Ch.nodes]
      omega
theorem ptF_ok {M : List Int} : ∀ (t : Tr Int) (h : Int), t.All M → h ∈ M → (ptF t h).Ok M ∧ (ptF t h).depth ≤ t.depth ∧ (ptF t h).wt ≤ 2 * t.nodes + 1
  | .nil, h, ht, hh => ⟨tipP_ok hh, Nat.le_refl _, Nat.le_refl _⟩
  | .node v l q, h, ht, hh => by
    rw [ptF]
    split
    · exact ⟨tipP_ok (All_getD ht hh), Nat.zero_le _, by simp [tipP, Pt.wt]⟩
    · obtain ⟨a1, a2, a3⟩ := ptF_ok l (v.getD h) ht.2.1 (All_getD ht hh)
      obtain ⟨b1, b2, b3⟩ := ptF_ok q (v.getD h) ht.2.2 (All_getD ht hh)
      refine ⟨forkP_ok a1 b1, ?_⟩
      simp only [forkP, Pt.depth, Pt.wt, Tr.depth, Tr.nodes]
      omega
theorem prL_len {M : List Int} : ∀ (t : Pt) (p : Bits), t.Ok M → (prL t p).length ≤ t.wt
  | .tip c, p, h => by
    cases c with
    | none => simp [prL]
    | some c => exact Nat.le_trans (pickL_len _ _ _) (h c rfl).2.2
  | .fork c a b, p, h => by
    cases c with
    | none =>
      have h1 := prL_len a (p ++ [false]) h.2.1
      have h2 := prL_len b (p ++ [true]) h.2.2
      simp only [prL, List.length_append, Pt.wt]
      omega
    | some c => exact Nat.le_trans (pickL_len _ _ _) (h.1 c rfl).2.2
def Hops : List Int := (List.range 1001).map fun i : Nat => (i : Int) - 1
theorem hops_len : Hops.length ≤ 1000000 := by
  unfold Hops
  rw [List.length_map, List.length_range]
  decide
theorem mem_hops {h : Int} (h1 : -1 ≤ h) (h2 : h ≤ 999) : h ∈ Hops := List.mem_map.mpr ⟨(h + 1).toNat, List.mem_range.mpr (by omega), by omega⟩
theorem ChOk.len' {c : Ch} (h : ChOk Hops c) : LenO c.hops 1000000 := h.len.mono hops_len

section
variable {Pg : Program} {w : World} {K : PySem.W.Frag} {mg : Str → Option Value} {base : Heap} {A_Trie A_Choice A_Table : Addr}
abbrev st_need_plain : Stmt := topS 40
def S_need_plain : Sc := ⟨["plain"], [true], [true], ["isinstance", "bool"], defScope st_need_plain⟩
theorem ok_need_plain (D_need_plain : Dfn K mg "need_plain" st_need_plain ["plain"]) (m_isinstance : mg "isinstance" = none) (m_bool : mg "bool" = none) : Cal Pg w K mg base 1 "need_plain" (FS.fn1 sB (fun _ => True) fun _ => sN) := by
  refine cal_of (Sx := S_need_plain) (kL := 0) D_need_plain ⟨rfl, rfl, rfl, by decide +kernel, rfl, by decide +kernel, by decide +kernel⟩ rfl (by decide +kernel) (fun _ => rfl) ?_
  rintro X F b ⟨rfl, rfl, rfl, rfl, rfl, xf, hr, hp⟩ -
  exact db_ifFa (C1 := ⟨[some (sB b)], [], []⟩) (dt_notT (dt_val (c := true) (de_isi xf 0 m_isinstance (de_var xf 0) ty_B (pe_tyv (T := "bool") xf 1 m_bool (by decide +kernel)) (.ty _) kit_me))) (db_endF rfl)

abbrev st_regions : Stmt := topS 37
def S_regions : Sc := ⟨["node", "hop", "prefix"], [true, true, true], [true, true, true], ["told_at", "is_even", "regions", "child"], defScope st_regions⟩
abbrev SP_regions (A : Addr) (d : Nat) : FS := FS.fn3 (rTr A sI) sI sP (fun t _ p => t.depth < d ∧ p.length + t.depth ≤ 1000 ∧ t.nodes ≤ 100000) fun t h p => rLs sR (regL t h p)
theorem ok_regions (D_regions : Dfn K mg "regions" st_regions ["node", "hop", "prefix"]) (h_told_at : ∀ {α : Type} (r : α → As), (∀ x, NonB (r x) false) → Cal Pg w K mg base 1 "told_at" (SP_told_at A_Trie r)) (h_is_even : ∀ {α : Type} (r : α → As), Cal Pg w K mg base 2 "is_even" (SP_is_even A_Trie r)) (h_child : ∀ {α : Type} (r : α → As), Cal Pg w K mg base 1 "child" (SP_child A_Trie r)) : ∀ d, Cal Pg w K mg base (d + 2) "regions" (SP_regions A_Trie d)
  | 0 => cal_vac D_regions (fun _ => rfl) fun i h => Nat.not_lt_zero _ h.1
  | d + 1 => by
    have ih := ok_regions D_regions h_told_at h_is_even h_child d
    refine cal_of (Sx := S_regions) (kL := d + 2) D_regions ⟨rfl, rfl, rfl, by decide +kernel, rfl, by decide +kernel, by decide +kernel⟩ rfl (by decide +kernel) (fun _ => rfl) ?_
    rintro X F ⟨t, h, p⟩ ⟨rfl, rfl, rfl, rfl, rfl, xf, hr, hp⟩ ⟨h1, h2, h3⟩
    have h1 : t.depth < d + 1 := h1
    have h2 : p.length + t.depth ≤ 1000 := h2
    have h3 : t.nodes ≤ 100000 := h3
    have hr1 := hr.mono (show 1 ≤ d + 2 by omega)
    have hr2 := hr.mono (show 2 ≤ d + 2 by omega)
    show DB X F (defBody st_regions) ⟨[some (rTr A_Trie sI t), some (sI h), some (sP p)], [], []⟩ (outs (SP_regions A_Trie (d + 1)) (t, h, p))
    refine db_set xf 1 (de_call2 (r1 := rTr A_Trie sI) (r2 := sI) (res := fun t v => sI (t.toldAt v)) (v1 := t) (v2 := h) xf 0 (h_told_at sI fun _ => non_I) hr1 (de_var xf 0) (de_var xf 1) trivial) ?_
    refine db_ifr (dt_val (c := t.even) (de_call1 (r1 := rTr A_Trie sI) (res := fun t => sB t.even) (v1 := t) xf 1 (h_is_even sI) hr2 (de_var xf 0) trivial)) (fun e => ?_) (fun e => ?_)
    · refine db_retG (de_lst1 (r1 := sR) (de_pair (de_var xf 2) (de_var xf 1))) ?_
      cases t with
      | nil => rfl
      | node v l q => show _ = rLs sR (regL (.node v l q) h p); rw [regL, if_pos e, Tr.told_node]
    · cases t with
      | nil => cases e
      | node v l q =>
        have e' : ¬ (Tr.node v l q).even = true := by rw [e]; exact Bool.false_ne_true
        rw [Tr.told_node]
        simp only [Tr.depth, Tr.nodes] at h1 h2 h3
        obtain ⟨a1, _⟩ := regL_len l (v.getD h) (p ++ [false])
        obtain ⟨b1, _⟩ := regL_len q (v.getD h) (p ++ [true])
        refine db_retF (de_catT (r := sR) (de_call3 (r1 := rTr A_Trie sI) (r2 := sI) (r3 := sP) (res := fun t h p => rLs sR (regL t h p)) (v1 := l) (v2 := v.getD h) (v3 := p ++ [false]) xf 2 ih hr (de_call2 (r1 := rTr A_Trie sI) (r2 := rBI) (res := fun t b => rTr A_Trie sI (t.kid b)) (v1 := .node v l q) (v2 := false) xf 3 (h_child sI) hr1 (de_var xf 0) de_int trivial) (de_var xf 1) (de_appP (de_var xf 2) de_zeroP (by simp; omega)) ⟨by omega, by simp; omega, by omega⟩)
          (de_call3 (r1 := rTr A_Trie sI) (r2 := sI) (r3 := sP) (res := fun t h p => rLs sR (regL t h p)) (v1 := q) (v2 := v.getD h) (v3 := p ++ [true]) xf 2 ih hr (de_call2 (r1 := rTr A_Trie sI) (r2 := rBI) (res := fun t b => rTr A_Trie sI (t.kid b)) (v1 := .node v l q) (v2 := true) xf 3 (h_child sI) hr1 (de_var xf 0) de_int trivial) (de_var xf 1) (de_appP (de_var xf 2) de_oneP (by simp; omega)) ⟨by omega, by simp; omega, by omega⟩) (Nat.le_trans (show _ ≤ 1000000 by omega) (by decide))) ?_
        show _ = rLs sR (regL (.node v l q) h p)
        rw [regL, if_neg e']

abbrev st_choice_for : Stmt := topS 41
def S_choice_for : Sc := ⟨["node", "hop"], [true, true], [true, true], ["told_at", "is_even", "leaf", "joined", "choice_for", "child"], defScope st_choice_for⟩
abbrev SP_choice_for (A A' : Addr) (d : Nat) : FS := FS.fn2 (rTr A sI) sI (fun t h => t.depth < d ∧ t.All Hops ∧ h ∈ Hops) fun t h => rCh A' (chF t h)
theorem ok_choice_for (D_choice_for : Dfn K mg "choice_for" st_choice_for ["node", "hop"]) (h_told_at : ∀ {α : Type} (r : α → As), (∀ x, NonB (r x) false) → Cal Pg w K mg base 1 "told_at" (SP_told_at A_Trie r)) (h_is_even : ∀ {α : Type} (r : α → As), Cal Pg w K mg base 2 "is_even" (SP_is_even A_Trie r)) (h_child : ∀ {α : Type} (r : α → As), Cal Pg w K mg base 1 "child" (SP_child A_Trie r)) (h_leaf : Cal Pg w K mg base 3 "leaf" (FS.fn1 (sO sIs) (fun _ => True) fun o => rCh A_Choice (leafC o))) (h_joined : Cal Pg w K mg base 3 "joined" (SP_joined A_Choice)) : ∀ d, Cal Pg w K mg base (d + 3) "choice_for" (SP_choice_for A_Trie A_Choice d)
  | 0 => cal_vac D_choice_for (fun _ => rfl) fun i h => Nat.not_lt_zero _ h.1
  | d + 1 => by
    have ih := ok_choice_for D_choice_for h_told_at h_is_even h_child h_leaf h_joined d
    refine cal_of (Sx := S_choice_for) (kL := d + 3) D_choice_for ⟨rfl, rfl, rfl, by decide +kernel, rfl, by decide +kernel, by decide +kernel⟩ rfl (by decide +kernel) (fun _ => rfl) ?_
    rintro X F ⟨t, h⟩ ⟨rfl, rfl, rfl, rfl, rfl, xf, hr, hp⟩ ⟨h1, h2, h3⟩
    have h1 : t.depth < d + 1 := h1
    have h2 : t.All Hops := h2
    have h3 : h ∈ Hops := h3
    have hr1 := hr.mono (show 1 ≤ d + 3 by omega)
    have hr2 := hr.mono (show 2 ≤ d + 3 by omega)
    have hr3 := hr.mono (show 3 ≤ d + 3 by omega)
    show DB X F (defBody st_choice_for) ⟨[some (rTr A_Trie sI t), some (sI h)], [], []⟩ (outs (SP_choice_for A_Trie A_Choice (d + 1)) (t, h))
    refine db_set xf 1 (de_call2 (r1 := rTr A_Trie sI) (r2 := sI) (res := fun t v => sI (t.toldAt v)) (v1 := t) (v2 := h) xf 0 (h_told_at sI fun _ => non_I) hr1 (de_var xf 0) (de_var xf 1) trivial) ?_
    refine db_ifr (dt_val (c := t.even) (de_call1 (r1 := rTr A_Trie sI) (res := fun t => sB t.even) (v1 := t) xf 1 (h_is_even sI) hr2 (de_var xf 0) trivial)) (fun e => ?_) (fun e => ?_)
    · refine db_retG (de_call1 (r1 := sO sIs) (res := fun o => rCh A_Choice (leafC o)) (v1 := some [t.toldAt h]) xf 2 h_leaf hr3 (de_tup1 (r1 := sI) (de_var xf 1)) trivial) ?_
      cases t with
      | nil => rfl
      | node v l q => show _ = rCh A_Choice (chF (.node v l q) h); rw [chF, if_pos e, Tr.told_node]
    · cases t with
      | nil => cases e
      | node v l q =>
        have e' : ¬ (Tr.node v l q).even = true := by rw [e]; exact Bool.false_ne_true
        rw [Tr.told_node]
        simp only [Tr.depth] at h1
        have hg := All_getD h2 h3
        refine db_retF (de_call2 (r1 := rP2 (rCh A_Choice) (rCh A_Choice)) (r2 := sO sIs) (res := fun ab own => rCh A_Choice (joinedC ab.1 ab.2 own)) (v1 := (chF l (v.getD h), chF q (v.getD h))) (v2 := none) xf 3 h_joined hr3 (de_pair
          (de_call2 (r1 := rTr A_Trie sI) (r2 := sI) (res := fun t h => rCh A_Choice (chF t h)) (v1 := l) (v2 := v.getD h) xf 4 ih hr (de_call2 (r1 := rTr A_Trie sI) (r2 := rBI) (res := fun t b => rTr A_Trie sI (t.kid b)) (v1 := .node v l q) (v2 := false) xf 5 (h_child sI) hr1 (de_var xf 0) de_int trivial) (de_var xf 1) ⟨by omega, h2.2.1, hg⟩)
          (de_call2 (r1 := rTr A_Trie sI) (r2 := sI) (res := fun t h => rCh A_Choice (chF t h)) (v1 := q) (v2 := v.getD h) xf 4 ih hr (de_call2 (r1 := rTr A_Trie sI) (r2 := rBI) (res := fun t b => rTr A_Trie sI (t.kid b)) (v1 := .node v l q) (v2 := true) xf 5 (h_child sI) hr1 (de_var xf 0) de_int trivial) (de_var xf 1) ⟨by omega, h2.2.2, hg⟩)) de_non ⟨fun x e => (nomatch e), (chF_ok l _ h2.2.1 hg).1.len', (chF_ok q _ h2.2.2 hg).1.len'⟩) ?_
        show _ = rCh A_Choice (chF (.node v l q) h)
        rw [chF, if_neg e']
end

end Law
/-! fewest2 -/
namespace Law
open PySem PySem.Spec L2 L3
section
variable {Pg : Program} {w : World} {K : PySem.W.Frag} {mg : Str → Option Value} {base : Heap} {A_Trie A_Choice A_Table : Addr}
def rPt (A : Addr) : Pt → As
  | .tip c => sT [sO (rCh A) c, sN]
  | .fork c a b => sT [sO (rCh A) c, sT [rPt A a, rPt A b]]
def kidsP (A : Addr) : Pt → As
  | .tip _ => sN
  | .fork _ a b => sT [rPt A a, rPt A b]
theorem rPt_view (A : Addr) (t : Pt) : rPt A t = sT [sO (rCh A) t.ch, kidsP A t] := by cases t <;> rfl
theorem non_OCh (A : Addr) : ∀ o : Option Ch, NonB (sO (rCh A) o) o.isNone
  | none => non_N
  | some c => non_Ch A c
abbrev st_plain_tree : Stmt := topS 42
def S_plain_tree : Sc := ⟨["node", "hop", "children"], [true, true, true], [true, true, true], ["told_at", "is_even", "leaf", "plain_tree", "child", "joined"], defScope st_plain_tree⟩
abbrev SP_plain_tree (A A' : Addr) (d : Nat) : FS := FS.fn2 (rTr A sI) sI (fun t h => t.depth < d ∧ t.All Hops ∧ h ∈ Hops) fun t h => rPt A' (ptF t h)
theorem ok_plain_tree (D_plain_tree : Dfn K mg "plain_tree" st_plain_tree ["node", "hop"]) (h_told_at : ∀ {α : Type} (r : α → As), (∀ x, NonB (r x) false) → Cal Pg w K mg base 1 "told_at" (SP_told_at A_Trie r)) (h_is_even : ∀ {α : Type} (r : α → As), Cal Pg w K mg base 2 "is_even" (SP_is_even A_Trie r)) (h_child : ∀ {α : Type} (r : α → As), Cal Pg w K mg base 1 "child" (SP_child A_Trie r)) (h_leaf : Cal Pg w K mg base 3 "leaf" (FS.fn1 (sO sIs) (fun _ => True) fun o => rCh A_Choice (leafC o))) (h_joined : Cal Pg w K mg base 3 "joined" (SP_joined A_Choice)) : ∀ d, Cal Pg w K mg base (d + 3) "plain_tree" (SP_plain_tree A_Trie A_Choice d)
  | 0 => cal_vac D_plain_tree (fun _ => rfl) fun i h => Nat.not_lt_zero _ h.1
  | d + 1 => by
    have ih := ok_plain_tree D_plain_tree h_told_at h_is_even h_child h_leaf h_joined d
    refine cal_of (Sx := S_plain_tree) (kL := d + 3) D_plain_tree ⟨rfl, rfl, rfl, by decide +kernel, rfl, by decide +kernel, by decide +kernel⟩ rfl (by decide +kernel) (fun _ => rfl) ?_
    rintro X F ⟨t, h⟩ ⟨rfl, rfl, rfl, rfl, rfl, xf, hr, hp⟩ ⟨h1, h2, h3⟩
    have h1 : t.depth < d + 1 := h1
    have h2 : t.All Hops := h2
    have h3 : h ∈ Hops := h3
    have hr1 := hr.mono (show 1 ≤ d + 3 by omega)
    have hr2 := hr.mono (show 2 ≤ d + 3 by omega)
    have hr3 := hr.mono (show 3 ≤ d + 3 by omega)
    show DB X F (defBody st_plain_tree) ⟨[some (rTr A_Trie sI t), some (sI h), none], [], []⟩ (outs (SP_plain_tree A_Trie A_Choice (d + 1)) (t, h))
    refine db_set xf 1 (de_call2 (r1 := rTr A_Trie sI) (r2 := sI) (res := fun t v => sI (t.toldAt v)) (v1 := t) (v2 := h) xf 0 (h_told_at sI fun _ => non_I) hr1 (de_var xf 0) (de_var xf 1) trivial) ?_
    refine db_ifr (dt_val (c := t.even) (de_call1 (r1 := rTr A_Trie sI) (res := fun t => sB t.even) (v1 := t) xf 1 (h_is_even sI) hr2 (de_var xf 0) trivial)) (fun e => ?_) (fun e => ?_)
    · have hk : ptF t h = tipP (t.toldAt h) := by
        cases t with
        | nil => rfl
        | node v l q => rw [ptF, if_pos e, Tr.told_node]
      generalize t.toldAt h = u at hk ⊢
      by_cases hu : u = -1
      · refine db_retG (s := sT [sN, sN]) (de_tup (da_cons (de_ifTr (DT.cast (dt_cmp cv_eqI (de_var xf 1) (de_neg de_int)) (by simp [hu])) de_non) (da_cons de_non da_nil))) ?_
        show _ = rPt A_Choice (ptF t h)
        rw [hk, tipP, if_pos hu]
        rfl
      · refine db_retG (s := sT [rCh A_Choice (leafC (some [u])), sN]) (de_tup (da_cons (de_ifFa (DT.cast (dt_cmp cv_eqI (de_var xf 1) (de_neg de_int)) (by simp [hu])) (de_call1 (r1 := sO sIs) (res := fun o => rCh A_Choice (leafC o)) (v1 := some [u]) xf 2 h_leaf hr3 (de_tup1 (r1 := sI) (de_var xf 1)) trivial)) (da_cons de_non da_nil))) ?_
        show _ = rPt A_Choice (ptF t h)
        rw [hk, tipP, if_neg hu]
        rfl
    · cases t with
      | nil => cases e
      | node v l q =>
        have e' : ¬ (Tr.node v l q).even = true := by rw [e]; exact Bool.false_ne_true
        rw [Tr.told_node]
        simp only [Tr.depth] at h1
        have hg := All_getD h2 h3
        have hk : ptF (.node v l q) h = forkP (ptF l (v.getD h)) (ptF q (v.getD h)) := by rw [ptF, if_neg e']
        obtain ⟨o1, _⟩ := ptF_ok l (v.getD h) h2.2.1 hg
        obtain ⟨o2, _⟩ := ptF_ok q (v.getD h) h2.2.2 hg
        generalize ea : ptF l (v.getD h) = a at hk o1
        generalize eb : ptF q (v.getD h) = b at hk o2
        refine db_set xf 2 (de_pair (r1 := rPt A_Choice) (r2 := rPt A_Choice) (v1 := a) (v2 := b)
          (De.cast (de_call2 (r1 := rTr A_Trie sI) (r2 := sI) (res := fun t h => rPt A_Choice (ptF t h)) (v1 := l) (v2 := v.getD h) xf 3 ih hr (de_call2 (r1 := rTr A_Trie sI) (r2 := rBI) (res := fun t b => rTr A_Trie sI (t.kid b)) (v1 := .node v l q) (v2 := false) xf 4 (h_child sI) hr1 (de_var xf 0) de_int trivial) (de_var xf 1) ⟨by omega, h2.2.1, hg⟩) (by rw [ea]))
          (De.cast (de_call2 (r1 := rTr A_Trie sI) (r2 := sI) (res := fun t h => rPt A_Choice (ptF t h)) (v1 := q) (v2 := v.getD h) xf 3 ih hr (de_call2 (r1 := rTr A_Trie sI) (r2 := rBI) (res := fun t b => rTr A_Trie sI (t.kid b)) (v1 := .node v l q) (v2 := true) xf 4 (h_child sI) hr1 (de_var xf 0) de_int trivial) (de_var xf 1) ⟨by omega, h2.2.2, hg⟩) (by rw [eb]))) ?_
        let C0 : L3.Ctx := ⟨[some (rTr A_Trie sI (.node v l q)), some (sI (v.getD h)), some (rP2 (rPt A_Choice) (rPt A_Choice) (a, b))], [], []⟩
        have g1 : ∀ {p1 p2 j1 p3 j2 p4 p5}, De X F (.Subscript (.Subscript (.Name "children" p1) (.Constant (.int 0) j1 p2) p3) (.Constant (.int 0) j2 p4) p5) ⟨[some (rTr A_Trie sI (.node v l q)), some (sI (v.getD h)), some (rP2 (rPt A_Choice) (rPt A_Choice) (a, b))], [], []⟩ (sO (rCh A_Choice) a.ch) ⟨[some (rTr A_Trie sI (.node v l q)), some (sI (v.getD h)), some (rP2 (rPt A_Choice) (rPt A_Choice) (a, b))], [], []⟩ := fun {p1 p2 j1 p3 j2 p4 p5} => de_ixT (ss := [sO (rCh A_Choice) a.ch, kidsP A_Choice a]) (i := 0) (fun _ _ => rfl) (De.cast (de_fst (r1 := rPt A_Choice) (r2 := rPt A_Choice) (v := (a, b)) (de_var xf 2) de_int) (rPt_view _ _)) de_int rfl rfl
        have g2 : ∀ {p1 p2 j1 p3 j2 p4 p5}, De X F (.Subscript (.Subscript (.Name "children" p1) (.Constant (.int 1) j1 p2) p3) (.Constant (.int 0) j2 p4) p5) ⟨[some (rTr A_Trie sI (.node v l q)), some (sI (v.getD h)), some (rP2 (rPt A_Choice) (rPt A_Choice) (a, b))], [], []⟩ (sO (rCh A_Choice) b.ch) ⟨[some (rTr A_Trie sI (.node v l q)), some (sI (v.getD h)), some (rP2 (rPt A_Choice) (rPt A_Choice) (a, b))], [], []⟩ := fun {p1 p2 j1 p3 j2 p4 p5} => de_ixT (ss := [sO (rCh A_Choice) b.ch, kidsP A_Choice b]) (i := 0) (fun _ _ => rfl) (De.cast (de_snd (r1 := rPt A_Choice) (r2 := rPt A_Choice) (v := (a, b)) (de_var xf 2) de_int) (rPt_view _ _)) de_int rfl rfl
        have hn : (a.ch = none ∨ b.ch = none) → rPt A_Choice (ptF (.node v l q) h) = sT [sN, sT [rPt A_Choice a, rPt A_Choice b]] := fun hh => by
          rw [hk]
          unfold forkP
          rcases hh with hh | hh
          · rw [hh]; rfl
          · rw [hh]
            cases a.ch <;> rfl
        cases ha : a.ch with
        | none =>
          rw [ha] at g1
          exact db_ifTr (dt_bool (dw_or (b1 := true) (b2 := true) (dt_cmp (cv_isN non_N) g1 de_non) (fun h => absurd h (by decide)))) (db_retG (de_tup (da_cons de_non (da_cons (de_var xf 2) da_nil))) (hn (.inl ha)).symm)
        | some x =>
          rw [ha] at g1
          cases hb : b.ch with
          | none =>
            rw [hb] at g2
            exact db_ifTr (C1 := C0) (dt_bool (dw_or (b1 := false) (b2 := true) (C1 := C0) (C2 := C0) (dt_cmp (cv_isN (non_Ch _ _)) g1 de_non) (fun _ => dw_or1 (dt_cmp (cv_isN non_N) g2 de_non)) (fun h => absurd h (by decide)))) (db_retG (de_tup (da_cons de_non (da_cons (de_var xf 2) da_nil))) (hn (.inr hb)).symm)
          | some y =>
            rw [hb] at g2
            refine db_ifFa (dt_bool (dw_orF (dt_cmp (cv_isN (non_Ch A_Choice x)) g1 de_non) (dw_or1 (dt_cmp (cv_isN (non_Ch A_Choice y)) g2 de_non)))) (db_retF (de_tup (da_cons (de_call2 (r1 := rP2 (rCh A_Choice) (rCh A_Choice)) (r2 := sO sIs) (res := fun ab own => rCh A_Choice (joinedC ab.1 ab.2 own)) (v1 := (x, y)) (v2 := none) xf 5 h_joined hr3 (de_pair g1 g2) de_non ⟨fun x e => (nomatch e), (o1.ch ha).1.len', (o2.ch hb).1.len'⟩) (da_cons (de_var xf 2) da_nil))) ?_)
            show _ = rPt A_Choice (ptF (.node v l q) h)
            rw [hk]
            unfold forkP
            rw [ha, hb]
            rfl

abbrev st_plain_routes : Stmt := topS 43
def S_plain_routes : Sc := ⟨["tree", "prefix", "choice", "children"], [true, true, true, true], [true, true, true, true], ["picked", "plain_routes"], defScope st_plain_routes⟩
abbrev SP_plain_routes (A : Addr) (D d : Nat) : FS := FS.fn2 (rPt A) sP (fun t p => (t.depth < d ∧ t.depth < D) ∧ p.length + t.depth ≤ 1000 ∧ t.wt ≤ 100000 ∧ t.Ok Hops) fun t p => rLs sR (prL t p)
theorem ok_plain_routes (D_plain_routes : Dfn K mg "plain_routes" st_plain_routes ["tree", "prefix"]) (h_picked : ∀ d, Cal Pg w K mg base (d + 1) "picked" (SP_picked A_Choice d)) (D : Nat) : ∀ d, Cal Pg w K mg base (D + d + 1) "plain_routes" (SP_plain_routes A_Choice D d)
  | 0 => cal_vac D_plain_routes (fun _ => rfl) fun i h => Nat.not_lt_zero _ h.1.1
  | d + 1 => by
    have ih := ok_plain_routes D_plain_routes h_picked D d
    refine cal_of (Sx := S_plain_routes) (kL := D + d + 1) D_plain_routes ⟨rfl, rfl, rfl, by decide +kernel, rfl, by decide +kernel, by decide +kernel⟩ rfl (by decide +kernel) (fun _ => rfl) ?_
    rintro X F ⟨t, p⟩ ⟨rfl, rfl, rfl, rfl, rfl, xf, hr, hp⟩ ⟨⟨h1, h1'⟩, h2, h3, h4⟩
    have h1 : t.depth < d + 1 := h1
    have h1' : t.depth < D := h1'
    have h2 : p.length + t.depth ≤ 1000 := h2
    have h3 : t.wt ≤ 100000 := h3
    have h4 : t.Ok Hops := h4
    have hrD := hr.mono (show D + 1 ≤ D + d + 1 by omega)
    show DB X F (defBody st_plain_routes) ⟨[some (rPt A_Choice t), some (sP p), none, none], [], []⟩ (outs (SP_plain_routes A_Choice D (d + 1)) (t, p))
    refine db_unp xf 2 3 (De.cast (de_var (s := rPt A_Choice t) xf 0) (rPt_view _ _)) ?_
    show DB X F _ ⟨[some (rPt A_Choice t), some (sP p), some (sO (rCh A_Choice) t.ch), some (kidsP A_Choice t)], [], []⟩ _
    cases hc : t.ch with
    | some c =>
      obtain ⟨o1, o2, o3⟩ := h4.ch hc
      refine db_ifTr (C1 := ⟨[some (rPt A_Choice t), some (sP p), some (rCh A_Choice c), some (kidsP A_Choice t)], [], []⟩) (DT.cast (dt_cmp (cv_notN (non_Ch A_Choice c)) (de_var (s := rCh A_Choice c) xf 2) de_non) rfl) (db_retG (de_call3 (r1 := rCh A_Choice) (r2 := sP) (r3 := sI) (res := fun c p h => rLs sR (pickL c p h)) (v1 := c) (v2 := p) (v3 := -1) xf 0 (h_picked D) hrD (de_var (s := rCh A_Choice c) xf 2) (de_var xf 1) (de_neg de_int) ⟨by omega, by omega, by omega, o1.full⟩) ?_)
      cases t with
      | tip k => have hc : k = some c := hc; subst hc; rfl
      | fork k a b => have hc : k = some c := hc; subst hc; rfl
    | none =>
      refine db_ifFa (C1 := ⟨[some (rPt A_Choice t), some (sP p), some sN, some (kidsP A_Choice t)], [], []⟩) (DT.cast (dt_cmp (cv_notN non_N) (de_var (s := sN) xf 2) de_non) rfl) ?_
      cases t with
      | tip k =>
        have hc : k = none := hc
        subst hc
        exact db_ifTr (C1 := ⟨[some (rPt A_Choice (.tip none)), some (sP p), some sN, some sN], [], []⟩) (dt_cmp (cv_isN non_N) (de_var (s := sN) xf 3) de_non) (db_retG (de_lst0 (r1 := sR)) rfl)
      | fork k a b =>
        have hc : k = none := hc
        subst hc
        simp only [Pt.depth, Pt.wt] at h1 h1' h2 h3
        have n1 := prL_len a (p ++ [false]) h4.2.1
        have n2 := prL_len b (p ++ [true]) h4.2.2
        refine db_ifFa (C1 := ⟨[some (rPt A_Choice (.fork none a b)), some (sP p), some sN, some (sT [rPt A_Choice a, rPt A_Choice b])], [], []⟩) (dt_cmp (cv_isN non_T) (de_var (s := sT [rPt A_Choice a, rPt A_Choice b]) xf 3) de_non) (db_retF (de_catT (r := sR)
          (de_call2 (r1 := rPt A_Choice) (r2 := sP) (res := fun t p => rLs sR (prL t p)) (v1 := a) (v2 := p ++ [false]) xf 1 ih hr (de_fst (r1 := rPt A_Choice) (r2 := rPt A_Choice) (v := (a, b)) (de_var xf 3) de_int) (de_appP (de_var xf 1) de_zeroP (by simp; omega)) ⟨⟨by omega, by omega⟩, by simp; omega, by omega, h4.2.1⟩)
          (de_call2 (r1 := rPt A_Choice) (r2 := sP) (res := fun t p => rLs sR (prL t p)) (v1 := b) (v2 := p ++ [true]) xf 1 ih hr (de_snd (r1 := rPt A_Choice) (r2 := rPt A_Choice) (v := (a, b)) (de_var xf 3) de_int) (de_appP (de_var xf 1) de_oneP (by simp; omega)) ⟨⟨by omega, by omega⟩, by simp; omega, by omega, h4.2.2⟩) (Nat.le_trans (show _ ≤ 1000000 by omega) (by decide))) rfl)

/-! the table's trie -/
structure TabF (K : PySem.W.Frag) (A : Addr) : Prop where
  cls : Cls K A
  routes : NoAttr K A "routes"
def tabT (rs : List Rt) (m : Nat) : Tr Int := trieOf (srtR rs) (m : Int)
theorem tabT_ok {rs : List Rt} (h : TabPre rs) {m : Nat} (hm : m ≤ 98) : (tabT rs m).All Hops ∧ (tabT rs m).depth ≤ m + 1 ∧ (tabT rs m).nodes ≤ 40000 := by
  obtain ⟨a1, a2, a3⟩ := trieOf_ok (M := Hops) (rs := srtR rs) (m := m) fun q hq => by
    obtain ⟨b1, b2, b3⟩ := h.ok q ((srtR_perm rs).mem_iff.mp hq)
    exact mem_hops b2 b3
  refine ⟨a1, a2, Nat.le_trans a3 ?_⟩
  rw [(srtR_perm rs).length_eq]
  have := Nat.mul_le_mul h.len (show m + 1 ≤ 99 by omega)
  omega
def cntF (rows : List Rt) (m : Nat) (h : Int) : Int := ((rows.filter fun q => decide (q.2 = h)).map fun q => (1 : Int) * 2 ^ ((m : Int) - (q.1.length : Int)).toNat).sum
def leastL (rs : List Rt) (m : Nat) (plain : Bool) : List Rt := if plain = true then prL (ptF (tabT rs m) (-1)) [] else pickL (chF (tabT rs m) (-1)) [] (-1)
abbrev rNI (m : Nat) : As := sI (m : Int)
theorem de_routes {X : Cx} {F : Fr} {C C1 : L3.Ctx} {e : Expr} {A : Addr} {rs : List Rt} {pos : Pos} (N : TabF X.K A) (he : De X F e C (rTab A rs) C1) (hb : attributeBase e "routes" X.env (eval e X.env) = eval e X.env := by rfl) : De X F (.Attribute e "routes" pos) C (rTs sR (srtR rs)) C1 := de_fld he N.cls N.routes rfl hb

abbrev st_count_led : Stmt := topS 38
def S_count_led : Sc := ⟨["table", "width", "hop", "rows", "prefix", "its"], [true, true, true, true, false, false], [true, true, true, true, false, false], ["need_table", "need_width", "is_hop", "regions", "trie_of", "sum"], defScope st_count_led⟩
abbrev SP_count_led (A : Addr) (D : Nat) : FS := FS.fn3 (rTab A) rNI sI (fun rs m h => TabPre rs ∧ (1 ≤ m ∧ m ≤ 64 ∧ m + 1 < D) ∧ -1 ≤ h ∧ h ≤ 999) fun rs m h => sI (cntF (regL (tabT rs m) (-1) []) m h)
theorem ok_count_led (D_count_led : Dfn K mg "count_led" st_count_led ["table", "width", "hop"]) (N_Table : TabF K A_Table) (m_sum : mg "sum" = none) (m_len : mg "len" = none) (h_need_table : Cal Pg w K mg base 1 "need_table" (FS.fn1 (rTab A_Table) (fun _ => True) fun _ => sN)) (h_need_width : Cal Pg w K mg base 3 "need_width" (FS.fn1 sI (fun i => 1 ≤ i ∧ i ≤ 64) fun _ => sN)) (h_is_hop : Cal Pg w K mg base 3 "is_hop" (FS.fn1 sI (fun i => -1 ≤ i ∧ i ≤ 999) fun _ => sB true)) (h_regions : ∀ d, Cal Pg w K mg base (d + 2) "regions" (SP_regions A_Trie d)) (h_trie_of : ∀ {α : Type} (r : α → As), Cal Pg w K mg base 4 "trie_of" (SP_trie_of A_Trie r)) (D : Nat) : Cal Pg w K mg base (D + 5) "count_led" (SP_count_led A_Table D) := by
  refine cal_of (Sx := S_count_led) (kL := D + 4) D_count_led ⟨rfl, rfl, rfl, by decide +kernel, rfl, by decide +kernel, by decide +kernel⟩ rfl (by decide +kernel) (fun _ => rfl) ?_
  rintro X F ⟨rs, m, h⟩ ⟨rfl, rfl, rfl, rfl, rfl, xf, hr, hp⟩ ⟨ht, ⟨m1, m2, m3⟩, h1, h2⟩
  have ht : TabPre rs := ht
  have m1 : 1 ≤ m := m1
  have m2 : m ≤ 64 := m2
  have m3 : m + 1 < D := m3
  have h1 : -1 ≤ h := h1
  have h2 : h ≤ 999 := h2
  obtain ⟨t1, t2, t3⟩ := tabT_ok ht (show m ≤ 98 by omega)
  obtain ⟨r1, r2⟩ := regL_len (tabT rs m) (-1) []
  show DB X F (defBody st_count_led) ⟨[some (rTab A_Table rs), some (rNI m), some (sI h), none, none, none], [], []⟩ (outs (SP_count_led A_Table D) (rs, m, h))
  refine db_expr (de_call1 (r1 := rTab A_Table) (res := fun _ => sN) (v1 := rs) xf 0 h_need_table (hr.mono (by omega)) (de_var xf 0) trivial) ?_
  refine db_expr (de_call1 (r1 := sI) (res := fun _ => sN) (v1 := (m : Int)) xf 1 h_need_width (hr.mono (by omega)) (de_var xf 1) ⟨by omega, by omega⟩) ?_
  refine db_ifFa (dt_notT (dt_val (c := true) (de_call1 (r1 := sI) (res := fun _ => sB true) (v1 := h) xf 2 h_is_hop (hr.mono (by omega)) (de_var xf 2) ⟨h1, h2⟩))) ?_
  refine db_set xf 3 (de_call3 (r1 := rTr A_Trie sI) (r2 := sI) (r3 := sP) (res := fun t h p => rLs sR (regL t h p)) (v1 := tabT rs m) (v2 := -1) (v3 := []) xf 3 (h_regions D) (hr.mono (by omega)) (de_call2 (r1 := rTs (rP2 sP sI)) (r2 := sI) (res := fun rs m => rTr A_Trie sI (trieOf rs m)) (v1 := srtR rs) (v2 := (m : Int)) xf 4 (h_trie_of sI) (hr.mono (by omega)) (de_routes N_Table (de_var xf 0)) (de_var xf 1) fun q hq => ?_) (de_neg de_int) de_emptyP ⟨by omega, by simp; omega, by omega⟩) ?_
  · have := (ht.ok q ((srtR_perm rs).mem_iff.mp hq)).1
    omega
  refine db_retF (de_callB xf 5 m_sum (by decide +kernel) (ca_sum (ns := ((regL (tabT rs m) (-1) []).filter fun q => decide (q.2 = h)).map fun q => (1 : Int) * 2 ^ ((m : Int) - (q.1.length : Int)).toNat) xf.calm) (da_cons
    (de_lcT (r := sR) (r' := sI) (ys := regL (tabT rs m) (-1) []) (f := fun q : Rt => (1 : Int) * 2 ^ ((m : Int) - (q.1.length : Int)).toNat) (q := fun q => decide (q.2 = h)) xf (blk_by (own := [("prefix", 4), ("its", 5)]) (us := [false, true, true, false, true, true]) (ws := [false, false, false, false, true, true]) (G := ["len"]) (by decide +kernel) (by decide +kernel)) (di_list (r := sR) (de_var xf 3)) (fun X' hX xf' => by obtain ⟨s, H, C, cl, fp, rfl⟩ := hX; exact pg_two xf' 4 5) (fun _ => go_two (K := X.K)) (Nat.le_trans (show _ ≤ 1000000 by omega) (by decide)) (fun _ _ => ⟨rfl, rfl⟩)
      (fun q F' X' _ hX xf' => dts_one (dt_cmp cv_eqI (de_var xf' 5) (de_var xf' 2)))
      (fun q F' X' hq hX xf' _ => by
        have hq := r2 q hq
        simp only [List.length_nil] at hq
        obtain ⟨s, H, C, cl, fp, rfl⟩ := hX
        exact de_shl de_int (de_sub (de_var xf' 1) (de_callB xf' 0 m_len (by decide +kernel) (ca_lenP (p := q.1) (by omega)) (da_cons (de_var xf' 4) da_nil))) ⟨by omega, by omega, by decide⟩)) da_nil)) rfl

abbrev st_least_routes : Stmt := topS 44
def S_least_routes : Sc := ⟨["table", "width", "plain", "trie"], [true, true, true, true], [true, true, true, true], ["need_table", "need_width", "need_plain", "trie_of", "plain_routes", "plain_tree", "picked", "choice_for"], defScope st_least_routes⟩
abbrev SP_least_routes (A : Addr) (D : Nat) : FS := FS.fn3 (rTab A) rNI sB (fun rs m _ => TabPre rs ∧ 1 ≤ m ∧ m ≤ 64 ∧ m + 1 < D) fun rs m b => rLs sR (leastL rs m b)
theorem ok_least_routes (D_least_routes : Dfn K mg "least_routes" st_least_routes ["table", "width", "plain"]) (N_Table : TabF K A_Table) (h_need_table : Cal Pg w K mg base 1 "need_table" (FS.fn1 (rTab A_Table) (fun _ => True) fun _ => sN)) (h_need_width : Cal Pg w K mg base 3 "need_width" (FS.fn1 sI (fun i => 1 ≤ i ∧ i ≤ 64) fun _ => sN)) (h_need_plain : Cal Pg w K mg base 1 "need_plain" (FS.fn1 sB (fun _ => True) fun _ => sN)) (h_trie_of : ∀ {α : Type} (r : α → As), Cal Pg w K mg base 4 "trie_of" (SP_trie_of A_Trie r)) (h_plain_routes : ∀ D d, Cal Pg w K mg base (D + d + 1) "plain_routes" (SP_plain_routes A_Choice D d)) (h_plain_tree : ∀ d, Cal Pg w K mg base (d + 3) "plain_tree" (SP_plain_tree A_Trie A_Choice d)) (h_picked : ∀ d, Cal Pg w K mg base (d + 1) "picked" (SP_picked A_Choice d)) (h_choice_for : ∀ d, Cal Pg w K mg base (d + 3) "choice_for" (SP_choice_for A_Trie A_Choice d)) (D : Nat) : Cal Pg w K mg base (D + D + 5) "least_routes" (SP_least_routes A_Table D) := by
  refine cal_of (Sx := S_least_routes) (kL := D + D + 4) D_least_routes ⟨rfl, rfl, rfl, by decide +kernel, rfl, by decide +kernel, by decide +kernel⟩ rfl (by decide +kernel) (fun _ => rfl) ?_
  rintro X F ⟨rs, m, b⟩ ⟨rfl, rfl, rfl, rfl, rfl, xf, hr, hp⟩ ⟨ht, m1, m2, m3⟩
  have ht : TabPre rs := ht
  have m1 : 1 ≤ m := m1
  have m2 : m ≤ 64 := m2
  have m3 : m + 1 < D := m3
  obtain ⟨t1, t2, t3⟩ := tabT_ok ht (show m ≤ 98 by omega)
  have hm1 : (-1 : Int) ∈ Hops := mem_hops (by omega) (by omega)
  obtain ⟨c1, c2, c3⟩ := chF_ok (tabT rs m) (-1) t1 hm1
  obtain ⟨p1, p2, p3⟩ := ptF_ok (tabT rs m) (-1) t1 hm1
  show DB X F (defBody st_least_routes) ⟨[some (rTab A_Table rs), some (rNI m), some (sB b), none], [], []⟩ (outs (SP_least_routes A_Table D) (rs, m, b))
  refine db_expr (de_call1 (r1 := rTab A_Table) (res := fun _ => sN) (v1 := rs) xf 0 h_need_table (hr.mono (by omega)) (de_var xf 0) trivial) ?_
  refine db_expr (de_call1 (r1 := sI) (res := fun _ => sN) (v1 := (m : Int)) xf 1 h_need_width (hr.mono (by omega)) (de_var xf 1) ⟨by omega, by omega⟩) ?_
  refine db_expr (de_call1 (r1 := sB) (res := fun _ => sN) (v1 := b) xf 2 h_need_plain (hr.mono (by omega)) (de_var xf 2) trivial) ?_
  refine db_set xf 3 (s := rTr A_Trie sI (tabT rs m)) (de_call2 (r1 := rTs (rP2 sP sI)) (r2 := sI) (res := fun rs m => rTr A_Trie sI (trieOf rs m)) (v1 := srtR rs) (v2 := (m : Int)) xf 3 (h_trie_of sI) (hr.mono (by omega)) (de_routes N_Table (de_var xf 0)) (de_var xf 1) fun q hq => ?_) ?_
  · have := (ht.ok q ((srtR_perm rs).mem_iff.mp hq)).1
    omega
  refine db_retF (de_ifT (r := rLs sR) (dt_val (c := b) (de_var xf 2))
    (fun _ => de_call2 (r1 := rPt A_Choice) (r2 := sP) (res := fun t p => rLs sR (prL t p)) (v1 := ptF (tabT rs m) (-1)) (v2 := []) xf 4 (h_plain_routes D D) (hr.mono (by omega)) (de_call2 (r1 := rTr A_Trie sI) (r2 := sI) (res := fun t h => rPt A_Choice (ptF t h)) (v1 := tabT rs m) (v2 := -1) xf 5 (h_plain_tree D) (hr.mono (by omega)) (de_var xf 3) (de_neg de_int) ⟨by omega, t1, hm1⟩) de_emptyP ⟨⟨by omega, by omega⟩, by simp; omega, by omega, p1⟩)
    (fun _ => de_call3 (r1 := rCh A_Choice) (r2 := sP) (r3 := sI) (res := fun c p h => rLs sR (pickL c p h)) (v1 := chF (tabT rs m) (-1)) (v2 := []) (v3 := -1) xf 6 (h_picked D) (hr.mono (by omega)) (de_call2 (r1 := rTr A_Trie sI) (r2 := sI) (res := fun t h => rCh A_Choice (chF t h)) (v1 := tabT rs m) (v2 := -1) xf 7 (h_choice_for D) (hr.mono (by omega)) (de_var xf 3) (de_neg de_int) ⟨by omega, t1, hm1⟩) de_emptyP (de_neg de_int) ⟨by omega, by simp; omega, by omega, c1.full⟩)) rfl

abbrev st_least_size : Stmt := topS 45
def S_least_size : Sc := ⟨["table", "width", "plain"], [true, true, true], [true, true, true], ["len", "least_routes"], defScope st_least_size⟩
abbrev SP_least_size (A : Addr) (D : Nat) : FS := FS.fn3 (rTab A) rNI sB (fun rs m _ => TabPre rs ∧ 1 ≤ m ∧ m ≤ 64 ∧ m + 1 < D) fun rs m b => sI ((leastL rs m b).length : Nat)
theorem ok_least_size (D_least_size : Dfn K mg "least_size" st_least_size ["table", "width", "plain"]) (m_len : mg "len" = none) (h_least_routes : ∀ D, Cal Pg w K mg base (D + D + 5) "least_routes" (SP_least_routes A_Table D)) (D : Nat) : Cal Pg w K mg base (D + D + 6) "least_size" (SP_least_size A_Table D) := by
  refine cal_of (Sx := S_least_size) (kL := D + D + 5) D_least_size ⟨rfl, rfl, rfl, by decide +kernel, rfl, by decide +kernel, by decide +kernel⟩ rfl (by decide +kernel) (fun _ => rfl) ?_
  rintro X F ⟨rs, m, b⟩ ⟨rfl, rfl, rfl, rfl, rfl, xf, hr, hp⟩ hpre
  exact db_retF (De.cast (de_callB xf 0 m_len (by decide +kernel) ca_lenL (da_cons (de_call3 (r1 := rTab A_Table) (r2 := rNI) (r3 := sB) (res := fun rs m b => rLs sR (leastL rs m b)) (v1 := rs) (v2 := m) (v3 := b) xf 1 (h_least_routes D) hr (de_var xf 0) (de_var xf 1) (de_var xf 2) hpre) da_nil)) (by rw [List.length_map])) rfl
end

end Law
/-! k04m -/
namespace Law
open PySem PySem.Spec L2 L3
/-! the plain law of k04: choices as values -/
abbrev VV := Int × List Int
def bi (b : Bool) : Int := if b then 1 else 0
theorem bi_t : bi true = 1 := rfl
theorem bi_f : bi false = 0 := rfl
def need (v : VV) (h : Int) : Int := v.1 + bi (!decide (h ∈ v.2))
def jV (a b : VV) : VV := if a.2.filter (fun h => decide (h ∈ b.2)) ≠ [] then (a.1 + b.1, a.2.filter fun h => decide (h ∈ b.2)) else (a.1 + b.1 + 1, srtI (a.2 ++ b.2.filter fun h => !decide (h ∈ a.2)))
theorem mem_inter {a b : List Int} {h : Int} : h ∈ a.filter (fun h => decide (h ∈ b)) ↔ h ∈ a ∧ h ∈ b := by simp
theorem mem_union {a b : List Int} {h : Int} : h ∈ srtI (a ++ b.filter fun h => !decide (h ∈ a)) ↔ h ∈ a ∨ h ∈ b := by
  rw [(srtI_perm _).mem_iff, List.mem_append, List.mem_filter]
  simp only [Bool.not_eq_true', decide_eq_false_iff_not]
  constructor
  · rintro (h | h)
    · exact .inl h
    · exact .inr h.1
  · rintro (h1 | h1)
    · exact .inl h1
    · by_cases h2 : h ∈ a
      · exact .inl h2
      · exact .inr ⟨h1, h2⟩
/-- the two ways of joining -/
theorem jV_cases (a b : VV) : (∃ h, h ∈ a.2 ∧ h ∈ b.2) ∧ (jV a b).1 = a.1 + b.1 ∧ (∀ h, h ∈ (jV a b).2 ↔ h ∈ a.2 ∧ h ∈ b.2) ∨ (¬ ∃ h, h ∈ a.2 ∧ h ∈ b.2) ∧ (jV a b).1 = a.1 + b.1 + 1 ∧ (∀ h, h ∈ (jV a b).2 ↔ h ∈ a.2 ∨ h ∈ b.2) := by
  unfold jV
  by_cases e : a.2.filter (fun h => decide (h ∈ b.2)) = []
  · rw [if_neg (by simpa using e)]
    refine .inr ⟨?_, rfl, fun h => mem_union⟩
    rintro ⟨h, h1⟩
    have := mem_inter.mpr h1
    rw [e] at this
    cases this
  · rw [if_pos e]
    refine .inl ⟨?_, rfl, fun h => mem_inter⟩
    obtain ⟨h, t, e2⟩ := List.exists_cons_of_ne_nil e
    have : h ∈ a.2.filter fun h => decide (h ∈ b.2) := by rw [e2]; exact List.mem_cons_self
    exact ⟨h, mem_inter.mp this⟩
theorem jV_need (a b : VV) (h : Int) : need a h + need b h - 1 ≤ need (jV a b) h ∧ need (jV a b) h ≤ need a h + need b h := by
  unfold need
  rcases jV_cases a b with ⟨_, e1, e2⟩ | ⟨e0, e1, e2⟩
  · rw [e1]
    by_cases h1 : h ∈ a.2 <;> by_cases h2 : h ∈ b.2 <;> simp [e2, h1, h2, bi] <;> omega
  · rw [e1]
    by_cases h1 : h ∈ a.2 <;> by_cases h2 : h ∈ b.2
    · exact absurd ⟨h, h1, h2⟩ e0
    all_goals simp [e2, h1, h2, bi] <;> omega
/-- at a hop of its own a joined choice needs nothing anew -/
theorem jV_own (a b : VV) {h : Int} (hh : h ∈ (jV a b).2) : need a h + need b h = (jV a b).1 := by
  unfold need
  rcases jV_cases a b with ⟨_, e1, e2⟩ | ⟨e0, e1, e2⟩
  · obtain ⟨h1, h2⟩ := (e2 h).mp hh
    rw [e1]
    simp [h1, h2, bi]
  · rw [e1]
    rcases (e2 h).mp hh with h1 | h1
    · have h2 : ¬ h ∈ b.2 := fun h2 => e0 ⟨h, h1, h2⟩
      simp [h1, h2, bi]
      omega
    · have h2 : ¬ h ∈ a.2 := fun h2 => e0 ⟨h, h2, h1⟩
      simp [h1, h2, bi]
      omega
theorem jV_ge (a b : VV) : a.1 + b.1 ≤ (jV a b).1 ∧ (jV a b).1 ≤ a.1 + b.1 + 1 := by
  rcases jV_cases a b with ⟨_, e1, _⟩ | ⟨_, e1, _⟩ <;> omega
theorem need_le (v : VV) (h : Int) : v.1 ≤ need v h ∧ need v h ≤ v.1 + 1 := by
  unfold need bi
  split <;> omega
theorem jV_zero (a b : VV) (ha : 0 ≤ a.1) (hb : 0 ≤ b.1) (h : Int) : need (jV a b) h = 0 ↔ need a h = 0 ∧ need b h = 0 := by
  have n1 := jV_need a b h
  have n2 := need_le a h
  have n3 := need_le b h
  have n4 := need_le (jV a b) h
  have n5 := jV_ge a b
  constructor
  · intro e
    have e1 : (jV a b).1 = 0 := by omega
    have e2 : h ∈ (jV a b).2 := by
      unfold need at e
      by_cases q : h ∈ (jV a b).2
      · exact q
      · simp [q, bi] at e
        omega
    have := jV_own a b e2
    omega
  · rintro ⟨e1, e2⟩
    omega
/-- one half led nowhere, all of it -/
theorem jV_right (a : VV) (h : Int) : need (jV a (0, [h])) h = need a h := by
  have n1 := jV_need a (0, [h]) h
  have z : need (0, [h]) h = 0 := by simp [need, bi]
  rw [z] at n1
  rcases jV_cases a (0, [h]) with ⟨⟨x, h1, h2⟩, e1, e2⟩ | ⟨e0, e1, e2⟩
  · have h2 : x = h := by simpa using h2
    subst h2
    unfold need
    rw [e1]
    simp [e2, h1]
  · have h1 : ¬ h ∈ a.2 := fun h1 => e0 ⟨h, h1, by simp⟩
    unfold need
    rw [e1]
    simp [e2, h1, bi]
theorem jV_left (a : VV) (h : Int) : need (jV (0, [h]) a) h = need a h := by
  have n1 := jV_need (0, [h]) a h
  have z : need (0, [h]) h = 0 := by simp [need, bi]
  rcases jV_cases (0, [h]) a with ⟨⟨x, h1, h2⟩, e1, e2⟩ | ⟨e0, e1, e2⟩
  · have h1 : x = h := by simpa using h1
    subst h1
    unfold need
    rw [e1]
    simp [e2, h2]
  · have h1 : ¬ h ∈ a.2 := fun h1 => e0 ⟨h, by simp, h1⟩
    unfold need
    rw [e1]
    simp [e2, h1, bi]
theorem jV_same (h : Int) : jV (0, [h]) (0, [h]) = (0, [h]) := by simp [jV]

/-! choices built by leaf and joined -/
inductive Bu : Ch → Prop
  | leaf (h : Int) : Bu (leafC (some [h]))
  | join {a b : Ch} : Bu a → Bu b → Bu (joinedC a b none)
def vC (c : Ch) : VV := (c.size, c.hops.getD [])
theorem Bu.hops {c : Ch} (h : Bu c) : ∃ x, c.hops = some x ∧ x ≠ [] := by
  induction h with
  | leaf h => exact ⟨[h], rfl, by simp⟩
  | @join a b _ _ iha ihb =>
    obtain ⟨x, ex, nx⟩ := iha
    obtain ⟨y, ey, ny⟩ := ihb
    unfold joinedC
    rw [ex, ey, commonI_none, commonI_none]
    split
    · rename_i h
      exact ⟨_, rfl, fun e => h (by show some _ = _; rw [e])⟩
    · have hu : srtI (x ++ y.filter fun h => !decide (h ∈ x)) ≠ [] := fun e => by
        obtain ⟨z, hz⟩ := List.exists_mem_of_ne_nil x nx
        have : z ∈ srtI (x ++ y.filter fun h => !decide (h ∈ x)) := mem_union.mpr (.inl hz)
        rw [e] at this
        cases this
      rw [if_pos (show unitedI (some x) (some y) ≠ some [] from fun e => hu (Option.some.inj e))]
      exact ⟨_, rfl, hu⟩
theorem joinedC_eq {a b : Ch} {x y : List Int} (ex : a.hops = some x) (ey : b.hops = some y) (nx : x ≠ []) : joinedC a b none = if x.filter (fun h => decide (h ∈ y)) ≠ [] then .node (a.size + b.size) (some (x.filter fun h => decide (h ∈ y))) a b else .node (a.size + b.size + 1) (some (srtI (x ++ y.filter fun h => !decide (h ∈ x)))) a b := by
  have hu : srtI (x ++ y.filter fun h => !decide (h ∈ x)) ≠ [] := fun e => by
    obtain ⟨z, hz⟩ := List.exists_mem_of_ne_nil x nx
    have : z ∈ srtI (x ++ y.filter fun h => !decide (h ∈ x)) := mem_union.mpr (.inl hz)
    rw [e] at this
    cases this
  unfold joinedC
  rw [ex, ey, commonI_none, commonI_none]
  by_cases e : x.filter (fun h => decide (h ∈ y)) = []
  · rw [if_neg (fun h : ¬ (x.filter (fun h => decide (h ∈ y)) = []) => h e), if_neg (show ¬ commonI (some x) (some y) ≠ some [] from fun h => h (by show some _ = _; rw [e])), if_pos (show unitedI (some x) (some y) ≠ some [] from fun e => hu (Option.some.inj e))]
    rfl
  · rw [if_pos (show x.filter (fun h => decide (h ∈ y)) ≠ [] from e), if_pos (show commonI (some x) (some y) ≠ some [] from fun h => e (Option.some.inj h))]
    rfl
theorem vC_join {a b : Ch} (ha : Bu a) (hb : Bu b) : vC (joinedC a b none) = jV (vC a) (vC b) ∧ ∃ s h, joinedC a b none = .node s h a b := by
  refine ⟨?_, joinedC_node a b none⟩
  obtain ⟨x, ex, nx⟩ := ha.hops
  obtain ⟨y, ey, ny⟩ := hb.hops
  have va : vC a = (a.size, x) := by simp [vC, ex]
  have vb : vC b = (b.size, y) := by simp [vC, ey]
  rw [joinedC_eq ex ey nx, va, vb]
  unfold jV
  show vC (if x.filter (fun h => decide (h ∈ y)) ≠ [] then _ else _) = if x.filter (fun h => decide (h ∈ y)) ≠ [] then _ else _
  split <;> rfl
theorem allows_need {c : Ch} (h : Bu c) (k : Int) : c.allows k = decide (k ∈ (vC c).2) := by
  obtain ⟨x, ex, nx⟩ := h.hops
  simp [Ch.allows, vC, ex]
theorem first_mem {c : Ch} (h : Bu c) : c.first ∈ (vC c).2 := by
  obtain ⟨x, ex, nx⟩ := h.hops
  cases x with
  | nil => exact absurd rfl nx
  | cons z r => simp [Ch.first, vC, ex]
theorem pick_len {c : Ch} (hc : Bu c) : ∀ (p : Bits) (h : Int), ((pickL c p h).length : Int) = need (vC c) h := by
  induction hc with
  | leaf z =>
    intro p h
    unfold pickL leafC
    by_cases e : h = z
    · simp [Ch.allows, Ch.hops, need, vC, Ch.size, bi, e]
    · simp [Ch.allows, Ch.hops, need, vC, Ch.size, bi, e]
  | @join a b ha hb iha ihb =>
    intro p h
    have hB := Bu.join ha hb
    have e1 := allows_need hB h
    have e2 := first_mem hB
    obtain ⟨ev, s, hs, ej⟩ := vC_join ha hb
    have own := fun k hk => jV_own (vC a) (vC b) (h := k) hk
    rw [ev] at e1 e2
    rw [ev, ej]
    rw [ej] at e1 e2
    unfold pickL
    by_cases q : (Ch.node s hs a b).allows h = true
    · have hm : h ∈ (jV (vC a) (vC b)).2 := by rw [q] at e1; exact of_decide_eq_true e1.symm
      have := own h hm
      simp only [q, if_true, List.nil_append, List.length_append, Int.natCast_add, iha, ihb]
      rw [this]
      simp [need, hm, bi]
    · have q : (Ch.node s hs a b).allows h = false := by simpa using q
      have hm : ¬ h ∈ (jV (vC a) (vC b)).2 := by rw [q] at e1; exact of_decide_eq_false e1.symm
      have := own _ e2
      simp only [q, if_false, Bool.false_eq_true, List.length_append, List.length_singleton, Int.natCast_add, iha, ihb]
      unfold need
      rw [← this]
      simp [hm, bi, need]
      omega

end Law
/-! k04n -/
namespace Law
open PySem PySem.Spec L2 L3
/-! values by the told function -/
abbrev Fn := Bits → Option Int
def sub (f : Fn) (b : Bool) : Fn := fun q => f (b :: q)
def val : Nat → Fn → Int → VV
  | 0, f, h => (0, [(f []).getD h])
  | d + 1, f, h => jV (val d (sub f false) ((f []).getD h)) (val d (sub f true) ((f []).getD h))
def none0 : Fn := fun _ => none
theorem val_none : ∀ (d : Nat) (h : Int), val d none0 h = (0, [h])
  | 0, h => rfl
  | d + 1, h => by
    show jV (val d none0 h) (val d none0 h) = _
    rw [val_none d h, jV_same]
theorem val_root {d : Nat} {f g : Fn} {h k : Int} (h0 : (f []).getD h = (g []).getD k) (hn : ∀ q, q ≠ [] → f q = g q) : val d f h = val d g k := by
  cases d with
  | zero => show (0, [_]) = (0, [_]); rw [h0]
  | succ d =>
    have e : ∀ b, sub f b = sub g b := fun b => funext fun q => hn _ (by simp)
    show jV _ _ = jV _ _
    rw [h0, e, e]
theorem val_const {d : Nat} {f : Fn} {h : Int} (hn : ∀ q, q ≠ [] → f q = none) : val d f h = (0, [(f []).getD h]) := by
  rw [val_root (g := none0) (k := (f []).getD h) (by rfl) hn, val_none]
theorem val_nn : ∀ (d : Nat) (f : Fn) (h : Int), 0 ≤ (val d f h).1
  | 0, f, h => Int.le_refl _
  | d + 1, f, h => by
    have h1 := val_nn d (sub f false) ((f []).getD h)
    have h2 := val_nn d (sub f true) ((f []).getD h)
    have h3 := jV_ge (val d (sub f false) ((f []).getD h)) (val d (sub f true) ((f []).getD h))
    show 0 ≤ (jV _ _).1
    omega
theorem need_nn (d : Nat) (f : Fn) (h k : Int) : 0 ≤ need (val d f h) k := by
  have := val_nn d f h
  have := need_le (val d f h) k
  omega
def look : Tr Int → Fn
  | .nil, _ => none
  | .node v _ _, [] => v
  | .node _ l _, false :: p => look l p
  | .node _ _ q, true :: p => look q p
theorem look_nil : look .nil = none0 := funext fun _ => by rw [look]; rfl
theorem look_lo (v : Option Int) (l q : Tr Int) : sub (look (.node v l q)) false = look l := funext fun p => by show look (.node v l q) (false :: p) = _; rw [look]
theorem look_hi (v : Option Int) (l q : Tr Int) : sub (look (.node v l q)) true = look q := funext fun p => by show look (.node v l q) (true :: p) = _; rw [look]
theorem look_root (v : Option Int) (l q : Tr Int) : look (.node v l q) [] = v := by rw [look]
theorem even_node {v : Option Int} {l q : Tr Int} (h : (Tr.node v l q).even = true) : l = .nil ∧ q = .nil := by
  cases l with
  | nil => cases q with
    | nil => exact ⟨rfl, rfl⟩
    | node => cases h
  | node => cases h
theorem even_look {v : Option Int} {l q : Tr Int} (h : (Tr.node v l q).even = true) : ∀ p, p ≠ [] → look (.node v l q) p = none := by
  obtain ⟨rfl, rfl⟩ := even_node h
  intro p hp
  cases p with
  | nil => exact absurd rfl hp
  | cons b p => cases b <;> simp [look]
theorem chF_val : ∀ (t : Tr Int) (d : Nat) (h : Int), t.depth ≤ d + 1 → Bu (chF t h) ∧ vC (chF t h) = val d (look t) h
  | .nil, d, h, _ => by
    rw [chF, look_nil, val_none]
    exact ⟨.leaf h, rfl⟩
  | .node v l q, d, h, hd => by
    rw [chF]
    split
    · rename_i e
      rw [val_const (even_look e), look_root]
      exact ⟨.leaf _, rfl⟩
    · rename_i e
      have := even_dep e
      simp only [Tr.depth] at hd
      obtain ⟨d, rfl⟩ : ∃ d', d = d' + 1 := ⟨d - 1, by omega⟩
      obtain ⟨a1, a2⟩ := chF_val l d (v.getD h) (by omega)
      obtain ⟨b1, b2⟩ := chF_val q d (v.getD h) (by omega)
      refine ⟨.join a1 b1, ?_⟩
      rw [(vC_join a1 b1).1, a2, b2]
      show _ = jV (val d (sub _ false) _) (val d (sub _ true) _)
      rw [look_lo, look_hi, look_root]
theorem chF_len {t : Tr Int} {d : Nat} (hd : t.depth ≤ d + 1) (h : Int) (p : Bits) (k : Int) : ((pickL (chF t h) p k).length : Int) = need (val d (look t) h) k := by
  obtain ⟨h1, h2⟩ := chF_val t d h hd
  rw [pick_len h1, h2]

/-! plain ones -/
def cov : Nat → Fn → Int → Bool
  | 0, f, h => !decide ((f []).getD h = -1)
  | d + 1, f, h => cov d (sub f false) ((f []).getD h) && cov d (sub f true) ((f []).getD h)
def pl : Nat → Fn → Int → Int
  | 0, f, h => if cov 0 f h = true then need (val 0 f h) (-1) else 0
  | d + 1, f, h => if cov (d + 1) f h = true then need (val (d + 1) f h) (-1) else pl d (sub f false) ((f []).getD h) + pl d (sub f true) ((f []).getD h)
theorem cov_root {d : Nat} {f g : Fn} {h k : Int} (h0 : (f []).getD h = (g []).getD k) (hn : ∀ q, q ≠ [] → f q = g q) : cov d f h = cov d g k := by
  cases d with
  | zero => show (!decide _) = (!decide _); rw [h0]
  | succ d =>
    have e : ∀ b, sub f b = sub g b := fun b => funext fun q => hn _ (by simp)
    show (_ && _) = (_ && _)
    rw [h0, e, e]
theorem pl_root {d : Nat} {f g : Fn} {h k : Int} (h0 : (f []).getD h = (g []).getD k) (hn : ∀ q, q ≠ [] → f q = g q) : pl d f h = pl d g k := by
  have e : ∀ b, sub f b = sub g b := fun b => funext fun q => hn _ (by simp)
  cases d with
  | zero => rw [pl, pl, cov_root h0 hn, val_root h0 hn]
  | succ d => rw [pl, pl, cov_root h0 hn, val_root h0 hn, h0, e, e]
theorem cov_none : ∀ (d : Nat) (h : Int), cov d none0 h = !decide (h = -1)
  | 0, h => rfl
  | d + 1, h => by
    show (cov d none0 h && cov d none0 h) = _
    rw [cov_none d h, Bool.and_self]
theorem pl_none : ∀ (d : Nat) (h : Int), pl d none0 h = if h = -1 then 0 else 1
  | 0, h => by
    rw [pl, cov_none, val_none]
    by_cases e : h = -1 <;> simp [e, need, bi]
    omega
  | d + 1, h => by
    have ih : pl d (sub none0 false) ((none0 []).getD h) = if h = -1 then 0 else 1 := pl_none d h
    have ih2 : pl d (sub none0 true) ((none0 []).getD h) = if h = -1 then 0 else 1 := pl_none d h
    rw [pl, cov_none, val_none, ih, ih2]
    by_cases e : h = -1 <;> simp [e, need, bi]
    omega
theorem tip_pl (h : Int) (p : Bits) : ((prL (tipP h) p).length : Int) = if h = -1 then 0 else 1 := by
  unfold tipP
  by_cases e : h = -1
  · simp [e, prL]
  · rw [if_neg e, if_neg e]
    show (((pickL (leafC (some [h])) p (-1)).length : Nat) : Int) = 1
    rw [pick_len (.leaf h)]
    simp [need, vC, leafC, Ch.size, Ch.hops, bi]
    omega
theorem ptF_val : ∀ (t : Tr Int) (d : Nat) (h : Int), t.depth ≤ d + 1 → (ptF t h).ch = (if cov d (look t) h = true then some (chF t h) else none) ∧ ∀ p, ((prL (ptF t h) p).length : Int) = pl d (look t) h
  | .nil, d, h, _ => by
    rw [ptF, look_nil, cov_none, pl_none]
    refine ⟨?_, tip_pl h⟩
    unfold tipP
    rw [chF]
    by_cases e : h = -1 <;> simp [e, Pt.ch]
  | .node v l q, d, h, hd => by
    rw [ptF]
    split
    · rename_i e
      have hc : chF (.node v l q) h = leafC (some [v.getD h]) := by rw [chF, if_pos e]
      have e0 : (look (.node v l q) []).getD h = (none0 []).getD (v.getD h) := by rw [look_root]; rfl
      rw [hc, cov_root e0 (even_look e), pl_root e0 (even_look e), cov_none, pl_none]
      refine ⟨?_, tip_pl _⟩
      unfold tipP
      by_cases e : v.getD h = -1 <;> simp [e, Pt.ch]
    · rename_i e
      have := even_dep e
      simp only [Tr.depth] at hd
      obtain ⟨d, rfl⟩ : ∃ d', d = d' + 1 := ⟨d - 1, by omega⟩
      obtain ⟨a1, a2⟩ := ptF_val l d (v.getD h) (by omega)
      obtain ⟨b1, b2⟩ := ptF_val q d (v.getD h) (by omega)
      have hc : chF (.node v l q) h = joinedC (chF l (v.getD h)) (chF q (v.getD h)) none := by rw [chF, if_neg e]
      have hl := chF_len (t := .node v l q) (d := d + 1) (by simp only [Tr.depth]; omega) h
      have ecov : cov (d + 1) (look (.node v l q)) h = (cov d (look l) (v.getD h) && cov d (look q) (v.getD h)) := by
        show (cov d (sub _ false) _ && cov d (sub _ true) _) = _
        rw [look_lo, look_hi, look_root]
      rw [pl, ecov, look_lo, look_hi, look_root]
      rw [hc] at hl
      cases ca : cov d (look l) (v.getD h) with
      | false =>
        rw [ca] at a1
        have a1 : (ptF l (v.getD h)).ch = none := a1
        have hf : forkP (ptF l (v.getD h)) (ptF q (v.getD h)) = .fork none (ptF l (v.getD h)) (ptF q (v.getD h)) := by unfold forkP; rw [a1]
        rw [hf]
        refine ⟨rfl, fun p => ?_⟩
        show (((prL (ptF l (v.getD h)) (p ++ [false]) ++ prL (ptF q (v.getD h)) (p ++ [true])).length : Nat) : Int) = _
        rw [List.length_append, Int.natCast_add, a2, b2]
        rfl
      | true =>
        rw [ca] at a1
        have a1 : (ptF l (v.getD h)).ch = some _ := a1
        cases cb : cov d (look q) (v.getD h) with
        | false =>
          rw [cb] at b1
          have b1 : (ptF q (v.getD h)).ch = none := b1
          have hf : forkP (ptF l (v.getD h)) (ptF q (v.getD h)) = .fork none (ptF l (v.getD h)) (ptF q (v.getD h)) := by unfold forkP; rw [a1, b1]
          rw [hf]
          refine ⟨rfl, fun p => ?_⟩
          show (((prL (ptF l (v.getD h)) (p ++ [false]) ++ prL (ptF q (v.getD h)) (p ++ [true])).length : Nat) : Int) = _
          rw [List.length_append, Int.natCast_add, a2, b2]
          rfl
        | true =>
          rw [cb] at b1
          have b1 : (ptF q (v.getD h)).ch = some _ := b1
          have hf : forkP (ptF l (v.getD h)) (ptF q (v.getD h)) = .fork (some (joinedC (chF l (v.getD h)) (chF q (v.getD h)) none)) (ptF l (v.getD h)) (ptF q (v.getD h)) := by unfold forkP; rw [a1, b1]
          rw [hf, hc]
          exact ⟨rfl, fun p => hl p (-1)⟩
theorem many_le_pl : ∀ (d : Nat) (f : Fn) (h : Int), need (val d f h) (-1) ≤ pl d f h
  | 0, f, h => by
    rw [pl]
    split
    · exact Int.le_refl _
    · rename_i e
      have e : (f []).getD h = -1 := by simpa [cov] using e
      show need (0, [(f []).getD h]) (-1) ≤ 0
      rw [e]
      simp [need, bi]
  | d + 1, f, h => by
    rw [pl]
    split
    · exact Int.le_refl _
    · have h1 := many_le_pl d (sub f false) ((f []).getD h)
      have h2 := many_le_pl d (sub f true) ((f []).getD h)
      have h3 := (jV_need (val d (sub f false) ((f []).getD h)) (val d (sub f true) ((f []).getD h)) (-1)).2
      show need (jV _ _) (-1) ≤ _
      omega
theorem pl_split (d : Nat) (f : Fn) (h : Int) : pl (d + 1) f h ≤ pl d (sub f false) ((f []).getD h) + pl d (sub f true) ((f []).getD h) := by
  rw [pl]
  split
  · have h1 := many_le_pl d (sub f false) ((f []).getD h)
    have h2 := many_le_pl d (sub f true) ((f []).getD h)
    have h3 := (jV_need (val d (sub f false) ((f []).getD h)) (val d (sub f true) ((f []).getD h)) (-1)).2
    show need (jV _ _) (-1) ≤ _
    omega
  · exact Int.le_refl _
theorem pl_nn (d : Nat) (f : Fn) (h : Int) : 0 ≤ pl d f h := Int.le_trans (need_nn d f h (-1)) (many_le_pl d f h)
theorem need_zero (d : Nat) (f : Fn) (h : Int) : need (val (d + 1) f h) (-1) = 0 ↔ need (val d (sub f false) ((f []).getD h)) (-1) = 0 ∧ need (val d (sub f true) ((f []).getD h)) (-1) = 0 :=
  jV_zero _ _ (val_nn _ _ _) (val_nn _ _ _) (-1)
theorem pl_zero : ∀ (d : Nat) (f : Fn) (h : Int), need (val d f h) (-1) = 0 → pl d f h = 0
  | 0, f, h, e => by
    rw [pl]
    split
    · exact e
    · rfl
  | d + 1, f, h, e => by
    obtain ⟨e1, e2⟩ := (need_zero d f h).mp e
    have h1 := pl_zero d _ _ e1
    have h2 := pl_zero d _ _ e2
    have h3 := pl_split d f h
    have h4 := pl_nn (d + 1) f h
    omega
/-! what is led nowhere -/
def cl : Nat → Fn → Int → Int
  | 0, f, h => if (f []).getD h = -1 then 1 else 0
  | d + 1, f, h => cl d (sub f false) ((f []).getD h) + cl d (sub f true) ((f []).getD h)
theorem cl_root {d : Nat} {f g : Fn} {h k : Int} (h0 : (f []).getD h = (g []).getD k) (hn : ∀ q, q ≠ [] → f q = g q) : cl d f h = cl d g k := by
  cases d with
  | zero => show (if _ then _ else _) = (if _ then _ else _); rw [h0]
  | succ d =>
    have e : ∀ b, sub f b = sub g b := fun b => funext fun q => hn _ (by simp)
    show _ + _ = _ + _
    rw [h0, e, e]
theorem cl_none : ∀ (d : Nat) (h : Int), cl d none0 h = if h = -1 then 2 ^ d else 0
  | 0, h => by by_cases e : h = -1 <;> simp [cl, none0, e]
  | d + 1, h => by
    show cl d none0 h + cl d none0 h = _
    rw [cl_none d h]
    split <;> omega
theorem cl_le : ∀ (d : Nat) (f : Fn) (h : Int), 0 ≤ cl d f h ∧ cl d f h ≤ 2 ^ d
  | 0, f, h => by
    rw [cl]
    split <;> simp
  | d + 1, f, h => by
    have h1 := cl_le d (sub f false) ((f []).getD h)
    have h2 := cl_le d (sub f true) ((f []).getD h)
    rw [cl]
    omega
theorem cl_full : ∀ (d : Nat) (f : Fn) (h : Int), need (val d f h) (-1) = 0 ↔ cl d f h = 2 ^ d
  | 0, f, h => by
    show need (0, [(f []).getD h]) (-1) = 0 ↔ (if (f []).getD h = -1 then (1 : Int) else 0) = 2 ^ 0
    by_cases e : (f []).getD h = -1
    · simp [e, need, bi]
    · have : ¬ (-1 : Int) = (f []).getD h := fun q => e q.symm
      simp [e, this, need, bi]
  | d + 1, f, h => by
    rw [need_zero, cl_full d, cl_full d]
    have h1 := cl_le d (sub f false) ((f []).getD h)
    have h2 := cl_le d (sub f true) ((f []).getD h)
    show _ ↔ cl d (sub f false) ((f []).getD h) + cl d (sub f true) ((f []).getD h) = 2 ^ (d + 1)
    omega
theorem cntF_app (a b : List Rt) (m : Nat) (h : Int) : cntF (a ++ b) m h = cntF a m h + cntF b m h := by
  unfold cntF
  rw [List.filter_append, List.map_append, List.sum_append]
theorem cntF_one (p : Bits) (x : Int) (m : Nat) (h : Int) : cntF [(p, x)] m h = if x = h then 2 ^ (m - p.length) else 0 := by
  unfold cntF
  by_cases e : x = h
  · have : ((m : Int) - (p.length : Int)).toNat = m - p.length := by omega
    simp [e, this]
  · simp [e]
theorem regL_cl : ∀ (t : Tr Int) (d : Nat) (h : Int) (p : Bits) (m : Nat), t.depth ≤ d + 1 → m = p.length + d → cntF (regL t h p) m (-1) = cl d (look t) h
  | .nil, d, h, p, m, _, hm => by
    rw [regL, look_nil, cl_none, cntF_one]
    rw [show m - p.length = d by omega]
  | .node v l q, d, h, p, m, hd, hm => by
    rw [regL]
    split
    · rename_i e
      have e0 : (look (.node v l q) []).getD h = (none0 []).getD (v.getD h) := by rw [look_root]; rfl
      rw [cl_root e0 (even_look e), cl_none, cntF_one]
      rw [show m - p.length = d by omega]
    · rename_i e
      have := even_dep e
      simp only [Tr.depth] at hd
      obtain ⟨d, rfl⟩ : ∃ d', d = d' + 1 := ⟨d - 1, by omega⟩
      rw [cntF_app, regL_cl l d (v.getD h) (p ++ [false]) m (by omega) (by simp; omega), regL_cl q d (v.getD h) (p ++ [true]) m (by omega) (by simp; omega)]
      show _ = cl d (sub _ false) _ + cl d (sub _ true) _
      rw [look_lo, look_hi, look_root]

end Law
/-! k04d -/
namespace Law
open PySem PySem.Spec L2 L3
/-! law k04 -/
def hop0 (rs : List Rt) : Int := match rs.find? fun x => decide (x.1 = []) with
  | some x => x.2
  | none => -1
def foundL (rs : List Rt) (b : Bool) : List Rt := rs.filter fun x => decide (x.1.take 1 = [b])
def halfL (rs : List Rt) (b : Bool) : List Rt := if (foundL rs b).filter (fun x => decide (x.1 = [b])) ≠ [] then foundL rs b else ([b], hop0 rs) :: foundL rs b
def laterL (rs : List Rt) (p : Bits) (h : Int) : List Rt := rs.filter (fun x => !decide (x.1 = p)) ++ [(p, h)]
def nearL (rs : List Rt) (p : Bits) (w : Nat) : List Rt := rs.filter fun x => p.isPrefixOf x.1 && (!decide (x.1 = p) && decide ((x.1.length : Int) ≤ (w : Int)))
def sz (rs : List Rt) (w : Nat) (b : Bool) : Int := ((leastL rs w b).length : Nat)
def cnt0 (rs : List Rt) (w : Nat) : Int := cntF (regL (tabT rs w) (-1) []) w (-1)
theorem hop0_val (rs : List Rt) (nd : (rs.map Prod.fst).Nodup) : (valA (kvP sI rs) (.inr (bs []))).getD (sI (-1)) = sI (hop0 rs) := by
  unfold hop0
  cases e : rs.find? fun x => decide (x.1 = []) with
  | none =>
    have h : ([] : Bits) ∉ rs.map Prod.fst := fun h => by
      obtain ⟨z, hz, hz2⟩ := List.mem_map.mp h
      have := List.find?_eq_none.mp e z hz
      exact this (by simpa using hz2)
    rw [valP_none h]
    rfl
  | some x =>
    have h1 := List.find?_some e
    have h2 := List.mem_of_find?_eq_some e
    have h1 : x.1 = [] := by simpa using h1
    obtain ⟨p, i⟩ := x
    have h1 : p = [] := h1
    subst h1
    rw [valP_some nd h2]
    rfl
/-- what the law leans on -/
structure K4 (rs : List Rt) (w : Nat) (p : Bits) (h : Int) : Prop where
  pa : TabPre (halfL rs false)
  pb : TabPre (halfL rs true)
  a1 : sz (halfL rs false) w false + sz (halfL rs true) w false - 1 ≤ sz rs w false
  a2 : sz rs w false ≤ sz (halfL rs false) w false + sz (halfL rs true) w false
  a3 : sz (halfL rs false) w false ≤ sz rs w false + 1
  a4 : sz (halfL rs true) w false ≤ sz rs w false + 1
  b1 : sz rs w false ≤ sz rs w true
  b2 : sz rs w true ≤ sz (halfL rs false) w true + sz (halfL rs true) w true
  b3 : sz rs w false = 0 ↔ cnt0 rs w = 2 ^ w
  c1 : sz rs w true = 0 ↔ sz rs w false = 0
  lp : TabPre (laterL rs p h)
  l1 : sz (laterL rs p h) w false ≤ sz rs w false + ((nearL rs p w).length : Nat) + 2 + (p.length : Nat)
  sp : TabPre [(p, h)]
  s1 : sz [(p, h)] w false = if h = -1 then 0 else 1

end Law
/-! k04o -/
namespace Law
open PySem PySem.Spec L2 L3
/-! the told function of a table -/
theorem look_put (v : Int) : ∀ (p : Bits) (t : Tr Int) (q : Bits), look (t.put p v) q = if q = p then some v else look t q
  | [], .nil, q => by
    cases q with
    | nil => simp [Tr.put, look]
    | cons b q => cases b <;> simp [Tr.put, look]
  | [], .node u l r, q => by
    cases q with
    | nil => simp [Tr.put, look]
    | cons b q => cases b <;> simp [Tr.put, look]
  | b :: p, .nil, q => by
    have ih := look_put v p .nil
    cases q with
    | nil => cases b <;> simp [Tr.put, look]
    | cons c q =>
      have ih := ih q
      rw [look] at ih
      cases b <;> cases c <;> simp [Tr.put, look, ih]
  | b :: p, .node u l r, q => by
    have ih1 := look_put v p l
    have ih2 := look_put v p r
    cases q with
    | nil => cases b <;> simp [Tr.put, look]
    | cons c q =>
      have ih1 := ih1 q
      have ih2 := ih2 q
      cases b <;> cases c <;> simp [Tr.put, look, ih1, ih2]
theorem look_fold : ∀ (l : List Rt) (t : Tr Int) (q : Bits), (l.map Prod.fst).Nodup → look (l.foldl (fun t x => t.put x.1 x.2) t) q = match l.find? fun x => decide (x.1 = q) with
    | some x => some x.2
    | none => look t q
  | [], t, q, _ => rfl
  | x :: l, t, q, nd => by
    obtain ⟨n1, n2⟩ := List.nodup_cons.mp (show (x.1 :: l.map Prod.fst).Nodup from nd)
    rw [List.foldl_cons, look_fold l _ q n2, List.find?_cons]
    by_cases e : x.1 = q
    · have : l.find? (fun x => decide (x.1 = q)) = none := by
        rw [List.find?_eq_none]
        intro z hz hq
        have hq : z.1 = q := by simpa using hq
        exact n1 (List.mem_map.mpr ⟨z, hz, by rw [hq, e]⟩)
      rw [this]
      simp only [e, decide_true]
      rw [look_put]
      simp [e]
    · simp only [e, decide_false]
      cases l.find? fun x => decide (x.1 = q) with
      | some z => rfl
      | none =>
        show look (t.put x.1 x.2) q = look t q
        rw [look_put, if_neg fun h => e h.symm]
theorem find_iff {l : List Rt} (nd : (l.map Prod.fst).Nodup) (q : Bits) (v : Int) : (match l.find? fun x => decide (x.1 = q) with
    | some x => some x.2
    | none => none) = some v ↔ (q, v) ∈ l := by
  induction l with
  | nil => simp
  | cons x l ih =>
    obtain ⟨n1, n2⟩ := List.nodup_cons.mp (show (x.1 :: l.map Prod.fst).Nodup from nd)
    rw [List.find?_cons]
    by_cases e : x.1 = q
    · simp only [e, decide_true]
      constructor
      · intro h
        have h := Option.some.inj h
        obtain ⟨a, b⟩ := x
        have e : a = q := e
        have h : b = v := h
        rw [e, h]
        exact List.mem_cons_self
      · intro h
        rcases List.mem_cons.mp h with h | h
        · rw [← h]
        · exact absurd (List.mem_map.mpr ⟨(q, v), h, rfl⟩) (by rw [← e]; exact n1)
    · simp only [e, decide_false]
      rw [ih n2]
      constructor
      · exact fun h => List.mem_cons_of_mem _ h
      · intro h
        rcases List.mem_cons.mp h with h | h
        · exact absurd (by rw [← h]) e
        · exact h
def FF (rs : List Rt) (m : Nat) : Fn := look (tabT rs m)
theorem FF_iff {rs : List Rt} (nd : (rs.map Prod.fst).Nodup) (m : Nat) (q : Bits) (v : Int) : FF rs m q = some v ↔ (q, v) ∈ rs ∧ q.length ≤ m := by
  have nd2 : ((srtR rs).map Prod.fst).Nodup := ((srtR_perm rs).map Prod.fst).nodup_iff.mpr nd
  have nd3 : (((srtR rs).filter fun q => decide ((q.1.length : Int) ≤ (m : Int))).map Prod.fst).Nodup := nd2.sublist (List.filter_sublist.map _)
  unfold FF tabT trieOf
  rw [look_fold _ _ _ nd3]
  have e : look (.node none .nil .nil) q = none := by
    cases q with
    | nil => rfl
    | cons b q => cases b <;> simp [look]
  rw [e, find_iff nd3, List.mem_filter, (srtR_perm rs).mem_iff]
  simp
theorem FF_none {rs : List Rt} (nd : (rs.map Prod.fst).Nodup) {m : Nat} {q : Bits} (h : ∀ v, (q, v) ∈ rs → ¬ q.length ≤ m) : FF rs m q = none := by
  cases e : FF rs m q with
  | none => rfl
  | some v =>
    obtain ⟨h1, h2⟩ := (FF_iff nd m q v).mp e
    exact absurd h2 (h v h1)
theorem FF_eq {rs ss : List Rt} (nd : (rs.map Prod.fst).Nodup) (nd' : (ss.map Prod.fst).Nodup) {m : Nat} {q : Bits} (h : ∀ v, (q, v) ∈ rs ↔ (q, v) ∈ ss) : FF rs m q = FF ss m q := by
  refine Option.ext fun v => ?_
  rw [FF_iff nd, FF_iff nd', h]
theorem sz_many {rs : List Rt} (tp : TabPre rs) {w : Nat} (hw : w ≤ 64) : sz rs w false = need (val w (FF rs w) (-1)) (-1) := by
  obtain ⟨_, h2, _⟩ := tabT_ok tp (show w ≤ 98 by omega)
  exact chF_len h2 (-1) [] (-1)
theorem sz_plain {rs : List Rt} (tp : TabPre rs) {w : Nat} (hw : w ≤ 64) : sz rs w true = pl w (FF rs w) (-1) := by
  obtain ⟨_, h2, _⟩ := tabT_ok tp (show w ≤ 98 by omega)
  exact (ptF_val _ _ (-1) h2).2 []
theorem cnt_cl {rs : List Rt} (tp : TabPre rs) {w : Nat} (hw : w ≤ 64) : cnt0 rs w = cl w (FF rs w) (-1) := by
  obtain ⟨_, h2, _⟩ := tabT_ok tp (show w ≤ 98 by omega)
  exact regL_cl _ _ (-1) [] w h2 (by simp)
/-! the halves -/
theorem hop0_FF {rs : List Rt} (nd : (rs.map Prod.fst).Nodup) (w : Nat) : (FF rs w []).getD (-1) = hop0 rs := by
  unfold hop0
  cases e : rs.find? fun x => decide (x.1 = []) with
  | none =>
    have := FF_none (m := w) (q := []) nd fun v hv => by
      have := List.find?_eq_none.mp e _ hv
      simp at this
    rw [this]
    rfl
  | some x =>
    have h1 := List.find?_some e
    have h2 := List.mem_of_find?_eq_some e
    have h1 : x.1 = [] := by simpa using h1
    obtain ⟨p, i⟩ := x
    have h1 : p = [] := h1
    subst h1
    rw [(FF_iff nd w [] i).mpr ⟨h2, Nat.zero_le _⟩]
    rfl
theorem hop0_in {rs : List Rt} (tp : TabPre rs) : -1 ≤ hop0 rs ∧ hop0 rs ≤ 999 := by
  unfold hop0
  cases e : rs.find? fun x => decide (x.1 = []) with
  | none => simp
  | some x => exact (tp.ok x (List.mem_of_find?_eq_some e)).2
theorem mem_found {rs : List Rt} {b : Bool} {x : Rt} : x ∈ foundL rs b ↔ x ∈ rs ∧ x.1.take 1 = [b] := by
  unfold foundL
  rw [List.mem_filter]
  simp
theorem half_cases (rs : List Rt) (b : Bool) : (halfL rs b = foundL rs b ∧ ∃ u, ([b], u) ∈ rs) ∨ (halfL rs b = ([b], hop0 rs) :: foundL rs b ∧ ∀ u, ([b], u) ∉ rs) := by
  unfold halfL
  by_cases e : (foundL rs b).filter (fun x => decide (x.1 = [b])) = []
  · rw [if_neg (fun h => h e)]
    refine .inr ⟨rfl, fun u hu => ?_⟩
    have : (([b], u) : Rt) ∈ (foundL rs b).filter fun x => decide (x.1 = [b]) := List.mem_filter.mpr ⟨mem_found.mpr ⟨hu, rfl⟩, by simp⟩
    rw [e] at this
    cases this
  · rw [if_pos e]
    obtain ⟨x, hx⟩ := List.exists_mem_of_ne_nil _ e
    obtain ⟨h1, h2⟩ := List.mem_filter.mp hx
    obtain ⟨q, u⟩ := x
    have h2 : q = [b] := by simpa using h2
    subst h2
    exact .inl ⟨rfl, u, (mem_found.mp h1).1⟩
theorem half_pre {rs : List Rt} (tp : TabPre rs) (hl : rs.length ≤ 399) (b : Bool) : TabPre (halfL rs b) := by
  have s1 : (foundL rs b).Sublist rs := List.filter_sublist
  have n1 : ((foundL rs b).map Prod.fst).Nodup := tp.nd.sublist (s1.map _)
  have l1 := s1.length_le
  have o1 : ∀ r ∈ foundL rs b, r.1.length ≤ 64 ∧ -1 ≤ r.2 ∧ r.2 ≤ 999 := fun r hr => tp.ok r (mem_found.mp hr).1
  rcases half_cases rs b with ⟨e, _⟩ | ⟨e, hn⟩
  · rw [e]
    exact ⟨n1, by omega, o1⟩
  · rw [e]
    refine ⟨?_, by rw [List.length_cons]; omega, fun r hr => ?_⟩
    · rw [List.map_cons, List.nodup_cons]
      refine ⟨fun h => ?_, n1⟩
      obtain ⟨z, hz, e2⟩ := List.mem_map.mp h
      obtain ⟨q, u⟩ := z
      have e2 : q = [b] := e2
      subst e2
      exact hn u (mem_found.mp hz).1
    · rcases List.mem_cons.mp hr with h | h
      · rw [h]
        exact ⟨by simp, hop0_in tp⟩
      · exact o1 r h
theorem half_nil {rs : List Rt} (tp : TabPre rs) (hl : rs.length ≤ 399) (b : Bool) (w : Nat) : FF (halfL rs b) w [] = none := by
  refine FF_none (half_pre tp hl b).nd fun v hv _ => ?_
  rcases half_cases rs b with ⟨e, _⟩ | ⟨e, _⟩ <;> rw [e] at hv
  · have := (mem_found.mp hv).2
    simp at this
  · rcases List.mem_cons.mp hv with h | h
    · cases h
    · have := (mem_found.mp h).2
      simp at this
theorem half_other {rs : List Rt} (tp : TabPre rs) (hl : rs.length ≤ 399) (b : Bool) (w : Nat) : sub (FF (halfL rs b) w) (!b) = none0 := by
  funext q
  show FF (halfL rs b) w ((!b) :: q) = none
  refine FF_none (half_pre tp hl b).nd fun v hv _ => ?_
  rcases half_cases rs b with ⟨e, _⟩ | ⟨e, _⟩ <;> rw [e] at hv
  · have := (mem_found.mp hv).2
    cases b <;> simp at this
  · rcases List.mem_cons.mp hv with h | h
    · have := (Prod.mk.inj h).1
      cases b <;> simp at this
    · have := (mem_found.mp h).2
      cases b <;> simp at this
theorem half_own {rs : List Rt} (tp : TabPre rs) (hl : rs.length ≤ 399) (b : Bool) (w : Nat) : (∀ q, q ≠ [] → sub (FF (halfL rs b) (w + 1)) b q = sub (FF rs (w + 1)) b q) ∧ (sub (FF (halfL rs b) (w + 1)) b []).getD (-1) = (sub (FF rs (w + 1)) b []).getD (hop0 rs) := by
  have np := (half_pre tp hl b).nd
  constructor
  · intro q hq
    refine FF_eq np tp.nd fun v => ?_
    rcases half_cases rs b with ⟨e, _⟩ | ⟨e, _⟩ <;> rw [e]
    · rw [mem_found]
      simp
    · rw [List.mem_cons, mem_found]
      constructor
      · rintro (h | h)
        · have := (Prod.mk.inj h).1
          simp at this
          exact absurd this hq
        · exact h.1
      · exact fun h => .inr ⟨h, rfl⟩
  · show (FF (halfL rs b) (w + 1) [b]).getD (-1) = (FF rs (w + 1) [b]).getD (hop0 rs)
    rcases half_cases rs b with ⟨e, u, hu⟩ | ⟨e, hn⟩
    · have h1 : ([b], u) ∈ halfL rs b := by rw [e]; exact mem_found.mpr ⟨hu, rfl⟩
      rw [(FF_iff np (w + 1) [b] u).mpr ⟨h1, by simp⟩, (FF_iff tp.nd (w + 1) [b] u).mpr ⟨hu, by simp⟩]
      rfl
    · have h1 : ([b], hop0 rs) ∈ halfL rs b := by rw [e]; exact List.mem_cons_self
      rw [(FF_iff np (w + 1) [b] (hop0 rs)).mpr ⟨h1, by simp⟩, FF_none tp.nd fun v hv => absurd hv (hn v)]
      rfl
/-! one more route -/
theorem val_later : ∀ (p : Bits) (d : Nat) (f g : Fn) (hop : Int) (N : Int), 0 ≤ N → p.length ≤ d → (∀ q, g q = if q = p then some hop else f q) → (∀ k, (val (d - p.length) (fun q => g (p ++ q)) k).1 ≤ N) → ∀ k, (val d g k).1 ≤ (val d f k).1 + N + p.length
  | [], d, f, g, hop, N, _, _, _, hN, k => by
    have h1 := hN k
    have h2 := val_nn d f k
    show (val d g k).1 ≤ (val d f k).1 + N + 0
    have h1 : (val d g k).1 ≤ N := h1
    omega
  | b :: p, 0, f, g, hop, N, _, hd, hg, hN, k => by simp at hd
  | b :: p, d + 1, f, g, hop, N, h0, hd, hg, hN, k => by
    have e0 : g [] = f [] := by rw [hg, if_neg (by simp)]
    have eo : sub g (!b) = sub f (!b) := funext fun q => by
      show g ((!b) :: q) = f ((!b) :: q)
      rw [hg, if_neg (by cases b <;> simp)]
    have hs : ∀ q, sub g b q = if q = p then some hop else sub f b q := fun q => by
      show g (b :: q) = _
      rw [hg]
      by_cases e : q = p
      · subst e; simp
      · rw [if_neg (by simp [e]), if_neg e]
        rfl
    have hd' : p.length ≤ d := by simpa using hd
    have hN' : ∀ k, (val (d - p.length) (fun q => sub g b (p ++ q)) k).1 ≤ N := fun k => by
      have := hN k
      rw [List.length_cons, Nat.succ_sub_succ] at this
      exact this
    have ih := val_later p d (sub f b) (sub g b) hop N h0 hd' hs hN' ((f []).getD k)
    have j1 := jV_ge (val d (sub g false) ((f []).getD k)) (val d (sub g true) ((f []).getD k))
    have j2 := jV_ge (val d (sub f false) ((f []).getD k)) (val d (sub f true) ((f []).getD k))
    show (jV (val d (sub g false) ((g []).getD k)) (val d (sub g true) ((g []).getD k))).1 ≤ (jV (val d (sub f false) ((f []).getD k)) (val d (sub f true) ((f []).getD k))).1 + N + ((b :: p).length : Nat)
    rw [e0, List.length_cons]
    cases b with
    | false =>
      have eo : sub g true = sub f true := eo
      rw [eo] at j1 ⊢
      omega
    | true =>
      have eo : sub g false = sub f false := eo
      rw [eo] at j1 ⊢
      omega
def cP (rs : List Rt) (w : Nat) (p : Bits) : Int := ((nearL rs p w).length : Nat)
theorem pre_iff {p q : Bits} : p.isPrefixOf q = true ↔ ∃ r, q = p ++ r := by
  rw [List.isPrefixOf_iff_prefix]
  exact ⟨fun ⟨r, h⟩ => ⟨r, h.symm⟩, fun ⟨r, h⟩ => ⟨r, h.symm⟩⟩
theorem near_split (w : Nat) (p : Bits) : ∀ rs : List Rt, cP rs w (p ++ [false]) + cP rs w (p ++ [true]) + ((rs.filter fun x => decide (x.1 = p ++ [false]) && decide ((x.1.length : Int) ≤ (w : Int))).length : Nat) + ((rs.filter fun x => decide (x.1 = p ++ [true]) && decide ((x.1.length : Int) ≤ (w : Int))).length : Nat) ≤ cP rs w p
  | [] => by simp [cP, nearL]
  | x :: rs => by
    have ih := near_split w p rs
    unfold cP nearL at ih ⊢
    simp only [List.filter_cons]
    generalize rs.filter (fun x => (p ++ [false]).isPrefixOf x.1 && (!decide (x.1 = p ++ [false]) && decide ((x.1.length : Int) ≤ (w : Int)))) = L1 at ih ⊢
    generalize rs.filter (fun x => (p ++ [true]).isPrefixOf x.1 && (!decide (x.1 = p ++ [true]) && decide ((x.1.length : Int) ≤ (w : Int)))) = L2 at ih ⊢
    generalize rs.filter (fun x => decide (x.1 = p ++ [false]) && decide ((x.1.length : Int) ≤ (w : Int))) = L3 at ih ⊢
    generalize rs.filter (fun x => decide (x.1 = p ++ [true]) && decide ((x.1.length : Int) ≤ (w : Int))) = L4 at ih ⊢
    generalize rs.filter (fun x => p.isPrefixOf x.1 && (!decide (x.1 = p) && decide ((x.1.length : Int) ≤ (w : Int)))) = L5 at ih ⊢
    by_cases hl : (x.1.length : Int) ≤ (w : Int)
    · by_cases hp : p.isPrefixOf x.1 = true
      · obtain ⟨r, hr⟩ := pre_iff.mp hp
        cases r with
        | nil =>
          have n1 : ∀ b, (p ++ [b]).isPrefixOf x.1 = false := fun b => by
            rw [Bool.eq_false_iff]
            intro h
            obtain ⟨s, hs⟩ := pre_iff.mp h
            rw [hr] at hs
            have := congrArg List.length hs
            simp at this
          have n2 : ∀ b, x.1 ≠ p ++ [b] := fun b h => by
            rw [hr] at h
            have := congrArg List.length h
            simp at this
          simp only [n1, n2, decide_false, Bool.false_and, Bool.false_eq_true, if_false, hp, hl, decide_true, Bool.and_true, Bool.true_and]
          split
          · simp only [List.length_cons]; omega
          · exact ih
        | cons c r =>
          have ne : x.1 ≠ p := fun h => by
            rw [hr] at h
            have := congrArg List.length h
            simp at this
          have n1 : ∀ b, (p ++ [b]).isPrefixOf x.1 = decide (b = c) := fun b => by
            by_cases e : b = c
            · rw [decide_eq_true e]
              exact pre_iff.mpr ⟨r, by rw [hr, e]; simp⟩
            · rw [decide_eq_false e, Bool.eq_false_iff]
              intro h
              obtain ⟨s, hs⟩ := pre_iff.mp h
              rw [hr, List.append_assoc] at hs
              have := List.append_cancel_left hs
              exact e (List.cons.inj this).1.symm
          have n2 : ∀ b, (x.1 = p ++ [b]) ↔ (b = c ∧ r = []) := fun b => by
            rw [hr]
            constructor
            · intro h
              have := List.append_cancel_left h
              exact ⟨(List.cons.inj this).1.symm, (List.cons.inj this).2⟩
            · rintro ⟨e1, e2⟩
              rw [e1, e2]
          simp only [n1, n2, hp, hl, ne, decide_true, decide_false, Bool.and_true, Bool.true_and, Bool.not_false, if_true]
          cases c <;> by_cases er : r = [] <;> simp [er] <;> omega
      · have hp : p.isPrefixOf x.1 = false := Bool.eq_false_iff.mpr hp
        have n1 : ∀ b, (p ++ [b]).isPrefixOf x.1 = false := fun b => by
          rw [Bool.eq_false_iff]
          intro h
          obtain ⟨s, hs⟩ := pre_iff.mp h
          have : p.isPrefixOf x.1 = true := pre_iff.mpr ⟨b :: s, by rw [hs]; simp⟩
          rw [hp] at this
          cases this
        have n2 : ∀ b, x.1 ≠ p ++ [b] := fun b h => by
          have : p.isPrefixOf x.1 = true := pre_iff.mpr ⟨[b], h⟩
          rw [hp] at this
          cases this
        simp only [n1, n2, hp, decide_false, Bool.false_and, Bool.false_eq_true, if_false]
        exact ih
    · simp only [hl, decide_false, Bool.and_false, Bool.false_eq_true, if_false]
      exact ih
theorem told_count {rs : List Rt} (nd : (rs.map Prod.fst).Nodup) (w : Nat) (q : Bits) : bi (FF rs w q).isSome ≤ ((rs.filter fun x => decide (x.1 = q) && decide ((x.1.length : Int) ≤ (w : Int))).length : Nat) := by
  cases e : FF rs w q with
  | none => simp [bi]
  | some v =>
    obtain ⟨h1, h2⟩ := (FF_iff nd w q v).mp e
    have : (q, v) ∈ rs.filter fun x => decide (x.1 = q) && decide ((x.1.length : Int) ≤ (w : Int)) := List.mem_filter.mpr ⟨h1, by simp; omega⟩
    have := List.length_pos_of_mem this
    show (1 : Int) ≤ _
    omega
theorem need_near {rs : List Rt} (nd : (rs.map Prod.fst).Nodup) (w : Nat) : ∀ (e : Nat) (p : Bits) (F : Fn), (∀ q, q ≠ [] → F q = FF rs w (p ++ q)) → ∀ k, need (val e F k) ((F []).getD k) ≤ cP rs w p
  | 0, p, F, hF, k => by
    show need (0, [(F []).getD k]) ((F []).getD k) ≤ _
    have : (0 : Int) ≤ cP rs w p := Int.natCast_nonneg _
    simpa [need, bi] using this
  | e + 1, p, F, hF, k => by
    have hs : ∀ b q, sub F b q = FF rs w ((p ++ [b]) ++ q) := fun b q => by
      show F (b :: q) = _
      rw [hF _ (by simp), List.append_assoc]
      rfl
    have st : ∀ b, need (val e (sub F b) ((F []).getD k)) ((F []).getD k) ≤ cP rs w (p ++ [b]) + bi (FF rs w (p ++ [b])).isSome := fun b => by
      have ih := need_near nd w e (p ++ [b]) (sub F b) (fun q _ => hs b q) ((F []).getD k)
      have e1 : sub F b [] = FF rs w (p ++ [b]) := by rw [hs b [], List.append_nil]
      rw [e1] at ih
      cases h : FF rs w (p ++ [b]) with
      | none =>
        rw [h] at ih
        have ih : need (val e (sub F b) ((F []).getD k)) ((F []).getD k) ≤ cP rs w (p ++ [b]) := ih
        show _ ≤ _ + (0 : Int)
        omega
      | some v =>
        rw [h] at ih
        have ih : need (val e (sub F b) ((F []).getD k)) v ≤ cP rs w (p ++ [b]) := ih
        have n1 := need_le (val e (sub F b) ((F []).getD k)) v
        have n2 := need_le (val e (sub F b) ((F []).getD k)) ((F []).getD k)
        show _ ≤ _ + (1 : Int)
        omega
    have s1 := st false
    have s2 := st true
    have t1 := told_count nd w (p ++ [false])
    have t2 := told_count nd w (p ++ [true])
    have ns := near_split w p rs
    have j := (jV_need (val e (sub F false) ((F []).getD k)) (val e (sub F true) ((F []).getD k)) ((F []).getD k)).2
    show need (jV _ _) _ ≤ _
    omega
theorem alone : ∀ (p : Bits) (d : Nat) (g : Fn) (h : Int), p.length ≤ d → (∀ q, g q = if q = p then some h else none) → need (val d g (-1)) (-1) = if h = -1 then 0 else 1
  | [], d, g, h, _, hg => by
    rw [val_const fun q hq => by rw [hg, if_neg hq], hg, if_pos rfl]
    show need (0, [h]) (-1) = _
    by_cases e : h = -1
    · simp [e, need, bi]
    · have : ¬ (-1 : Int) = h := fun q => e q.symm
      simp [e, this, need, bi]
  | b :: p, 0, g, h, hd, hg => by simp at hd
  | b :: p, d + 1, g, h, hd, hg => by
    have e0 : g [] = none := by rw [hg, if_neg (by simp)]
    have eo : sub g (!b) = none0 := funext fun q => by
      show g ((!b) :: q) = none
      rw [hg, if_neg (by cases b <;> simp)]
    have hs : ∀ q, sub g b q = if q = p then some h else none := fun q => by
      show g (b :: q) = _
      rw [hg]
      by_cases e : q = p <;> simp [e]
    have ih := alone p d (sub g b) h (by simpa using hd) hs
    show need (jV (val d (sub g false) ((g []).getD (-1))) (val d (sub g true) ((g []).getD (-1)))) (-1) = _
    rw [e0]
    show need (jV (val d (sub g false) (-1)) (val d (sub g true) (-1))) (-1) = _
    cases b with
    | false =>
      have eo : sub g true = none0 := eo
      rw [eo, val_none, jV_right, ih]
    | true =>
      have eo : sub g false = none0 := eo
      rw [eo, val_none, jV_left, ih]
theorem later_pre {rs : List Rt} (tp : TabPre rs) (hl : rs.length ≤ 399) {p : Bits} {h : Int} (hp : p.length ≤ 64) (hh : -1 ≤ h ∧ h ≤ 999) : TabPre (laterL rs p h) := by
  have s1 : (rs.filter fun x => !decide (x.1 = p)).Sublist rs := List.filter_sublist
  have l1 := s1.length_le
  unfold laterL
  refine ⟨?_, by rw [List.length_append, List.length_singleton]; omega, fun r hr => ?_⟩
  · rw [List.map_append, List.nodup_append]
    refine ⟨tp.nd.sublist (s1.map _), by simp, fun a ha b hb e => ?_⟩
    obtain ⟨z, hz, e1⟩ := List.mem_map.mp ha
    have := (List.mem_filter.mp hz).2
    have e2 : b = p := by simpa using hb
    rw [e1, e, e2] at this
    simp at this
  · rcases List.mem_append.mp hr with h | h
    · exact tp.ok r (s1.mem h)
    · rw [List.mem_singleton.mp h]
      exact ⟨hp, hh⟩
theorem later_FF {rs : List Rt} (tp : TabPre rs) (hl : rs.length ≤ 399) {p : Bits} {h : Int} {w : Nat} (hp : p.length ≤ w) (hw : w ≤ 64) (hh : -1 ≤ h ∧ h ≤ 999) (q : Bits) : FF (laterL rs p h) w q = if q = p then some h else FF rs w q := by
  have lp := later_pre tp hl (show p.length ≤ 64 by omega) hh
  by_cases e : q = p
  · rw [if_pos e, e]
    refine (FF_iff lp.nd w p h).mpr ⟨?_, hp⟩
    unfold laterL
    simp
  · rw [if_neg e]
    refine FF_eq lp.nd tp.nd fun v => ?_
    unfold laterL
    rw [List.mem_append, List.mem_filter]
    simp [e]
theorem k4_all {rs : List Rt} {w : Nat} {p : Bits} {h : Int} (tp : TabPre rs) (hl : rs.length ≤ 399) (hw : 1 ≤ w) (hw2 : w ≤ 64) (hp : p.length ≤ w) (hh : -1 ≤ h ∧ h ≤ 999) : K4 rs w p h := by
  obtain ⟨d, rfl⟩ : ∃ d, w = d + 1 := ⟨w - 1, by omega⟩
  have pa := half_pre tp hl false
  have pb := half_pre tp hl true
  have lp := later_pre tp hl (show p.length ≤ 64 by omega) hh
  have sp : TabPre [(p, h)] := ⟨by simp, by simp, fun r hr => by rw [List.mem_singleton.mp hr]; exact ⟨by show p.length ≤ 64; omega, hh⟩⟩
  have h0 := hop0_FF tp.nd (d + 1)
  obtain ⟨a1, a2⟩ := half_own tp hl false d
  obtain ⟨b1, b2⟩ := half_own tp hl true d
  have an := half_nil tp hl false (d + 1)
  have bn := half_nil tp hl true (d + 1)
  have ao : sub (FF (halfL rs false) (d + 1)) true = none0 := half_other tp hl false (d + 1)
  have bo : sub (FF (halfL rs true) (d + 1)) false = none0 := half_other tp hl true (d + 1)
  have va : need (val (d + 1) (FF (halfL rs false) (d + 1)) (-1)) (-1) = need (val d (sub (FF rs (d + 1)) false) (hop0 rs)) (-1) := by
    show need (jV (val d (sub _ false) ((FF _ _ []).getD (-1))) (val d (sub _ true) ((FF _ _ []).getD (-1)))) (-1) = _
    rw [an, ao]
    show need (jV (val d _ (-1)) (val d none0 (-1))) (-1) = _
    rw [val_none, jV_right, val_root a2 a1]
  have vb : need (val (d + 1) (FF (halfL rs true) (d + 1)) (-1)) (-1) = need (val d (sub (FF rs (d + 1)) true) (hop0 rs)) (-1) := by
    show need (jV (val d (sub _ false) ((FF _ _ []).getD (-1))) (val d (sub _ true) ((FF _ _ []).getD (-1)))) (-1) = _
    rw [bn, bo]
    show need (jV (val d none0 (-1)) (val d _ (-1))) (-1) = _
    rw [val_none, jV_left, val_root b2 b1]
  have ca : pl (d + 1) (FF (halfL rs false) (d + 1)) (-1) = pl d (sub (FF rs (d + 1)) false) (hop0 rs) := by
    have ec : cov (d + 1) (FF (halfL rs false) (d + 1)) (-1) = false := by
      show (cov d (sub _ false) _ && cov d (sub _ true) _) = false
      rw [an, ao]
      show (_ && cov d none0 (-1)) = false
      rw [cov_none]
      simp
    rw [pl, ec, if_neg Bool.false_ne_true, an, ao]
    show pl d _ (-1) + pl d none0 (-1) = _
    rw [pl_none, pl_root a2 a1]
    simp
  have cb : pl (d + 1) (FF (halfL rs true) (d + 1)) (-1) = pl d (sub (FF rs (d + 1)) true) (hop0 rs) := by
    have ec : cov (d + 1) (FF (halfL rs true) (d + 1)) (-1) = false := by
      show (cov d (sub _ false) _ && cov d (sub _ true) _) = false
      rw [bn, bo]
      show (cov d none0 (-1) && _) = false
      rw [cov_none]
      simp
    rw [pl, ec, if_neg Bool.false_ne_true, bn, bo]
    show pl d none0 (-1) + pl d _ (-1) = _
    rw [pl_none, pl_root b2 b1]
    simp
  have jn := jV_need (val d (sub (FF rs (d + 1)) false) (hop0 rs)) (val d (sub (FF rs (d + 1)) true) (hop0 rs)) (-1)
  have jg := jV_ge (val d (sub (FF rs (d + 1)) false) (hop0 rs)) (val d (sub (FF rs (d + 1)) true) (hop0 rs))
  have em : need (val (d + 1) (FF rs (d + 1)) (-1)) (-1) = need (jV (val d (sub (FF rs (d + 1)) false) (hop0 rs)) (val d (sub (FF rs (d + 1)) true) (hop0 rs))) (-1) := by
    rw [← h0]
    rfl
  have n1 := need_le (val d (sub (FF rs (d + 1)) false) (hop0 rs)) (-1)
  have n2 := need_le (val d (sub (FF rs (d + 1)) true) (hop0 rs)) (-1)
  have n3 := need_le (jV (val d (sub (FF rs (d + 1)) false) (hop0 rs)) (val d (sub (FF rs (d + 1)) true) (hop0 rs))) (-1)
  have v1 := val_nn d (sub (FF rs (d + 1)) false) (hop0 rs)
  have v2 := val_nn d (sub (FF rs (d + 1)) true) (hop0 rs)
  have nn := need_nn (d + 1) (FF rs (d + 1)) (-1) (-1)
  have mp := many_le_pl (d + 1) (FF rs (d + 1)) (-1)
  have ps := pl_split d (FF rs (d + 1)) (-1)
  rw [h0] at ps
  have fl := later_FF tp hl hp hw2 hh
  refine ⟨pa, pb, ?_, ?_, ?_, ?_, ?_, ?_, ?_, ?_, lp, ?_, sp, ?_⟩
  · rw [sz_many pa hw2, sz_many pb hw2, sz_many tp hw2, va, vb, em]; omega
  · rw [sz_many pa hw2, sz_many pb hw2, sz_many tp hw2, va, vb, em]; omega
  · rw [sz_many pa hw2, sz_many tp hw2, va, em]; omega
  · rw [sz_many pb hw2, sz_many tp hw2, vb, em]; omega
  · rw [sz_many tp hw2, sz_plain tp hw2]; exact mp
  · rw [sz_plain tp hw2, sz_plain pa hw2, sz_plain pb hw2, ca, cb]; exact ps
  · rw [sz_many tp hw2, cnt_cl tp hw2]; exact cl_full _ _ _
  · rw [sz_many tp hw2, sz_plain tp hw2]
    exact ⟨fun e => by omega, fun e => pl_zero _ _ _ e⟩
  · rw [sz_many tp hw2, sz_many lp hw2]
    have key := val_later p (d + 1) (FF rs (d + 1)) (FF (laterL rs p h) (d + 1)) h (cP rs (d + 1) p) (Int.natCast_nonneg _) hp fl (fun k => ?_) (-1)
    · have m1 := need_le (val (d + 1) (FF (laterL rs p h) (d + 1)) (-1)) (-1)
      have m2 := need_le (val (d + 1) (FF rs (d + 1)) (-1)) (-1)
      unfold cP at key
      omega
    · have hF : ∀ q, q ≠ [] → FF (laterL rs p h) (d + 1) (p ++ q) = FF rs (d + 1) (p ++ q) := fun q hq => by
        rw [fl, if_neg (fun e => hq (by simpa using e))]
      have := need_near tp.nd (d + 1) (d + 1 - p.length) p (fun q => FF (laterL rs p h) (d + 1) (p ++ q)) hF k
      have m1 := need_le (val (d + 1 - p.length) (fun q => FF (laterL rs p h) (d + 1) (p ++ q)) k) ((FF (laterL rs p h) (d + 1) (p ++ [])).getD k)
      omega
  · rw [sz_many sp hw2]
    refine alone p (d + 1) _ h hp fun q => ?_
    by_cases e : q = p
    · rw [if_pos e, e]
      exact (FF_iff sp.nd _ p h).mpr ⟨by simp, hp⟩
    · rw [if_neg e]
      exact FF_none sp.nd fun v hv => absurd (by simpa using hv : q = p ∧ v = h).1 e

end Law
/-! k04 -/
namespace Law
open PySem PySem.Spec L2 L3
/-! law k04 -/
section
variable {Pg : Program} {w : World} {K : PySem.W.Frag} {mg : Str → Option Value} {base : Heap} {A_Trie A_Choice A_Table : Addr}
abbrev st_half : Stmt := topS 53
def S_half : Sc := ⟨["routes", "sign", "found", "hop", "one"], [true, true, true, true, false], [true, true, true, true, false], ["dict"], defScope st_half⟩
abbrev rBit (b : Bool) : As := sP [b]
abbrev SP_half : FS := FS.fn2 (rLs sR) rBit (fun rs _ => TabPre rs) fun rs b => rLs sR (halfL rs b)
theorem ok_half (D__law_half : Dfn K mg "_law_half" st_half ["routes", "sign"]) (m_dict : mg "dict" = none) : Cal Pg w K mg base 1 "_law_half" SP_half := by
  refine cal_of (Sx := S_half) (kL := 0) D__law_half ⟨rfl, rfl, rfl, by decide +kernel, rfl, by decide +kernel, by decide +kernel⟩ rfl (by decide +kernel) (fun _ => rfl) ?_
  rintro X F ⟨rs, b⟩ ⟨rfl, rfl, rfl, rfl, rfl, xf, hr, hp⟩ ht
  have ht : TabPre rs := ht
  have hl : rs.length ≤ sizeLine := Nat.le_trans ht.len (by decide)
  have hf : (foundL rs b).length ≤ rs.length := List.length_filter_le _ _
  have h400 := ht.len
  have hk : ∀ x ∈ rs, x.1.length ≤ 1000000 := fun x hx => by have := (ht.ok x hx).1; omega
  show DB X F (defBody st_half) ⟨[some (rLs sR rs), some (rBit b), none, none, none], [], []⟩ (outs SP_half (rs, b))
  refine db_setLcT (r := sR) (r' := sR) (ys := rs) (f := fun x : Rt => x) (q := fun x => decide (x.1.take 1 = [b])) xf 2 (blk_by (own := [("one", 4)]) (us := [false, true, false, false, true]) (ws := [false, false, false, false, true]) (G := []) (by decide +kernel) (by decide +kernel)) (di_list (r := sR) (de_var xf 0)) (fun X' _ xf' => pg_nm xf' 4) (fun _ => go_name) hl (fun _ _ => ⟨rfl, rfl⟩)
      (fun x F' X' hx hX xf' => dts_one (dt_cmp cv_eqP (de_takeP (n := 1) (de_fst (r1 := sP) (r2 := sI) (v := x) (de_var xf' 4) de_int) de_int (hk x hx)) (de_var xf' 1)))
      (fun x F' X' _ hX xf' _ => de_var xf' 4) ?_
  rw [List.map_id']
  show DB X F _ ⟨[some (rLs sR rs), some (rBit b), some (rLs sR (foundL rs b)), none, none], [], []⟩ (outs SP_half (rs, b))
  refine db_set xf 3 (s := sI (hop0 rs)) (de_dget2 (k := .inr (bs [])) (s1 := sI (-1)) (hu_of hr) (de_callTy xf 0 m_dict (by decide +kernel) (ca_dictP (r := sI) (rs := rs) xf.calm ht.nd) (da_cons (de_var xf 0) da_nil)) de_emptyP (de_neg de_int) (hop0_val rs ht.nd)) ?_
  refine db_retF (s := rLs sR (if (!decide ((foundL rs b).filter (fun x => decide (x.1 = [b])) = [])) = true then foundL rs b else [([b], hop0 rs)] ++ foundL rs b)) (de_ifT (r := rLs sR) (dt_cmp (cv_neR (ys := []) hr) (De.cast (de_lcT (r := sR) (r' := sR) (ys := foundL rs b) (f := fun x : Rt => x) (q := fun x => decide (x.1 = [b])) xf (blk_by (own := [("one", 4)]) (us := [false, true, false, false, true]) (ws := [false, false, false, false, true]) (G := []) (by decide +kernel) (by decide +kernel)) (di_list (r := sR) (de_var xf 2)) (fun X' _ xf' => pg_nm xf' 4) (fun _ => go_name) (Nat.le_trans hf hl) (fun _ _ => ⟨rfl, rfl⟩)
      (fun x F' X' hx hX xf' => dts_one (dt_cmp cv_eqP (de_fst (r1 := sP) (r2 := sI) (v := x) (de_var xf' 4) de_int) (de_var xf' 1)))
      (fun x F' X' _ hX xf' _ => de_var xf' 4)) (by rw [List.map_id'])) (de_lst0 (r1 := sR)))
    (fun _ => de_var xf 2)
    (fun _ => de_catT (r := sR) (de_lst1 (r1 := sR) (de_pair (r1 := sP) (r2 := sI) (de_var xf 1) (de_var xf 3))) (de_var xf 2) (Nat.le_trans (show _ ≤ 1000 by simp only [List.length_singleton]; omega) (by decide)))) ?_
  unfold halfL
  by_cases e : (foundL rs b).filter (fun x => decide (x.1 = [b])) = []
  · simp [e]
  · simp [e]

abbrev st_law : Stmt := topS 54
def S_law : Sc := ⟨["script", "row", "routes", "width", "table", "parts", "many", "halves", "plains", "plain", "prefix", "hop", "later", "near", "alone", "sign", "part", "one"], [true, true, true, true, true, true, true, true, true, true, true, true, true, true, true, false, false, false], [true, true, true, true, true, true, true, true, true, true, true, true, true, true, true, false, false, false], ["_law_routes", "_law_taken", "Table", "least_size", "sum", "max", "count_led", "_law_bits", "len"], defScope st_law⟩
def d0 (ns : List Int) : Draw := ⟨ns, 0, 1019, 0⟩
def rs4 (ns : List Int) : List Rt := routesD (d0 ns) 16 9 4
def d1 (ns : List Int) : Draw := routesE (d0 ns) 16 9 4
def w4 (ns : List Int) : Nat := (2 + (d1 ns).val 9).toNat
def d2 (ns : List Int) : Draw := (d1 ns).next 9
def p4 (ns : List Int) : Bits := drawBits (d2 ns) (w4 ns : Int)
def d3 (ns : List Int) : Draw := drawBitsE (d2 ns) (w4 ns : Int)
def h4 (ns : List Int) : Int := (d3 ns).val 5 - 1
theorem w4_eq (ns : List Int) : ((w4 ns : Nat) : Int) = 2 + (d1 ns).val 9 ∧ 2 ≤ w4 ns ∧ w4 ns ≤ 10 := by
  have h1 := (d1 ns).val_ge (m := 9) (by omega)
  have h2 := (d1 ns).val_lt (m := 9) (by omega)
  unfold w4
  omega
theorem rs4_ok (ns : List Int) : TabPre (rs4 ns) ∧ (rs4 ns).length ≤ 16 ∧ ∀ r ∈ rs4 ns, r.1.length ≤ 9 ∧ -1 ≤ r.2 ∧ r.2 ≤ 3 := by
  obtain ⟨f1, f2, f3⟩ := routesD_facts (d0 ns) (many := 16) (m := 9) (h := 4) (by omega) (by omega) (by omega)
  have f3 : (((rs4 ns).length : Nat) : Int) ≤ 16 := f3
  have f4 : ∀ r ∈ rs4 ns, r.1.length ≤ 9 ∧ -1 ≤ r.2 ∧ r.2 ≤ 3 := fun r hr => by
    obtain ⟨a, b, c⟩ := f2 r hr
    omega
  exact ⟨⟨f1, by omega, fun r hr => by have := f4 r hr; omega⟩, by omega, f4⟩
theorem ok_law {fa : Addr} {fd : FuncData} (Fu_law : Fun K "law" "law" st_law fa fd) (m_sum : mg "sum" = none) (m_max : mg "max" = none) (m_len : mg "len" = none)
    (h_routes : Cal Pg w K mg base 5 "_law_routes" (SP_routes K)) (h_taken : Cal Pg w K mg base 1 "_law_taken" (SP_taken K)) (h_bits : Cal Pg w K mg base 2 "_law_bits" (SP_bits K)) (h_Table : Mak Pg w K mg base 4 A_Table "Table" (SPm_Table A_Table).sp) (h_half : Cal Pg w K mg base 1 "_law_half" SP_half)
    (h_least_size : ∀ D, Cal Pg w K mg base (D + D + 6) "least_size" (SP_least_size A_Table D)) (h_count_led : ∀ D, Cal Pg w K mg base (D + 5) "count_led" (SP_count_led A_Table D)) (facts : ∀ ns, K4 (rs4 ns) (w4 ns) (p4 ns) (h4 ns)) : FnOk Pg w K mg base CX0 60 fa fd ["script"] (SP_law K).sp := by
  refine fn_of1 (Sx := S_law) (kL := 59) Fu_law ⟨rfl, rfl, rfl, by decide +kernel, rfl, by decide +kernel, by decide +kernel⟩ rfl (by decide +kernel) (fun _ => rfl) ?_
  rintro X F ns ⟨rfl, rfl, rfl, rfl, rfl, xf, hr, hp⟩ -
  obtain ⟨tp, hl16, hb⟩ := rs4_ok ns
  obtain ⟨hw, hw2, hw10⟩ := w4_eq ns
  have k4 := facts ns
  have hr1 := hr.mono (show 1 ≤ 59 by decide)
  have hr2 := hr.mono (show 2 ≤ 59 by decide)
  have hr5 := hr.mono (show 5 ≤ 59 by decide)
  have hr30 := hr.mono (show 12 + 12 + 6 ≤ 59 by decide)
  have hr17 := hr.mono (show 12 + 5 ≤ 59 by decide)
  have hD : ∀ rs, TabPre rs → (TabPre rs ∧ 1 ≤ w4 ns ∧ w4 ns ≤ 64 ∧ w4 ns + 1 < 12) := fun rs h => ⟨h, by omega, by omega, by omega⟩
  show DB X F (defBody st_law) ⟨[some (sScr X.K ns), none, none, none, none, none, none, none, none, none, none, none, none, none, none, none, none, none], [], []⟩ (outs (SP_law X.K) ns)
  refine db_setX xf 1 (dx_lst (da_cons (de_var xf 0) (da_cons de_int (da_cons de_int (da_cons de_int da_nil))))) fun l _ => ?_
  show DB X F _ ⟨[some (sScr X.K ns), some (sAt l), none, none, none, none, none, none, none, none, none, none, none, none, none, none, none, none], [cDr X.K l (d0 ns)], []⟩ _
  refine db_set xf 2 (s := rLs sR (rs4 ns)) (de_dr3 (d := d0 ns) (v1 := 16) (v2 := 9) (v3 := 4) xf 0 h_routes hr5 (de_var xf 1) de_int de_int de_int (by decide)) ?_
  show DB X F _ ⟨[some (sScr X.K ns), some (sAt l), some (rLs sR (rs4 ns)), none, none, none, none, none, none, none, none, none, none, none, none, none, none, none], [cDr X.K l (d1 ns)], []⟩ _
  refine db_unp xf 3 4 (s1 := rNI (w4 ns)) (s2 := rTab A_Table (rs4 ns)) (de_tup (da_cons (De.cast (de_add de_int (de_dr1 (d := d1 ns) (v1 := 9) xf 1 h_taken hr1 (de_var xf 1) de_int (by decide))) (by show sI _ = sI _; rw [hw])) (da_cons (de_mkTab xf 2 h_Table hr5 (de_var xf 2) tp) da_nil))) ?_ (hsn := sw_of xf fun _ => by rfl)
  show DB X F _ ⟨[some (sScr X.K ns), some (sAt l), some (rLs sR (rs4 ns)), some (rNI (w4 ns)), some (rTab A_Table (rs4 ns)), none, none, none, none, none, none, none, none, none, none, none, none, none], [cDr X.K l (d2 ns)], []⟩ _
  have hlp : ∀ rs ∈ [halfL (rs4 ns) false, halfL (rs4 ns) true], TabPre rs := fun rs h => by
    rcases List.mem_cons.mp h with h | h
    · rw [h]; exact k4.pa
    · rw [List.mem_singleton.mp h]; exact k4.pb
  have hk6 : ∀ x ∈ rs4 ns, x.1.length ≤ 1000000 := fun x hx => by have := (hb x hx).1; omega
  have hrl : (rs4 ns).length ≤ sizeLine := Nat.le_trans hl16 (by decide)
  refine db_setLcT (r := rBit) (r' := rLs sR) (ys := [false, true]) (f := fun b => halfL (rs4 ns) b) (q := fun _ => true) xf 5 (blk_by (own := [("sign", 15)]) (us := [false, false, true, false, false, false, false, false, false, false, false, false, false, false, false, true, false, false]) (ws := [false, false, false, false, false, false, false, false, false, false, false, false, false, false, false, true, false, false]) (G := ["_law_half"]) (by decide +kernel) (by decide +kernel)) (di_P de_01) (fun X' _ xf' => pg_nm xf' 15) (fun _ => go_name) (show 2 ≤ sizeLine by decide) (fun _ _ => ⟨rfl, rfl⟩)
      (fun b F' X' _ hX xf' => dts_nil)
      (fun b F' X' _ hX xf' _ => by
        obtain ⟨s, H, C, cl, fp, rfl⟩ := hX
        exact de_call2 (r1 := rLs sR) (r2 := rBit) (res := fun rs b => rLs sR (halfL rs b)) (v1 := rs4 ns) (v2 := b) xf' 0 h_half hr1 (de_var xf' 2) (de_var xf' 15) tp) ?_
  show DB X F _ ⟨[some (sScr X.K ns), some (sAt l), some (rLs sR (rs4 ns)), some (rNI (w4 ns)), some (rTab A_Table (rs4 ns)), some (rLs (rLs sR) [halfL (rs4 ns) false, halfL (rs4 ns) true]), none, none, none, none, none, none, none, none, none, none, none, none], [cDr X.K l (d2 ns)], []⟩ _
  refine db_set xf 6 (s := sI (sz (rs4 ns) (w4 ns) false)) (de_call3 (r1 := rTab A_Table) (r2 := rNI) (r3 := sB) (res := fun rs m b => sI ((leastL rs m b).length : Nat)) (v1 := rs4 ns) (v2 := w4 ns) (v3 := false) xf 3 (h_least_size 12) hr30 (de_var xf 4) (de_var xf 3) de_bl (hD _ tp)) ?_
  show DB X F _ ⟨[some (sScr X.K ns), some (sAt l), some (rLs sR (rs4 ns)), some (rNI (w4 ns)), some (rTab A_Table (rs4 ns)), some (rLs (rLs sR) [halfL (rs4 ns) false, halfL (rs4 ns) true]), some (sI (sz (rs4 ns) (w4 ns) false)), none, none, none, none, none, none, none, none, none, none, none], [cDr X.K l (d2 ns)], []⟩ _
  refine db_setLcT (r := rLs sR) (r' := sI) (ys := [halfL (rs4 ns) false, halfL (rs4 ns) true]) (f := fun rs => sz rs (w4 ns) false) (q := fun _ => true) xf 7 (blk_by (own := [("part", 16)]) (us := [false, false, false, true, false, false, false, false, false, false, false, false, false, false, false, false, true, false]) (ws := [false, false, false, false, false, false, false, false, false, false, false, false, false, false, false, false, true, false]) (G := ["least_size", "Table"]) (by decide +kernel) (by decide +kernel)) (di_list (r := rLs sR) (de_var xf 5)) (fun X' _ xf' => pg_nm xf' 16) (fun _ => go_name) (show 2 ≤ sizeLine by decide) (fun _ _ => ⟨rfl, rfl⟩)
      (fun rs F' X' _ hX xf' => dts_nil)
      (fun rs F' X' hrs hX xf' _ => by
        obtain ⟨s, H, C, cl, fp, rfl⟩ := hX
        exact (de_call3 (r1 := rTab A_Table) (r2 := rNI) (r3 := sB) (res := fun rs m b => sI ((leastL rs m b).length : Nat)) (v1 := rs) (v2 := w4 ns) (v3 := false) xf' 0 (h_least_size 12) hr30 (de_mkTab xf' 1 h_Table hr5 (de_var xf' 16) (hlp rs hrs)) (de_var xf' 3) de_bl (hD _ (hlp rs hrs)))) ?_
  show DB X F _ ⟨[some (sScr X.K ns), some (sAt l), some (rLs sR (rs4 ns)), some (rNI (w4 ns)), some (rTab A_Table (rs4 ns)), some (rLs (rLs sR) [halfL (rs4 ns) false, halfL (rs4 ns) true]), some (sI (sz (rs4 ns) (w4 ns) false)), some (rLs sI [sz (halfL (rs4 ns) false) (w4 ns) false, sz (halfL (rs4 ns) true) (w4 ns) false]), none, none, none, none, none, none, none, none, none, none], [cDr X.K l (d2 ns)], []⟩ _
  have hsum := fun {x y : Int} {C : L3.Ctx} {p1 p2 p3} (n : Nat) {id : Str} (h : De X F (.Name id p1) C (rLs sI [x, y]) C) => (De.cast (de_callB (p := p2) (pos := p3) xf 4 m_sum (by decide +kernel) (ca_sum (ns := [x, y]) xf.calm) (da_cons h da_nil)) (by simp) : De X F (.Call (.Name "sum" p2) [.Name id p1] [] p3) C (sI (x + y)) C)
  refine db_ifFa (dt_bool (dw_orF (dt_notT (DT.cast (dt_chain cv_le cv_le (de_sub (hsum 7 (de_var xf 7)) de_int) (de_var xf 6) (hsum 7 (de_var xf 7))) ?_)) (dw_or1 (DT.cast (dt_cmp cv_gt (de_callB xf 5 m_max (by decide +kernel) (ca_max (ns := [sz (halfL (rs4 ns) false) (w4 ns) false, sz (halfL (rs4 ns) true) (w4 ns) false]) xf.calm (show 0 < 2 by decide)) (da_cons (de_var xf 7) da_nil)) (de_add (de_var xf 6) de_int)) ?_)))) ?_
  · rw [decide_eq_true k4.a1, decide_eq_true k4.a2]
    rfl
  · have h1 := k4.a3
    have h2 := k4.a4
    refine decide_eq_false ?_
    show ¬ _ < (if _ > _ then _ else _)
    split <;> omega
  refine db_setLcT (r := rLs sR) (r' := sI) (ys := [halfL (rs4 ns) false, halfL (rs4 ns) true]) (f := fun rs => sz rs (w4 ns) true) (q := fun _ => true) xf 8 (blk_by (own := [("part", 16)]) (us := [false, false, false, true, false, false, false, false, false, false, false, false, false, false, false, false, true, false]) (ws := [false, false, false, false, false, false, false, false, false, false, false, false, false, false, false, false, true, false]) (G := ["least_size", "Table"]) (by decide +kernel) (by decide +kernel)) (di_list (r := rLs sR) (de_var xf 5)) (fun X' _ xf' => pg_nm xf' 16) (fun _ => go_name) (show 2 ≤ sizeLine by decide) (fun _ _ => ⟨rfl, rfl⟩)
      (fun rs F' X' _ hX xf' => dts_nil)
      (fun rs F' X' hrs hX xf' _ => by
        obtain ⟨s, H, C, cl, fp, rfl⟩ := hX
        exact (de_call3 (r1 := rTab A_Table) (r2 := rNI) (r3 := sB) (res := fun rs m b => sI ((leastL rs m b).length : Nat)) (v1 := rs) (v2 := w4 ns) (v3 := true) xf' 0 (h_least_size 12) hr30 (de_mkTab xf' 1 h_Table hr5 (de_var xf' 16) (hlp rs hrs)) (de_var xf' 3) de_bl (hD _ (hlp rs hrs)))) ?_
  show DB X F _ ⟨[some (sScr X.K ns), some (sAt l), some (rLs sR (rs4 ns)), some (rNI (w4 ns)), some (rTab A_Table (rs4 ns)), some (rLs (rLs sR) [halfL (rs4 ns) false, halfL (rs4 ns) true]), some (sI (sz (rs4 ns) (w4 ns) false)), some (rLs sI [sz (halfL (rs4 ns) false) (w4 ns) false, sz (halfL (rs4 ns) true) (w4 ns) false]), some (rLs sI [sz (halfL (rs4 ns) false) (w4 ns) true, sz (halfL (rs4 ns) true) (w4 ns) true]), none, none, none, none, none, none, none, none, none], [cDr X.K l (d2 ns)], []⟩ _
  refine db_set xf 9 (s := sI (sz (rs4 ns) (w4 ns) true)) (de_call3 (r1 := rTab A_Table) (r2 := rNI) (r3 := sB) (res := fun rs m b => sI ((leastL rs m b).length : Nat)) (v1 := rs4 ns) (v2 := w4 ns) (v3 := true) xf 3 (h_least_size 12) hr30 (de_var xf 4) (de_var xf 3) de_bl (hD _ tp)) ?_
  show DB X F _ ⟨[some (sScr X.K ns), some (sAt l), some (rLs sR (rs4 ns)), some (rNI (w4 ns)), some (rTab A_Table (rs4 ns)), some (rLs (rLs sR) [halfL (rs4 ns) false, halfL (rs4 ns) true]), some (sI (sz (rs4 ns) (w4 ns) false)), some (rLs sI [sz (halfL (rs4 ns) false) (w4 ns) false, sz (halfL (rs4 ns) true) (w4 ns) false]), some (rLs sI [sz (halfL (rs4 ns) false) (w4 ns) true, sz (halfL (rs4 ns) true) (w4 ns) true]), some (sI (sz (rs4 ns) (w4 ns) true)), none, none, none, none, none, none, none, none], [cDr X.K l (d2 ns)], []⟩ _
  have hcnt : ∀ {p1 p2 p3 p4 p5 p6 j1}, De X F (.Call (.Name "count_led" p1) [.Name "table" p2, .Name "width" p3, .UnaryOp .USub (.Constant (.int 1) j1 p4) p5] [] p6) ⟨[some (sScr X.K ns), some (sAt l), some (rLs sR (rs4 ns)), some (rNI (w4 ns)), some (rTab A_Table (rs4 ns)), some (rLs (rLs sR) [halfL (rs4 ns) false, halfL (rs4 ns) true]), some (sI (sz (rs4 ns) (w4 ns) false)), some (rLs sI [sz (halfL (rs4 ns) false) (w4 ns) false, sz (halfL (rs4 ns) true) (w4 ns) false]), some (rLs sI [sz (halfL (rs4 ns) false) (w4 ns) true, sz (halfL (rs4 ns) true) (w4 ns) true]), some (sI (sz (rs4 ns) (w4 ns) true)), none, none, none, none, none, none, none, none], [cDr X.K l (d2 ns)], []⟩ (sI (cnt0 (rs4 ns) (w4 ns))) ⟨[some (sScr X.K ns), some (sAt l), some (rLs sR (rs4 ns)), some (rNI (w4 ns)), some (rTab A_Table (rs4 ns)), some (rLs (rLs sR) [halfL (rs4 ns) false, halfL (rs4 ns) true]), some (sI (sz (rs4 ns) (w4 ns) false)), some (rLs sI [sz (halfL (rs4 ns) false) (w4 ns) false, sz (halfL (rs4 ns) true) (w4 ns) false]), some (rLs sI [sz (halfL (rs4 ns) false) (w4 ns) true, sz (halfL (rs4 ns) true) (w4 ns) true]), some (sI (sz (rs4 ns) (w4 ns) true)), none, none, none, none, none, none, none, none], [cDr X.K l (d2 ns)], []⟩ := fun {p1 p2 p3 p4 p5 p6 j1} => de_call3 (r1 := rTab A_Table) (r2 := rNI) (r3 := sI) (res := fun rs m h => sI (cntF (regL (tabT rs m) (-1) []) m h)) (v1 := rs4 ns) (v2 := w4 ns) (v3 := -1) xf 6 (h_count_led 12) hr17 (de_var xf 4) (de_var xf 3) (de_neg de_int) ⟨tp, ⟨by omega, by omega, by omega⟩, by decide, by decide⟩
  refine db_ifFa (dt_bool (dw_orF (DT.cast (dt_cmp cv_lt (de_var xf 9) (de_var xf 6)) (decide_eq_false (by have := k4.b1; omega))) (dw_orF (dt_notT (DT.cast (dt_cmp cv_le (de_var xf 9) (hsum 8 (de_var xf 8))) (decide_eq_true k4.b2))) (dw_or1 (DT.cast (dt_cmp cv_neB (de_cmp cv_eqI (de_var xf 6) de_int) (de_cmp cv_eqI hcnt (de_shl de_int (de_var xf 3) ⟨by omega, by omega, by decide⟩))) ?_))))) ?_
  · have e : (1 : Int) * 2 ^ ((w4 ns : Nat) : Int).toNat = 2 ^ w4 ns := by rw [Int.one_mul, Int.toNat_natCast]
    rw [e]
    have := k4.b3
    by_cases h : sz (rs4 ns) (w4 ns) false = 0
    · simp [h, this.mp h]
    · simp [h, mt this.mpr h]
  refine db_ifFa (dt_bool (dw_orF (DT.cast (dt_cmp cv_neB (de_cmp cv_eqI (de_var xf 9) de_int) (de_cmp cv_eqI (de_var xf 6) de_int)) ?_) (dw_or1 (DT.cast (dt_bool (dw_and (dt_cmp cv_eqI hcnt de_int) (fun _ => dw_and1 (dt_cmp cv_gt (de_var xf 9) (hsum 8 (de_var xf 8)))))) ?_)))) ?_
  · have := k4.c1
    by_cases h : sz (rs4 ns) (w4 ns) false = 0
    · simp [h, this.mpr h]
    · simp [h, mt this.mp h]
  · have := k4.b2
    rw [decide_eq_false (p := _ < sz (rs4 ns) (w4 ns) true) (by omega), Bool.and_false]
  refine db_unp xf 10 11 (s1 := sP (p4 ns)) (s2 := sI (h4 ns)) (de_tup (da_cons (de_dr1 (d := d2 ns) (v1 := ((w4 ns : Nat) : Int)) xf 7 h_bits hr2 (de_var xf 1) (de_var xf 3) ⟨by omega, by omega⟩) (da_cons (de_sub (de_dr1 (d := d3 ns) (v1 := 5) xf 1 h_taken hr1 (de_var xf 1) de_int (by decide)) de_int) da_nil))) ?_ (hsn := sw_of xf fun _ => by rfl)
  show DB X F _ ⟨[some (sScr X.K ns), some (sAt l), some (rLs sR (rs4 ns)), some (rNI (w4 ns)), some (rTab A_Table (rs4 ns)), some (rLs (rLs sR) [halfL (rs4 ns) false, halfL (rs4 ns) true]), some (sI (sz (rs4 ns) (w4 ns) false)), some (rLs sI [sz (halfL (rs4 ns) false) (w4 ns) false, sz (halfL (rs4 ns) true) (w4 ns) false]), some (rLs sI [sz (halfL (rs4 ns) false) (w4 ns) true, sz (halfL (rs4 ns) true) (w4 ns) true]), some (sI (sz (rs4 ns) (w4 ns) true)), some (sP (p4 ns)), some (sI (h4 ns)), none, none, none, none, none, none], [cDr X.K l ((d3 ns).next 5)], []⟩ _
  have hfl : ((rs4 ns).filter fun x => !decide (x.1 = p4 ns)).length ≤ (rs4 ns).length := List.length_filter_le _ _
  refine db_set xf 12 (s := rTab A_Table (laterL (rs4 ns) (p4 ns) (h4 ns))) (de_mkTab xf 2 h_Table hr5 (de_catT (r := sR) (xs := (rs4 ns).filter fun x => !decide (x.1 = p4 ns)) (ys := [(p4 ns, h4 ns)])
    (De.cast (de_lcT (r := sR) (r' := sR) (ys := rs4 ns) (f := fun x : Rt => x) (q := fun x => !decide (x.1 = p4 ns)) xf (blk_by (own := [("one", 17)]) (us := [false, false, false, false, false, false, false, false, false, false, true, false, false, false, false, false, false, true]) (ws := [false, false, false, false, false, false, false, false, false, false, false, false, false, false, false, false, false, true]) (G := []) (by decide +kernel) (by decide +kernel)) (di_list (r := sR) (de_var xf 2)) (fun X' _ xf' => pg_nm xf' 17) (fun _ => go_name) hrl (fun _ _ => ⟨rfl, rfl⟩)
      (fun x F' X' hx hX xf' => dts_one (dt_cmp cv_neP (de_fst (r1 := sP) (r2 := sI) (v := x) (de_var xf' 17) de_int) (de_var xf' 10)))
      (fun x F' X' _ hX xf' _ => de_var xf' 17)) (by rw [List.map_id']))
    (de_lst1 (r1 := sR) (de_pair (r1 := sP) (r2 := sI) (de_var xf 10) (de_var xf 11))) (Nat.le_trans (show _ ≤ 1000 by simp only [List.length_singleton]; omega) (by decide))) k4.lp) ?_
  show DB X F _ ⟨[some (sScr X.K ns), some (sAt l), some (rLs sR (rs4 ns)), some (rNI (w4 ns)), some (rTab A_Table (rs4 ns)), some (rLs (rLs sR) [halfL (rs4 ns) false, halfL (rs4 ns) true]), some (sI (sz (rs4 ns) (w4 ns) false)), some (rLs sI [sz (halfL (rs4 ns) false) (w4 ns) false, sz (halfL (rs4 ns) true) (w4 ns) false]), some (rLs sI [sz (halfL (rs4 ns) false) (w4 ns) true, sz (halfL (rs4 ns) true) (w4 ns) true]), some (sI (sz (rs4 ns) (w4 ns) true)), some (sP (p4 ns)), some (sI (h4 ns)), some (rTab A_Table (laterL (rs4 ns) (p4 ns) (h4 ns))), none, none, none, none, none], [cDr X.K l ((d3 ns).next 5)], []⟩ _
  refine db_set xf 13 (s := sI ((nearL (rs4 ns) (p4 ns) (w4 ns)).length : Nat)) (De.cast (de_callB xf 8 m_len (by decide +kernel) ca_lenL (da_cons (de_lcT (r := sR) (r' := sR) (ys := rs4 ns) (f := fun x : Rt => x) (q := fun x => (p4 ns).isPrefixOf x.1 && (!decide (x.1 = p4 ns) && decide ((x.1.length : Int) ≤ ((w4 ns : Nat) : Int)))) xf (blk_by (own := [("one", 17)]) (us := [false, false, false, true, false, false, false, false, false, false, true, false, false, false, false, false, false, true]) (ws := [false, false, false, false, false, false, false, false, false, false, false, false, false, false, false, false, false, true]) (G := ["len"]) (by decide +kernel) (by decide +kernel)) (di_list (r := sR) (de_var xf 2)) (fun X' _ xf' => pg_nm xf' 17) (fun _ => go_name) hrl (fun _ _ => ⟨rfl, rfl⟩)
      (fun x F' X' hx hX xf' => dts_one (dt_bool (dw_and (dt_val (de_startsP (p := x.1) (q := p4 ns) (de_fst (r1 := sP) (r2 := sI) (v := x) (de_var xf' 17) de_int) (de_var xf' 10))) (fun _ => dw_and (dt_cmp cv_neP (de_fst (r1 := sP) (r2 := sI) (v := x) (de_var xf' 17) de_int) (de_var xf' 10)) (fun _ => dw_and1 (dt_cmp cv_le (de_callB xf' 0 (by obtain ⟨s, H, C, cl, fp, rfl⟩ := hX; exact m_len) (by decide +kernel) (ca_lenP (p := x.1) (hk6 x hx)) (da_cons (de_fst (r1 := sP) (r2 := sI) (v := x) (de_var xf' 17) de_int) da_nil)) (de_var xf' 3)))))))
      (fun x F' X' _ hX xf' _ => de_var xf' 17)) da_nil)) (by rw [List.length_map, List.length_map]; rfl)) ?_
  show DB X F _ ⟨[some (sScr X.K ns), some (sAt l), some (rLs sR (rs4 ns)), some (rNI (w4 ns)), some (rTab A_Table (rs4 ns)), some (rLs (rLs sR) [halfL (rs4 ns) false, halfL (rs4 ns) true]), some (sI (sz (rs4 ns) (w4 ns) false)), some (rLs sI [sz (halfL (rs4 ns) false) (w4 ns) false, sz (halfL (rs4 ns) true) (w4 ns) false]), some (rLs sI [sz (halfL (rs4 ns) false) (w4 ns) true, sz (halfL (rs4 ns) true) (w4 ns) true]), some (sI (sz (rs4 ns) (w4 ns) true)), some (sP (p4 ns)), some (sI (h4 ns)), some (rTab A_Table (laterL (rs4 ns) (p4 ns) (h4 ns))), some (sI ((nearL (rs4 ns) (p4 ns) (w4 ns)).length : Nat)), none, none, none, none], [cDr X.K l ((d3 ns).next 5)], []⟩ _
  have hpl : (p4 ns).length ≤ 10 := by
    have := drawBits_len (d2 ns) (m := ((w4 ns : Nat) : Int)) (by omega)
    have : (((p4 ns).length : Nat) : Int) ≤ ((w4 ns : Nat) : Int) := this
    omega
  refine db_ifFa (DT.cast (dt_cmp cv_gt (de_call3 (r1 := rTab A_Table) (r2 := rNI) (r3 := sB) (res := fun rs m b => sI ((leastL rs m b).length : Nat)) (v1 := laterL (rs4 ns) (p4 ns) (h4 ns)) (v2 := w4 ns) (v3 := false) xf 3 (h_least_size 12) hr30 (de_var xf 12) (de_var xf 3) de_bl (hD _ k4.lp)) (de_add (de_add (de_add (de_var xf 6) (de_var xf 13)) de_int) (de_callB xf 8 m_len (by decide +kernel) (ca_lenP (p := p4 ns) (by omega)) (da_cons (de_var xf 10) da_nil)))) (decide_eq_false (by have := k4.l1; unfold sz at this ⊢; omega))) ?_
  refine db_set xf 14 (s := sI (sz [(p4 ns, h4 ns)] (w4 ns) false)) (de_call3 (r1 := rTab A_Table) (r2 := rNI) (r3 := sB) (res := fun rs m b => sI ((leastL rs m b).length : Nat)) (v1 := [(p4 ns, h4 ns)]) (v2 := w4 ns) (v3 := false) xf 3 (h_least_size 12) hr30 (de_mkTab xf 2 h_Table hr5 (de_lst1 (r1 := sR) (de_pair (r1 := sP) (r2 := sI) (de_var xf 10) (de_var xf 11))) k4.sp) (de_var xf 3) de_bl (hD _ k4.sp)) ?_
  show DB X F _ ⟨[some (sScr X.K ns), some (sAt l), some (rLs sR (rs4 ns)), some (rNI (w4 ns)), some (rTab A_Table (rs4 ns)), some (rLs (rLs sR) [halfL (rs4 ns) false, halfL (rs4 ns) true]), some (sI (sz (rs4 ns) (w4 ns) false)), some (rLs sI [sz (halfL (rs4 ns) false) (w4 ns) false, sz (halfL (rs4 ns) true) (w4 ns) false]), some (rLs sI [sz (halfL (rs4 ns) false) (w4 ns) true, sz (halfL (rs4 ns) true) (w4 ns) true]), some (sI (sz (rs4 ns) (w4 ns) true)), some (sP (p4 ns)), some (sI (h4 ns)), some (rTab A_Table (laterL (rs4 ns) (p4 ns) (h4 ns))), some (sI ((nearL (rs4 ns) (p4 ns) (w4 ns)).length : Nat)), some (sI (sz [(p4 ns, h4 ns)] (w4 ns) false)), none, none, none], [cDr X.K l ((d3 ns).next 5)], []⟩ _
  refine db_retF (de_cmp cv_eqI (de_var xf 14) (de_ifT (r := sI) (dt_cmp cv_eqI (de_var xf 11) (de_neg de_int)) (fun _ => de_int) (fun _ => de_int))) ?_
  rw [k4.s1]
  show sB _ = sB true
  congr 1
  by_cases h : h4 ns = -1
  · simp [h]
  · simp [h]
end
theorem facts (ns : List Int) : K4 (rs4 ns) (w4 ns) (p4 ns) (h4 ns) := by
  obtain ⟨tp, hl, _⟩ := rs4_ok ns
  obtain ⟨_, h2, h10⟩ := w4_eq ns
  have h1 := (d3 ns).val_ge (m := 5) (by omega)
  have h3 := (d3 ns).val_lt (m := 5) (by omega)
  have h5 := drawBits_len (d2 ns) (m := ((w4 ns : Nat) : Int)) (by omega)
  have h5 : (((p4 ns).length : Nat) : Int) ≤ ((w4 ns : Nat) : Int) := h5
  exact k4_all tp (by omega) (by omega) (by omega) (by omega) ⟨by show -1 ≤ (d3 ns).val 5 - 1; omega, by show (d3 ns).val 5 - 1 ≤ 999; omega⟩

end Law
open PySem PySem.W PyProof.Rows L3
set_option maxRecDepth 100000 in
set_option maxHeartbeats 0 in
theorem PySem.Challenge.cw_leastroutes_k04_whole_halves_holds : PySem.Challenge.rw_leastroutes_k04_whole_halves.Holds := by
  w_on; o_law; k_head; (case hw => w_witness2)
  k_fill
  refine L3.walk (l := PySem.Challenge.rw_leastroutes_k04_whole_halves) (kL := 60) rfl rfl rfl ⟨by decide, by decide, by decide⟩ (fun w h Y => PySem.W.kIn_of Y) ?F
  case F =>
    intro w mg h KX G
    refine' L3.bind (L3.clsF_mk (x := "Table") KX G ?a1 ?pg1 ?hd1 ?po1 ?sa1 ?ha1 ?hn1 ?htk1 ?hm1 ?makes1 ?kp1) ?r1
    (case a1 => k_is); (case pg1 => k_is); (case hd1 => k_is); (case po1 => k_is); (case sa1 => k_is); (case ha1 => k_is); (case hn1 => k_is); (case htk1 => k_is); (case hm1 => k_is); (case makes1 => k_is); (case kp1 => k_is)
    intro C_Table
    refine' L3.bind (L3.clsF_mk (x := "Choice") KX G ?a2 ?pg2 ?hd2 ?po2 ?sa2 ?ha2 ?hn2 ?htk2 ?hm2 ?makes2 ?kp2) ?r2
    (case a2 => k_is); (case pg2 => k_is); (case hd2 => k_is); (case po2 => k_is); (case sa2 => k_is); (case ha2 => k_is); (case hn2 => k_is); (case htk2 => k_is); (case hm2 => k_is); (case makes2 => k_is); (case kp2 => k_is)
    intro C_Choice
    refine' L3.bind (L3.clsF_mk (x := "Trie") KX G ?a3 ?pg3 ?hd3 ?po3 ?sa3 ?ha3 ?hn3 ?htk3 ?hm3 ?makes3 ?kp3) ?r3
    (case a3 => k_is); (case pg3 => k_is); (case hd3 => k_is); (case po3 => k_is); (case sa3 => k_is); (case ha3 => k_is); (case hn3 => k_is); (case htk3 => k_is); (case hm3 => k_is); (case makes3 => k_is); (case kp3 => k_is)
    intro C_Trie
    refine' L3.bind (PySem.W.mg_none_of (n := "int") KX G ?a4) ?r4
    (case a4 => k_is)
    intro m_int
    refine' L3.bind (PySem.W.mg_none_of (n := "len") KX G ?a5) ?r5
    (case a5 => k_is)
    intro m_len
    refine' L3.bind (PySem.W.mg_none_of (n := "min") KX G ?a6) ?r6
    (case a6 => k_is)
    intro m_min
    refine' L3.bind (PySem.W.mg_none_of (n := "range") KX G ?a7) ?r7
    (case a7 => k_is)
    intro m_range
    refine' L3.bind (PySem.W.mg_none_of (n := "isinstance") KX G ?a8) ?r8
    (case a8 => k_is)
    intro m_isinstance
    refine' L3.bind (PySem.W.mg_none_of (n := "bool") KX G ?a9) ?r9
    (case a9 => k_is)
    intro m_bool
    refine' L3.bind (L3.kitF (t := .type "int") (u := .type "bool") (v := false) KX ?a10) ?r10
    (case a10 => kit_is)
    intro q_int_bool
    refine' L3.bind (PySem.W.mg_none_of (n := "list") KX G ?a11) ?r11
    (case a11 => k_is)
    intro m_list
    refine' L3.bind (PySem.W.mg_none_of (n := "tuple") KX G ?a12) ?r12
    (case a12 => k_is)
    intro m_tuple
    refine' L3.bind (PySem.W.mg_none_of (n := "str") KX G ?a13) ?r13
    (case a13 => k_is)
    intro m_str
    refine' L3.bind (PySem.W.mg_none_of (n := "all") KX G ?a14) ?r14
    (case a14 => k_is)
    intro m_all
    refine' L3.bind (L3.int_mk (x := "MOST_BITS") (i := 64) KX G ?a15) ?r15
    (case a15 => k_is)
    intro g_MOST_BITS
    refine' L3.bind (L3.int_mk (x := "MOST_HOP") (i := 999) KX G ?a16) ?r16
    (case a16 => k_is)
    intro g_MOST_HOP
    refine' L3.bind (PySem.W.mg_none_of (n := "enumerate") KX G ?a17) ?r17
    (case a17 => k_is)
    intro m_enumerate
    refine' L3.bind (PySem.W.mg_none_of (n := "sorted") KX G ?a18) ?r18
    (case a18 => k_is)
    intro m_sorted
    refine' L3.bind (L3.int_mk (x := "MOST_ROUTES") (i := 400) KX G ?a19) ?r19
    (case a19 => k_is)
    intro g_MOST_ROUTES
    refine' L3.bind (PySem.W.mg_none_of (n := "sum") KX G ?a20) ?r20
    (case a20 => k_is)
    intro m_sum
    refine' L3.bind (PySem.W.mg_none_of (n := "dict") KX G ?a21) ?r21
    (case a21 => k_is)
    intro m_dict
    refine' L3.bind (PySem.W.mg_none_of (n := "max") KX G ?a22) ?r22
    (case a22 => k_is)
    intro m_max
    refine' L3.bind (L3.noAttr_mk (x := "hop_by") C_Table ?a23) ?r23
    (case a23 => k_is)
    intro n_Table_hop_by
    refine' L3.bind (L3.noAttr_mk (x := "routes") C_Table ?a24) ?r24
    (case a24 => k_is)
    intro n_Table_routes
    refine' L3.bind (L3.noAttr_mk (x := "size") C_Choice ?a25) ?r25
    (case a25 => k_is)
    intro n_Choice_size
    refine' L3.bind (L3.noAttr_mk (x := "hops") C_Choice ?a26) ?r26
    (case a26 => k_is)
    intro n_Choice_hops
    refine' L3.bind (L3.noAttr_mk (x := "children") C_Choice ?a27) ?r27
    (case a27 => k_is)
    intro n_Choice_children
    refine' L3.bind (L3.noAttr_mk (x := "told") C_Trie ?a28) ?r28
    (case a28 => k_is)
    intro n_Trie_told
    refine' L3.bind (L3.noAttr_mk (x := "children") C_Trie ?a29) ?r29
    (case a29 => k_is)
    intro n_Trie_children
    refine' L3.bind (L3.dfn_mk (x := "_law_taken") (st := Law.topS 47) (ps := ["row", "many"]) KX G ?a30 ?l30 ?c30 ?k30 (fun _ _ _ _ _ _ us hl => match us, hl with | [_, _], _ => rfl)) ?r30
    (case a30 => k_is); (case l30 => k_is); (case c30 => k_is); (case k30 => k_is)
    intro D__law_taken
    refine' L3.bind (L3.dfn_mk (x := "_law_pick") (st := Law.topS 48) (ps := ["row", "some"]) KX G ?a31 ?l31 ?c31 ?k31 (fun _ _ _ _ _ _ us hl => match us, hl with | [_, _], _ => rfl)) ?r31
    (case a31 => k_is); (case l31 => k_is); (case c31 => k_is); (case k31 => k_is)
    intro D__law_pick
    refine' L3.bind (L3.dfn_mk (x := "_law_bits") (st := Law.topS 49) (ps := ["row", "most"]) KX G ?a32 ?l32 ?c32 ?k32 (fun _ _ _ _ _ _ us hl => match us, hl with | [_, _], _ => rfl)) ?r32
    (case a32 => k_is); (case l32 => k_is); (case c32 => k_is); (case k32 => k_is)
    intro D__law_bits
    refine' L3.bind (L3.dfn_mk (x := "_law_longer") (st := Law.topS 50) (ps := ["row", "some", "most"]) KX G ?a33 ?l33 ?c33 ?k33 (fun _ _ _ _ _ _ us hl => match us, hl with | [_, _, _], _ => rfl)) ?r33
    (case a33 => k_is); (case l33 => k_is); (case c33 => k_is); (case k33 => k_is)
    intro D__law_longer
    refine' L3.bind (L3.dfn_mk (x := "_law_prefixes") (st := Law.topS 51) (ps := ["row", "many", "most"]) KX G ?a34 ?l34 ?c34 ?k34 (fun _ _ _ _ _ _ us hl => match us, hl with | [_, _, _], _ => rfl)) ?r34
    (case a34 => k_is); (case l34 => k_is); (case c34 => k_is); (case k34 => k_is)
    intro D__law_prefixes
    refine' L3.bind (L3.dfn_mk (x := "_law_routes") (st := Law.topS 52) (ps := ["row", "many", "most", "hops"]) KX G ?a35 ?l35 ?c35 ?k35 (fun _ _ _ _ _ _ us hl => match us, hl with | [_, _, _, _], _ => rfl)) ?r35
    (case a35 => k_is); (case l35 => k_is); (case c35 => k_is); (case k35 => k_is)
    intro D__law_routes
    refine' L3.bind (L3.dfn_mk (x := "is_integer") (st := Law.topS 18) (ps := ["thing"]) KX G ?a36 ?l36 ?c36 ?k36 (fun _ _ _ _ _ _ us hl => match us, hl with | [_], _ => rfl)) ?r36
    (case a36 => k_is); (case l36 => k_is); (case c36 => k_is); (case k36 => k_is)
    intro D_is_integer
    refine' L3.bind (L3.dfn_mk (x := "is_within") (st := Law.topS 19) (ps := ["thing", "least", "most"]) KX G ?a37 ?l37 ?c37 ?k37 (fun _ _ _ _ _ _ us hl => match us, hl with | [_, _, _], _ => rfl)) ?r37
    (case a37 => k_is); (case l37 => k_is); (case c37 => k_is); (case k37 => k_is)
    intro D_is_within
    refine' L3.bind (L3.dfn_mk (x := "is_row") (st := Law.topS 20) (ps := ["thing"]) KX G ?a38 ?l38 ?c38 ?k38 (fun _ _ _ _ _ _ us hl => match us, hl with | [_], _ => rfl)) ?r38
    (case a38 => k_is); (case l38 => k_is); (case c38 => k_is); (case k38 => k_is)
    intro D_is_row
    refine' L3.bind (L3.dfn_mk (x := "is_bits") (st := Law.topS 21) (ps := ["thing", "most"]) KX G ?a39 ?l39 ?c39 ?k39 (fun _ _ _ _ _ _ us hl => match us, hl with | [_, _], _ => rfl)) ?r39
    (case a39 => k_is); (case l39 => k_is); (case c39 => k_is); (case k39 => k_is)
    intro D_is_bits
    refine' L3.bind (L3.dfn_mk (x := "is_prefix") (st := Law.topS 22) (ps := ["thing"]) KX G ?a40 ?l40 ?c40 ?k40 (fun _ _ _ _ _ _ us hl => match us, hl with | [_], _ => rfl)) ?r40
    (case a40 => k_is); (case l40 => k_is); (case c40 => k_is); (case k40 => k_is)
    intro D_is_prefix
    refine' L3.bind (L3.dfn_mk (x := "is_hop") (st := Law.topS 23) (ps := ["thing"]) KX G ?a41 ?l41 ?c41 ?k41 (fun _ _ _ _ _ _ us hl => match us, hl with | [_], _ => rfl)) ?r41
    (case a41 => k_is); (case l41 => k_is); (case c41 => k_is); (case k41 => k_is)
    intro D_is_hop
    refine' L3.bind (L3.dfn_mk (x := "is_pair") (st := Law.topS 24) (ps := ["thing"]) KX G ?a42 ?l42 ?c42 ?k42 (fun _ _ _ _ _ _ us hl => match us, hl with | [_], _ => rfl)) ?r42
    (case a42 => k_is); (case l42 => k_is); (case c42 => k_is); (case k42 => k_is)
    intro D_is_pair
    refine' L3.bind (L3.dfnM_mk (x := "__init__") (qual := "Table.__init__") (st := Law.clsS 27 0) (ps := ["self", "routes"]) C_Table.cls ?a43 ?i43 ?l43 ?c43 ?k43 (fun _ _ _ _ _ _ us hl => match us, hl with | [_, _], _ => rfl)) ?r43
    (case a43 => k_is); (case i43 => k_is); (case l43 => k_is); (case c43 => k_is); (case k43 => k_is)
    intro D_Table__init
    refine' L3.bind (L3.dfn_mk (x := "need_table") (st := Law.topS 28) (ps := ["table"]) KX G ?a44 ?l44 ?c44 ?k44 (fun _ _ _ _ _ _ us hl => match us, hl with | [_], _ => rfl)) ?r44
    (case a44 => k_is); (case l44 => k_is); (case c44 => k_is); (case k44 => k_is)
    intro D_need_table
    refine' L3.bind (L3.dfn_mk (x := "need_width") (st := Law.topS 36) (ps := ["width"]) KX G ?a45 ?l45 ?c45 ?k45 (fun _ _ _ _ _ _ us hl => match us, hl with | [_], _ => rfl)) ?r45
    (case a45 => k_is); (case l45 => k_is); (case c45 => k_is); (case k45 => k_is)
    intro D_need_width
    refine' L3.bind (L3.dfnM_mk (x := "__init__") (qual := "Choice.__init__") (st := Law.clsS 2 0) (ps := ["self", "size", "hops", "children"]) C_Choice.cls ?a46 ?i46 ?l46 ?c46 ?k46 (fun _ _ _ _ _ _ us hl => match us, hl with | [_, _, _, _], _ => rfl)) ?r46
    (case a46 => k_is); (case i46 => k_is); (case l46 => k_is); (case c46 => k_is); (case k46 => k_is)
    intro D_Choice__init
    refine' L3.bind (L3.dfnM_mk (x := "allows") (qual := "Choice.allows") (st := Law.clsS 2 1) (ps := ["self", "hop"]) C_Choice.cls ?a47 ?i47 ?l47 ?c47 ?k47 (fun _ _ _ _ _ _ us hl => match us, hl with | [_, _], _ => rfl)) ?r47
    (case a47 => k_is); (case i47 => k_is); (case l47 => k_is); (case c47 => k_is); (case k47 => k_is)
    intro D_Choice__allows
    refine' L3.bind (L3.dfnM_mk (x := "first_hop") (qual := "Choice.first_hop") (st := Law.clsS 2 2) (ps := ["self"]) C_Choice.cls ?a48 ?i48 ?l48 ?c48 ?k48 (fun _ _ _ _ _ _ us hl => match us, hl with | [_], _ => rfl)) ?r48
    (case a48 => k_is); (case i48 => k_is); (case l48 => k_is); (case c48 => k_is); (case k48 => k_is)
    intro D_Choice__first_hop
    refine' L3.bind (L3.dfn_mk (x := "common") (st := Law.topS 3) (ps := ["one", "two"]) KX G ?a49 ?l49 ?c49 ?k49 (fun _ _ _ _ _ _ us hl => match us, hl with | [_, _], _ => rfl)) ?r49
    (case a49 => k_is); (case l49 => k_is); (case c49 => k_is); (case k49 => k_is)
    intro D_common
    refine' L3.bind (L3.dfn_mk (x := "united") (st := Law.topS 4) (ps := ["one", "two"]) KX G ?a50 ?l50 ?c50 ?k50 (fun _ _ _ _ _ _ us hl => match us, hl with | [_, _], _ => rfl)) ?r50
    (case a50 => k_is); (case l50 => k_is); (case c50 => k_is); (case k50 => k_is)
    intro D_united
    refine' L3.bind (L3.dfn_mk (x := "leaf") (st := Law.topS 5) (ps := ["hops"]) KX G ?a51 ?l51 ?c51 ?k51 (fun _ _ _ _ _ _ us hl => match us, hl with | [_], _ => rfl)) ?r51
    (case a51 => k_is); (case l51 => k_is); (case c51 => k_is); (case k51 => k_is)
    intro D_leaf
    refine' L3.bind (L3.dfn_mk (x := "joined") (st := Law.topS 6) (ps := ["children", "own"]) KX G ?a52 ?l52 ?c52 ?k52 (fun _ _ _ _ _ _ us hl => match us, hl with | [_, _], _ => rfl)) ?r52
    (case a52 => k_is); (case l52 => k_is); (case c52 => k_is); (case k52 => k_is)
    intro D_joined
    refine' L3.bind (L3.dfn_mk (x := "picked") (st := Law.topS 7) (ps := ["choice", "prefix", "hop"]) KX G ?a53 ?l53 ?c53 ?k53 (fun _ _ _ _ _ _ us hl => match us, hl with | [_, _, _], _ => rfl)) ?r53
    (case a53 => k_is); (case l53 => k_is); (case c53 => k_is); (case k53 => k_is)
    intro D_picked
    refine' L3.bind (L3.dfnM_mk (x := "__init__") (qual := "Trie.__init__") (st := Law.clsS 30 0) (ps := ["self"]) C_Trie.cls ?a54 ?i54 ?l54 ?c54 ?k54 (fun _ _ _ _ _ _ us hl => match us, hl with | [_], _ => rfl)) ?r54
    (case a54 => k_is); (case i54 => k_is); (case l54 => k_is); (case c54 => k_is); (case k54 => k_is)
    intro D_Trie__init
    refine' L3.bind (L3.dfnM_mk (x := "put") (qual := "Trie.put") (st := Law.clsS 30 1) (ps := ["self", "prefix", "told"]) C_Trie.cls ?a55 ?i55 ?l55 ?c55 ?k55 (fun _ _ _ _ _ _ us hl => match us, hl with | [_, _, _], _ => rfl)) ?r55
    (case a55 => k_is); (case i55 => k_is); (case l55 => k_is); (case c55 => k_is); (case k55 => k_is)
    intro D_Trie__put
    refine' L3.bind (L3.dfnM_mk (x := "is_leaf") (qual := "Trie.is_leaf") (st := Law.clsS 30 2) (ps := ["self"]) C_Trie.cls ?a56 ?i56 ?l56 ?c56 ?k56 (fun _ _ _ _ _ _ us hl => match us, hl with | [_], _ => rfl)) ?r56
    (case a56 => k_is); (case i56 => k_is); (case l56 => k_is); (case c56 => k_is); (case k56 => k_is)
    intro D_Trie__is_leaf
    refine' L3.bind (L3.dfn_mk (x := "child") (st := Law.topS 32) (ps := ["node", "place"]) KX G ?a57 ?l57 ?c57 ?k57 (fun _ _ _ _ _ _ us hl => match us, hl with | [_, _], _ => rfl)) ?r57
    (case a57 => k_is); (case l57 => k_is); (case c57 => k_is); (case k57 => k_is)
    intro D_child
    refine' L3.bind (L3.dfn_mk (x := "told_at") (st := Law.topS 33) (ps := ["node", "told"]) KX G ?a58 ?l58 ?c58 ?k58 (fun _ _ _ _ _ _ us hl => match us, hl with | [_, _], _ => rfl)) ?r58
    (case a58 => k_is); (case l58 => k_is); (case c58 => k_is); (case k58 => k_is)
    intro D_told_at
    refine' L3.bind (L3.dfn_mk (x := "is_even") (st := Law.topS 34) (ps := ["node"]) KX G ?a59 ?l59 ?c59 ?k59 (fun _ _ _ _ _ _ us hl => match us, hl with | [_], _ => rfl)) ?r59
    (case a59 => k_is); (case l59 => k_is); (case c59 => k_is); (case k59 => k_is)
    intro D_is_even
    refine' L3.bind (L3.dfn_mk (x := "trie_of") (st := Law.topS 31) (ps := ["pairs", "most"]) KX G ?a60 ?l60 ?c60 ?k60 (fun _ _ _ _ _ _ us hl => match us, hl with | [_, _], _ => rfl)) ?r60
    (case a60 => k_is); (case l60 => k_is); (case c60 => k_is); (case k60 => k_is)
    intro D_trie_of
    refine' L3.bind (L3.dfn_mk (x := "need_plain") (st := Law.topS 40) (ps := ["plain"]) KX G ?a61 ?l61 ?c61 ?k61 (fun _ _ _ _ _ _ us hl => match us, hl with | [_], _ => rfl)) ?r61
    (case a61 => k_is); (case l61 => k_is); (case c61 => k_is); (case k61 => k_is)
    intro D_need_plain
    refine' L3.bind (L3.dfn_mk (x := "regions") (st := Law.topS 37) (ps := ["node", "hop", "prefix"]) KX G ?a62 ?l62 ?c62 ?k62 (fun _ _ _ _ _ _ us hl => match us, hl with | [_, _, _], _ => rfl)) ?r62
    (case a62 => k_is); (case l62 => k_is); (case c62 => k_is); (case k62 => k_is)
    intro D_regions
    refine' L3.bind (L3.dfn_mk (x := "choice_for") (st := Law.topS 41) (ps := ["node", "hop"]) KX G ?a63 ?l63 ?c63 ?k63 (fun _ _ _ _ _ _ us hl => match us, hl with | [_, _], _ => rfl)) ?r63
    (case a63 => k_is); (case l63 => k_is); (case c63 => k_is); (case k63 => k_is)
    intro D_choice_for
    refine' L3.bind (L3.dfn_mk (x := "plain_tree") (st := Law.topS 42) (ps := ["node", "hop"]) KX G ?a64 ?l64 ?c64 ?k64 (fun _ _ _ _ _ _ us hl => match us, hl with | [_, _], _ => rfl)) ?r64
    (case a64 => k_is); (case l64 => k_is); (case c64 => k_is); (case k64 => k_is)
    intro D_plain_tree
    refine' L3.bind (L3.dfn_mk (x := "plain_routes") (st := Law.topS 43) (ps := ["tree", "prefix"]) KX G ?a65 ?l65 ?c65 ?k65 (fun _ _ _ _ _ _ us hl => match us, hl with | [_, _], _ => rfl)) ?r65
    (case a65 => k_is); (case l65 => k_is); (case c65 => k_is); (case k65 => k_is)
    intro D_plain_routes
    refine' L3.bind (L3.dfn_mk (x := "count_led") (st := Law.topS 38) (ps := ["table", "width", "hop"]) KX G ?a66 ?l66 ?c66 ?k66 (fun _ _ _ _ _ _ us hl => match us, hl with | [_, _, _], _ => rfl)) ?r66
    (case a66 => k_is); (case l66 => k_is); (case c66 => k_is); (case k66 => k_is)
    intro D_count_led
    refine' L3.bind (L3.dfn_mk (x := "least_routes") (st := Law.topS 44) (ps := ["table", "width", "plain"]) KX G ?a67 ?l67 ?c67 ?k67 (fun _ _ _ _ _ _ us hl => match us, hl with | [_, _, _], _ => rfl)) ?r67
    (case a67 => k_is); (case l67 => k_is); (case c67 => k_is); (case k67 => k_is)
    intro D_least_routes
    refine' L3.bind (L3.dfn_mk (x := "least_size") (st := Law.topS 45) (ps := ["table", "width", "plain"]) KX G ?a68 ?l68 ?c68 ?k68 (fun _ _ _ _ _ _ us hl => match us, hl with | [_, _, _], _ => rfl)) ?r68
    (case a68 => k_is); (case l68 => k_is); (case c68 => k_is); (case k68 => k_is)
    intro D_least_size
    refine' L3.bind (L3.dfn_mk (x := "_law_half") (st := Law.topS 53) (ps := ["routes", "sign"]) KX G ?a69 ?l69 ?c69 ?k69 (fun _ _ _ _ _ _ us hl => match us, hl with | [_, _], _ => rfl)) ?r69
    (case a69 => k_is); (case l69 => k_is); (case c69 => k_is); (case k69 => k_is)
    intro D__law_half
    refine' L3.bind (L3.law_mk (st := Law.topS 54) KX G ?a70 ?l70 ?c70 ?k70 (fun _ => rfl)) ?r70
    (case a70 => k_is); (case l70 => k_is); (case c70 => k_is); (case k70 => k_is)
    intro D_law
    obtain ⟨fa, fd, Fu_law, hm_law, hb_law⟩ := D_law
    refine ⟨fa, fd, hm_law, hb_law, fun base hbK hbG => ?_⟩
    have N_Choice : Law.ChF _ _ := ⟨C_Choice.cls, n_Choice_size, n_Choice_hops, n_Choice_children⟩
    have N_Trie : Law.TrF _ _ := ⟨C_Trie.cls, n_Trie_told, n_Trie_children⟩
    have N_Table : Law.TabF _ _ := ⟨C_Table.cls, n_Table_routes⟩
    have h_taken := Law.ok_taken (Pg := PySem.Challenge.rw_leastroutes_k04_whole_halves.prog) (w := w) (mg := mg) (base := base) (D__law_taken := D__law_taken) (m_int := m_int) (m_len := m_len)
    have h_pick := fun {α : Type} (r : α → L3.As) => Law.ok_pick (Pg := PySem.Challenge.rw_leastroutes_k04_whole_halves.prog) (w := w) (mg := mg) (base := base) (D__law_pick := D__law_pick) (m_len := m_len) (h_taken := h_taken) r
    have h_bits := Law.ok_bits (Pg := PySem.Challenge.rw_leastroutes_k04_whole_halves.prog) (w := w) (mg := mg) (base := base) (D__law_bits := D__law_bits) (m_min := m_min) (m_range := m_range) (h_taken := h_taken)
    have h_longer := Law.ok_longer (Pg := PySem.Challenge.rw_leastroutes_k04_whole_halves.prog) (w := w) (mg := mg) (base := base) (D__law_longer := D__law_longer) (m_len := m_len) (m_range := m_range) (h_taken := h_taken) (h_bits := h_bits) (h_pick := h_pick)
    have h_prefixes := Law.ok_prefixes (Pg := PySem.Challenge.rw_leastroutes_k04_whole_halves.prog) (w := w) (mg := mg) (base := base) (D__law_prefixes := D__law_prefixes) (m_range := m_range) (h_taken := h_taken) (h_longer := h_longer)
    have h_routes := Law.ok_routes (Pg := PySem.Challenge.rw_leastroutes_k04_whole_halves.prog) (w := w) (mg := mg) (base := base) (D__law_routes := D__law_routes) (h_taken := h_taken) (h_prefixes := h_prefixes)
    have h_is_integer := Law.ok_is_integer (Pg := PySem.Challenge.rw_leastroutes_k04_whole_halves.prog) (w := w) (mg := mg) (base := base) (D_is_integer := D_is_integer) (m_isinstance := m_isinstance) (m_int := m_int) (m_bool := m_bool) (q_int_bool := q_int_bool)
    have h_is_within := Law.ok_is_within (Pg := PySem.Challenge.rw_leastroutes_k04_whole_halves.prog) (w := w) (mg := mg) (base := base) (D_is_within := D_is_within) (h_is_integer := h_is_integer)
    have h_is_row := Law.ok_is_row (Pg := PySem.Challenge.rw_leastroutes_k04_whole_halves.prog) (w := w) (mg := mg) (base := base) (D_is_row := D_is_row) (m_isinstance := m_isinstance) (m_list := m_list) (m_tuple := m_tuple)
    have h_is_bits := Law.ok_is_bits (Pg := PySem.Challenge.rw_leastroutes_k04_whole_halves.prog) (w := w) (mg := mg) (base := base) (D_is_bits := D_is_bits) (m_isinstance := m_isinstance) (m_str := m_str) (m_len := m_len) (m_all := m_all)
    have h_is_prefix := Law.ok_is_prefix (Pg := PySem.Challenge.rw_leastroutes_k04_whole_halves.prog) (w := w) (mg := mg) (base := base) (D_is_prefix := D_is_prefix) (g_MOST_BITS := g_MOST_BITS) (h_is_bits := h_is_bits)
    have h_is_hop := Law.ok_is_hop (Pg := PySem.Challenge.rw_leastroutes_k04_whole_halves.prog) (w := w) (mg := mg) (base := base) (D_is_hop := D_is_hop) (g_MOST_HOP := g_MOST_HOP) (h_is_within := h_is_within)
    have h_is_pair := Law.ok_is_pair (Pg := PySem.Challenge.rw_leastroutes_k04_whole_halves.prog) (w := w) (mg := mg) (base := base) (D_is_pair := D_is_pair) (m_isinstance := m_isinstance) (m_tuple := m_tuple) (m_len := m_len)
    have h_Table := Law.ok_Table (Pg := PySem.Challenge.rw_leastroutes_k04_whole_halves.prog) (w := w) (mg := mg) (base := base) (D_Table__init := D_Table__init) (C_Table := C_Table) (n_Table_hop_by := n_Table_hop_by) (n_Table_routes := n_Table_routes) (m_len := m_len) (m_enumerate := m_enumerate) (m_tuple := m_tuple) (m_sorted := m_sorted) (g_MOST_ROUTES := g_MOST_ROUTES) (h_is_row := h_is_row) (h_is_pair := h_is_pair) (h_is_prefix := h_is_prefix) (h_is_hop := h_is_hop)
    have h_need_table := Law.ok_need_table (Pg := PySem.Challenge.rw_leastroutes_k04_whole_halves.prog) (w := w) (mg := mg) (base := base) (D_need_table := D_need_table) (m_isinstance := m_isinstance) (C_Table := C_Table)
    have h_need_width := Law.ok_need_width (Pg := PySem.Challenge.rw_leastroutes_k04_whole_halves.prog) (w := w) (mg := mg) (base := base) (D_need_width := D_need_width) (g_MOST_BITS := g_MOST_BITS) (h_is_within := h_is_within)
    have h_Choice := Law.ok_Choice (Pg := PySem.Challenge.rw_leastroutes_k04_whole_halves.prog) (w := w) (mg := mg) (base := base) (D_Choice__init := D_Choice__init) (C_Choice := C_Choice) (n_Choice_size := n_Choice_size) (n_Choice_hops := n_Choice_hops) (n_Choice_children := n_Choice_children)
    have h_Choice__allows := Law.ok_Choice__allows (Pg := PySem.Challenge.rw_leastroutes_k04_whole_halves.prog) (w := w) (mg := mg) (base := base) (D_Choice__allows := D_Choice__allows) (N_Choice := N_Choice)
    have h_Choice__first_hop := Law.ok_Choice__first_hop (Pg := PySem.Challenge.rw_leastroutes_k04_whole_halves.prog) (w := w) (mg := mg) (base := base) (D_Choice__first_hop := D_Choice__first_hop) (N_Choice := N_Choice)
    have h_common := Law.ok_common (Pg := PySem.Challenge.rw_leastroutes_k04_whole_halves.prog) (w := w) (mg := mg) (base := base) (D_common := D_common) (m_tuple := m_tuple)
    have h_united := Law.ok_united (Pg := PySem.Challenge.rw_leastroutes_k04_whole_halves.prog) (w := w) (mg := mg) (base := base) (D_united := D_united) (m_tuple := m_tuple) (m_sorted := m_sorted) (m_list := m_list)
    have h_leaf := Law.ok_leaf (Pg := PySem.Challenge.rw_leastroutes_k04_whole_halves.prog) (w := w) (mg := mg) (base := base) (D_leaf := D_leaf) (h_Choice := h_Choice)
    have h_joined := Law.ok_joined (Pg := PySem.Challenge.rw_leastroutes_k04_whole_halves.prog) (w := w) (mg := mg) (base := base) (D_joined := D_joined) (N_Choice := N_Choice) (h_Choice := h_Choice) (h_common := h_common) (h_united := h_united)
    have h_picked := Law.ok_picked (Pg := PySem.Challenge.rw_leastroutes_k04_whole_halves.prog) (w := w) (mg := mg) (base := base) (D_picked := D_picked) (N_Choice := N_Choice) (h_Choice__allows := h_Choice__allows) (h_Choice__first_hop := h_Choice__first_hop)
    have h_Trie := Law.ok_Trie (Pg := PySem.Challenge.rw_leastroutes_k04_whole_halves.prog) (w := w) (mg := mg) (base := base) (D_Trie__init := D_Trie__init) (C_Trie := C_Trie) (N_Trie := N_Trie)
    have h_put := fun {α : Type} (r : α → L3.As) => Law.ok_put (Pg := PySem.Challenge.rw_leastroutes_k04_whole_halves.prog) (w := w) (mg := mg) (base := base) (D_Trie__put := D_Trie__put) (N_Trie := N_Trie) (m_int := m_int) (h_Trie := h_Trie) r
    have h_Trie__is_leaf := fun {α : Type} (r : α → L3.As) => Law.ok_Trie__is_leaf (Pg := PySem.Challenge.rw_leastroutes_k04_whole_halves.prog) (w := w) (mg := mg) (base := base) (D_Trie__is_leaf := D_Trie__is_leaf) (N_Trie := N_Trie) r
    have h_child := fun {α : Type} (r : α → L3.As) => Law.ok_child (Pg := PySem.Challenge.rw_leastroutes_k04_whole_halves.prog) (w := w) (mg := mg) (base := base) (D_child := D_child) (N_Trie := N_Trie) r
    have h_told_at := fun {α : Type} (r : α → L3.As) => Law.ok_told_at (Pg := PySem.Challenge.rw_leastroutes_k04_whole_halves.prog) (w := w) (mg := mg) (base := base) (D_told_at := D_told_at) (N_Trie := N_Trie) r
    have h_is_even := fun {α : Type} (r : α → L3.As) => Law.ok_is_even (Pg := PySem.Challenge.rw_leastroutes_k04_whole_halves.prog) (w := w) (mg := mg) (base := base) (D_is_even := D_is_even) (h_Trie__is_leaf := h_Trie__is_leaf) r
    have h_trie_of := fun {α : Type} (r : α → L3.As) => Law.ok_trie_of (Pg := PySem.Challenge.rw_leastroutes_k04_whole_halves.prog) (w := w) (mg := mg) (base := base) (D_trie_of := D_trie_of) (m_len := m_len) (h_Trie := h_Trie) (h_put := h_put) r
    have h_need_plain := Law.ok_need_plain (Pg := PySem.Challenge.rw_leastroutes_k04_whole_halves.prog) (w := w) (mg := mg) (base := base) (D_need_plain := D_need_plain) (m_isinstance := m_isinstance) (m_bool := m_bool)
    have h_regions := Law.ok_regions (Pg := PySem.Challenge.rw_leastroutes_k04_whole_halves.prog) (w := w) (mg := mg) (base := base) (D_regions := D_regions) (h_told_at := h_told_at) (h_is_even := h_is_even) (h_child := h_child)
    have h_choice_for := Law.ok_choice_for (Pg := PySem.Challenge.rw_leastroutes_k04_whole_halves.prog) (w := w) (mg := mg) (base := base) (D_choice_for := D_choice_for) (h_told_at := h_told_at) (h_is_even := h_is_even) (h_child := h_child) (h_leaf := h_leaf) (h_joined := h_joined)
    have h_plain_tree := Law.ok_plain_tree (Pg := PySem.Challenge.rw_leastroutes_k04_whole_halves.prog) (w := w) (mg := mg) (base := base) (D_plain_tree := D_plain_tree) (h_told_at := h_told_at) (h_is_even := h_is_even) (h_child := h_child) (h_leaf := h_leaf) (h_joined := h_joined)
    have h_plain_routes := fun D => Law.ok_plain_routes (Pg := PySem.Challenge.rw_leastroutes_k04_whole_halves.prog) (w := w) (mg := mg) (base := base) (D_plain_routes := D_plain_routes) (h_picked := h_picked) (D := D)
    have h_count_led := fun D => Law.ok_count_led (Pg := PySem.Challenge.rw_leastroutes_k04_whole_halves.prog) (w := w) (mg := mg) (base := base) (D_count_led := D_count_led) (N_Table := N_Table) (m_sum := m_sum) (m_len := m_len) (h_need_table := h_need_table) (h_need_width := h_need_width) (h_is_hop := h_is_hop) (h_regions := h_regions) (h_trie_of := h_trie_of) (D := D)
    have h_least_routes := fun D => Law.ok_least_routes (Pg := PySem.Challenge.rw_leastroutes_k04_whole_halves.prog) (w := w) (mg := mg) (base := base) (D_least_routes := D_least_routes) (N_Table := N_Table) (h_need_table := h_need_table) (h_need_width := h_need_width) (h_need_plain := h_need_plain) (h_trie_of := h_trie_of) (h_plain_routes := h_plain_routes) (h_plain_tree := h_plain_tree) (h_picked := h_picked) (h_choice_for := h_choice_for) (D := D)
    have h_least_size := fun D => Law.ok_least_size (Pg := PySem.Challenge.rw_leastroutes_k04_whole_halves.prog) (w := w) (mg := mg) (base := base) (D_least_size := D_least_size) (m_len := m_len) (h_least_routes := h_least_routes) (D := D)
    have h_half := Law.ok_half (Pg := PySem.Challenge.rw_leastroutes_k04_whole_halves.prog) (w := w) (mg := mg) (base := base) (D__law_half := D__law_half) (m_dict := m_dict)
    exact Law.ok_law (Pg := PySem.Challenge.rw_leastroutes_k04_whole_halves.prog) (w := w) (mg := mg) (base := base) (Fu_law := Fu_law) (m_sum := m_sum) (m_max := m_max) (m_len := m_len) (h_routes := h_routes) (h_taken := h_taken) (h_bits := h_bits) (h_Table := h_Table) (h_half := h_half) (h_least_size := h_least_size) (h_count_led := h_count_led) (facts := Law.facts)
