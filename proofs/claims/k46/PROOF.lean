import PyProof.Rows.All
import Wide.All
import OpenK.AllK
import Wide.FinOn
import HandS.ForMost
import HandS.ForExc
import HandS.Wide
import HandS.CallSlots
import HandS.Flow
import HandS.Style
import HandS.TupLe
import HandS.TupMul
import HandS.Zip
import HandS.Conv
import HandS.IsInst
import HandS.SortInts
import KE.GoesMore
import KE.GoesZip
import KE.GoesEnumKw
import HandS.ExcInit
import HandS.ExcField
import KE.KExcInit
import KE.KExcIs
import HandS.ExcIs
import KE.RegKIsAll
import PySem.Challenge.RW_bentcoin_k46_recipes_as_machines
set_option Elab.async false
set_option linter.all false
set_option maxRecDepth 100000
set_option maxHeartbeats 4000000
section
namespace Bc
open PySem L2

/-- plain data: a value with its tuples written out; ref n is the n-th mutable cell -/
inductive D where
  | non | bl (b : Bool) | int (i : Int) | str (x : Str) | tup (ds : List D) | ref (n : Nat) | exc (a : Addr) (n : Nat) (dd : Addr) | lit (ds : List D)
/-- a mutable cell: a list; the law's own argument, which is read only -/
inductive Cell where
  | lst (ds : List D)
  | ro (ds : List D)
  | dct (kvs : List (Key × D))
  | dctT (kvs : List (List Key × D))
  | set (M : Int → Bool) (n : Nat)
  | xd (f : Str) (v : D)
abbrev Sto := List Cell
abbrev Env := List (Option D)
abbrev Kv := D → Sto → Prop

/-- at a stands a written list of xs -/
def SqW (K : PySem.W.Frag) (a : Addr) (xs : List V) : Prop := ∃ (o : Obj) (its : Array Value) (n : Nat), K.lookup a = some o ∧ o.cls = .type "list" ∧ o.dict = none ∧ o.data = .seq its n ∧ its.size ≤ sizeLine ∧ Vals xs its.toList
section
variable (K : PySem.W.Frag)
mutual
/-- the value v, in the heap H, is the data d -/
inductive Rel (α : List Addr) (H : Hp) : V → D → Prop
  | non : Rel α H .non .non
  | bl (b : Bool) : Rel α H (.bl b) (.bl b)
  | int (i : Int) : Rel α H (.int i) (.int i)
  | str (x : Str) : Rel α H (.str x) (.str x)
  | tup {a : Addr} {xs : List V} {ds : List D} : SqT K H a xs → RelL α H xs ds → Rel α H (.ref a) (.tup ds)
  | ref {a : Addr} {n : Nat} : α[n]? = some a → Rel α H (.ref a) (.ref n)
  | exc {a dd : Addr} {n : Nat} : α[n]? = some dd → Rel α H (.ref a) (.exc a n dd)
  | lit {a : Addr} {xs : List V} {ds : List D} : SqW K a xs → RelL α H xs ds → Rel α H (.ref a) (.lit ds)
inductive RelL (α : List Addr) (H : Hp) : List V → List D → Prop
  | nil : RelL α H [] []
  | cons {v : V} {vs : List V} {d : D} {ds : List D} : Rel α H v d → RelL α H vs ds → RelL α H (v :: vs) (d :: ds)
end
/-- pairs of a dict -/
def RelKV {κ : Type} (α : List Addr) (H : Hp) (ws : List (κ × V)) (kvs : List (κ × D)) : Prop := ws.map (·.1) = kvs.map (·.1) ∧ RelL K α H (ws.map (·.2)) (kvs.map (·.2))
/-- what a cell is in the heap -/
def CellR (α : List Addr) (H : Hp) (a : Addr) : Cell → Prop
  | .lst ds => ∃ xs, H a = some (.lst xs) ∧ RelL K α H xs ds
  | .ro ds => ∃ o xs, H a = some (.frz o (.lst xs)) ∧ RelL K α H xs ds
  | .dct kvs => ∃ ws, H a = some (.dK ws) ∧ RelKV K α H ws kvs
  | .dctT kvs => ∃ ws, H a = some (.dT ws) ∧ RelKV K α H ws kvs
  | .set M n => H a = some (.set M n)
  | .xd f v => ∃ u, H a = some (.xd [(f, u)]) ∧ Rel K α H u v
/-- the store S stands in the heap H, its cells at α -/
structure StR (α : List Addr) (H : Hp) (S : Sto) : Prop where
  len : α.length = S.length
  nd : α.Nodup
  at_ : ∀ (n : Nat) c a, S[n]? = some c → α[n]? = some a → CellR K α H a c
/-- all that is not a cell stands as it stood -/
def Fr (α : List Addr) (H H' : Hp) : Prop := ∀ b o, H b = some o → b ∉ α → H' b = some o
/-- behind a step: more cells (new ones), the rest as it stood -/
structure Post (α : List Addr) (H : Hp) (α' : List Addr) (H' : Hp) (S' : Sto) : Prop where
  ext : ∃ β, α' = α ++ β ∧ ∀ b ∈ β, H b = none
  st : StR K α' H' S'
  fr : Fr α H H'
/-- slots -/
structure EnvR (α : List Addr) (H : Hp) (σ : L2.St) (ρ : Env) : Prop where
  len : σ.length = ρ.length
  at_ : ∀ (i : Nat) d, ρ[i]? = some (some d) → ∃ v, σ[i]? = some (some v) ∧ Rel K α H v d
end

section
variable {K : PySem.W.Frag} {α α' α'' : List Addr} {H H' H'' : Hp} {S S' S'' : Sto} {ρ : Env} {σ : L2.St}
/-- which tuples are kept -/
def Tk (K : PySem.W.Frag) (H H' : Hp) : Prop := ∀ a xs, SqT K H a xs → SqT K H' a xs
theorem Tk.refl : Tk K H H := fun _ _ h => h
theorem StR.ntup (s : StR K α H S) {a : Addr} (h : a ∈ α) : ∀ u, H a = some u → (∀ xs, u ≠ .tup xs) ∧ ∀ o xs, u ≠ .frz o (.tup xs) := by
  obtain ⟨n, hn, e⟩ := List.getElem_of_mem h
  have e1 : α[n]? = some a := by rw [List.getElem?_eq_getElem hn, e]
  have hs : n < S.length := s.len ▸ hn
  have c := s.at_ n S[n] a (List.getElem?_eq_getElem hs) e1
  intro u hu
  cases hc : S[n] <;> rw [hc] at c
  · obtain ⟨xs, h1, _⟩ := c
    rw [h1] at hu
    cases hu
    exact ⟨fun _ z => (by cases z), fun _ _ z => (by cases z)⟩
  · obtain ⟨o, xs, h1, _⟩ := c
    rw [h1] at hu
    cases hu
    exact ⟨fun _ z => (by cases z), fun _ _ z => (by cases z)⟩
  · obtain ⟨xs, h1, _⟩ := c
    rw [h1] at hu
    cases hu
    exact ⟨fun _ z => (by cases z), fun _ _ z => (by cases z)⟩
  · obtain ⟨xs, h1, _⟩ := c
    rw [h1] at hu
    cases hu
    exact ⟨fun _ z => (by cases z), fun _ _ z => (by cases z)⟩
  · rw [show H a = _ from c] at hu
    cases hu
    exact ⟨fun _ z => (by cases z), fun _ _ z => (by cases z)⟩
  · obtain ⟨xs, h1, _⟩ := c
    rw [h1] at hu
    cases hu
    exact ⟨fun _ z => (by cases z), fun _ _ z => (by cases z)⟩
theorem StR.tk (s : StR K α H S) (f : Fr α H H') : Tk K H H' := fun a xs h => by
  rcases h with (h | ⟨o, h⟩) | h
  · refine Or.inl (Or.inl (f _ _ h fun m => ?_))
    exact (s.ntup m _ h).1 xs rfl
  · refine Or.inl (Or.inr ⟨o, f _ _ h fun m => ?_⟩)
    exact (s.ntup m _ h).2 o xs rfl
  · exact Or.inr h
mutual
theorem Rel.mono (t : Tk K H H') (e : ∀ (n : Nat) a, α[n]? = some a → α'[n]? = some a) : ∀ {v : V} (d : D), Rel K α H v d → Rel K α' H' v d
  | _, .non, h => by cases h; exact .non
  | _, .bl _, h => by cases h; exact .bl _
  | _, .int _, h => by cases h; exact .int _
  | _, .str _, h => by cases h; exact .str _
  | _, .tup ds, h => by
    cases h with
    | tup h1 h2 => exact .tup (t _ _ h1) (RelL.mono t e ds h2)
  | _, .ref _, h => by
    cases h with
    | ref h => exact .ref (e _ _ h)
  | _, .exc _ _ _, h => by
    cases h with
    | exc h => exact .exc (e _ _ h)
  | _, .lit ds, h => by
    cases h with
    | lit h1 h2 => exact .lit h1 (RelL.mono t e ds h2)
theorem RelL.mono (t : Tk K H H') (e : ∀ (n : Nat) a, α[n]? = some a → α'[n]? = some a) : ∀ {vs : List V} (ds : List D), RelL K α H vs ds → RelL K α' H' vs ds
  | _, [], h => by cases h; exact .nil
  | _, d :: ds, h => by
    cases h with
    | cons h1 h2 => exact .cons (Rel.mono t e d h1) (RelL.mono t e ds h2)
end
theorem pre_get {β : List Addr} : ∀ (n : Nat) a, α[n]? = some a → (α ++ β)[n]? = some a := fun n a h => by
  have := (List.getElem?_eq_some_iff.mp h).1
  rw [List.getElem?_append_left this]
  exact h
theorem Post.get (p : Post K α H α' H' S') : ∀ (n : Nat) a, α[n]? = some a → α'[n]? = some a := by
  obtain ⟨β, rfl, _⟩ := p.ext
  exact pre_get
theorem Post.rel (p : Post K α H α' H' S') (s : StR K α H S) {v : V} {d : D} (h : Rel K α H v d) : Rel K α' H' v d := h.mono (s.tk p.fr) p.get d
theorem Post.relL (p : Post K α H α' H' S') (s : StR K α H S) {v : List V} {d : List D} (h : RelL K α H v d) : RelL K α' H' v d := RelL.mono (s.tk p.fr) p.get d h
theorem Post.env (p : Post K α H α' H' S') (s : StR K α H S) (h : EnvR K α H σ ρ) : EnvR K α' H' σ ρ :=
  ⟨h.len, fun i d e => let ⟨v, h1, h2⟩ := h.at_ i d e; ⟨v, h1, p.rel s h2⟩⟩
theorem Post.refl (s : StR K α H S) : Post K α H α H S := ⟨⟨[], by simp, fun _ h => by cases h⟩, s, fun _ _ h _ => h⟩
theorem Post.trans (p : Post K α H α' H' S') (q : Post K α' H' α'' H'' S'') : Post K α H α'' H'' S'' := by
  obtain ⟨β, rfl, h1⟩ := p.ext
  obtain ⟨γ, rfl, h2⟩ := q.ext
  have fb : ∀ b o, H b = some o → b ∉ α → b ∉ α ++ β := fun b o e hb m => by
    rcases List.mem_append.mp m with m | m
    · exact hb m
    · rw [h1 b m] at e
      cases e
  refine ⟨⟨β ++ γ, by simp, fun b m => ?_⟩, q.st, fun b o e hb => q.fr b o (p.fr b o e hb) (fb b o e hb)⟩
  rcases List.mem_append.mp m with m | m
  · exact h1 b m
  · by_cases hα : b ∈ α
    · exfalso
      have := q.st.nd
      rw [List.nodup_append] at this
      exact this.2.2 b (List.mem_append_left _ hα) b m rfl
    · cases e : H b with
      | none => rfl
      | some o =>
        have := p.fr b o e hα
        rw [h2 b m] at this
        cases this
theorem CellR.ex {a : Addr} {c : Cell} (h : CellR K α H a c) : ∃ o, H a = some o := by
  cases c with
  | lst ds => exact let ⟨_, e, _⟩ := h; ⟨_, e⟩
  | ro ds => exact let ⟨_, _, e, _⟩ := h; ⟨_, e⟩
  | dct ds => exact let ⟨_, e, _⟩ := h; ⟨_, e⟩
  | dctT ds => exact let ⟨_, e, _⟩ := h; ⟨_, e⟩
  | set M n => exact ⟨_, h⟩
  | xd f v => exact let ⟨_, e, _⟩ := h; ⟨_, e⟩
theorem StR.some_at (s : StR K α H S) {a : Addr} (m : a ∈ α) : ∃ o, H a = some o := by
  obtain ⟨n, hn, e⟩ := List.getElem_of_mem m
  have hs : n < S.length := s.len ▸ hn
  exact (s.at_ n S[n] a (List.getElem?_eq_getElem hs) (by rw [List.getElem?_eq_getElem hn, e])).ex
theorem RelKV.mono {κ : Type} {ws : List (κ × V)} {kvs : List (κ × D)} (t : Tk K H H') (e : ∀ (n : Nat) a, α[n]? = some a → α'[n]? = some a) (h : RelKV K α H ws kvs) : RelKV K α' H' ws kvs := ⟨h.1, RelL.mono t e _ h.2⟩
theorem CellR.mono (t : Tk K H H') (e : ∀ (n : Nat) a, α[n]? = some a → α'[n]? = some a) {a : Addr} {c : Cell} (ha : ∀ o, H a = some o → H' a = some o) (h : CellR K α H a c) : CellR K α' H' a c := by
  cases c with
  | lst ds =>
    obtain ⟨xs, e1, e2⟩ := h
    exact ⟨xs, ha _ e1, RelL.mono t e ds e2⟩
  | ro ds =>
    obtain ⟨o, xs, e1, e2⟩ := h
    exact ⟨o, xs, ha _ e1, RelL.mono t e ds e2⟩
  | dct kvs =>
    obtain ⟨xs, e1, e2⟩ := h
    exact ⟨xs, ha _ e1, e2.mono t e⟩
  | dctT kvs =>
    obtain ⟨xs, e1, e2⟩ := h
    exact ⟨xs, ha _ e1, e2.mono t e⟩
  | set M n => exact ha _ h
  | xd f v =>
    obtain ⟨u, e1, e2⟩ := h
    exact ⟨u, ha _ e1, e2.mono t e v⟩
/-- something new is laid, no cell -/
theorem Post.new (s : StR K α H S) {p : Addr} {o : HO} (hp : H p = none) : Post K α H α (upd H p o) S := by
  have np : p ∉ α := fun m => by
    obtain ⟨o, e⟩ := s.some_at m
    rw [hp] at e
    cases e
  have f : Fr α H (upd H p o) := fun b u e hb => by rw [upd_ne (ne_of_none e hp)]; exact e
  have t : Tk K H (upd H p o) := s.tk f
  refine ⟨⟨[], by simp, fun _ h => by cases h⟩, ⟨s.len, s.nd, fun n c a h1 h2 => ?_⟩, f⟩
  have c0 := s.at_ n c a h1 h2
  have na : a ≠ p := fun z => np (z ▸ List.mem_of_getElem? h2)
  exact CellR.mono t (fun _ _ h => h) (fun o e => by rw [upd_ne na]; exact e) c0
/-- a new object, a new cell -/
theorem Post.newCell (s : StR K α H S) {p : Addr} {o : HO} {c0 : Cell} (hp : H p = none) (hc : CellR K (α ++ [p]) (upd H p o) p c0) : Post K α H (α ++ [p]) (upd H p o) (S ++ [c0]) := by
  have np : p ∉ α := fun m => by
    obtain ⟨o, e⟩ := s.some_at m
    rw [hp] at e
    cases e
  have f : Fr α H (upd H p o) := fun b u e hb => by rw [upd_ne (ne_of_none e hp)]; exact e
  have t : Tk K H (upd H p o) := s.tk f
  refine ⟨⟨[p], rfl, fun b m => by rw [List.mem_singleton.mp m]; exact hp⟩, ⟨by simp [s.len], ?_, fun n c a h1 h2 => ?_⟩, f⟩
  · rw [List.nodup_append]
    exact ⟨s.nd, by simp, fun a ha b hb z => np (by rw [List.mem_singleton.mp hb] at z; exact z ▸ ha)⟩
  · by_cases hn : n < S.length
    · rw [List.getElem?_append_left hn] at h1
      rw [List.getElem?_append_left (s.len ▸ hn)] at h2
      have na : a ≠ p := fun z => np (z ▸ List.mem_of_getElem? h2)
      exact (s.at_ n c a h1 h2).mono t pre_get fun o e => by rw [upd_ne na]; exact e
    · rw [List.getElem?_append_right (by omega)] at h1
      rw [List.getElem?_append_right (by have := s.len; omega)] at h2
      have en : n - S.length = 0 := by
        have := (List.getElem?_eq_some_iff.mp h1).1
        simp at this
        omega
      have en2 : n - α.length = 0 := by
        have := s.len
        omega
      rw [en] at h1
      rw [en2] at h2
      cases h1
      cases h2
      exact hc
theorem StR.tkNew (s : StR K α H S) {p : Addr} {o : HO} (hp : H p = none) : Tk K H (upd H p o) := s.tk fun b u e hb => by rw [upd_ne (ne_of_none e hp)]; exact e
theorem Post.newList (s : StR K α H S) {p : Addr} {xs : List V} {ds : List D} (hp : H p = none) (r : RelL K α H xs ds) : Post K α H (α ++ [p]) (upd H p (.lst xs)) (S ++ [.lst ds]) :=
  Post.newCell s hp ⟨xs, upd_same, RelL.mono (s.tkNew hp) pre_get ds r⟩
/-- a cell is changed -/
theorem Post.setCell (s : StR K α H S) {n : Nat} {a : Addr} {o : HO} {c1 c0 : Cell} (hS : S[n]? = some c1) (ha : α[n]? = some a) (hc : Tk K H (upd H a o) → CellR K α (upd H a o) a c0) : Post K α H α (upd H a o) (S.set n c0) := by
  have ma : a ∈ α := List.mem_of_getElem? ha
  have f : Fr α H (upd H a o) := fun b u e hb => by
    rw [upd_ne (show b ≠ a from fun z => hb (by rw [z]; exact ma))]
    exact e
  have t : Tk K H (upd H a o) := s.tk f
  refine ⟨⟨[], by simp, fun _ h => by cases h⟩, ⟨by simp [s.len], s.nd, fun m c b h1 h2 => ?_⟩, f⟩
  by_cases e : m = n
  · subst e
    rw [ha] at h2
    cases h2
    have hm := (List.getElem?_eq_some_iff.mp hS).1
    rw [List.getElem?_set_self hm] at h1
    cases h1
    exact hc t
  · rw [List.getElem?_set_ne (Ne.symm e)] at h1
    have nb : b ≠ a := fun z => e (by
      subst z
      have m1 := (List.getElem?_eq_some_iff.mp ha)
      have m2 := (List.getElem?_eq_some_iff.mp h2)
      exact (List.getElem_inj s.nd).mp (m2.2.trans m1.2.symm))
    exact (s.at_ m c b h1 h2).mono t (fun _ _ h => h) fun o e => by rw [upd_ne nb]; exact e
theorem Post.setList (s : StR K α H S) {n : Nat} {a : Addr} {xs : List V} {ds0 ds : List D} (hS : S[n]? = some (.lst ds0)) (ha : α[n]? = some a) (r : RelL K α H xs ds) : Post K α H α (upd H a (.lst xs)) (S.set n (.lst ds)) :=
  Post.setCell s hS ha fun t => ⟨xs, upd_same, RelL.mono t (fun _ _ h => h) ds r⟩
/-- cells at the end are forgotten -/
theorem EnvR.set (h : EnvR K α H σ ρ) {v : V} {d : D} (r : Rel K α H v d) (i : Nat) : EnvR K α H (σ.set i (some v)) (ρ.set i (some d)) := by
  refine ⟨by simp [h.len], fun j e hj => ?_⟩
  by_cases z : j = i
  · subst z
    have hl : j < ρ.length := by
      have := (List.getElem?_eq_some_iff.mp hj).1
      simpa using this
    rw [List.getElem?_set_self hl] at hj
    cases hj
    exact ⟨v, List.getElem?_set_self (by rw [h.len]; exact hl), r⟩
  · rw [List.getElem?_set_ne (Ne.symm z)] at hj
    obtain ⟨u, h1, h2⟩ := h.at_ j e hj
    exact ⟨u, by rw [List.getElem?_set_ne (Ne.symm z)]; exact h1, h2⟩
theorem RelL.length : ∀ {vs : List V} {ds : List D}, RelL K α H vs ds → vs.length = ds.length
  | _, [], h => by cases h; rfl
  | _, d :: ds, h => by
    cases h with
    | cons _ h2 => simp [h2.length]
theorem RelL.get : ∀ {vs : List V} {ds : List D} {i : Nat} {d : D}, RelL K α H vs ds → ds[i]? = some d → ∃ v, vs[i]? = some v ∧ Rel K α H v d
  | _, [], _, _, _, e => by simp at e
  | _, d :: ds, i, _, h, e => by
    cases h with
    | cons h1 h2 =>
      cases i with
      | zero =>
        cases e
        exact ⟨_, rfl, h1⟩
      | succ i => exact h2.get (i := i) e
theorem RelL.append : ∀ {vs : List V} {ds : List D} {us : List V} {es : List D}, RelL K α H vs ds → RelL K α H us es → RelL K α H (vs ++ us) (ds ++ es)
  | _, [], _, _, h, g => by cases h; exact g
  | _, d :: ds, _, _, h, g => by
    cases h with
    | cons h1 h2 => exact .cons h1 (h2.append g)
theorem RelL.drop : ∀ {vs : List V} {ds : List D} (n : Nat), RelL K α H vs ds → RelL K α H (vs.drop n) (ds.drop n)
  | _, _, 0, h => h
  | _, [], _ + 1, h => by cases h; exact .nil
  | _, d :: ds, n + 1, h => by
    cases h with
    | cons _ h2 => exact h2.drop n
theorem RelL.take : ∀ {vs : List V} {ds : List D} (n : Nat), RelL K α H vs ds → RelL K α H (vs.take n) (ds.take n)
  | _, _, 0, _ => .nil
  | _, [], _ + 1, h => by cases h; exact .nil
  | _, d :: ds, n + 1, h => by
    cases h with
    | cons h1 h2 => exact .cons h1 (h2.take n)
theorem RelL.set : ∀ {vs : List V} {ds : List D} (n : Nat) {v : V} {d : D}, RelL K α H vs ds → Rel K α H v d → RelL K α H (vs.set n v) (ds.set n d)
  | _, [], _, _, _, h, _ => by cases h; exact .nil
  | _, d :: ds, 0, _, _, h, r => by
    cases h with
    | cons _ h2 => exact .cons r h2
  | _, d :: ds, n + 1, _, _, h, r => by
    cases h with
    | cons h1 h2 => exact .cons h1 (h2.set n r)
theorem RelL.reverse {vs : List V} {ds : List D} (h : RelL K α H vs ds) : RelL K α H vs.reverse ds.reverse := by
  induction ds generalizing vs with
  | nil => cases h; exact .nil
  | cons d ds ih =>
    cases h with
    | cons h1 h2 =>
      rw [List.reverse_cons, List.reverse_cons]
      exact (ih h2).append (.cons h1 .nil)
end
end Bc
end
section
namespace Bc
open PySem L2

/-- what is wanted of an exception: the number of its class, the cell that holds its field -/
abbrev Xk := Nat → Nat → Sto → Prop
/-- the exception classes: address, field -/
abbrev XTab := List (Addr × Str)
/-- the exception of class c whose field is kept in the n-th cell stands as class cls, own dict dx -/
def ExAt (K : PySem.W.Frag) (T : XTab) (α : List Addr) (H : Hp) (c : Nat) (n : Nat) (cls : Value) (dx : Option Addr) : Prop :=
  ∃ C f d, T[c]? = some (C, f) ∧ cls = .ref C ∧ dx = some d ∧ α[n]? = some d

section
variable (K : PySem.W.Frag) (T : XTab) (W : WX)
/-- the link of two wishes about values, and about exceptions at the slots σ -/
def LkV (α : List Addr) (H : Hp) (Q' : Kv) (Q : VK) : Prop := ∀ d S' α' H' v, Post K α H α' H' S' → Rel K α' H' v d → Q' d S' → Q v H'
def LkX (σ : L2.St) (α : List Addr) (H : Hp) (X' : Xk) : Prop := ∀ c v S' α' H' cls dx, Post K α H α' H' S' → ExAt K T α' H' c v cls dx → X' c v S' → W cls dx σ H'
abbrev FE := Env → Sto → Kv → Xk → Prop
abbrev FT := Env → Sto → (Bool → Sto → Prop) → Xk → Prop
abbrev FA := Env → Sto → (List D → Sto → Prop) → Xk → Prop
def liE (f : FE) : TE := fun σ H Q => ∃ α ρ S Q' X', StR K α H S ∧ EnvR K α H σ ρ ∧ f ρ S Q' X' ∧ LkV K α H Q' Q ∧ LkX K T W σ α H X'
def liT (f : FT) : TT := fun σ H Q => ∃ α ρ S Q' X', StR K α H S ∧ EnvR K α H σ ρ ∧ f ρ S Q' X' ∧ (∀ b S' α' H', Post K α H α' H' S' → Q' b S' → Q b H') ∧ LkX K T W σ α H X'
def liA (f : FA) : TA := fun σ H Q => ∃ α ρ S Q' X', StR K α H S ∧ EnvR K α H σ ρ ∧ f ρ S Q' X' ∧ (∀ ds S' α' H' vs, Post K α H α' H' S' → RelL K α' H' vs ds → Q' ds S' → Q vs H') ∧ LkX K T W σ α H X'
/-- operations by values -/
abbrev F2 := D → D → Sto → Kv → Prop
abbrev F1 := D → Sto → Kv → Prop
abbrev FN := List D → Sto → Kv → Prop
def li2 (q : F2) : R2 := fun x y H Q => ∃ α S d e Q', StR K α H S ∧ Rel K α H x d ∧ Rel K α H y e ∧ q d e S Q' ∧ LkV K α H Q' Q
def li1 (q : F1) : V → Hp → VK → Prop := fun x H Q => ∃ α S d Q', StR K α H S ∧ Rel K α H x d ∧ q d S Q' ∧ LkV K α H Q' Q
def liN (q : FN) : List V → Hp → VK → Prop := fun xs H Q => ∃ α S ds Q', StR K α H S ∧ RelL K α H xs ds ∧ q ds S Q' ∧ LkV K α H Q' Q
def li1N (q : D → List D → Sto → Kv → Prop) : V → List V → Hp → VK → Prop := fun x xs H Q => ∃ α S d ds Q', StR K α H S ∧ Rel K α H x d ∧ RelL K α H xs ds ∧ q d ds S Q' ∧ LkV K α H Q' Q
end
section
variable {K : PySem.W.Frag} {T : XTab} {W : WX} {α α' : List Addr} {H H' : Hp} {S S' : Sto} {ρ : Env} {σ : L2.St} {X : Cx}
theorem LkV.after {Q' : Kv} {Q : VK} (p : Post K α H α' H' S') (k : LkV K α H Q' Q) : LkV K α' H' Q' Q := fun d S2 α2 H2 v p2 r h => k d S2 α2 H2 v (p.trans p2) r h
theorem LkX.after {X' : Xk} (p : Post K α H α' H' S') (k : LkX K T W σ α H X') : LkX K T W σ α' H' X' := fun c v S2 α2 H2 cls dx p2 r h => k c v S2 α2 H2 cls dx (p.trans p2) r h
theorem pe_imp {e : Expr} {t t' : TE} (h : PE X e t) (k : ∀ σ H Q, t' σ H Q → t σ H Q) : PE X e t' := ⟨fun pins s σ H Q I z => h.run pins s σ H Q I (k _ _ _ z)⟩
theorem pt_imp {e : Expr} {t t' : TT} (h : PT X e t) (k : ∀ σ H Q, t' σ H Q → t σ H Q) : PT X e t' := ⟨fun pins s σ H Q I z => h.run pins s σ H Q I (k _ _ _ z)⟩
theorem pa_imp {e : List Expr} {t t' : TA} (h : PA X e t) (k : ∀ σ H Q, t' σ H Q → t σ H Q) : PA X e t' := ⟨fun pos pins s σ H Q I z => h.run pos pins s σ H Q I (k _ _ _ z)⟩
/-- one value, then the rest -/
theorem liE_then {f : FE} {g : D → FE} {Q : VK} {R : V → Hp → Prop} (h : liE K T W (fun ρ S Q' X' => f ρ S (fun d S1 => g d ρ S1 Q' X') X') σ H Q)
    (k : ∀ α ρ S d v H Q' X', StR K α H S → EnvR K α H σ ρ → Rel K α H v d → g d ρ S Q' X' → LkV K α H Q' Q → LkX K T W σ α H X' → R v H) : liE K T W f σ H R := by
  obtain ⟨α, ρ, S, Q', X', st, en, h, kv, kx⟩ := h
  exact ⟨α, ρ, S, _, X', st, en, h, fun d S1 α1 H1 v p r hg => k α1 ρ S1 d v H1 Q' X' p.st (p.env st en) r hg (kv.after p) (kx.after p), kx⟩
theorem liA_then {f : FA} {g : List D → FE} {Q : VK} {R : List V → Hp → Prop} (h : liE K T W (fun ρ S Q' X' => f ρ S (fun d S1 => g d ρ S1 Q' X') X') σ H Q)
    (k : ∀ α ρ S d v H Q' X', StR K α H S → EnvR K α H σ ρ → RelL K α H v d → g d ρ S Q' X' → LkV K α H Q' Q → LkX K T W σ α H X' → R v H) : liA K T W f σ H R := by
  obtain ⟨α, ρ, S, Q', X', st, en, h, kv, kx⟩ := h
  exact ⟨α, ρ, S, _, X', st, en, h, fun d S1 α1 H1 v p r hg => k α1 ρ S1 d v H1 Q' X' p.st (p.env st en) r hg (kv.after p) (kx.after p), kx⟩
theorem liT_then {f : FT} {g : Bool → FE} {Q : VK} {R : Bool → Hp → Prop} (h : liE K T W (fun ρ S Q' X' => f ρ S (fun b S1 => g b ρ S1 Q' X') X') σ H Q)
    (k : ∀ α ρ S b H Q' X', StR K α H S → EnvR K α H σ ρ → g b ρ S Q' X' → LkV K α H Q' Q → LkX K T W σ α H X' → R b H) : liT K T W f σ H R := by
  obtain ⟨α, ρ, S, Q', X', st, en, h, kv, kx⟩ := h
  exact ⟨α, ρ, S, _, X', st, en, h, fun b S1 α1 H1 p hg => k α1 ρ S1 b H1 Q' X' p.st (p.env st en) hg (kv.after p) (kx.after p), kx⟩

def fVar (i : Nat) : FE := fun ρ S Q _ => ∃ d, ρ[i]? = some (some d) ∧ Q d S
def fC (d : D) : FE := fun _ S Q _ => Q d S
theorem p_var {i : Nat} {x : Str} {pos : Pos} (hN : X.N[i]? = some x) (hv : Vis X.env.scope x) (hd : (x == ("__debug__" : Str)) = false) (hc : (x == ("__classdict__" : Str)) = false) :
    PE X (.Name x pos) (liE K T W (fVar i)) := pe_imp (pe_var hN hv hd hc) fun σ H Q h => by
  obtain ⟨α, ρ, S, Q', X', st, en, ⟨d, e, h⟩, kv, kx⟩ := h
  obtain ⟨v, e1, r⟩ := en.at_ i d e
  exact ⟨v, e1, kv d S α H v (Post.refl st) r h⟩
theorem p_c {e : Expr} {v : V} {d : D} (h : PE X e (tC v)) (r : ∀ α H, Rel K α H v d) : PE X e (liE K T W (fC d)) := pe_imp h fun σ H Q h => by
  obtain ⟨α, ρ, S, Q', X', st, en, h, kv, kx⟩ := h
  exact kv d S α H v (Post.refl st) (r _ _) h

def f2 (q : F2) (a b : FE) : FE := fun ρ S Q X => a ρ S (fun x S1 => b ρ S1 (fun y S2 => q x y S2 Q) X) X
def f1 (q : F1) (a : FE) : FE := fun ρ S Q X => a ρ S (fun x S1 => q x S1 Q) X
theorem li_f2 {q : F2} {a b : FE} {Q : VK} (h : liE K T W (f2 q a b) σ H Q) : tOp (li2 K q) (liE K T W a) (liE K T W b) σ H Q :=
  liE_then (g := fun x ρ S Q X => b ρ S (fun y S2 => q x y S2 Q) X) h fun α ρ S d v H Q' X' st en r hg kv kx =>
    show liE K T W b σ H (fun y H2 => li2 K q v y H2 Q) from
    ⟨α, ρ, S, _, X', st, en, hg, fun d2 S2 α2 H2 v2 p r2 h2 => ⟨α2, S2, d, d2, Q', p.st, p.rel st r, r2, h2, kv.after p⟩, kx⟩
theorem li_f1 {q : F1} {a : FE} {Q : VK} (h : liE K T W (f1 q a) σ H Q) : tUn (li1 K q) (liE K T W a) σ H Q :=
  liE_then (g := fun x ρ S Q X => q x S Q) h fun α ρ S d v H Q' X' st en r hg kv kx => ⟨α, S, d, Q', st, r, hg, kv⟩

def fNil : FA := fun _ S Q _ => Q [] S
def fCons (a : FE) (r : FA) : FA := fun ρ S Q X => a ρ S (fun x S1 => r ρ S1 (fun xs S2 => Q (x :: xs) S2) X) X
theorem li_nil {Q : List V → Hp → Prop} (h : liA K T W fNil σ H Q) : tNil σ H Q := by
  obtain ⟨α, ρ, S, Q', X', st, en, h, kv, kx⟩ := h
  exact kv [] S α H [] (Post.refl st) .nil h
theorem li_cons {a : FE} {r : FA} {Q : List V → Hp → Prop} (h : liA K T W (fCons a r) σ H Q) : tCons (liE K T W a) (liA K T W r) σ H Q := by
  obtain ⟨α, ρ, S, Q', X', st, en, h, kv, kx⟩ := h
  refine ⟨α, ρ, S, _, X', st, en, h, fun d S1 α1 H1 v p r1 hg => ?_, kx⟩
  exact ⟨α1, ρ, S1, _, X', p.st, p.env st en, hg, fun ds S2 α2 H2 vs p2 r2 h2 => kv _ S2 α2 H2 _ (p.trans p2) (.cons (p2.rel p.st r1) r2) h2, kx.after p⟩

def fTup (a : FA) : FE := fun ρ S Q X => a ρ S (fun xs S1 => xs.length ≤ sizeLine ∧ Q (.tup xs) S1) X
def fLst (a : FA) : FE := fun ρ S Q X => a ρ S (fun xs S1 => xs.length ≤ sizeLine ∧ Q (.ref S1.length) (S1 ++ [.lst xs])) X
theorem upd_tup (st : StR K α H S) {p : Addr} {xs : List V} {ds : List D} (hp : H p = none) (r : RelL K α H xs ds) : Post K α H α (upd H p (.tup xs)) S ∧ Rel K α (upd H p (.tup xs)) (.ref p) (.tup ds) := by
  have po : Post K α H α (upd H p (.tup xs)) S := Post.new st hp
  exact ⟨po, .tup (.inl (.inl upd_same)) (po.relL st r)⟩
theorem ref_new {β : List Addr} {a : Addr} (st : StR K α H S) : (α ++ [a])[S.length]? = some a := by
  rw [← st.len]
  simp
theorem li_tup {a : FA} {Q : VK} (h : liE K T W (fTup a) σ H Q) : tTup (liA K T W a) σ H Q :=
  liA_then (g := fun xs ρ S Q X => xs.length ≤ sizeLine ∧ Q (.tup xs) S) h fun α ρ S ds vs H Q' X' st en r hg kv kx =>
    ⟨r.length ▸ hg.1, fun p hp => let ⟨po, rr⟩ := upd_tup st hp r; kv _ _ _ _ _ po rr hg.2⟩
theorem li_lst {a : FA} {Q : VK} (h : liE K T W (fLst a) σ H Q) : tLst (liA K T W a) σ H Q :=
  liA_then (g := fun (xs : List D) (ρ : Env) (S : Sto) (Q : Kv) (X : Xk) => xs.length ≤ sizeLine ∧ Q (.ref S.length) (S ++ [Cell.lst xs])) h fun α ρ S ds vs H Q' X' st en r hg kv kx =>
    ⟨r.length ▸ hg.1, fun p hp => kv _ _ _ _ _ (Post.newList st hp r) (.ref (ref_new (β := []) st)) hg.2⟩

def fN (q : FN) (a : FA) : FE := fun ρ S Q X => a ρ S (fun xs S1 => q xs S1 Q) X
theorem li_fN {q : FN} {a : FA} {Q : VK} (h : liE K T W (fN q a) σ H Q) : tCB (liN K q) (liA K T W a) σ H Q :=
  liA_then (g := fun xs ρ S Q X => q xs S Q) h fun α ρ S ds vs H Q' X' st en r hg kv kx => ⟨α, S, ds, Q', st, r, hg, kv⟩

def fIf (c : FT) (a b : FE) : FE := fun ρ S Q X => c ρ S (fun k S1 => if k = true then a ρ S1 Q X else b ρ S1 Q X) X
theorem li_if {c : FT} {a b : FE} {Q : VK} (h : liE K T W (fIf c a b) σ H Q) : tIf (liT K T W c) (liE K T W a) (liE K T W b) σ H Q :=
  liT_then (g := fun k ρ S Q X => if k = true then a ρ S Q X else b ρ S Q X) h fun α ρ S k H Q' X' st en hg kv kx => by
    cases k with
    | true => exact ⟨α, ρ, S, Q', X', st, en, hg, kv, kx⟩
    | false => exact ⟨α, ρ, S, Q', X', st, en, hg, kv, kx⟩
/-- a value that is a bool, as a test -/
def fTst (a : FE) : FT := fun ρ S Q X => a ρ S (fun d S1 => ∃ b, d = .bl b ∧ Q b S1) X
theorem li_tst {a : FE} {Q : Bool → Hp → Prop} (h : liT K T W (fTst a) σ H Q) : tTest (liE K T W a) σ H Q := by
  obtain ⟨α, ρ, S, Q', X', st, en, h, kv, kx⟩ := h
  refine ⟨α, ρ, S, _, X', st, en, h, fun d S1 α1 H1 v p r hg => ?_, kx⟩
  obtain ⟨b, rfl, hq⟩ := hg
  cases r
  exact ⟨b, rfl, kv b S1 α1 H1 p hq⟩
def fAnd (a b : FT) : FT := fun ρ S Q X => a ρ S (fun k S1 => if k = true then b ρ S1 Q X else Q false S1) X
def fOr (a b : FT) : FT := fun ρ S Q X => a ρ S (fun k S1 => if k = true then Q true S1 else b ρ S1 Q X) X
def fNot (a : FT) : FT := fun ρ S Q X => a ρ S (fun k S1 => Q (!k) S1) X
theorem li_and {a b : FT} {Q : Bool → Hp → Prop} (h : liT K T W (fAnd a b) σ H Q) : tAnd (liT K T W a) (liT K T W b) σ H Q := by
  obtain ⟨α, ρ, S, Q', X', st, en, h, kv, kx⟩ := h
  refine ⟨α, ρ, S, _, X', st, en, h, fun k S1 α1 H1 p hg => ?_, kx⟩
  cases k with
  | true => exact ⟨α1, ρ, S1, Q', X', p.st, p.env st en, hg, fun b S2 α2 H2 p2 h2 => kv b S2 α2 H2 (p.trans p2) h2, kx.after p⟩
  | false => exact kv false S1 α1 H1 p hg
theorem li_or {a b : FT} {Q : Bool → Hp → Prop} (h : liT K T W (fOr a b) σ H Q) : tOr (liT K T W a) (liT K T W b) σ H Q := by
  obtain ⟨α, ρ, S, Q', X', st, en, h, kv, kx⟩ := h
  refine ⟨α, ρ, S, _, X', st, en, h, fun k S1 α1 H1 p hg => ?_, kx⟩
  cases k with
  | false => exact ⟨α1, ρ, S1, Q', X', p.st, p.env st en, hg, fun b S2 α2 H2 p2 h2 => kv b S2 α2 H2 (p.trans p2) h2, kx.after p⟩
  | true => exact kv true S1 α1 H1 p hg
theorem li_not {a : FT} {Q : Bool → Hp → Prop} (h : liT K T W (fNot a) σ H Q) : tNot (liT K T W a) σ H Q := by
  obtain ⟨α, ρ, S, Q', X', st, en, h, kv, kx⟩ := h
  exact ⟨α, ρ, S, _, X', st, en, h, fun k S1 α1 H1 p hg => kv _ S1 α1 H1 p hg, kx⟩
/-- the same as values: bools -/
def fAndV (a b : FE) : FE := fun ρ S Q X => a ρ S (fun d S1 => ∃ k, d = .bl k ∧ if k = true then b ρ S1 Q X else Q (.bl false) S1) X
def fOrV (a b : FE) : FE := fun ρ S Q X => a ρ S (fun d S1 => ∃ k, d = .bl k ∧ if k = true then Q (.bl true) S1 else b ρ S1 Q X) X
def fNotV (a : FE) : FE := fun ρ S Q X => a ρ S (fun d S1 => ∃ k, d = .bl k ∧ Q (.bl (!k)) S1) X
theorem li_andV {a b : FE} {Q : VK} (h : liE K T W (fAndV a b) σ H Q) : tAndV (liE K T W a) (liE K T W b) σ H Q :=
  liE_then (g := fun d ρ S Q X => ∃ k, d = .bl k ∧ if k = true then b ρ S Q X else Q (.bl false) S) h fun α ρ S d v H Q' X' st en r hg kv kx => by
    obtain ⟨k, rfl, hg⟩ := hg
    cases r
    refine ⟨k, rfl, ?_⟩
    cases k with
    | true => exact ⟨α, ρ, S, Q', X', st, en, hg, kv, kx⟩
    | false => exact kv _ S α H _ (Post.refl st) (.bl false) hg
theorem li_orV {a b : FE} {Q : VK} (h : liE K T W (fOrV a b) σ H Q) : tOrV (liE K T W a) (liE K T W b) σ H Q :=
  liE_then (g := fun d ρ S Q X => ∃ k, d = .bl k ∧ if k = true then Q (.bl true) S else b ρ S Q X) h fun α ρ S d v H Q' X' st en r hg kv kx => by
    obtain ⟨k, rfl, hg⟩ := hg
    cases r
    refine ⟨k, rfl, ?_⟩
    cases k with
    | false => exact ⟨α, ρ, S, Q', X', st, en, hg, kv, kx⟩
    | true => exact kv _ S α H _ (Post.refl st) (.bl true) hg
theorem li_notV {a : FE} {Q : VK} (h : liE K T W (fNotV a) σ H Q) : tNotV (liE K T W a) σ H Q :=
  liE_then (g := fun d ρ S Q X => ∃ k, d = .bl k ∧ Q (.bl (!k)) S) h fun α ρ S d v H Q' X' st en r hg kv kx => by
    obtain ⟨k, rfl, hg⟩ := hg
    cases r
    exact ⟨k, rfl, kv _ S α H _ (Post.refl st) (.bl _) hg⟩
/-- truth -/
def tru (S : Sto) : D → (Bool → Prop) → Prop
  | .non, Q => Q false
  | .bl b, Q => Q b
  | .int i, Q => Q (i != 0)
  | .str x, Q => x.length ≤ sizeLine ∧ Q ((x.length : Int) != 0)
  | .tup ds, Q => Q (!ds.isEmpty)
  | .ref n, Q => ∃ ds, (S[n]? = some (.lst ds) ∨ S[n]? = some (.ro ds)) ∧ Q (!ds.isEmpty)
  | .exc _ _ _, Q => False
  | .lit _, Q => False
def fTru (a : FE) : FT := fun ρ S Q X => a ρ S (fun d S1 => tru S1 d fun b => Q b S1) X
theorem RelL.empty {vs : List V} {ds : List D} (r : RelL K α H vs ds) : vs.isEmpty = ds.isEmpty := by
  cases ds with
  | nil => cases r; rfl
  | cons d ds => cases r; rfl
theorem StR.cellA (st : StR K α H S) {n : Nat} {a : Addr} {c : Cell} (h : S[n]? = some c) (e : α[n]? = some a) : CellR K α H a c := st.at_ n c a h e
theorem StR.rd (st : StR K α H S) {n : Nat} {a : Addr} {ds : List D} (h : S[n]? = some (.lst ds) ∨ S[n]? = some (.ro ds)) (e : α[n]? = some a) : ∃ xs, SqL K H a xs ∧ RelL K α H xs ds := by
  rcases h with h | h
  · obtain ⟨xs, e1, r⟩ := st.cellA h e
    exact ⟨xs, .inl (.inl e1), r⟩
  · obtain ⟨o, xs, e1, r⟩ := st.cellA h e
    exact ⟨xs, .inl (.inr ⟨o, e1⟩), r⟩
theorem tru_v {d : D} {v : V} {Q : Bool → Prop} (st : StR K α H S) (r : Rel K α H v d) (h : tru S d Q) : ∃ k, TruV K v H k ∧ Q k := by
  cases d with
  | non => cases r; exact ⟨_, rfl, h⟩
  | bl b => cases r; exact ⟨_, rfl, h⟩
  | int i => cases r; exact ⟨_, rfl, h⟩
  | str x => cases r; exact ⟨_, ⟨h.1, rfl⟩, h.2⟩
  | tup ds =>
    cases r with
    | tup s r => exact ⟨_, .inr (.inl ⟨_, s, rfl⟩), by rw [r.empty]; exact h⟩
  | ref n =>
    cases r with
    | ref e =>
      obtain ⟨ds, h1, h2⟩ := h
      obtain ⟨xs, s, rr⟩ := st.rd h1 e
      exact ⟨_, .inl ⟨xs, s, rfl⟩, by rw [rr.empty]; exact h2⟩
  | exc a n dd => exact h.elim
  | lit ds => exact h.elim
theorem li_tru {a : FE} {Q : Bool → Hp → Prop} (h : liT K T W (fTru a) σ H Q) : (fun σ H Q => liE K T W a σ H fun x H' => ∃ k, TruV K x H' k ∧ Q k H') σ H Q := by
  obtain ⟨α, ρ, S, Q', X', st, en, h, kv, kx⟩ := h
  refine ⟨α, ρ, S, _, X', st, en, h, fun d S1 α1 H1 v p r hg => ?_, kx⟩
  obtain ⟨k, t, hq⟩ := tru_v p.st r hg
  exact ⟨k, t, kv k S1 α1 H1 p hq⟩
/-- chains -/
def fChn (q1 q2 : F2) (a b c : FE) : FE := fun ρ S Q X => a ρ S (fun x S1 => b ρ S1 (fun y S2 => q1 x y S2 fun z S3 => ∃ k, z = .bl k ∧ if k = true then c ρ S3 (fun u S4 => q2 y u S4 Q) X else Q (.bl false) S3) X) X
theorem li_chn {q1 q2 : F2} {a b c : FE} {Q : VK} (h : liE K T W (fChn q1 q2 a b c) σ H Q) : tChain (li2 K q1) (li2 K q2) (liE K T W a) (liE K T W b) (liE K T W c) σ H Q := by
  obtain ⟨α, ρ, S, Q', X', st, en, h, kv, kx⟩ := h
  refine ⟨α, ρ, S, _, X', st, en, h, fun x S1 α1 H1 v p r hg => ?_, kx⟩
  refine ⟨α1, ρ, S1, _, X', p.st, p.env st en, hg, fun y S2 α2 H2 u p2 r2 hg2 => ?_, kx.after p⟩
  refine ⟨α2, S2, x, y, _, p2.st, p2.rel p.st r, r2, hg2, fun z S3 α3 H3 t p3 r3 hg3 => ?_⟩
  obtain ⟨k, rfl, hg3⟩ := hg3
  cases r3
  refine ⟨k, rfl, ?_⟩
  have p13 := (p.trans p2).trans p3
  cases k with
  | true =>
    refine ⟨α3, ρ, S3, _, X', p3.st, p13.env st en, hg3, fun d S4 α4 H4 t p4 r4 hg4 => ?_, kx.after p13⟩
    exact ⟨α4, S4, y, d, Q', p4.st, p4.rel p3.st (p3.rel p2.st r2), r4, hg4, kv.after (p13.trans p4)⟩
  | false => exact kv _ S3 α3 H3 _ p13 (.bl false) hg3
end
end Bc
end
section
namespace Bc
open PySem L2 PyProof.Rows

mutual
def D.pyd : D → PyData
  | .non => .none
  | .bl b => .bool b
  | .int i => .int i
  | .str x => .str x
  | .tup ds => .tuple (pydL ds)
  | .ref _ => .none
  | .exc _ _ _ => .none
  | .lit _ => .none
def pydL : List D → List PyData
  | [] => []
  | d :: ds => d.pyd :: pydL ds
end
mutual
/-- no cell within -/
def D.nr : D → Bool
  | .tup ds => nrL ds
  | .ref _ => false
  | .exc _ _ _ => false
  | .lit _ => false
  | _ => true
def nrL : List D → Bool
  | [] => true
  | d :: ds => d.nr && nrL ds
end
theorem pydL_map (ds : List D) : pydL ds = ds.map D.pyd := by
  induction ds with
  | nil => rfl
  | cons d ds ih => simp [pydL, ih]
theorem nrL_all (ds : List D) : nrL ds = ds.all D.nr := by
  induction ds with
  | nil => rfl
  | cons d ds ih => simp [nrL, ih]
/-- what == reads: data without cells, or a list of such -/
inductive PyOf (S : Sto) : D → PyData → Prop
  | nr {d : D} : d.nr = true → PyOf S d d.pyd
  | lst {n : Nat} {ds : List D} : (S[n]? = some (.lst ds) ∨ S[n]? = some (.ro ds)) → nrL ds = true → PyOf S (.ref n) (.list (pydL ds))
section
variable {K : PySem.W.Frag} {T : XTab} {W : WX} {α α' : List Addr} {H H' : Hp} {S S' : Sto} {X : Cx}
mutual
theorem Rel.dp : ∀ {v : V} (d : D), Rel K α H v d → d.nr = true → Dp K H v d.pyd
  | _, .non, h, _ => by cases h; exact .non
  | _, .bl _, h, _ => by cases h; exact .bl _
  | _, .int _, h, _ => by cases h; exact .int _
  | _, .str _, h, _ => by cases h; exact .str _
  | _, .tup ds, h, n => by
    cases h with
    | tup h1 h2 =>
      rw [D.nr] at n
      exact .tup h1 (RelL.dp ds h2 n)
  | _, .ref _, _, n => by simp [D.nr] at n
  | _, .exc _ _ _, _, n => by simp [D.nr] at n
  | _, .lit _, _, n => by simp [D.nr] at n
theorem RelL.dp : ∀ {vs : List V} (ds : List D), RelL K α H vs ds → nrL ds = true → DpAll K H vs (pydL ds)
  | _, [], h, _ => by cases h; exact .nil
  | _, d :: ds, h, n => by
    cases h with
    | cons h1 h2 =>
      rw [nrL, Bool.and_eq_true] at n
      exact .cons (Rel.dp d h1 n.1) (RelL.dp ds h2 n.2)
end
theorem PyOf.dp (st : StR K α H S) {v : V} {d : D} {p : PyData} (r : Rel K α H v d) (h : PyOf S d p) : Dp K H v p := by
  cases h with
  | nr n => exact r.dp _ n
  | lst h n =>
    cases r with
    | ref e =>
      obtain ⟨xs, s, rr⟩ := st.rd h e
      exact .lst s (RelL.dp _ rr n)
end
def opEq (neg : Bool) : F2 := fun x y S Q => ∃ p q, PyOf S x p ∧ PyOf S y q ∧ SeqAt.shaped p = true ∧ SeqAt.shaped q = true ∧ Q (.bl (if neg then !PyData.eqv p q else PyData.eqv p q)) S
def D.toV : D → V
  | .non => .non
  | .bl b => .bl b
  | .int i => .int i
  | .str x => .str x
  | _ => .ref 0
def D.flat : D → Bool
  | .non => true
  | .bl _ => true
  | .int _ => true
  | .str _ => true
  | _ => false
def inD (x : D) (ds : List D) : Bool := ds.any fun d => eqV d.toV x.toV
def itemsOf (S : Sto) (d : D) (ds : List D) : Prop := d = .tup ds ∨ ∃ n, d = .ref n ∧ (S[n]? = some (.lst ds) ∨ S[n]? = some (.ro ds))
def opIn (neg : Bool) : F2 := fun x y S Q =>
  (∃ ds, itemsOf S y ds ∧ x.flat = true ∧ ds.all D.flat = true ∧ Q (.bl (if neg then !inD x ds else inD x ds)) S) ∨
  (∃ a b, x = .str a ∧ y = .str b ∧ Q (.bl (if neg then !(!(Builtin.Str.occurrences b a 0 b.length 1).isEmpty) else !(Builtin.Str.occurrences b a 0 b.length 1).isEmpty)) S)
def D.isNon : D → Bool
  | .non => true
  | _ => false
section
variable {K : PySem.W.Frag} {T : XTab} {W : WX} {α α' : List Addr} {H H' : Hp} {S S' : Sto} {X : Cx}
theorem Rel.flat {v : V} {d : D} (r : Rel K α H v d) (h : d.flat = true) : v = d.toV ∧ flatV v = true := by
  cases r <;> first | exact ⟨rfl, rfl⟩ | cases h
theorem RelL.flat : ∀ {vs : List V} {ds : List D}, RelL K α H vs ds → ds.all D.flat = true → vs = ds.map D.toV ∧ vs.all flatV = true
  | _, [], h, _ => by cases h; exact ⟨rfl, rfl⟩
  | _, d :: ds, h, n => by
    cases h with
    | cons h1 h2 =>
      rw [List.all_cons, Bool.and_eq_true] at n
      obtain ⟨e1, f1⟩ := h1.flat n.1
      obtain ⟨e2, f2⟩ := h2.flat n.2
      exact ⟨by rw [e1, e2]; rfl, by rw [List.all_cons, f1, f2]; rfl⟩
theorem inV_map (x : D) (ds : List D) : inV x.toV (ds.map D.toV) = inD x ds := by
  unfold inV inD
  rw [List.any_map]
  rfl
theorem Rel.isNon {v : V} {d : D} (r : Rel K α H v d) : decide (v = .non) = d.isNon := by
  cases r <;> simp [D.isNon]
theorem items_rd (st : StR K α H S) {v : V} {d : D} {ds : List D} (r : Rel K α H v d) (h : itemsOf S d ds) : ∃ a xs, v = .ref a ∧ (SqL K H a xs ∨ SqT K H a xs) ∧ RelL K α H xs ds := by
  rcases h with rfl | ⟨n, rfl, h⟩
  · cases r with
    | tup s rr => exact ⟨_, _, rfl, .inr s, rr⟩
  · cases r with
    | ref e =>
      obtain ⟨xs, s, rr⟩ := st.rd h e
      exact ⟨_, xs, rfl, .inl s, rr⟩
end
def opCmp : CmpOp → F2
  | .Eq => opEq false
  | .NotEq => opEq true
  | .Lt => fun x y S Q => ∃ i j, x = .int i ∧ y = .int j ∧ Q (.bl (decide (i < j))) S
  | .LtE => fun x y S Q => ∃ i j, x = .int i ∧ y = .int j ∧ Q (.bl (decide (i ≤ j))) S
  | .Gt => fun x y S Q => ∃ i j, x = .int i ∧ y = .int j ∧ Q (.bl (decide (j < i))) S
  | .GtE => fun x y S Q => ∃ i j, x = .int i ∧ y = .int j ∧ Q (.bl (decide (j ≤ i))) S
  | .Is => fun x y S Q => y = .non ∧ Q (.bl x.isNon) S
  | .IsNot => fun x y S Q => y = .non ∧ Q (.bl (!x.isNon)) S
  | .In => opIn false
  | .NotIn => opIn true
section
variable {K : PySem.W.Frag} {T : XTab} {W : WX} {α α' : List Addr} {H H' : Hp} {S S' : Sto} {X : Cx}
theorem ok_eq (hu : X.A.units + 64 < cLine) : OpR X (compareOp .Eq) (li2 X.K (opEq false)) := by
  intro pins s σ H x y v u Q I rx ry h
  obtain ⟨α, S, d, e, Q', st, r1, r2, ⟨p, q, h1, h2, h3, h4, h5⟩, kv⟩ := h
  exact op_eqD hu pins s σ H x y v u Q I rx ry ⟨p, q, h1.dp st r1, h2.dp st r2, h3, h4, kv _ _ _ _ _ (Post.refl st) (.bl _) h5⟩
theorem ok_ne (hu : X.A.units + 64 < cLine) : OpR X (compareOp .NotEq) (li2 X.K (opEq true)) := by
  intro pins s σ H x y v u Q I rx ry h
  obtain ⟨α, S, d, e, Q', st, r1, r2, ⟨p, q, h1, h2, h3, h4, h5⟩, kv⟩ := h
  exact op_neD hu pins s σ H x y v u Q I rx ry ⟨p, q, h1.dp st r1, h2.dp st r2, h3, h4, kv _ _ _ _ _ (Post.refl st) (.bl _) h5⟩
theorem ok_int {op : CmpOp} {f : Int → Int → Bool} (h0 : OpR X (compareOp op) (rI0 fun i j => .bl (f i j))) : OpR X (compareOp op) (li2 X.K fun x y S Q => ∃ i j, x = .int i ∧ y = .int j ∧ Q (.bl (f i j)) S) := by
  intro pins s σ H x y v u Q I rx ry h
  obtain ⟨α, S, d, e, Q', st, r1, r2, ⟨i, j, rfl, rfl, h⟩, kv⟩ := h
  cases r1
  cases r2
  exact h0 pins s σ H _ _ v u Q I rx ry ⟨i, j, rfl, rfl, kv _ _ _ _ _ (Post.refl st) (.bl _) h⟩
theorem ok_in (neg : Bool) : OpR X (compareOp (if neg then .NotIn else .In)) (li2 X.K (opIn neg)) := by
  intro pins s σ H x y v u Q I rx ry h
  obtain ⟨α, S, d, e, Q', st, r1, r2, h, kv⟩ := h
  rcases h with ⟨ds, hi, hx, hf, h⟩ | ⟨a, b, rfl, rfl, h⟩
  · obtain ⟨a, xs, rfl, sq, rr⟩ := items_rd st r2 hi
    obtain ⟨e1, f1⟩ := r1.flat hx
    obtain ⟨e2, f2⟩ := rr.flat hf
    cases neg with
    | false => exact op_in_seq pins s σ H _ _ v u Q I rx ry ⟨a, xs, rfl, sq, f1, f2, by rw [e1, e2, inV_map]; exact kv _ _ _ _ _ (Post.refl st) (.bl _) h⟩
    | true => exact op_notIn_seq pins s σ H _ _ v u Q I rx ry ⟨a, xs, rfl, sq, f1, f2, by rw [e1, e2, inV_map]; exact kv _ _ _ _ _ (Post.refl st) (.bl _) h⟩
  · cases r1
    cases r2
    cases neg with
    | false => exact op_in_str pins s σ H _ _ v u Q I rx ry ⟨a, b, rfl, rfl, kv _ _ _ _ _ (Post.refl st) (.bl _) h⟩
    | true => exact L2.op_notin_str pins s σ H _ _ v u Q I rx ry ⟨a, b, rfl, rfl, kv _ _ _ _ _ (Post.refl st) (.bl _) h⟩
theorem ok_is : OpR X (compareOp .Is) (li2 X.K (opCmp .Is)) := by
  intro pins s σ H x y v u Q I rx ry h
  obtain ⟨α, S, d, e, Q', st, r1, r2, ⟨rfl, h⟩, kv⟩ := h
  cases r2
  exact op_isN pins s σ H _ _ v u Q I rx ry ⟨rfl, by rw [r1.isNon]; exact kv _ _ _ _ _ (Post.refl st) (.bl _) h⟩
theorem ok_isnot : OpR X (compareOp .IsNot) (li2 X.K (opCmp .IsNot)) := by
  intro pins s σ H x y v u Q I rx ry h
  obtain ⟨α, S, d, e, Q', st, r1, r2, ⟨rfl, h⟩, kv⟩ := h
  cases r2
  exact op_notN pins s σ H _ _ v u Q I rx ry ⟨rfl, by rw [r1.isNon]; exact kv _ _ _ _ _ (Post.refl st) (.bl _) h⟩
theorem ok_cmp (hu : X.A.units + 64 < cLine) : ∀ op, OpR X (compareOp op) (li2 X.K (opCmp op))
  | .Eq => ok_eq hu
  | .NotEq => ok_ne hu
  | .Lt => ok_int op_lt
  | .LtE => ok_int op_le
  | .Gt => ok_int op_gt
  | .GtE => ok_int op_ge
  | .Is => ok_is
  | .IsNot => ok_isnot
  | .In => ok_in false
  | .NotIn => ok_in true
end
def rep (ds : List D) (k : Int) : List D := (List.replicate k.toNat ds).flatten
def opBin : Operator → F2
  | .Add => fun x y S Q => (∃ i j, x = .int i ∧ y = .int j ∧ Q (.int (i + j)) S) ∨ (∃ a b, x = .str a ∧ y = .str b ∧ a.length + b.length ≤ sizeLine ∧ Q (.str (a ++ b)) S) ∨
      (∃ a b, x = .tup a ∧ y = .tup b ∧ a ≠ [] ∧ a.length + b.length ≤ sizeLine ∧ Q (.tup (a ++ b)) S) ∨
      (∃ n m a b, x = .ref n ∧ y = .ref m ∧ S[n]? = some (.lst a) ∧ S[m]? = some (.lst b) ∧ a.length + b.length ≤ sizeLine ∧ Q (.ref S.length) (S ++ [.lst (a ++ b)]))
  | .Sub => fun x y S Q => ∃ i j, x = .int i ∧ y = .int j ∧ Q (.int (i - j)) S
  | .Mult => fun x y S Q => (∃ i j, x = .int i ∧ y = .int j ∧ IntMulOk i j ∧ Q (.int (i * j)) S) ∨
      (∃ n k a, x = .ref n ∧ y = .int k ∧ S[n]? = some (.lst a) ∧ -(2 ^ 63) ≤ k ∧ k < 2 ^ 63 ∧ a.length * k.toNat ≤ sizeLine ∧ Q (.ref S.length) (S ++ [.lst (rep a k)])) ∨
      (∃ k a, x = .tup a ∧ y = .int k ∧ a ≠ [] ∧ 2 ≤ k ∧ k ≤ 1000 ∧ a.length ≤ 1000 ∧ Q (.tup (rep a k)) S)
  | .FloorDiv => fun x y S Q => ∃ i j, x = .int i ∧ y = .int j ∧ j ≠ 0 ∧ j.natAbs.log2 < 9000 ∧ Q (.int (i.fdiv j)) S
  | .Mod => fun x y S Q => ∃ i j, x = .int i ∧ y = .int j ∧ j ≠ 0 ∧ Q (.int (i.fmod j)) S
  | .Pow => fun x y S Q => ∃ i j, x = .int i ∧ y = .int j ∧ (0 ≤ j ∧ j ≤ 1000000 ∧ i.natAbs < 2 ^ 64) ∧ Q (.int (i ^ j.toNat)) S
  | _ => fun _ _ _ _ => False
section
variable {K : PySem.W.Frag} {T : XTab} {W : WX} {α α' : List Addr} {H H' : Hp} {S S' : Sto} {X : Cx}
theorem ne_of_relL {vs : List V} {ds : List D} (r : RelL K α H vs ds) (h : ds ≠ []) : vs ≠ [] := fun z => by
  subst z
  cases r
  exact h rfl
theorem relL_rep {vs : List V} {ds : List D} (r : RelL K α H vs ds) : ∀ m : Nat, RelL K α H (List.replicate m vs).flatten (List.replicate m ds).flatten
  | 0 => .nil
  | m + 1 => by
    rw [List.replicate_succ, List.replicate_succ, List.flatten_cons, List.flatten_cons]
    exact r.append (relL_rep r m)
theorem ok_add : OpR X (binaryOp .Add) (li2 X.K (opBin .Add)) := by
  intro pins s σ H x y v u Q I rx ry h
  obtain ⟨α, S, d, e, Q', st, r1, r2, h, kv⟩ := h
  rcases h with ⟨i, j, rfl, rfl, h⟩ | ⟨a, b, rfl, rfl, hl, h⟩ | ⟨a, b, rfl, rfl, hn, hl, h⟩ | ⟨n, m, a, b, rfl, rfl, hn, hm, hl, h⟩
  · cases r1
    cases r2
    exact op_add pins s σ H _ _ v u Q I rx ry ⟨i, j, rfl, rfl, kv _ _ _ _ _ (Post.refl st) (.int _) h⟩
  · cases r1
    cases r2
    exact op_add_str pins s σ H _ _ v u Q I rx ry ⟨a, b, rfl, rfl, hl, kv _ _ _ _ _ (Post.refl st) (.str _) h⟩
  · cases r1 with
    | @tup p xs _ s1 q1 =>
      cases r2 with
      | @tup p2 ys _ s2 q2 =>
        refine op_catT pins s σ H _ _ v u Q I rx ry ⟨p, p2, xs, ys, rfl, rfl, s1, s2, ne_of_relL q1 hn, by rw [q1.length, q2.length]; exact hl, fun z => ?_, fun z t ht => ?_⟩
        · subst z
          cases q2
          rw [List.append_nil] at h
          exact kv _ _ _ _ _ (Post.refl st) (.tup s1 q1) h
        · obtain ⟨po, rr⟩ := upd_tup st ht (q1.append q2)
          exact kv _ _ _ _ _ po rr h
  · cases r1 with
    | ref e1 =>
      cases r2 with
      | ref e2 =>
        obtain ⟨xs, a1, q1⟩ := st.cellA hn e1
        obtain ⟨ys, a2, q2⟩ := st.cellA hm e2
        exact op_cat pins s σ H _ _ v u Q I rx ry ⟨_, _, xs, ys, rfl, rfl, a1, a2, by rw [q1.length, q2.length]; exact hl, fun p hp => kv _ _ _ _ _ (Post.newList st hp (q1.append q2)) (.ref (ref_new (β := []) st)) h⟩
theorem ok_sub : OpR X (binaryOp .Sub) (li2 X.K (opBin .Sub)) := by
  intro pins s σ H x y v u Q I rx ry h
  obtain ⟨α, S, d, e, Q', st, r1, r2, ⟨i, j, rfl, rfl, h⟩, kv⟩ := h
  cases r1
  cases r2
  exact op_sub pins s σ H _ _ v u Q I rx ry ⟨i, j, rfl, rfl, kv _ _ _ _ _ (Post.refl st) (.int _) h⟩
theorem ok_mulI : OpR X (binaryOp .Mult) (rI IntMulOk fun i j => .int (i * j)) := opI fun _ _ _ _ _ _ _ hc q => mul_int q hc
theorem ok_divI : OpR X (binaryOp .FloorDiv) (rI (fun _ j => j ≠ 0 ∧ j.natAbs.log2 < 9000) fun i j => .int (i.fdiv j)) := opI fun _ _ _ _ _ _ _ hc q => floordiv_int hc.1 q (.inl (PyProof.noPylong_of_log2 hc.2))
theorem ok_mul : OpR X (binaryOp .Mult) (li2 X.K (opBin .Mult)) := by
  intro pins s σ H x y v u Q I rx ry h
  obtain ⟨α, S, d, e, Q', st, r1, r2, h, kv⟩ := h
  rcases h with ⟨i, j, rfl, rfl, hc, h⟩ | ⟨n, k, a, rfl, rfl, hn, h1, h2, hl, h⟩ | ⟨k, a, rfl, rfl, hn, h1, h2, h3, h⟩
  · cases r1
    cases r2
    exact ok_mulI pins s σ H _ _ v u Q I rx ry ⟨i, j, rfl, rfl, hc, kv _ _ _ _ _ (Post.refl st) (.int _) h⟩
  · cases r1 with
    | ref e1 =>
      cases r2
      obtain ⟨xs, a1, q1⟩ := st.cellA hn e1
      exact op_rep pins s σ H _ _ v u Q I rx ry ⟨_, k, xs, rfl, rfl, a1, h1, h2, by rw [q1.length]; exact hl, fun p hp => kv _ _ _ _ _ (Post.newList st hp (relL_rep q1 _)) (.ref (ref_new (β := []) st)) h⟩
  · cases r1 with
    | @tup p xs _ s1 q1 =>
      cases r2
      refine op_repT pins s σ H _ _ v u Q I rx ry ⟨p, k, xs, rfl, rfl, s1, ne_of_relL q1 hn, h1, h2, by rw [q1.length]; exact h3, fun t ht => ?_⟩
      obtain ⟨po, rr⟩ := upd_tup st ht (relL_rep q1 k.toNat)
      exact kv _ _ _ _ _ po rr h
theorem ok_fdiv : OpR X (binaryOp .FloorDiv) (li2 X.K (opBin .FloorDiv)) := by
  intro pins s σ H x y v u Q I rx ry h
  obtain ⟨α, S, d, e, Q', st, r1, r2, ⟨i, j, rfl, rfl, h1, h2, h⟩, kv⟩ := h
  cases r1
  cases r2
  exact ok_divI pins s σ H _ _ v u Q I rx ry ⟨i, j, rfl, rfl, ⟨h1, h2⟩, kv _ _ _ _ _ (Post.refl st) (.int _) h⟩
theorem ok_mod : OpR X (binaryOp .Mod) (li2 X.K (opBin .Mod)) := by
  intro pins s σ H x y v u Q I rx ry h
  obtain ⟨α, S, d, e, Q', st, r1, r2, ⟨i, j, rfl, rfl, h1, h⟩, kv⟩ := h
  cases r1
  cases r2
  exact op_modN pins s σ H _ _ v u Q I rx ry ⟨i, j, rfl, rfl, h1, kv _ _ _ _ _ (Post.refl st) (.int _) h⟩
theorem ok_pow : OpR X (binaryOp .Pow) (li2 X.K (opBin .Pow)) := by
  intro pins s σ H x y v u Q I rx ry h
  obtain ⟨α, S, d, e, Q', st, r1, r2, ⟨i, j, rfl, rfl, h1, h⟩, kv⟩ := h
  cases r1
  cases r2
  exact op_pow pins s σ H _ _ v u Q I rx ry ⟨i, j, rfl, rfl, h1, kv _ _ _ _ _ (Post.refl st) (.int _) h⟩
theorem ok_none {op : Operator} : OpR X (binaryOp op) (li2 X.K fun _ _ _ _ => False) := by
  intro pins s σ H x y v u Q I rx ry h
  obtain ⟨α, S, d, e, Q', st, r1, r2, h, kv⟩ := h
  exact h.elim
theorem ok_bin : ∀ op, OpR X (binaryOp op) (li2 X.K (opBin op))
  | .Add => ok_add
  | .Sub => ok_sub
  | .Mult => ok_mul
  | .FloorDiv => ok_fdiv
  | .Mod => ok_mod
  | .Pow => ok_pow
  | .MatMult => ok_none
  | .Div => ok_none
  | .LShift => ok_none
  | .RShift => ok_none
  | .BitOr => ok_none
  | .BitXor => ok_none
  | .BitAnd => ok_none
def opIx : F2 := fun x y S Q => (∃ ds i d, itemsOf S x ds ∧ y = .int i ∧ atI ds i = some d ∧ Q d S) ∨ (∃ z i c, x = .str z ∧ y = .int i ∧ z.length ≤ sizeLine ∧ atI z.cps.toList i = some c ∧ Q (.str ⟨#[c]⟩) S)
theorem RelL.atI {vs : List V} {ds : List D} {i : Int} {d : D} (r : RelL K α H vs ds) (h : L2.atI ds i = some d) : ∃ v, L2.atI vs i = some v ∧ Rel K α H v d := by
  unfold L2.atI at h ⊢
  rw [r.length]
  cases e : ixN ds.length i with
  | none =>
    rw [e] at h
    cases h
  | some j =>
    rw [e] at h
    exact r.get (i := j) h
theorem ok_ix : IxR X (li2 X.K opIx) := by
  intro value slice pins s σ H x y v u Q I rx ry h hs
  obtain ⟨α, S, d, e, Q', st, r1, r2, h, kv⟩ := h
  rcases h with ⟨ds, i, d0, hi, rfl, ha, h⟩ | ⟨z, i, c, rfl, rfl, hl, ha, h⟩
  · obtain ⟨a, xs, rfl, sq, rr⟩ := items_rd st r1 hi
    obtain ⟨w, hw, rw_⟩ := rr.atI ha
    cases r2
    rcases sq with sq | sq
    · exact ix_list value slice pins s σ H _ _ v u Q I rx ry ⟨a, xs, i, w, rfl, rfl, sq, hw, kv _ _ _ _ _ (Post.refl st) rw_ h⟩ hs
    · exact ix_tup value slice pins s σ H _ _ v u Q I rx ry ⟨a, xs, i, w, rfl, rfl, sq, hw, kv _ _ _ _ _ (Post.refl st) rw_ h⟩ hs
  · cases r1
    cases r2
    exact ix_str value slice pins s σ H _ _ v u Q I rx ry ⟨z, i, c, rfl, rfl, hl, ha, kv _ _ _ _ _ (Post.refl st) (.str _) h⟩ hs
def opNeg : F1 := fun x S Q => ∃ i, x = .int i ∧ Q (.int (-i)) S
theorem ok_neg : UnR X (unaryOp .USub) (li1 X.K opNeg) := by
  intro pins s σ H x v Q I rx h
  obtain ⟨α, S, d, Q', st, r1, ⟨i, rfl, h⟩, kv⟩ := h
  cases r1
  exact un_neg pins s σ H _ v Q I rx ⟨i, rfl, kv _ _ _ _ _ (Post.refl st) (.int _) h⟩
end
end Bc
end
section
namespace Bc
open PySem L2 PyProof.Rows

section
variable {K : PySem.W.Frag} {T : XTab} {W : WX} {α α' : List Addr} {H H' : Hp} {S S' : Sto} {X : Cx}
theorem relL1 {xs : List V} {d : D} (r : RelL K α H xs [d]) : ∃ v, xs = [v] ∧ Rel K α H v d := by
  cases r with
  | cons r1 r2 => cases r2; exact ⟨_, rfl, r1⟩
theorem relL2 {xs : List V} {d e : D} (r : RelL K α H xs [d, e]) : ∃ v u, xs = [v, u] ∧ Rel K α H v d ∧ Rel K α H u e := by
  cases r with
  | cons r1 r2 =>
    obtain ⟨u, rfl, r3⟩ := relL1 r2
    exact ⟨_, _, rfl, r1, r3⟩
theorem relL_ints : ∀ {xs : List V} (ns : List Int), RelL K α H xs (ns.map D.int) → xs = ns.map V.int
  | _, [], r => by cases r; rfl
  | _, n :: ns, r => by
    cases r with
    | cons r1 r2 =>
      cases r1
      rw [relL_ints ns r2]
      rfl
theorem relL_bls : ∀ {xs : List V} (ns : List Bool), RelL K α H xs (ns.map D.bl) → xs = ns.map V.bl
  | _, [], r => by cases r; rfl
  | _, n :: ns, r => by
    cases r with
    | cons r1 r2 =>
      cases r1
      rw [relL_bls ns r2]
      rfl
theorem relL_strs : ∀ {xs : List V} (ns : List Str), RelL K α H xs (ns.map D.str) → xs = ns.map V.str
  | _, [], r => by cases r; rfl
  | _, n :: ns, r => by
    cases r with
    | cons r1 r2 =>
      cases r1
      rw [relL_strs ns r2]
      rfl
theorem ints_relL : ∀ (ns : List Int), RelL K α H (ns.map V.int) (ns.map D.int)
  | [] => .nil
  | n :: ns => .cons (.int n) (ints_relL ns)
end

/-- the built-in functions -/
inductive Bi where
  | len | int | list | tuple | sum | abs | min | max | all | any | sorted
  deriving DecidableEq
def lstOf (S : Sto) (n : Nat) (ds : List D) : Prop := S[n]? = some (.lst ds) ∨ S[n]? = some (.ro ds)
def opBi : Bi → FN
  | .len => fun xs S Q => ∃ d, xs = [d] ∧ ((∃ ds, itemsOf S d ds ∧ Q (.int ds.length) S) ∨ (∃ z, d = .str z ∧ z.length ≤ sizeLine ∧ Q (.int z.length) S) ∨ ∃ ds, d = .lit ds ∧ Q (.int ds.length) S)
  | .int => fun xs S Q => (∃ i, xs = [.int i] ∧ Q (.int i) S) ∨ ∃ k, xs = [.bl k] ∧ Q (.int (if k then 1 else 0)) S
  | .list => fun xs S Q => ∃ d ds, xs = [d] ∧ itemsOf S d ds ∧ Q (.ref S.length) (S ++ [.lst ds])
  | .tuple => fun xs S Q => ∃ d ds, xs = [d] ∧ itemsOf S d ds ∧ Q (.tup ds) S
  | .sum => fun xs S Q => ∃ n, ∃ ns : List Int, xs = [.ref n] ∧ lstOf S n (ns.map D.int) ∧ Q (.int ns.sum) S
  | .abs => fun xs S Q => ∃ i, xs = [.int i] ∧ Q (.int (if i < 0 then -i else i)) S
  | .min => fun xs S Q => (∃ i j, xs = [.int i, .int j] ∧ Q (.int (if j < i then j else i)) S) ∨ ∃ n, ∃ ns : List Int, xs = [.ref n] ∧ lstOf S n (ns.map D.int) ∧ 0 < ns.length ∧ ∀ m, m ∈ ns → (∀ y, y ∈ ns → m ≤ y) → Q (.int m) S
  | .max => fun xs S Q => (∃ i j, xs = [.int i, .int j] ∧ Q (.int (if j > i then j else i)) S) ∨ ∃ n, ∃ ns : List Int, xs = [.ref n] ∧ lstOf S n (ns.map D.int) ∧ 0 < ns.length ∧ ∀ m, m ∈ ns → (∀ y, y ∈ ns → y ≤ m) → Q (.int m) S
  | .all => fun xs S Q => ∃ n, ∃ bs : List Bool, xs = [.ref n] ∧ lstOf S n (bs.map D.bl) ∧ Q (.bl (bs.all id)) S
  | .any => fun xs S Q => ∃ n, ∃ bs : List Bool, xs = [.ref n] ∧ lstOf S n (bs.map D.bl) ∧ Q (.bl (bs.any id)) S
  | .sorted => fun xs S Q => ∃ n, ∃ ns : List Int, xs = [.ref n] ∧ lstOf S n (ns.map D.int) ∧ ∀ ms : List Int, ms.Perm ns → ms.Pairwise (· ≤ ·) → Q (.ref S.length) (S ++ [.lst (ms.map D.int)])
section
variable {K : PySem.W.Frag} {T : XTab} {W : WX} {α α' : List Addr} {H H' : Hp} {S S' : Sto} {X : Cx}
theorem rd_ints (st : StR K α H S) {v : V} {n : Nat} {ns : List Int} (r : Rel K α H v (.ref n)) (h : lstOf S n (ns.map D.int)) : ∃ a, v = .ref a ∧ SqL K H a (ns.map V.int) := by
  cases r with
  | ref e =>
    obtain ⟨xs, s, rr⟩ := st.rd h e
    rw [relL_ints _ rr] at s
    exact ⟨_, rfl, s⟩
theorem rd_bls (st : StR K α H S) {v : V} {n : Nat} {ns : List Bool} (r : Rel K α H v (.ref n)) (h : lstOf S n (ns.map D.bl)) : ∃ a, v = .ref a ∧ SqL K H a (ns.map V.bl) := by
  cases r with
  | ref e =>
    obtain ⟨xs, s, rr⟩ := st.rd h e
    rw [relL_bls _ rr] at s
    exact ⟨_, rfl, s⟩
theorem bi_len : CallR X (.builtin "len") (liN X.K (opBi .len)) := by
  intro pins s σ H xs us Q I rv h
  obtain ⟨α, S, ds, Q', st, r, h, kv⟩ := h
  obtain ⟨d, rfl, h⟩ := h
  obtain ⟨v, rfl, r1⟩ := relL1 r
  rcases h with ⟨es, hi, h⟩ | ⟨z, rfl, hz, h⟩ | ⟨es, rfl, h⟩
  · obtain ⟨a, ys, rfl, sq, rr⟩ := items_rd st r1 hi
    exact call_len_seq pins s σ H _ us Q I rv ⟨a, ys, rfl, sq, by rw [rr.length]; exact kv _ _ _ _ _ (Post.refl st) (.int _) h⟩
  · cases r1
    exact call_len_str pins s σ H _ us Q I rv ⟨z, rfl, hz, kv _ _ _ _ _ (Post.refl st) (.int _) h⟩
  · cases r1 with
    | lit sq rr => exact call_len_seq pins s σ H _ us Q I rv ⟨_, _, rfl, .inl (.inr sq), by rw [rr.length]; exact kv _ _ _ _ _ (Post.refl st) (.int _) h⟩
theorem bi_int : CallR X (.type "int") (liN X.K (opBi .int)) := by
  intro pins s σ H xs us Q I rv h
  obtain ⟨α, S, ds, Q', st, r, h, kv⟩ := h
  rcases h with ⟨i, rfl, h⟩ | ⟨k, rfl, h⟩
  · obtain ⟨v, rfl, r1⟩ := relL1 r
    cases r1
    exact call_int1 pins s σ H _ us Q I rv (.inl ⟨i, rfl, kv _ _ _ _ _ (Post.refl st) (.int _) h⟩)
  · obtain ⟨v, rfl, r1⟩ := relL1 r
    cases r1
    exact call_int1 pins s σ H _ us Q I rv (.inr ⟨k, rfl, kv _ _ _ _ _ (Post.refl st) (.int _) h⟩)
theorem bi_list : CallR X (.type "list") (liN X.K (opBi .list)) := by
  intro pins s σ H xs us Q I rv h
  obtain ⟨α, S, ds, Q', st, r, ⟨d, es, rfl, hi, h⟩, kv⟩ := h
  obtain ⟨v, rfl, r1⟩ := relL1 r
  obtain ⟨a, ys, rfl, sq, rr⟩ := items_rd st r1 hi
  exact call_list_of pins s σ H _ us Q I rv ⟨a, ys, rfl, sq, fun l hl => kv _ _ _ _ _ (Post.newList st hl rr) (.ref (ref_new (β := []) st)) h⟩
theorem bi_tuple : CallR X (.type "tuple") (liN X.K (opBi .tuple)) := by
  intro pins s σ H xs us Q I rv h
  obtain ⟨α, S, ds, Q', st, r, ⟨d, es, rfl, hi, h⟩, kv⟩ := h
  obtain ⟨v, rfl, r1⟩ := relL1 r
  obtain ⟨a, ys, rfl, sq, rr⟩ := items_rd st r1 hi
  rcases sq with sq | sq
  · refine call_tuple_of pins s σ H _ us Q I rv ⟨a, ys, rfl, .inl ⟨sq, fun l hl => ?_⟩⟩
    obtain ⟨po, r2⟩ := upd_tup st hl rr
    exact kv _ _ _ _ _ po r2 h
  · exact call_tuple_of pins s σ H _ us Q I rv ⟨a, ys, rfl, .inr ⟨sq, kv _ _ _ _ _ (Post.refl st) (.tup sq rr) h⟩⟩
theorem bi_sum (hc : X.calm = true) : CallR X (.builtin "sum") (liN X.K (opBi .sum)) := by
  intro pins s σ H xs us Q I rv h
  obtain ⟨α, S, ds, Q', st, r, ⟨n, ns, rfl, hi, h⟩, kv⟩ := h
  obtain ⟨v, rfl, r1⟩ := relL1 r
  obtain ⟨a, rfl, sq⟩ := rd_ints st r1 hi
  exact cr_sum hc pins s σ H _ us Q I rv ⟨a, ns, rfl, sq, kv _ _ _ _ _ (Post.refl st) (.int _) h⟩
theorem bi_abs : CallR X (.builtin "abs") (liN X.K (opBi .abs)) := by
  intro pins s σ H xs us Q I rv h
  obtain ⟨α, S, ds, Q', st, r, ⟨i, rfl, h⟩, kv⟩ := h
  obtain ⟨v, rfl, r1⟩ := relL1 r
  cases r1
  exact call_abs pins s σ H _ us Q I rv ⟨i, rfl, kv _ _ _ _ _ (Post.refl st) (.int _) h⟩
theorem bi_min (hc : X.calm = true) : CallR X (.builtin "min") (liN X.K (opBi .min)) := by
  intro pins s σ H xs us Q I rv h
  obtain ⟨α, S, ds, Q', st, r, h, kv⟩ := h
  rcases h with ⟨i, j, rfl, h⟩ | ⟨n, ns, rfl, hi, h0, h⟩
  · obtain ⟨v, u, rfl, r1, r2⟩ := relL2 r
    cases r1
    cases r2
    exact call_min2 hc pins s σ H _ us Q I rv ⟨i, j, rfl, kv _ _ _ _ _ (Post.refl st) (.int _) h⟩
  · obtain ⟨v, rfl, r1⟩ := relL1 r
    obtain ⟨a, rfl, sq⟩ := rd_ints st r1 hi
    exact cr_min hc pins s σ H _ us Q I rv ⟨a, ns, rfl, sq, h0, fun m hm hle => kv _ _ _ _ _ (Post.refl st) (.int _) (h m hm hle)⟩
theorem bi_max (hc : X.calm = true) : CallR X (.builtin "max") (liN X.K (opBi .max)) := by
  intro pins s σ H xs us Q I rv h
  obtain ⟨α, S, ds, Q', st, r, h, kv⟩ := h
  rcases h with ⟨i, j, rfl, h⟩ | ⟨n, ns, rfl, hi, h0, h⟩
  · obtain ⟨v, u, rfl, r1, r2⟩ := relL2 r
    cases r1
    cases r2
    exact call_max2 hc pins s σ H _ us Q I rv ⟨i, j, rfl, kv _ _ _ _ _ (Post.refl st) (.int _) h⟩
  · obtain ⟨v, rfl, r1⟩ := relL1 r
    obtain ⟨a, rfl, sq⟩ := rd_ints st r1 hi
    exact cr_max hc pins s σ H _ us Q I rv ⟨a, ns, rfl, sq, h0, fun m hm hle => kv _ _ _ _ _ (Post.refl st) (.int _) (h m hm hle)⟩
theorem bi_all (hc : X.calm = true) : CallR X (.builtin "all") (liN X.K (opBi .all)) := by
  intro pins s σ H xs us Q I rv h
  obtain ⟨α, S, ds, Q', st, r, ⟨n, bs, rfl, hi, h⟩, kv⟩ := h
  obtain ⟨v, rfl, r1⟩ := relL1 r
  obtain ⟨a, rfl, sq⟩ := rd_bls st r1 hi
  exact cr_all hc pins s σ H _ us Q I rv ⟨a, bs, rfl, sq, kv _ _ _ _ _ (Post.refl st) (.bl _) h⟩
theorem bi_any (hc : X.calm = true) : CallR X (.builtin "any") (liN X.K (opBi .any)) := by
  intro pins s σ H xs us Q I rv h
  obtain ⟨α, S, ds, Q', st, r, ⟨n, bs, rfl, hi, h⟩, kv⟩ := h
  obtain ⟨v, rfl, r1⟩ := relL1 r
  obtain ⟨a, rfl, sq⟩ := rd_bls st r1 hi
  exact cr_any hc pins s σ H _ us Q I rv ⟨a, bs, rfl, sq, kv _ _ _ _ _ (Post.refl st) (.bl _) h⟩
theorem bi_sorted : CallR X (.builtin "sorted") (liN X.K (opBi .sorted)) := by
  intro pins s σ H xs us Q I rv h
  obtain ⟨α, S, ds, Q', st, r, ⟨n, ns, rfl, hi, h⟩, kv⟩ := h
  obtain ⟨v, rfl, r1⟩ := relL1 r
  obtain ⟨a, rfl, sq⟩ := rd_ints st r1 hi
  exact cr_sortedI pins s σ H _ us Q I rv ⟨a, ns, rfl, sq, fun ms p hp hs hn => kv _ _ _ _ _ (Post.newList st hn (ints_relL ms)) (.ref (ref_new (β := []) st)) (h ms hp hs)⟩
end
def D.tyS : D → Option String
  | .non => some "NoneType"
  | .bl _ => some "bool"
  | .int _ => some "int"
  | .str _ => some "str"
  | .tup _ => some "tuple"
  | .ref _ => none
  | .exc _ _ _ => none
  | .lit _ => none
inductive Ty where
  | int | str | tuple | bool
  deriving DecidableEq
def Ty.nm : Ty → String
  | .int => "int"
  | .str => "str"
  | .tuple => "tuple"
  | .bool => "bool"
def D.isA : Ty → D → Bool
  | .int, .int _ => true
  | .int, .bl _ => true
  | .str, .str _ => true
  | .tuple, .tup _ => true
  | .bool, .bl _ => true
  | _, _ => false
def opIsi (t : Ty) : F1 := fun x S Q => (∀ n, x ≠ .ref n) ∧ (∀ a n dd, x ≠ .exc a n dd) ∧ (∀ ds, x ≠ .lit ds) ∧ Q (.bl (x.isA t)) S
section
variable {K : PySem.W.Frag} {T : XTab} {W : WX} {α α' : List Addr} {H H' : Hp} {S S' : Sto} {X : Cx}
theorem kit_all (t : Ty) (a : String) (b : Bool) (h : kitB a t.nm = some b) : PySem.W.kitOne K (.type a) (.type t.nm) = some b := kit_ty h
theorem isi_of {v : V} {d : D} (r : Rel K α H v d) (t : Ty) (hd : ∀ n, d ≠ .ref n) (hx : ∀ a n dd, d ≠ .exc a n dd) (hw : ∀ ds, d ≠ .lit ds) : ∃ ty, TyX K H v ty ∧ PySem.W.kitOne K ty (.type t.nm) = some (d.isA t) := by
  cases r with
  | non => exact ⟨_, .base .non, kit_all t _ _ (by cases t <;> decide +kernel)⟩
  | bl b => exact ⟨_, .base (.bl b), kit_all t _ _ (by cases t <;> (simp only [D.isA]; decide +kernel))⟩
  | int i => exact ⟨_, .base (.int i), kit_all t _ _ (by cases t <;> (simp only [D.isA]; decide +kernel))⟩
  | str x => exact ⟨_, .base (.str x), kit_all t _ _ (by cases t <;> (simp only [D.isA]; decide +kernel))⟩
  | @tup a xs ds s rr =>
    have e : PySem.W.kitOne K (.type "tuple") (.type t.nm) = some ((D.tup ds).isA t) := kit_all t _ _ (by cases t <;> (simp only [D.isA]; decide +kernel))
    rcases s with (s | ⟨o, s⟩) | ⟨o, its, n, h1, h2, _⟩
    · exact ⟨_, .base (.tup s), e⟩
    · exact ⟨_, .fTuple s, e⟩
    · exact ⟨_, .kTuple h1 h2, e⟩
  | ref _ => exact absurd rfl (hd _)
  | exc _ => exact absurd rfl (hx _ _ _)
  | lit _ _ => exact absurd rfl (hw _)
/-- isinstance(x, T) by values: the class a value -/
theorem bi_isi (t : Ty) : CallR X (.builtin "isinstance") (fun xs H Q => ∃ x, xs = [x, .ty t.nm] ∧ li1 X.K (opIsi t) x H Q) := by
  intro pins s σ H xs us Q I rv h
  obtain ⟨x, rfl, α, S, d, Q', st, r, ⟨hn, hx, hw, h⟩, kv⟩ := h
  obtain ⟨ty, tx, e⟩ := isi_of r t hn hx hw
  exact call_isi pins s σ H _ us Q I rv ⟨x, .ty t.nm, ty, .type t.nm, _, rfl, .ty _, tx, e, kv _ _ _ _ _ (Post.refl st) (.bl _) h⟩
end
inductive Me where
  | append | pop | popAt | extend | index | count | join
  deriving DecidableEq
def Me.ty : Me → String
  | .count => "str"
  | .join => "str"
  | _ => "list"
/-- the receiver is of the method's type -/
def Me.on (m : Me) (d : D) (S : Sto) : Prop := if m.ty = "str" then ∃ z, d = .str z else ∃ n ds, d = .ref n ∧ lstOf S n ds
def opMe : Me → D → List D → Sto → Kv → Prop
  | .append => fun o xs S Q => ∃ n ds y, o = .ref n ∧ xs = [y] ∧ S[n]? = some (.lst ds) ∧ ds.length < sizeLine ∧ Q .non (S.set n (.lst (ds ++ [y])))
  | .pop => fun o xs S Q => ∃ n ds y, o = .ref n ∧ xs = [] ∧ S[n]? = some (.lst ds) ∧ ds[ds.length - 1]? = some y ∧ Q y (S.set n (.lst ds.dropLast))
  | .popAt => fun o xs S Q => ∃ n ds i k y, o = .ref n ∧ xs = [.int i] ∧ S[n]? = some (.lst ds) ∧ -(2 ^ 63) ≤ i ∧ i < 2 ^ 63 ∧ seqIndex? i ds.length = some k ∧ ds[k]? = some y ∧ Q y (S.set n (.lst (ds.eraseIdx k)))
  | .extend => fun o xs S Q => ∃ n m ds es, o = .ref n ∧ xs = [.ref m] ∧ S[n]? = some (.lst ds) ∧ S[m]? = some (.lst es) ∧ ds.length + es.length ≤ sizeLine ∧ Q .non (S.set n (.lst (ds ++ es)))
  | .index => fun o xs S Q => ∃ n ds y j z, o = .ref n ∧ xs = [y] ∧ lstOf S n ds ∧ y.flat = true ∧ ds.all D.flat = true ∧ ds[j]? = some z ∧ eqV z.toV y.toV = true ∧
      (∀ (m : Nat) z', m < j → ds[m]? = some z' → eqV z'.toV y.toV = false) ∧ Q (.int (j : Nat)) S
  | .count => fun o xs S Q => ∃ a b, o = .str a ∧ xs = [.str b] ∧ Q (.int (Txt.count a b)) S
  | .join => fun o xs S Q => ∃ a d, ∃ ys : List Str, o = .str a ∧ xs = [d] ∧ itemsOf S d (ys.map D.str) ∧ (ys.map (·.length)).sum + ys.length * a.length ≤ 16777216 ∧ Q (.str (Txt.join a ys)) S
def Me.id : Me → String
  | .append => "list.append"
  | .pop => "list.pop"
  | .popAt => "list.pop"
  | .extend => "list.extend"
  | .index => "list.index"
  | .count => "str.count"
  | .join => "str.join"
def Me.nm : Me → Str
  | .append => "append"
  | .pop => "pop"
  | .popAt => "pop"
  | .extend => "extend"
  | .index => "index"
  | .count => "count"
  | .join => "join"
section
variable {K : PySem.W.Frag} {T : XTab} {W : WX} {α α' : List Addr} {H H' : Hp} {S S' : Sto} {X : Cx}
theorem me_ty {m : Me} {d : D} {v : V} (st : StR K α H S) (r : Rel K α H v d) (h : m.on d S) : tyV K m.ty v H := by
  unfold Me.on at h
  split at h
  · obtain ⟨z, rfl⟩ := h
    cases r
    assumption
  · obtain ⟨n, ds, rfl, h⟩ := h
    cases r with
    | ref e =>
      obtain ⟨xs, s, _⟩ := st.rd h e
      refine .inl ⟨?_, xs, s⟩
      cases m <;> first | rfl | (rename_i z; exact absurd rfl z)
theorem rd_cell (st : StR K α H S) {v : V} {n : Nat} {ds : List D} (r : Rel K α H v (.ref n)) (h : S[n]? = some (.lst ds)) : ∃ a xs, v = .ref a ∧ α[n]? = some a ∧ H a = some (.lst xs) ∧ RelL K α H xs ds := by
  cases r with
  | ref e =>
    obtain ⟨xs, h1, h2⟩ := st.cellA h e
    exact ⟨_, xs, rfl, e, h1, h2⟩
theorem RelL.getElem? {vs : List V} {ds : List D} (r : RelL K α H vs ds) (i : Nat) {v : V} (h : vs[i]? = some v) : ∃ d, ds[i]? = some d ∧ Rel K α H v d := by
  have hl := r.length
  have h1 := (List.getElem?_eq_some_iff.mp h).1
  obtain ⟨u, e, rr⟩ := r.get (i := i) (List.getElem?_eq_getElem (hl ▸ h1))
  rw [h] at e
  cases e
  exact ⟨_, List.getElem?_eq_getElem (hl ▸ h1), rr⟩
theorem RelL.dropLast {vs : List V} {ds : List D} (r : RelL K α H vs ds) : RelL K α H vs.dropLast ds.dropLast := by
  rw [List.dropLast_eq_take, List.dropLast_eq_take, r.length]
  exact r.take _
theorem RelL.eraseIdx : ∀ {vs : List V} {ds : List D} (n : Nat), RelL K α H vs ds → RelL K α H (vs.eraseIdx n) (ds.eraseIdx n)
  | _, [], _, h => by cases h; exact .nil
  | _, d :: ds, 0, h => by
    cases h with
    | cons _ h2 => exact h2
  | _, d :: ds, n + 1, h => by
    cases h with
    | cons h1 h2 => exact .cons h1 (h2.eraseIdx n)
theorem strs_relL {xs : List V} {ys : List Str} (r : RelL K α H xs (ys.map D.str)) : xs = ys.map V.str := relL_strs ys r
theorem me_append : MtR X "list.append" (li1N X.K (opMe .append)) := by
  intro pins s σ H x xs v us Q I rx rv h
  obtain ⟨α, S, d, es, Q', st, r1, r2, ⟨n, ds, y, rfl, rfl, hn, hl, h⟩, kv⟩ := h
  obtain ⟨a, ws, rfl, e, ha, rr⟩ := rd_cell st r1 hn
  obtain ⟨u, rfl, ru⟩ := relL1 r2
  exact mt_append pins s σ H _ _ v us Q I rx rv ⟨a, ws, u, rfl, rfl, ha, by rw [rr.length]; exact hl, kv _ _ _ _ _ (Post.setList st hn e (rr.append (.cons ru .nil))) .non h⟩
theorem me_pop : MtR X "list.pop" (li1N X.K (opMe .pop)) := by
  intro pins s σ H x xs v us Q I rx rv h
  obtain ⟨α, S, d, es, Q', st, r1, r2, ⟨n, ds, y, rfl, rfl, hn, hy, h⟩, kv⟩ := h
  obtain ⟨a, ws, rfl, e, ha, rr⟩ := rd_cell st r1 hn
  cases r2
  obtain ⟨u, hu, ru⟩ := rr.get hy
  have po := Post.setList st hn e rr.dropLast
  exact mt_pop pins s σ H _ _ v us Q I rx rv ⟨a, ws, u, rfl, rfl, ha, by rw [rr.length]; exact hu, kv _ _ _ _ _ po (po.rel st ru) h⟩
theorem me_popAt : MtR X "list.pop" (li1N X.K (opMe .popAt)) := by
  intro pins s σ H x xs v us Q I rx rv h
  obtain ⟨α, S, d, es, Q', st, r1, r2, ⟨n, ds, i, k, y, rfl, rfl, hn, h1, h2, h3, hy, h⟩, kv⟩ := h
  obtain ⟨a, ws, rfl, e, ha, rr⟩ := rd_cell st r1 hn
  obtain ⟨w, rfl, rw_⟩ := relL1 r2
  cases rw_
  obtain ⟨u, hu, ru⟩ := rr.get hy
  have po := Post.setList st hn e (rr.eraseIdx k)
  exact mt_popAt pins s σ H _ _ v us Q I rx rv ⟨a, ws, i, k, u, rfl, rfl, ha, h1, h2, by rw [rr.length]; exact h3, hu, kv _ _ _ _ _ po (po.rel st ru) h⟩
theorem me_extend : MtR X "list.extend" (li1N X.K (opMe .extend)) := by
  intro pins s σ H x xs v us Q I rx rv h
  obtain ⟨α, S, d, es, Q', st, r1, r2, ⟨n, m, ds, fs, rfl, rfl, hn, hm, hl, h⟩, kv⟩ := h
  obtain ⟨a, ws, rfl, e, ha, rr⟩ := rd_cell st r1 hn
  obtain ⟨u, rfl, ru⟩ := relL1 r2
  obtain ⟨b, zs, rfl, e2, hb, rb⟩ := rd_cell st ru hm
  exact mt_extend pins s σ H _ _ v us Q I rx rv ⟨a, b, ws, zs, rfl, rfl, ha, hb, by rw [rr.length, rb.length]; exact hl, kv _ _ _ _ _ (Post.setList st hn e (rr.append rb)) .non h⟩
theorem me_index : MtR X "list.index" (li1N X.K (opMe .index)) := by
  intro pins s σ H x xs v us Q I rx rv h
  obtain ⟨α, S, d, es, Q', st, r1, r2, ⟨n, ds, y, j, z, rfl, rfl, hn, hf, ha, hz, he, hm, h⟩, kv⟩ := h
  obtain ⟨u, rfl, ru⟩ := relL1 r2
  cases r1 with
  | ref e =>
    obtain ⟨ws, sq, rr⟩ := st.rd hn e
    obtain ⟨eu, fu⟩ := ru.flat hf
    obtain ⟨ew, fw⟩ := rr.flat ha
    obtain ⟨t, ht, rt⟩ := rr.get hz
    have et : t = z.toV := by
      rw [ew, List.getElem?_map, hz] at ht
      exact (Option.some.inj ht).symm
    refine mt_index pins s σ H _ _ v us Q I rx rv ⟨_, ws, u, j, t, rfl, rfl, sq, fu, fw, ht, by rw [et, eu]; exact he, fun m z' hlt hz' => ?_, kv _ _ _ _ _ (Post.refl st) (.int _) h⟩
    rw [ew, List.getElem?_map] at hz'
    cases q : ds[m]? with
    | none =>
      rw [q] at hz'
      cases hz'
    | some d =>
      rw [q] at hz'
      cases hz'
      rw [eu]
      exact hm m d hlt q
theorem me_count : MtR X "str.count" (li1N X.K (opMe .count)) := by
  intro pins s σ H x xs v us Q I rx rv h
  obtain ⟨α, S, d, es, Q', st, r1, r2, ⟨a, b, rfl, rfl, h⟩, kv⟩ := h
  obtain ⟨u, rfl, ru⟩ := relL1 r2
  cases r1
  cases ru
  exact mt_count pins s σ H _ _ v us Q I rx rv ⟨a, b, rfl, rfl, kv _ _ _ _ _ (Post.refl st) (.int _) h⟩
theorem me_join : MtR X "str.join" (li1N X.K (opMe .join)) := by
  intro pins s σ H x xs v us Q I rx rv h
  obtain ⟨α, S, d, es, Q', st, r1, r2, ⟨a, b, ys, rfl, rfl, hi, hl, h⟩, kv⟩ := h
  obtain ⟨u, rfl, ru⟩ := relL1 r2
  cases r1
  obtain ⟨p, ws, rfl, sq, rr⟩ := items_rd st ru hi
  rw [strs_relL rr] at sq
  exact mt_join pins s σ H _ _ v us Q I rx rv ⟨a, p, ys, rfl, rfl, sq, hl, kv _ _ _ _ _ (Post.refl st) (.str _) h⟩
theorem me_ok : ∀ m : Me, MtR X m.id (li1N X.K (opMe m))
  | .append => me_append
  | .pop => me_pop
  | .popAt => me_popAt
  | .extend => me_extend
  | .index => me_index
  | .count => me_count
  | .join => me_join
theorem me_plain : ∀ m : Me, PlainAttrs m.ty
  | .count => PySem.F.plainAttrs_str
  | .join => PySem.F.plainAttrs_str
  | .append => PySem.F.plainAttrs_list
  | .pop => PySem.F.plainAttrs_list
  | .popAt => PySem.F.plainAttrs_list
  | .extend => PySem.F.plainAttrs_list
  | .index => PySem.F.plainAttrs_list
theorem me_slot : ∀ m : Me, Slot m.ty m.nm m.id
  | .count => PySem.F.slot_str_count
  | .join => PySem.F.slot_str_join
  | .append => PySem.F.slot_list_append
  | .pop => PySem.F.slot_list_pop
  | .popAt => PySem.F.slot_list_pop
  | .extend => PySem.F.slot_list_extend
  | .index => PySem.F.slot_list_index
theorem me_typ : ∀ m : Me, typeOf (.builtin m.id) = pure (.type "method_descriptor")
  | .count => PySem.F.type_str_count
  | .join => PySem.F.type_str_join
  | .append => PySem.F.type_list_append
  | .pop => PySem.F.type_list_pop
  | .popAt => PySem.F.type_list_pop
  | .extend => PySem.F.type_list_extend
  | .index => PySem.F.type_list_index
def fMe (m : Me) (o : FE) (as : FA) : FE := fun ρ S Q X => o ρ S (fun d S1 => m.on d S1 ∧ as ρ S1 (fun xs S2 => opMe m d xs S2 Q) X) X
theorem li_me {m : Me} {o : FE} {as : FA} {σ : L2.St} {Q : VK} (h : liE K T W (fMe m o as) σ H Q) : tBM K m.ty (li1N K (opMe m)) (liE K T W o) (liA K T W as) σ H Q := by
  obtain ⟨α, ρ, S, Q', X', st, en, h, kv, kx⟩ := h
  refine ⟨α, ρ, S, _, X', st, en, h, fun d S1 α1 H1 v p r hg => ⟨me_ty p.st r hg.1, ?_⟩, kx⟩
  exact ⟨α1, ρ, S1, _, X', p.st, p.env st en, hg.2, fun es S2 α2 H2 vs p2 r2 h2 => ⟨α2, S2, d, es, Q', p2.st, p2.rel p.st r, r2, h2, kv.after (p.trans p2)⟩, kx.after p⟩
theorem li_me0 {m : Me} {o : FE} {σ : L2.St} {Q : VK} (h : liE K T W (fMe m o fNil) σ H Q) : tBM0 K m.ty (li1N K (opMe m)) (liE K T W o) σ H Q := by
  obtain ⟨α, ρ, S, Q', X', st, en, h, kv, kx⟩ := h
  exact ⟨α, ρ, S, _, X', st, en, h, fun d S1 α1 H1 v p r hg => ⟨me_ty p.st r hg.1, α1, S1, d, [], Q', p.st, r, .nil, hg.2, kv.after p⟩, kx⟩
abbrev FO := Env → Sto → (Option Int → Sto → Prop) → Xk → Prop
def fNoP : FO := fun _ S Q _ => Q none S
def fPart (a : FE) : FO := fun ρ S Q X => a ρ S (fun d S1 => ∃ i, d = .int i ∧ Q (some i) S1) X
def cutD (xs : List D) (lo hi : Option Int) : List D := (xs.drop (HT.sIx xs.length 0 lo)).take (HT.sIx xs.length xs.length hi - HT.sIx xs.length 0 lo)
def opSl (x : D) (lo hi : Option Int) (S : Sto) (Q : Kv) : Prop :=
  (∃ n ds, x = .ref n ∧ lstOf S n ds ∧ Q (.ref S.length) (S ++ [.lst (cutD ds lo hi)])) ∨
  (∃ ds, x = .tup ds ∧ ¬ (HT.sIx ds.length 0 lo = 0 ∧ HT.sIx ds.length ds.length hi = ds.length) ∧ Q (.tup (cutD ds lo hi)) S) ∨
  (∃ z, x = .str z ∧ z.length ≤ sizeLine ∧ Q (.str (cutS z lo hi)) S) ∨ ∃ ds, x = .lit ds ∧ Q (.ref S.length) (S ++ [.lst (cutD ds lo hi)])
def liO (K : PySem.W.Frag) (T : XTab) (W : WX) (f : FO) : TO := fun σ H Q => ∃ α ρ S Q' X', StR K α H S ∧ EnvR K α H σ ρ ∧ f ρ S Q' X' ∧ (∀ o S' α' H', Post K α H α' H' S' → Q' o S' → Q o H') ∧ LkX K T W σ α H X'
def liSl (K : PySem.W.Frag) : V → Option Int → Option Int → Hp → VK → Prop := fun x lo hi H Q => ∃ α S d Q', StR K α H S ∧ Rel K α H x d ∧ opSl d lo hi S Q' ∧ LkV K α H Q' Q
theorem RelL.cut {vs : List V} {ds : List D} (r : RelL K α H vs ds) (lo hi : Option Int) : RelL K α H (cutV vs lo hi) (cutD ds lo hi) := by
  unfold cutV cutD
  rw [r.length]
  exact (r.drop _).take _
theorem li_noP {σ : L2.St} {Q : Option Int → Hp → Prop} (h : liO K T W fNoP σ H Q) : tNoPart σ H Q := by
  obtain ⟨α, ρ, S, Q', X', st, en, h, kv, kx⟩ := h
  exact kv none S α H (Post.refl st) h
theorem li_part {a : FE} {σ : L2.St} {Q : Option Int → Hp → Prop} (h : liO K T W (fPart a) σ H Q) : tPart (liE K T W a) σ H Q := by
  obtain ⟨α, ρ, S, Q', X', st, en, h, kv, kx⟩ := h
  refine ⟨α, ρ, S, _, X', st, en, h, fun d S1 α1 H1 v p r hg => ?_, kx⟩
  obtain ⟨i, rfl, hg⟩ := hg
  cases r
  exact ⟨i, rfl, kv _ S1 α1 H1 p hg⟩
/-- one of the three -/
theorem sl_ok : ∀ (pins : List (Addr × Obj)) (s : Shared) (σ : L2.St) (H : Hp) (x : V) (v vl vu : Value) (lo hi : Option Int) (sl : Addr) (Q : VK), Inv X pins σ H s → RelV x v → s.heap.IsSliceOf sl vl vu .none → IsPart vl lo → IsPart vu hi → liSl X.K x lo hi H Q →
    ∃ T id, typeLookup (.type T) "__getitem__" = pure (some (.builtin id)) ∧ s.TypeIs v T ∧ wpAny (model X.prog X.w) X.A (getItem v (.ref sl)) (EP X pins σ Q) X.xe s := by
  intro pins s σ H x v vl vu lo hi sl Q I rx hs pl pu h
  obtain ⟨α, S, d, Q', st, r, h, kv⟩ := h
  rcases h with ⟨n, ds, rfl, hn, h⟩ | ⟨ds, rfl, hw, h⟩ | ⟨z, rfl, hz, h⟩ | ⟨ds, rfl, h⟩
  · cases r with
    | ref e =>
      obtain ⟨ws, sq, rr⟩ := st.rd hn e
      exact sl_list pins s σ H _ v vl vu lo hi sl Q I rx hs pl pu ⟨_, ws, rfl, sq, fun p hp => kv _ _ _ _ _ (Post.newList st hp (rr.cut lo hi)) (.ref (ref_new (β := []) st)) h⟩
  · cases r with
    | tup sq rr =>
      refine sl_tup pins s σ H _ v vl vu lo hi sl Q I rx hs pl pu ⟨_, _, rfl, sq, by rw [rr.length]; exact hw, fun p hp => ?_⟩
      obtain ⟨po, r2⟩ := upd_tup st hp (rr.cut lo hi)
      exact kv _ _ _ _ _ po r2 h
  · cases r
    exact sl_str pins s σ H _ v vl vu lo hi sl Q I rx hs pl pu ⟨z, rfl, hz, kv _ _ _ _ _ (Post.refl st) (.str _) h⟩
  · cases r with
    | lit sq rr => exact sl_list pins s σ H _ v vl vu lo hi sl Q I rx hs pl pu ⟨_, _, rfl, .inr sq, fun p hp => kv _ _ _ _ _ (Post.newList st hp (rr.cut lo hi)) (.ref (ref_new (β := []) st)) h⟩
theorem slR_ok : SlR X (liSl X.K) := sl_ok
def fSl (a : FE) (l u : FO) : FE := fun ρ S Q X => a ρ S (fun d S1 => l ρ S1 (fun lo S2 => u ρ S2 (fun hi S3 => opSl d lo hi S3 Q) X) X) X
theorem li_sl {a : FE} {l u : FO} {σ : L2.St} {Q : VK} (h : liE K T W (fSl a l u) σ H Q) : tSl (liSl K) (liE K T W a) (liO K T W l) (liO K T W u) σ H Q := by
  obtain ⟨α, ρ, S, Q', X', st, en, h, kv, kx⟩ := h
  refine ⟨α, ρ, S, _, X', st, en, h, fun d S1 α1 H1 v p r hg => ?_, kx⟩
  refine ⟨α1, ρ, S1, _, X', p.st, p.env st en, hg, fun lo S2 α2 H2 p2 hg2 => ?_, kx.after p⟩
  refine ⟨α2, ρ, S2, _, X', p2.st, (p.trans p2).env st en, hg2, fun hi S3 α3 H3 p3 hg3 => ?_, kx.after (p.trans p2)⟩
  exact ⟨α3, S3, d, Q', p3.st, p3.rel p2.st (p2.rel p.st r), hg3, kv.after ((p.trans p2).trans p3)⟩
end
end Bc
end
section
namespace BcZ
open PySem
open Sem (wp)

abbrev ZipAt (st : Bool) (h : Heap) (z TI TO : Addr) (f0 : Value) : Prop :=
  h.get? z = some { cls := .type "zip", dict := none, data := .fields #[f0, .bool false, .bool st, .ref TI, .ref TO], slots := #[] }

section
variable {prog : Program} {w : World} {A : Around} {E : Value → Shared → Prop} {s : Shared} {it : Addr} {fp : List Addr} {n i : Nat} {P : Nat → Value → Prop} {St : Nat → Heap → Prop}
theorem noe_item {Q : Option Value → Shared → Prop} (D : Draws prog w A it fp n P St) (hi : i < n) (st : St i s.heap)
    (hQ : ∀ x h' tk, P i x → St (i + 1) h' → Heap.SameBut it s.heap h' → Q (some x) { s with heap := h', toks := tk }) : wpAny (model prog w) A (Builtin.SmallTypes.nextOrEnd (.ref it)) Q E s := by
  unfold Builtin.SmallTypes.nextOrEnd
  exact wpAny_bind (wpAny_attempt (D.item i s _ _ hi st fun x h' tk a b c => wpAny_pure (hQ x h' tk a b c)))
theorem noe_end {Q : Option Value → Shared → Prop} (D : Draws prog w A it fp n P St) (st : St n s.heap)
    (hQ : ∀ h', Heap.ExtBut it s.heap h' → Q none { s with heap := h' }) : wpAny (model prog w) A (Builtin.SmallTypes.nextOrEnd (.ref it)) Q E s := by
  unfold Builtin.SmallTypes.nextOrEnd
  refine wpAny_bind (wpAny_attempt (D.done s _ _ st fun h' e hb he => ?_))
  obtain ⟨o, ho, hc⟩ := he
  refine wpAny_bind (wpAny_isInstance (T := "StopIteration") (b := true) ⟨o, ho, hc⟩ isSubtype_stop ?_)
  exact wpAny_pure (hQ h' hb)
end
/-- one draw, strict or not -/
theorem draw_item {prog : Program} {w : World} {A : Around} {E : Value → Shared → Prop} {s : Shared} {it : Addr} {fp : List Addr} {n i : Nat} {P : Nat → Value → Prop} {St : Nat → Heap → Prop} {Q : Option Value → Shared → Prop} (b : Bool)
    (D : Draws prog w A it fp n P St) (hi : i < n) (st : St i s.heap)
    (hQ : ∀ x h' tk, P i x → St (i + 1) h' → Heap.SameBut it s.heap h' → Q (some x) { s with heap := h', toks := tk }) :
    wpAny (model prog w) A (if b = true then Builtin.SmallTypes.nextOrEnd (.ref it) else do return some (← Builtin.SmallTypes.nextOf (.ref it))) Q E s := by
  cases b with
  | true => exact noe_item D hi st hQ
  | false => exact wpAny_bind (D.item i s _ _ hi st fun x h' tk a b c => wpAny_pure (hQ x h' tk a b c))

section
variable {prog : Program} {w : World} {A : Around} {E : Value → Shared → Prop} {s : Shared} {z TI TO i1 i2 : Addr} {fp1 fp2 : List Addr} {n1 n2 i : Nat} {P1 P2 : Nat → Value → Prop} {St1 St2 : Nat → Heap → Prop} {a1 a2 : Value}
theorem zipS_item {Q : Value → Shared → Prop} (S : ZipSep2 z TI TO i1 i2 fp1 fp2) (D1 : Draws prog w A i1 fp1 n1 P1 St1) (D2 : Draws prog w A i2 fp2 n2 P2 St2)
    (hz : ZipAt true s.heap z TI TO .none) (hTI : IsTupOf2 s.heap TI (.ref i1) (.ref i2)) (hTO : IsTupOf2 s.heap TO a1 a2) (st1 : St1 i s.heap) (st2 : St2 i s.heap) (l1 : i < n1) (l2 : i < n2)
    (hQ : ∀ x1 x2 h' tk, P1 i x1 → P2 i x2 → ZipAt true h' z TI TO (rawInt s.heap.objs.size) → IsTupOf2 h' TO x1 x2 → St1 (i + 1) h' → St2 (i + 1) h' → IsTupOf2 h' s.heap.objs.size x1 x2 → h'.objs.size = s.heap.objs.size + 1 →
      (∀ c o, c ≠ z → c ≠ TO → c ≠ i1 → c ≠ i2 → s.heap.get? c = some o → h'.get? c = some o) → Q (.ref s.heap.objs.size) { s with heap := h', toks := tk }) :
    wpAny (model prog w) A (Builtin.«zip.__next__» ⟨[.ref z], []⟩) (fun fin s' => ∃ v, fin = .done (.ret v) ∧ Q v s') E s := by
  obtain ⟨hp, g, d, tk0, os⟩ := s
  show wpAny _ _ (field (.ref z) 2 >>= _) _ _ _
  refine wpAny_bind (wpAny_field hz rfl (x := .bool true) rfl ?_)
  show wpAny _ _ (field (.ref z) 3 >>= _) _ _ _
  refine wpAny_bind (wpAny_field hz rfl (x := .ref TI) rfl ?_)
  refine wpAny_bind (wpAny_seqItems hTI rfl ?_)
  show wpAny _ _ (Builtin.SmallTypes.ownedTupleIsFree (.ref z) >>= _) _ _ _
  refine wpAny_bind ?_
  unfold Builtin.SmallTypes.ownedTupleIsFree
  refine wpAny_bind (wpAny_field hz rfl (x := .none) rfl (wpAny_pure ?_))
  simp only [if_true]
  refine wpAny_bind (wpAny_rule ?_)
  refine wpAny_bind (wpAny_field hz rfl (x := .ref TO) rfl ?_)
  refine wpAny_bind (wpAny_setField_rec hz (by simp) fun g0 hz0 hs0 => ?_)
  replace hz0 : ZipAt true g0 z TI TO .ellipsis := hz0
  replace hs0 : Heap.SameBut z hp g0 := hs0
  refine wpAny_bind ?_
  simp only [List.zipIdx_cons, List.zipIdx_nil, List.forIn_cons, List.forIn_nil]
  refine wpAny_bind (wpAny_bind (wpAny_onRaise ?_))
  show wpAny _ _ (Builtin.SmallTypes.nextOrEnd (.ref i1)) _ _ ⟨g0, g, d, tk0, os⟩
  refine noe_item D1 l1 (D1.over st1 hs0 S.zf1) fun x1 p1 tk1 hx1 sn1 hp1 => ?_
  replace hp1 : Heap.SameBut i1 g0 p1 := hp1
  have hU1 : IsTupOf2 p1 TO a1 a2 := hp1.extBut _ _ S.Ti1 (hs0.extBut _ _ S.TOz hTO)
  refine wpAny_bind (wpAny_seqItems (s := ⟨p1, g, d, tk1, os⟩) hU1 rfl ?_)
  refine wpAny_bind (updateSeq_IsTupOf2 (s := ⟨p1, g, d, tk1, os⟩) hU1 fun g1 hT1 hs1 => ?_)
  replace hT1 : IsTupOf2 g1 TO x1 a2 := hT1
  replace hs1 : Heap.SameBut TO p1 g1 := hs1
  refine wpAny_bind (wpAny_letGo (wpAny_pure ?_))
  refine wpAny_bind (wpAny_bind (wpAny_onRaise ?_))
  show wpAny _ _ (Builtin.SmallTypes.nextOrEnd (.ref i2)) _ _ ⟨g1, g, d, tk1, os⟩
  refine noe_item D2 l2 (D2.over (D2.over (D2.over st2 hs0 S.zf2) hp1 S.sep1_2) hs1 S.Tf2) fun x2 p2 tk2 hx2 sn2 hp2 => ?_
  replace hp2 : Heap.SameBut i2 g1 p2 := hp2
  have hU2 : IsTupOf2 p2 TO x1 a2 := hp2.extBut _ _ S.Ti2 hT1
  refine wpAny_bind (wpAny_seqItems (s := ⟨p2, g, d, tk2, os⟩) hU2 rfl ?_)
  refine wpAny_bind (updateSeq_IsTupOf2 (s := ⟨p2, g, d, tk2, os⟩) hU2 fun g2 hT2 hs2 => ?_)
  replace hT2 : IsTupOf2 g2 TO x1 x2 := hT2
  replace hs2 : Heap.SameBut TO p2 g2 := hs2
  refine wpAny_bind (wpAny_letGo (wpAny_pure (wpAny_pure ?_)))
  refine wpAny_bind (wpAny_seqItems (s := ⟨g2, g, d, tk2, os⟩) hT2 rfl ?_)
  refine wpAny_bind (wpAny_newTuple ?_)
  have hsz : g2.objs.size = hp.objs.size := by rw [hs2.1, hp2.1, hs1.1, hp1.1, hs0.1]
  have hzz : ZipAt true g2 z TI TO .ellipsis := hs2.extBut _ _ S.TOz.symm (hp2.extBut _ _ S.zi2 (hs1.extBut _ _ S.TOz.symm (hp1.extBut _ _ S.zi1 hz0)))
  have hkk : ∀ c o, c ≠ z → c ≠ TO → c ≠ i1 → c ≠ i2 → hp.get? c = some o → g2.get? c = some o := fun c o cz cT c1 c2 e =>
    hs2.extBut _ _ cT (hp2.extBut _ _ c2 (hs1.extBut _ _ cT (hp1.extBut _ _ c1 (hs0.extBut _ _ cz e))))
  have hj1 : St1 (i + 1) g2 := D1.over (D1.over (D1.over sn1 hs1 S.Tf1) hp2 S.sep2_1) hs2 S.Tf1
  have hj2 : St2 (i + 1) g2 := D2.over sn2 hs2 S.Tf2
  have hzlt : z < g2.objs.size := Heap.lt_size hzz
  show wpAny _ _ (Builtin.SmallTypes.ownedTupleHandOut (.ref z) (.ref g2.objs.size) >>= _) _ _ ⟨g2.push { cls := .type "tuple", data := .seq #[x1, x2] }, g, d, tk2, os⟩
  refine wpAny_bind ?_
  unfold Builtin.SmallTypes.ownedTupleHandOut
  have z6 : ZipAt true (g2.push { cls := .type "tuple", data := .seq #[x1, x2] }) z TI TO .ellipsis := Heap.get?_push_of_some _ hzz
  refine wpAny_bind (wpAny_setField_rec z6 (by simp) fun h7 z7 s7 => ?_)
  replace z7 : ZipAt true h7 z TI TO (rawInt g2.objs.size) := z7
  refine wpAny_setField_rec z7 (by simp) fun h8 z8 s8 => ?_
  replace z8 : ZipAt true h8 z TI TO (rawInt g2.objs.size) := z8
  replace s7 : Heap.SameBut z (g2.push { cls := .type "tuple", data := .seq #[x1, x2] }) h7 := s7
  replace s8 : Heap.SameBut z h7 h8 := s8
  have up : ∀ c o, c ≠ z → g2.get? c = some o → h8.get? c = some o := fun c o c1 e => s8.extBut _ _ c1 (s7.extBut _ _ c1 (Heap.get?_push_of_some _ e))
  have hT8 : IsTupOf2 h8 g2.objs.size x1 x2 := s8.extBut _ _ (Nat.ne_of_gt hzlt) (s7.extBut _ _ (Nat.ne_of_gt hzlt) (Heap.get?_push_size _ rfl))
  have n8 : h8.objs.size = g2.objs.size + 1 := by rw [s8.1, s7.1, Heap.size_push]
  rw [hsz] at z8 hT8 n8
  refine wpAny_pure ⟨_, rfl, ?_⟩
  show Q (.ref g2.objs.size) ⟨h8, g, d, tk2, os⟩
  rw [hsz]
  exact hQ x1 x2 h8 tk2 hx1 hx2 z8 (up _ _ S.TOz hT2) (D1.frame _ _ _ hj1 fun b hb o e => up b o (fun q => S.zf1 (q ▸ hb)) e) (D2.frame _ _ _ hj2 fun b hb o e => up b o (fun q => S.zf2 (q ▸ hb)) e) hT8 n8 fun c o cz cT c1 c2 e => up c o cz (hkk c o cz cT c1 c2 e)
/-- both end together -/
theorem zipS_end {Q : Fin → Shared → Prop} (hh : A.handled = none) (S : ZipSep2 z TI TO i1 i2 fp1 fp2) (D1 : Draws prog w A i1 fp1 i P1 St1) (D2 : Draws prog w A i2 fp2 i P2 St2) (D2n : ∀ h h', St2 i h → Heap.ExtBut i1 h h' → St2 i h')
    (hz : ZipAt true s.heap z TI TO .none) (hTI : IsTupOf2 s.heap TI (.ref i1) (.ref i2)) (hTO : IsTupOf2 s.heap TO a1 a2) (st1 : St1 i s.heap) (st2 : St2 i s.heap)
    (hE : ∀ h' tk e, (∀ c o, c ≠ z → c ≠ TO → c ≠ i1 → c ≠ i2 → s.heap.get? c = some o → h'.get? c = some o) → (∃ o, h'.get? e = some o ∧ o.cls = .type "StopIteration") → E (.ref e) { s with heap := h', toks := tk }) :
    wpAny (model prog w) A (Builtin.«zip.__next__» ⟨[.ref z], []⟩) Q E s := by
  obtain ⟨hp, g, d, tk0, os⟩ := s
  show wpAny _ _ (field (.ref z) 2 >>= _) _ _ _
  refine wpAny_bind (wpAny_field hz rfl (x := .bool true) rfl ?_)
  show wpAny _ _ (field (.ref z) 3 >>= _) _ _ _
  refine wpAny_bind (wpAny_field hz rfl (x := .ref TI) rfl ?_)
  refine wpAny_bind (wpAny_seqItems hTI rfl ?_)
  show wpAny _ _ (Builtin.SmallTypes.ownedTupleIsFree (.ref z) >>= _) _ _ _
  refine wpAny_bind ?_
  unfold Builtin.SmallTypes.ownedTupleIsFree
  refine wpAny_bind (wpAny_field hz rfl (x := .none) rfl (wpAny_pure ?_))
  simp only [if_true]
  refine wpAny_bind (wpAny_rule ?_)
  refine wpAny_bind (wpAny_field hz rfl (x := .ref TO) rfl ?_)
  refine wpAny_bind (wpAny_setField_rec hz (by simp) fun g0 hz0 hs0 => ?_)
  replace hz0 : ZipAt true g0 z TI TO .ellipsis := hz0
  replace hs0 : Heap.SameBut z hp g0 := hs0
  refine wpAny_bind ?_
  simp only [List.zipIdx_cons, List.zipIdx_nil, List.forIn_cons, List.forIn_nil]
  refine wpAny_bind (wpAny_bind (wpAny_onRaise ?_))
  show wpAny _ _ (Builtin.SmallTypes.nextOrEnd (.ref i1)) _ _ ⟨g0, g, d, tk0, os⟩
  refine noe_end D1 (D1.over st1 hs0 S.zf1) fun p1 e1 => ?_
  replace e1 : Heap.ExtBut i1 g0 p1 := e1
  have hz1 : ZipAt true p1 z TI TO .ellipsis := e1 _ _ S.zi1 hz0
  refine wpAny_bind (wpAny_setField_rec (s := ⟨p1, g, d, tk0, os⟩) hz1 (by simp) fun g1 hz2 hs1 => ?_)
  replace hs1 : Heap.SameBut z p1 g1 := hs1
  have st2' : St2 i g1 := D2.over (D2n _ _ (D2.over st2 hs0 S.zf2) e1) hs1 S.zf2
  have q : ∀ {E : Value → Shared → Prop} {Q : Option Value → Shared → Prop}, (∀ h', Heap.ExtBut i2 g1 h' → Q none ⟨h', g, d, tk0, os⟩) → wpAny (model prog w) A (Builtin.SmallTypes.nextOrEnd (.ref i2)) Q E ⟨g1, g, d, tk0, os⟩ := fun hq => noe_end (s := ⟨g1, g, d, tk0, os⟩) D2 st2' hq
  refine wpAny_bind ?_
  wp_walk using q
  intro h2 e2
  refine wpAny_ite_false (by decide) ?_
  wp_walk
  simp only [raiseNew]
  refine wpAny_bind (wpAny_handled ?_)
  rw [hh]
  refine wpAny_bind (wpAny_pure (wpAny_throw ?_))
  refine hE _ _ _ (fun c o c1 _ c3 c4 e => ?_) ⟨_, Heap.get?_push_size _ rfl, rfl⟩
  exact Heap.get?_push_of_some _ (Heap.get?_push_of_some _ (e2 _ _ c4 (hs1.extBut _ _ c1 (e1 _ _ c3 (hs0.extBut _ _ c1 e)))))
end
end BcZ
end
section
namespace BcZ
open PySem
open Sem (wp)
theorem enum_new {v : Value} {o : Obj} {H : Heap → Prop} (B : Begins v o H) :
    Meets (Builtin.«enumerate.__new__» ⟨[.type "enumerate", v], []⟩) (fun _ R s => H s.heap ∧
      R (.ok (.ret (.ref (s.heap.push o).objs.size))) { s with heap := (s.heap.push o).push { cls := .type "enumerate", data := .fields #[.none, .bool false, .ref s.heap.objs.size, rawInt 0, .none, .none] } }) :=
  .of_wp fun prog w A R s h => by
    obtain ⟨hp, g, d, tk, os⟩ := s
    obtain ⟨h1, h⟩ := h
    have hsub := sub_enumerate
    have q1 : ∀ {A' : Around} {E : Value → Shared → Prop} {Q : Value → Shared → Prop}, Q (.ref hp.objs.size) ⟨hp.push o, g, d, tk, os⟩ → wpAny (model prog w) A' (pyIter v) Q E ⟨hp, g, d, tk, os⟩ :=
      fun q => B.iter prog w _ _ ⟨hp, g, d, tk, os⟩ _ h1 q
    wp_walk using q1
    refine wpAny_stack_any fun st => wpAny_pure ?_
    split
    · rename_i c _ _ _ _ _
      cases (c == Value.type "enumerate")
      · wp_walk using q1
        exact ⟨_, rfl, h⟩
      · wp_walk using q1
        exact ⟨_, rfl, h⟩
    · wp_walk using q1
      exact ⟨_, rfl, h⟩
section
variable {prog : Program} {w : World} {A : Around} {E : Value → Shared → Prop} {s : Shared}
theorem enum_make {v : Value} {o : Obj} {H : Heap → Prop} {Q : Value → Shared → Prop} (B : Begins v o H) (h1 : H s.heap)
    (h : ∀ h', IsEnum h' (s.heap.objs.size + 1) s.heap.objs.size 0 .none → h'.get? s.heap.objs.size = some o → h'.objs.size = s.heap.objs.size + 2 →
      (∀ b o, s.heap.get? b = some o → h'.get? b = some o) → Q (.ref (s.heap.objs.size + 1)) { s with heap := h' }) : wpAny (model prog w) A (call (.type "enumerate") [v]) Q E s := by
  refine callType_new F.called_enumerate (by decide) (F.typeCall_enumerate_1 _) (F.newCall_enumerate_1 _) (fun obj => F.args_object_init_2 obj _) F.entry_enumerate_new (enum_new B) ⟨h1, ?_⟩
  have hz : (s.heap.push o).objs.size = s.heap.objs.size + 1 := Heap.size_push ..
  show _ ∧ _
  rw [hz]
  have he : IsEnum ((s.heap.push o).push { cls := .type "enumerate", data := .fields #[.none, .bool false, .ref s.heap.objs.size, rawInt 0, .none, .none] }) (s.heap.objs.size + 1) s.heap.objs.size 0 .none := by
    have := Heap.get?_push_size (s.heap.push o) (o := { cls := .type "enumerate", data := .fields #[.none, .bool false, .ref s.heap.objs.size, rawInt 0, .none, .none] }) rfl
    rw [hz] at this
    exact this
  exact ⟨⟨_, he, rfl⟩, h _ he (Heap.get?_push_of_some _ (Heap.get?_push_size _ B.free)) (by rw [Heap.size_push, hz]) fun b o x => Heap.get?_push_of_some _ (Heap.get?_push_of_some _ x)⟩
end
theorem zk_type (a b c : Value) : checkTypeCall "zip" ⟨[a, b], [(Str.ofString "strict", c)]⟩ = pure () := by kernel_rfl
theorem zk_new (a b c : Value) : checkBuiltinCall "zip.__new__" ⟨[.type "zip", a, b], [(Str.ofString "strict", c)]⟩ = pure () := by kernel_rfl
theorem zk_args (obj a b c : Value) : argsOk "object.__init__" ⟨[obj, a, b], [(Str.ofString "strict", c)]⟩ := by
  unfold argsOk
  kernel_rfl
abbrev zH (st : Bool) (h : Heap) (o1 o2 : Obj) : Heap := (gzO2 h o1 o2).push { cls := .type "zip", data := .fields #[.none, .bool false, .bool st, .ref ((h.push o1).push o2).objs.size, .ref (gzT2 h o1 o2).objs.size] }
theorem zip_newK {v1 v2 : Value} {o1 o2 : Obj} {H1 H2 : Heap → Prop} (B1 : Begins v1 o1 H1) (B2 : Begins v2 o2 H2) (st : Bool) :
    Meets (Builtin.«zip.__new__» ⟨[.type "zip", v1, v2], [(Str.ofString "strict", .bool st)]⟩) (fun _ R s => (H1 s.heap ∧ H2 s.heap) ∧ R (.ok (.ret (.ref (gzO2 s.heap o1 o2).objs.size))) { s with heap := zH st s.heap o1 o2 }) :=
  .of_wp fun prog w A R s h => by
    obtain ⟨hp, g, d, tk, os⟩ := s
    obtain ⟨⟨h1, h2⟩, h⟩ := h
    have hsub := sub_zip
    have e2 : (Str.ofString "strict" != ("strict" : Str)) = false := by decide +kernel
    have q1 : ∀ {A' : Around} {E : Value → Shared → Prop} {Q : Value → Shared → Prop}, Q (.ref hp.objs.size) ⟨hp.push o1, g, d, tk, os⟩ → wpAny (model prog w) A' (pyIter v1) Q E ⟨hp, g, d, tk, os⟩ :=
      fun q => B1.iter prog w _ _ ⟨hp, g, d, tk, os⟩ _ h1 q
    have q2 : ∀ {A' : Around} {E : Value → Shared → Prop} {Q : Value → Shared → Prop}, Q (.ref (hp.push o1).objs.size) ⟨(hp.push o1).push o2, g, d, tk, os⟩ → wpAny (model prog w) A' (pyIter v2) Q E ⟨hp.push o1, g, d, tk, os⟩ :=
      fun q => B2.iter prog w _ _ ⟨hp.push o1, g, d, tk, os⟩ _ (B2.keeps _ _ h2 fun b o' e => Heap.get?_push_of_some _ e) q
    wp_walk using q1, q2
    exact ⟨_, rfl, h⟩
end BcZ
end
section
namespace BcZ
open PySem L2 PyProof.Rows
section
variable {prog : Program} {w : World} {A : Around} {E : Value → Shared → Prop} {s : Shared}
theorem zip_makeK {v1 v2 : Value} {o1 o2 : Obj} {H1 H2 : Heap → Prop} {Q : Value → Shared → Prop} (st : Bool) (B1 : Begins v1 o1 H1) (B2 : Begins v2 o2 H2) (h1 : H1 s.heap) (h2 : H2 s.heap)
    (h : ∀ h', ZipAt st h' (s.heap.objs.size + 4) (s.heap.objs.size + 2) (s.heap.objs.size + 3) .none → IsTupOf2 h' (s.heap.objs.size + 2) (.ref s.heap.objs.size) (.ref (s.heap.objs.size + 1)) →
      IsTupOf2 h' (s.heap.objs.size + 3) .none .none → h'.get? s.heap.objs.size = some o1 → h'.get? (s.heap.objs.size + 1) = some o2 →
      (∀ c o, s.heap.get? c = some o → h'.get? c = some o) → Q (.ref (s.heap.objs.size + 4)) { s with heap := h' }) :
    wpAny (model prog w) A (call (.type "zip") [v1, v2] [(Str.ofString "strict", .bool st)]) Q E s := by
  refine callType_newKw F.called_zip (by decide) (zk_type _ _ _) (zk_new _ _ _) (fun obj => zk_args obj _ _ _) F.entry_zip_new (zip_newK B1 B2 st) ⟨⟨h1, h2⟩, ?_⟩
  have z1 : (s.heap.push o1).objs.size = s.heap.objs.size + 1 := by rw [Heap.size_push]
  have z2 : ((s.heap.push o1).push o2).objs.size = s.heap.objs.size + 2 := by rw [Heap.size_push, z1]
  have zT : (gzT2 s.heap o1 o2).objs.size = s.heap.objs.size + 3 := by rw [Heap.size_push, z2]
  have zO : (gzO2 s.heap o1 o2).objs.size = s.heap.objs.size + 4 := by rw [Heap.size_push, zT]
  have gZ : (zH st s.heap o1 o2).get? (gzO2 s.heap o1 o2).objs.size = some { cls := .type "zip", data := .fields #[.none, .bool false, .bool st, .ref ((s.heap.push o1).push o2).objs.size, .ref (gzT2 s.heap o1 o2).objs.size] } := Heap.get?_push_size _ rfl
  have gO : (zH st s.heap o1 o2).get? (gzT2 s.heap o1 o2).objs.size = some { cls := .type "tuple", data := .seq #[.none, .none] } := Heap.get?_push_of_some _ (Heap.get?_push_size _ rfl)
  have gT : (zH st s.heap o1 o2).get? ((s.heap.push o1).push o2).objs.size = some { cls := .type "tuple", data := .seq #[.ref s.heap.objs.size, .ref (s.heap.push o1).objs.size] } := Heap.get?_push_of_some _ (Heap.get?_push_of_some _ (Heap.get?_push_size _ rfl))
  have g1 : (zH st s.heap o1 o2).get? s.heap.objs.size = some o1 := Heap.get?_push_of_some _ (Heap.get?_push_of_some _ (Heap.get?_push_of_some _ (Heap.get?_push_of_some _ (Heap.get?_push_size _ B1.free))))
  have g2 : (zH st s.heap o1 o2).get? (s.heap.push o1).objs.size = some o2 := Heap.get?_push_of_some _ (Heap.get?_push_of_some _ (Heap.get?_push_of_some _ (Heap.get?_push_size _ B2.free)))
  rw [zO, zT, z2] at gZ
  rw [zT] at gO
  rw [z2, z1] at gT
  rw [z1] at g2
  show _ ∧ _
  rw [zO]
  exact ⟨⟨_, gZ, rfl⟩, h _ gZ gT gO g1 g2 fun c o e => Heap.get?_push_of_some _ (Heap.get?_push_of_some _ (Heap.get?_push_of_some _ (Heap.get?_push_of_some _ (Heap.get?_push_of_some _ e))))⟩
variable {z TI TO i1 i2 : Addr} {fp1 fp2 : List Addr} {n1 n2 i : Nat} {P1 P2 : Nat → Value → Prop} {St1 St2 : Nat → Heap → Prop} {a1 a2 : Value}
theorem next_item {Q : Option Value → Shared → Prop} (b : Bool) (S : ZipSep2 z TI TO i1 i2 fp1 fp2) (D1 : Draws prog w A.in1 i1 fp1 n1 P1 St1) (D2 : Draws prog w A.in1 i2 fp2 n2 P2 St2)
    (hz : ZipAt b s.heap z TI TO .none) (hTI : IsTupOf2 s.heap TI (.ref i1) (.ref i2)) (hTO : IsTupOf2 s.heap TO a1 a2) (st1 : St1 i s.heap) (st2 : St2 i s.heap) (l1 : i < n1) (l2 : i < n2)
    (hQ : ∀ x1 x2 h' tk, P1 i x1 → P2 i x2 → ZipAt b h' z TI TO (rawInt s.heap.objs.size) → IsTupOf2 h' TO x1 x2 → St1 (i + 1) h' → St2 (i + 1) h' → IsTupOf2 h' s.heap.objs.size x1 x2 →
      (∀ c o, c ≠ z → c ≠ TO → c ≠ i1 → c ≠ i2 → s.heap.get? c = some o → h'.get? c = some o) → Q (some (.ref s.heap.objs.size)) { s with heap := h', toks := tk }) :
    wpAny (model prog w) A (pyNext (.ref z)) Q E s := by
  have hT : s.TypeIs (.ref z) "zip" := ⟨_, hz, rfl⟩
  cases b with
  | false => exact wpAny_pyNext_zipD2_item S D1 D2 hz hTI hTO st1 st2 l1 l2 fun x1 x2 h' tk y1 y2 b1 b2 d1 d2 b5 _ b7 => hQ x1 x2 h' tk y1 y2 b1 b2 d1 d2 b5 b7
  | true =>
    unfold pyNext
    exact wpAny_bind (wpAny_attempt (wpAny_callSpecial?_slot (name := Str.ofString "__next__") hT F.slot_zip_next
      (wpAny_call_entry F.slot_zip_next hT F.entry_zip_next
        (zipS_item S D1 D2 hz hTI hTO st1 st2 l1 l2 fun x1 x2 h' tk y1 y2 b1 b2 d1 d2 b5 _ b7 => wpAny_pure (hQ x1 x2 h' tk y1 y2 b1 b2 d1 d2 b5 b7)) (F.args_zip_next_1 _))))
theorem next_end {Q : Option Value → Shared → Prop} (hh : A.handled = none) (b : Bool) (S : ZipSep2 z TI TO i1 i2 fp1 fp2) (D1 : Draws prog w A.in1 i1 fp1 n1 P1 St1) (D2 : Draws prog w A.in1 i2 fp2 n2 P2 St2)
    (hz : ZipAt b s.heap z TI TO .none) (hTI : IsTupOf2 s.heap TI (.ref i1) (.ref i2)) (hTO : IsTupOf2 s.heap TO a1 a2) (st1 : St1 i s.heap) (st2 : St2 i s.heap) (l1 : i ≤ n1) (l2 : i ≤ n2) (he : i = n1 ∨ i = n2) (hb : b = true → i = n1 ∧ i = n2)
    (hQ : ∀ h' tk, (∀ c o, c ≠ z → c ≠ TO → c ≠ i1 → c ≠ i2 → s.heap.get? c = some o → h'.get? c = some o) → Q none { s with heap := h', toks := tk }) : wpAny (model prog w) A (pyNext (.ref z)) Q E s := by
  have hT : s.TypeIs (.ref z) "zip" := ⟨_, hz, rfl⟩
  cases b with
  | false => exact wpAny_pyNext_zipD2_end S D1 D2 hz hTI hTO st1 st2 l1 l2 he hQ
  | true =>
    obtain ⟨rfl, rfl⟩ := hb rfl
    unfold pyNext
    refine wpAny_bind (wpAny_attempt (wpAny_callSpecial?_slot (name := Str.ofString "__next__") hT F.slot_zip_next
      (wpAny_call_entry F.slot_zip_next hT F.entry_zip_next (zipS_end (show A.in1.handled = none from hh) S D1 D2 (fun h h' q e => D2.frame _ _ _ q fun c hc o x => e c o (fun y => S.sep1_2 (y ▸ hc)) x) hz hTI hTO st1 st2 fun h' tk e hk he => ?_) (F.args_zip_next_1 _))))
    obtain ⟨o, ho, hc⟩ := he
    refine wpAny_bind (wpAny_isInstance (T := "StopIteration") (b := true) ⟨o, ho, hc⟩ isSubtype_stop ?_)
    exact wpAny_pure (hQ _ _ hk)
theorem handOut {b : Bool} {elts : List Expr} {x1} {pos : Pos} {T : Addr} {Q : Unit → Shared → Prop} (hz : ZipAt b s.heap z TI TO (rawInt T))
    (hQ : ∀ h', ZipAt b h' z TI TO .none → Heap.SameBut z s.heap h' → Q () { s with heap := h' }) : wpAny (model prog w) A (letOwnedTupleGo (.Tuple elts x1 pos) (.ref z) (.ref T)) Q E s := by
  unfold letOwnedTupleGo
  refine wpAny_bind (wpAny_load hz ?_)
  dsimp only
  rw [if_pos (by simp)]
  refine wpAny_bind (wpAny_rule ?_)
  show wpAny _ _ (setField (.ref z) 0 .none) Q E s
  exact wpAny_setField_rec hz (by simp) fun h' hz' hs' => hQ h' hz' hs'
theorem iter_self {b : Bool} {f0 : Value} {Q : Value → Shared → Prop} (hz : ZipAt b s.heap z TI TO f0) (h : Q (.ref z) s) : wpAny (model prog w) A (pyIter (.ref z)) Q E s := by
  have hT : s.TypeIs (.ref z) "zip" := ⟨_, hz, rfl⟩
  refine wpAny_pyIter_slot hT F.slot_zip_iter (wpAny_call_entry F.slot_zip_iter hT F.entry_zip_iter ?_ (F.args_zip_iter_1 _))
  show wpAny _ _ (ret (.ref z)) _ _ s
  exact wpAny_pure ⟨_, rfl, "zip", _, hT, F.slot_zip_next.lookup, h⟩
end
/-- what is walked: a list, a tuple, a text -/
inductive Src where
  | l (a : Addr) | t (a : Addr) | x (z : Str)
def chars (z : Str) : List V := z.cps.toList.map fun c => V.str ⟨#[c]⟩
def SrcV (K : PySem.W.Frag) (H : Hp) : Src → List V → Prop
  | .l a, xs => SqL K H a xs
  | .t a, xs => SqT K H a xs
  | .x z, xs => xs = chars z
/-- its iterator's own record, behind i turns -/
def SrcO (h : Heap) : Src → Addr → Nat → Prop
  | .l a, it, i => h.IsListIter it a i
  | .t a, it, i => h.IsTupleIter it a i
  | .x z, it, i => ∃ t, h.IsStrIter it (strIterType z) z t i
def SrcF : Src → Addr → List Addr
  | .l a, it => [it, a]
  | .t a, it => [it, a]
  | .x _, it => [it]
theorem srcF_mem (q : Src) (it : Addr) : it ∈ SrcF q it := by cases q <;> simp [SrcF]
theorem SrcO.obj {h : Heap} {q : Src} {it : Addr} {i : Nat} (st : SrcO h q it i) : ∃ o, h.get? it = some o ∧ ∀ v, o.data ≠ .cell v := by
  cases q with
  | l a => obtain ⟨o, e, _, d⟩ := st; exact ⟨o, e, fun v q => by rw [d] at q; cases q⟩
  | t a => obtain ⟨o, e, _, d⟩ := st; exact ⟨o, e, fun v q => by rw [d] at q; cases q⟩
  | x z => obtain ⟨t, o, e, _, d⟩ := st; exact ⟨o, e, fun v q => by rw [d] at q; cases q⟩
theorem SrcO.at_ {h h' : Heap} {q : Src} {it : Addr} {i : Nat} (st : SrcO h q it i) (k : ∀ o, h.get? it = some o → h'.get? it = some o) : SrcO h' q it i := by
  cases q with
  | l a => exact Heap.IsListIter.at st k
  | t a => exact Heap.IsTupleIter.at st k
  | x z =>
    obtain ⟨t, o, e, r⟩ := st
    exact ⟨t, o, k o e, r⟩
/-- what the iterator draws, told by the layer -/
structure SrcD (X : Cx) (s : Shared) (q : Src) (it : Addr) (i : Nat) (xs : List V) (P : Nat → Value → Prop) (St : Nat → Heap → Prop) : Prop where
  dr : ∀ A : Around, A.handled = none → Draws X.prog X.w A it (SrcF q it) xs.length P St
  st : St i s.heap
  val : ∀ j v, P j v → ∃ x, xs[j]? = some x ∧ RelV x v
  own : ∀ j h, St j h → SrcO h q it j
theorem src_draws {X : Cx} {pins : List (Addr × Obj)} {σ : L2.St} {H : Hp} {s : Shared} {q : Src} {it : Addr} {i : Nat} {xs : List V} (I : Inv X pins σ H s) (hx : SrcV X.K H q xs) (ho : SrcO s.heap q it i) (hne : ∀ a, (q = .l a ∨ q = .t a) → a ≠ it) :
    ∃ P St, SrcD X s q it i xs P St := by
  cases q with
  | l a =>
    obtain ⟨its, rv, p, _⟩ := I.list hx
    have e : its.toArray.size = xs.length := by rw [List.size_toArray]; exact rv.length.symm
    refine ⟨fun j v => its.toArray[j]? = some v, fun j h => h.IsListIter it a j ∧ h.IsList a its.toArray, fun A hA => ?_, ⟨ho, p.isList⟩, fun j v hv => ?_, fun j h z => z.1⟩
    · have D := Draws.list (prog := X.prog) (w := X.w) (A := A) hA it a (hne a (.inl rfl)) its.toArray
      rw [e] at D
      exact D
    · have hv' : its[j]? = some v := by simpa using hv
      have hj : j < its.length := (List.getElem?_eq_some_iff.mp hv').1
      have hj2 : j < xs.length := by rw [rv.length]; exact hj
      obtain ⟨u, h1, h2⟩ := rv.get (List.getElem?_eq_getElem hj2)
      rw [hv'] at h1
      cases h1
      exact ⟨_, List.getElem?_eq_getElem hj2, h2⟩
  | t a =>
    obtain ⟨its, rv, p, _⟩ := I.tuple hx
    have e : its.toArray.size = xs.length := by rw [List.size_toArray]; exact rv.length.symm
    refine ⟨fun j v => its.toArray[j]? = some v, fun j h => h.IsTupleIter it a j ∧ h.IsTuple a its.toArray, fun A hA => ?_, ⟨ho, p⟩, fun j v hv => ?_, fun j h z => z.1⟩
    · have D := Draws.tuple (prog := X.prog) (w := X.w) (A := A) hA it a (hne a (.inr rfl)) its.toArray
      rw [e] at D
      exact D
    · have hv' : its[j]? = some v := by simpa using hv
      have hj : j < its.length := (List.getElem?_eq_some_iff.mp hv').1
      have hj2 : j < xs.length := by rw [rv.length]; exact hj
      obtain ⟨u, h1, h2⟩ := rv.get (List.getElem?_eq_getElem hj2)
      rw [hv'] at h1
      cases h1
      exact ⟨_, List.getElem?_eq_getElem hj2, h2⟩
  | x z =>
    obtain ⟨t, ho⟩ := ho
    cases (show xs = chars z from hx)
    have e : z.cps.size = (chars z).length := by simp [chars]
    refine ⟨fun j v => ∃ c u, z.cps[j]? = some c ∧ v = .str ⟨#[c]⟩ u, fun j h => h.IsStrIter it (strIterType z) z t j, fun A hA => ?_, ho, fun j v hv => ?_, fun j h y => ⟨t, y⟩⟩
    · have D := Draws.text (prog := X.prog) (w := X.w) (A := A) hA it z t
      rw [e] at D
      exact D
    · obtain ⟨c, u, h1, rfl⟩ := hv
      refine ⟨.str ⟨#[c]⟩, ?_, ⟨u, rfl⟩⟩
      simp only [chars, List.getElem?_map, Array.getElem?_toList, h1]
      rfl
theorem SrcV.inj {X : Cx} {pins : List (Addr × Obj)} {σ : L2.St} {H : Hp} {s : Shared} {q : Src} {xs ys : List V} (I : Inv X pins σ H s) (h : SrcV X.K H q xs) (h' : SrcV X.K H q ys) : xs = ys := by
  cases q with
  | l a => exact I.list_inj h h'
  | t a => exact I.tuple_inj h h'
  | x z => exact Eq.trans h (Eq.symm h')
def ItE (K : PySem.W.Frag) (q : Src) : It :=
  ⟨fun i H => ∃ (xs : List V) (x : V), SrcV K H q xs ∧ xs[i]? = some x,
    fun i H v H' => ∃ T x, v = .ref T ∧ H T = none ∧ H' = upd H T (.tup [.int (i : Nat), x]) ∧ ∀ xs, SrcV K H q xs → xs[i]? = some x,
    fun i H => ∃ xs : List V, SrcV K H q xs ∧ xs.length = i⟩
theorem turnE {P : Program} {w : World} {K : PySem.W.Frag} {elts : List Expr} {kk : Nat} {tpos : Pos} (q : Src) (e it : Addr) (hne : e ≠ it) (hef : e ∉ SrcF q it) (ha : ∀ a, (q = .l a ∨ q = .t a) → a ≠ it) :
    Turn P w K (.Tuple elts kk tpos) (ItE K q) [e, it] e (fun i h => (∃ old, IsEnum h e it ((i : Nat) : Int) old) ∧ SrcO h q it i) where
  mem := by simp
  obj := fun i h st b hb => by
    obtain ⟨⟨old, he⟩, so⟩ := st
    have e' : b = e ∨ b = it := by simpa using hb
    rcases e' with z | z
    · rw [z]; exact ⟨_, he, fun v q => nomatch q⟩
    · rw [z]; exact so.obj
  keep := fun i h h' st k => ⟨let ⟨old, he⟩ := st.1; ⟨old, k e (by simp) _ he⟩, st.2.at_ fun o q => k it (by simp) o q⟩
  item := by
    intro X hP hw hK hc i pins s σ H E I hf st hg
    subst hP hw hK
    obtain ⟨⟨old, he⟩, so⟩ := st
    obtain ⟨xs, x, hq, hx⟩ := hg
    obtain ⟨Pd, Sd, D⟩ := src_draws I hq so ha
    have hel : e < s.heap.objs.size := Heap.lt_size he
    have hil : it < s.heap.objs.size := by obtain ⟨_, z, _⟩ := so.obj; exact Heap.lt_size z
    have hi : i < xs.length := (List.getElem?_eq_some_iff.mp hx).1
    refine wpAny_pyNext_enum_itemD (D.dr X.A.in1 (show X.A.in1.handled = none from I.ok.hd hc)) he D.st hi hne hef fun u h' tk hu ho hs' hT hsz hk => ?_
    obtain ⟨x', hx', ru⟩ := D.val _ _ hu
    rw [hx] at hx'
    cases hx'
    refine ⟨_, rfl, wpAny_letOwnedTupleGo_enum (s := { s with heap := h', toks := tk + 1 }) ho fun h'' he' sb => ?_⟩
    have hT2 : h''.get? s.heap.objs.size = some { cls := .type "tuple", data := .seq #[.int i tk, u] } := (sb.2 _ (Nat.ne_of_gt hel)).trans hT
    have new : ObjOk X.prog X.w (upd H s.heap.objs.size (.tup [.int (i : Nat), x])) h'' s.heap.objs.size (.tup [.int (i : Nat), x]) :=
      ⟨by show 2 ≤ sizeLine; decide, [.int i tk, u], .cons ⟨_, rfl⟩ (.cons ru .nil), ⟨_, hT2, rfl, _, rfl⟩⟩
    have I1 : Inv X pins σ (upd H s.heap.objs.size (.tup [.int (i : Nat), x])) { s with heap := h'', toks := tk + 1 } :=
      I.turnedNew (ch := [e, it]) (fun b ob hb y => (sb.2 b (fun z => hb (by simp [z]))).trans (hk b ob (fun z => hb (by simp [z])) (fun z => hb (by simp [z])) y)) hf (Nat.le_refl _) new
    refine ⟨.ref s.heap.objs.size, _, I1, rfl, ⟨_, x, rfl, I.hok.fresh (Nat.le_refl _), rfl, fun ys hy => by rw [SrcV.inj I hy hq]; exact hx⟩, ⟨⟨u, ?_⟩, (D.own _ _ hs').at_ fun o y => (sb.2 it (Ne.symm hne)).trans y⟩, fun b hb => ?_⟩
    · have e1 : ((i + 1 : Nat) : Int) = (i : Int) + 1 := by omega
      rw [e1]
      exact he'
    · have hb' : b < s.heap.objs.size := by
        have e' : b = e ∨ b = it := by simpa using hb
        rcases e' with z | z
        · rw [z]; exact hel
        · rw [z]; exact hil
      rw [upd_ne (Nat.ne_of_lt hb')]
      exact (hf b hb).1
  done := by
    intro X hP hw hK hc i pins s σ H E I hf st hg
    subst hP hw hK
    obtain ⟨⟨old, he⟩, so⟩ := st
    obtain ⟨xs, hq, hx⟩ := hg
    obtain ⟨Pd, Sd, D⟩ := src_draws I hq so ha
    obtain ⟨f0, f1, f2, f3, f4, f5⟩ := hf it (by simp)
    exact wpAny_pyNext_enum_endD (D.dr X.A.in1 (show X.A.in1.handled = none from I.ok.hd hc)) he (by rw [hx]; exact D.st) fun h' eb => ⟨rfl, I.turned (t' := s.toks) (fun b o hb y => eb b o hb y) f0 f1 f3 f4 f5⟩
  self := fun A i s Q E st h => let ⟨⟨_, he⟩, _⟩ := st; wpAny_pyIter_enum he h
def ItZ (K : PySem.W.Frag) (b : Bool) (q1 q2 : Src) : It :=
  ⟨fun i H => ∃ (xs ys : List V) (x y : V), SrcV K H q1 xs ∧ SrcV K H q2 ys ∧ xs[i]? = some x ∧ ys[i]? = some y,
    fun i H v H' => ∃ T x y, v = .ref T ∧ H T = none ∧ H' = upd H T (.tup [x, y]) ∧ (∀ xs, SrcV K H q1 xs → xs[i]? = some x) ∧ ∀ ys, SrcV K H q2 ys → ys[i]? = some y,
    fun i H => ∃ xs ys : List V, SrcV K H q1 xs ∧ SrcV K H q2 ys ∧ i ≤ xs.length ∧ i ≤ ys.length ∧ (i = xs.length ∨ i = ys.length) ∧ (b = true → i = xs.length ∧ i = ys.length)⟩
theorem turnZ {P : Program} {w : World} {K : PySem.W.Frag} {elts : List Expr} {kk : Nat} {tpos : Pos} (b : Bool) (q1 q2 : Src) (z TI TO i1 i2 : Addr) (S : ZipSep2 z TI TO i1 i2 (SrcF q1 i1) (SrcF q2 i2)) (ha1 : ∀ a, (q1 = .l a ∨ q1 = .t a) → a ≠ i1) (ha2 : ∀ a, (q2 = .l a ∨ q2 = .t a) → a ≠ i2) :
    Turn P w K (.Tuple elts kk tpos) (ItZ K b q1 q2) [z, TI, TO, i1, i2] z (fun i h => ZipAt b h z TI TO .none ∧ IsTupOf2 h TI (.ref i1) (.ref i2) ∧ (∃ x y, IsTupOf2 h TO x y) ∧ SrcO h q1 i1 i ∧ SrcO h q2 i2 i) where
  mem := by simp
  obj := fun i h st c hc => by
    obtain ⟨hz, hTI, ⟨x, y, hTO⟩, s1, s2⟩ := st
    have e' : c = z ∨ c = TI ∨ c = TO ∨ c = i1 ∨ c = i2 := by simpa using hc
    rcases e' with q | q | q | q | q
    · rw [q]; exact ⟨_, hz, fun v q => nomatch q⟩
    · rw [q]; exact ⟨_, hTI, fun v q => nomatch q⟩
    · rw [q]; exact ⟨_, hTO, fun v q => nomatch q⟩
    · rw [q]; exact s1.obj
    · rw [q]; exact s2.obj
  keep := fun i h h' st k => by
    obtain ⟨hz, hTI, ⟨x, y, hTO⟩, s1, s2⟩ := st
    exact ⟨k z (by simp) _ hz, k TI (by simp) _ hTI, ⟨x, y, k TO (by simp) _ hTO⟩, s1.at_ fun o q => k i1 (by simp) o q, s2.at_ fun o q => k i2 (by simp) o q⟩
  item := by
    intro X hP hw hK hc i pins s σ H E I hf st hg
    subst hP hw hK
    obtain ⟨hz, hTI, ⟨x0, y0, hTO⟩, s1, s2⟩ := st
    obtain ⟨xs, ys, x, y, hqx, hqy, hx, hy⟩ := hg
    obtain ⟨P1, S1, D1⟩ := src_draws I hqx s1 ha1
    obtain ⟨P2, S2, D2⟩ := src_draws I hqy s2 ha2
    have hh : X.A.in1.handled = none := I.ok.hd hc
    have hzl : z < s.heap.objs.size := Heap.lt_size hz
    refine next_item b S (D1.dr _ hh) (D2.dr _ hh) hz hTI hTO D1.st D2.st (List.getElem?_eq_some_iff.mp hx).1 (List.getElem?_eq_some_iff.mp hy).1 fun u1 u2 h' tk p1 p2 z' TO' n1 n2 hT hk => ?_
    obtain ⟨x', hx', r1⟩ := D1.val _ _ p1
    obtain ⟨y', hy', r2⟩ := D2.val _ _ p2
    rw [hx] at hx'
    cases hx'
    rw [hy] at hy'
    cases hy'
    refine ⟨_, rfl, handOut (s := { s with heap := h', toks := tk }) z' fun h'' z'' sb => ?_⟩
    have hT2 : h''.get? s.heap.objs.size = some { cls := .type "tuple", data := .seq #[u1, u2] } := (sb.2 _ (Nat.ne_of_gt hzl)).trans hT
    have new : ObjOk X.prog X.w (upd H s.heap.objs.size (.tup [x, y])) h'' s.heap.objs.size (.tup [x, y]) :=
      ⟨by show 2 ≤ sizeLine; decide, [u1, u2], .cons r1 (.cons r2 .nil), ⟨_, hT2, rfl, _, rfl⟩⟩
    have I1 : Inv X pins σ (upd H s.heap.objs.size (.tup [x, y])) { s with heap := h'', toks := tk } :=
      I.turnedNew (ch := [z, TI, TO, i1, i2]) (fun c o hb q => (sb.2 c (fun q' => hb (by simp [q']))).trans (hk c o (fun q' => hb (by simp [q'])) (fun q' => hb (by simp [q'])) (fun q' => hb (by simp [q'])) (fun q' => hb (by simp [q'])) q)) hf (Nat.le_refl _) new
    refine ⟨.ref s.heap.objs.size, _, I1, rfl, ⟨_, x, y, rfl, I.hok.fresh (Nat.le_refl _), rfl, fun l hl => by rw [SrcV.inj I hl hqx]; exact hx, fun l hl => by rw [SrcV.inj I hl hqy]; exact hy⟩, ⟨z'', ?_, ⟨u1, u2, ?_⟩, ?_, ?_⟩, fun c hcm => ?_⟩
    · exact (sb.2 _ S.TIz).trans (hk _ _ S.TIz S.TITO S.TIi1 S.TIi2 hTI)
    · exact (sb.2 _ S.TOz).trans TO'
    · exact (D1.own _ _ n1).at_ fun o q => (sb.2 _ S.zi1.symm).trans q
    · exact (D2.own _ _ n2).at_ fun o q => (sb.2 _ S.zi2.symm).trans q
    · have hlt : c < s.heap.objs.size := by
        have e' : c = z ∨ c = TI ∨ c = TO ∨ c = i1 ∨ c = i2 := by simpa using hcm
        rcases e' with q | q | q | q | q
        · rw [q]; exact hzl
        · rw [q]; exact Heap.lt_size hTI
        · rw [q]; exact Heap.lt_size hTO
        · rw [q]; obtain ⟨_, e1, _⟩ := s1.obj; exact Heap.lt_size e1
        · rw [q]; obtain ⟨_, e2, _⟩ := s2.obj; exact Heap.lt_size e2
      rw [upd_ne (Nat.ne_of_lt hlt)]
      exact (hf c hcm).1
  done := by
    intro X hP hw hK hc i pins s σ H E I hf st hg
    subst hP hw hK
    obtain ⟨hz, hTI, ⟨x0, y0, hTO⟩, s1, s2⟩ := st
    obtain ⟨xs, ys, hqx, hqy, l1, l2, he, hb⟩ := hg
    obtain ⟨P1, S1, D1⟩ := src_draws I hqx s1 ha1
    obtain ⟨P2, S2, D2⟩ := src_draws I hqy s2 ha2
    have hh : X.A.in1.handled = none := I.ok.hd hc
    exact next_end (I.ok.hd hc) b S (D1.dr _ hh) (D2.dr _ hh) hz hTI hTO D1.st D2.st l1 l2 he hb fun h' tk hk => ⟨rfl, I.turnedL (t' := tk) (ch := [z, TI, TO, i1, i2]) (fun c o hb q =>
      hk c o (fun q' => hb (by simp [q'])) (fun q' => hb (by simp [q'])) (fun q' => hb (by simp [q'])) (fun q' => hb (by simp [q'])) q) hf⟩
  self := fun A i s Q E st h => iter_self st.1 h
end BcZ
end
section
namespace BcZ
open PySem L2 PyProof.Rows
inductive SrcOf : V → Src → Prop
  | l (a : Addr) : SrcOf (.ref a) (.l a)
  | t (a : Addr) : SrcOf (.ref a) (.t a)
  | x (z : Str) : SrcOf (.str z) (.x z)
/-- how iter(..) begins there -/
theorem src_begins {X : Cx} {pins : List (Addr × Obj)} {σ : L2.St} {H : Hp} {s : Shared} {q : Src} {xs : List V} {v : V} {u : Value} (I : Inv X pins σ H s) (hv : SrcV X.K H q xs) (r : RelV v u) (h : SrcOf v q) :
    ∃ o Hh, Begins u o Hh ∧ Hh s.heap ∧ (∀ a, (q = .l a ∨ q = .t a) → a < s.heap.objs.size) ∧ ∀ h it, h.get? it = some o → SrcO h q it 0 := by
  cases h with
  | l a =>
    cases r
    obtain ⟨its, rv, p, _⟩ := I.list hv
    refine ⟨_, _, begins_list a its.toArray, p.isList, fun b hb => ?_, fun h it e => ⟨_, e, rfl, rfl⟩⟩
    rcases hb with hb | hb <;> cases hb
    exact p.lt
  | t a =>
    cases r
    obtain ⟨its, rv, p, _⟩ := I.tuple hv
    refine ⟨_, _, begins_tuple a its.toArray, p, fun b hb => ?_, fun h it e => ⟨_, e, rfl, rfl⟩⟩
    rcases hb with hb | hb <;> cases hb
    exact p.lt
  | x z =>
    obtain ⟨t, rfl⟩ := r
    refine ⟨_, _, begins_text z t, trivial, fun b hb => ?_, fun h it e => ⟨t, _, e, rfl, rfl⟩⟩
    rcases hb with hb | hb <;> cases hb
def iEn (K : PySem.W.Frag) (ta : TA) : TI := fun σ H R => ta σ H fun vs H1 => ∃ v q xs, vs = [v] ∧ SrcOf v q ∧ SrcV K H1 q xs ∧ R (ItE K q) H1
def iZi (K : PySem.W.Frag) (b : Bool) (ta : TA) : TI := fun σ H R => ta σ H fun vs H1 => ∃ v1 v2 q1 q2 xs ys, vs = [v1, v2] ∧ SrcOf v1 q1 ∧ SrcOf v2 q2 ∧ SrcV K H1 q1 xs ∧ SrcV K H1 q2 ys ∧ R (ItZ K b q1 q2) H1
section
variable {X : Cx} {e e2 : Expr} {ta : TA} {p pos tpos : Pos} {elts : List Expr} {kk : Nat}
theorem pi_en (hg : Gl X "enumerate") (hm : X.mg "enumerate" = none) (ha : PA X [e] ta) (hs : starEach [e] X.env = [(false, eval e X.env)]) :
    PI X (.Tuple elts kk tpos) (.Call (.Name "enumerate" p) [e] [] pos) (iEn X.K ta) := by
  refine ⟨fun pins s σ H R I h => ?_⟩
  refine Call_ (ld_blt I hg hm boot_enumerate (PyProof.Rows.callWith_type1 (thn (ha.run pos pins s σ H _ I h) fun us s1 ⟨vs, H1, I1, r1, q1⟩ => ?_) hs rfl))
  obtain ⟨v, q, xs, rfl, so, sv, q1⟩ := q1
  obtain ⟨u, rfl, ru⟩ := vals1 r1
  obtain ⟨o, Hh, B, hH, hlt, hO⟩ := src_begins I1 sv ru so
  refine enum_make B hH fun h' he hit hsz hk => wpAny_pyIter_enum he ?_
  have I2 : Inv X pins σ H1 { s1 with heap := h' } := I1.kept (t' := s1.toks) hk
  have na : ∀ a, (q = .l a ∨ q = .t a) → a ≠ s1.heap.objs.size := fun a h => Nat.ne_of_lt (hlt a h)
  have nf : s1.heap.objs.size + 1 ∉ SrcF q s1.heap.objs.size := by
    cases q with
    | l a =>
      have h0 := hlt a (.inl rfl)
      simp only [SrcF, List.mem_cons, List.not_mem_nil, or_false]
      rintro (z | z)
      · omega
      · rw [← z] at h0
        exact Nat.lt_irrefl _ (Nat.lt_trans (Nat.lt_succ_self _) h0)
    | t a =>
      have h0 := hlt a (.inr rfl)
      simp only [SrcF, List.mem_cons, List.not_mem_nil, or_false]
      rintro (z | z)
      · omega
      · rw [← z] at h0
        exact Nat.lt_irrefl _ (Nat.lt_trans (Nat.lt_succ_self _) h0)
    | x z =>
      simp only [SrcF, List.mem_cons, List.not_mem_nil, or_false]
      intro z
      omega
  refine ⟨s1.heap.objs.size + 1, [s1.heap.objs.size + 1, s1.heap.objs.size], _, _, H1, rfl, I2, turnE q (s1.heap.objs.size + 1) s1.heap.objs.size (Nat.succ_ne_self _) nf na, ⟨⟨.none, he⟩, hO _ _ hit⟩, fun b hb => ?_, q1⟩
  have e' : b = s1.heap.objs.size + 1 ∨ b = s1.heap.objs.size := by simpa using hb
  have hle : s1.heap.objs.size ≤ b := by
    rcases e' with z | z
    · rw [z]; exact Nat.le_add_right _ _
    · rw [z]; exact Nat.le_refl _
  exact I1.fpOk hle (I1.hok.fresh hle)
theorem ltNe {a n k : Nat} (h : a < n) (hk : n ≤ k) : k ≠ a := by omega
theorem addNe {n a b : Nat} (h : a ≠ b) : n + a ≠ n + b := by omega
theorem addNe0 {n b : Nat} (h : 0 < b) : n ≠ n + b := by omega
theorem addNe1 {n b : Nat} (h : 0 < b) : n + b ≠ n := by omega
theorem sep_of {n : Nat} {q1 q2 : Src} (h1 : ∀ a, (q1 = .l a ∨ q1 = .t a) → a < n) (h2 : ∀ a, (q2 = .l a ∨ q2 = .t a) → a < n) : ZipSep2 (n + 4) (n + 2) (n + 3) n (n + 1) (SrcF q1 n) (SrcF q2 (n + 1)) := by
  have hx : ∀ (q : Src) (m k : Nat), (∀ a, (q = .l a ∨ q = .t a) → a < n) → n ≤ k → k ≠ m → k ∉ SrcF q m := fun q m k h hk hne hm => by
    cases q with
    | l a =>
      simp only [SrcF, List.mem_cons, List.not_mem_nil, or_false] at hm
      rcases hm with z | z
      · exact hne z
      · exact ltNe (h a (.inl rfl)) hk z
    | t a =>
      simp only [SrcF, List.mem_cons, List.not_mem_nil, or_false] at hm
      rcases hm with z | z
      · exact hne z
      · exact ltNe (h a (.inr rfl)) hk z
    | x z =>
      simp only [SrcF, List.mem_cons, List.not_mem_nil, or_false] at hm
      exact hne hm
  exact ⟨addNe (by decide), addNe (by decide), addNe (by decide), addNe1 (by decide), srcF_mem _ _, hx _ _ _ h1 (Nat.le_add_right _ _) (addNe1 (by decide)), hx _ _ _ h1 (Nat.le_add_right _ _) (addNe1 (by decide)), addNe (by decide), srcF_mem _ _,
    hx _ _ _ h2 (Nat.le_add_right _ _) (addNe (by decide)), hx _ _ _ h2 (Nat.le_add_right _ _) (addNe (by decide)), hx _ _ _ h2 (Nat.le_refl _) (addNe0 (by decide)), hx _ _ _ h1 (Nat.le_add_right _ _) (addNe1 (by decide))⟩
/-- behind the making of a zip: what the layer's walk wants -/
theorem zi_done {pins : List (Addr × Obj)} {σ : L2.St} {H1 : Hp} {s1 : Shared} {h' : Heap} {R : It → Hp → Prop} {b : Bool} {q1 q2 : Src} {o1 o2 : Obj} (I1 : Inv X pins σ H1 s1) (l1 : ∀ a, (q1 = .l a ∨ q1 = .t a) → a < s1.heap.objs.size) (l2 : ∀ a, (q2 = .l a ∨ q2 = .t a) → a < s1.heap.objs.size)
    (hO1 : ∀ h it, h.get? it = some o1 → SrcO h q1 it 0) (hO2 : ∀ h it, h.get? it = some o2 → SrcO h q2 it 0)
    (hz : ZipAt b h' (s1.heap.objs.size + 4) (s1.heap.objs.size + 2) (s1.heap.objs.size + 3) .none) (hTI : IsTupOf2 h' (s1.heap.objs.size + 2) (.ref s1.heap.objs.size) (.ref (s1.heap.objs.size + 1))) (hTO : IsTupOf2 h' (s1.heap.objs.size + 3) .none .none)
    (g1 : h'.get? s1.heap.objs.size = some o1) (g2 : h'.get? (s1.heap.objs.size + 1) = some o2) (hk : ∀ c o, s1.heap.get? c = some o → h'.get? c = some o) (q : R (ItZ X.K b q1 q2) H1) :
    PIE X pins σ (.Tuple elts kk tpos) R (.ref (s1.heap.objs.size + 4)) { s1 with heap := h' } := by
  have I2 : Inv X pins σ H1 { s1 with heap := h' } := I1.kept (t' := s1.toks) hk
  have S := sep_of l1 l2
  refine ⟨s1.heap.objs.size + 4, [s1.heap.objs.size + 4, s1.heap.objs.size + 2, s1.heap.objs.size + 3, s1.heap.objs.size, s1.heap.objs.size + 1], _, _, H1, rfl, I2,
    turnZ b q1 q2 _ _ _ _ _ S (fun a h => Nat.ne_of_lt (l1 a h)) (fun a h => Nat.ne_of_lt (Nat.lt_succ_of_lt (l2 a h))), ⟨hz, hTI, ⟨_, _, hTO⟩, hO1 _ _ g1, hO2 _ _ g2⟩, fun c hc => ?_, q⟩
  have e' : c = s1.heap.objs.size + 4 ∨ c = s1.heap.objs.size + 2 ∨ c = s1.heap.objs.size + 3 ∨ c = s1.heap.objs.size ∨ c = s1.heap.objs.size + 1 := by simpa using hc
  have hle : s1.heap.objs.size ≤ c := by
    rcases e' with z | z | z | z | z
    · rw [z]; exact Nat.le_add_right _ _
    · rw [z]; exact Nat.le_add_right _ _
    · rw [z]; exact Nat.le_add_right _ _
    · rw [z]; exact Nat.le_refl _
    · rw [z]; exact Nat.le_add_right _ _
  exact I1.fpOk hle (I1.hok.fresh hle)
theorem pi_zi (hg : Gl X "zip") (hm : X.mg "zip" = none) (ha : PA X [e, e2] ta) (hs : starEach [e, e2] X.env = (false, eval e X.env) :: starEach [e2] X.env) (hpl : (backTo pos (starEach [e2] X.env)).any (·.1) = false) :
    PI X (.Tuple elts kk tpos) (.Call (.Name "zip" p) [e, e2] [] pos) (iZi X.K false ta) := by
  refine ⟨fun pins s σ H R I h => ?_⟩
  refine Call_ (ld_blt I hg hm PyProof.Rows.boot_zip (PyProof.Rows.callWith_type1 (thn (ha.run pos pins s σ H _ I h) fun us s1 ⟨vs, H1, I1, r1, q1⟩ => ?_) hs hpl))
  obtain ⟨v1, v2, q1, q2, xs, ys, rfl, s1', s2', sv1, sv2, q⟩ := q1
  obtain ⟨u1, u2, rfl, ru1, ru2⟩ := vals2 r1
  obtain ⟨o1, Hh1, B1, hH1, l1, hO1⟩ := src_begins I1 sv1 ru1 s1'
  obtain ⟨o2, Hh2, B2, hH2, l2, hO2⟩ := src_begins I1 sv2 ru2 s2'
  exact zip_begins2 B1 B2 hH1 hH2 fun h' hz hTI hTO g1 g2 _ hk => iter_self (b := false) hz (zi_done I1 l1 l2 hO1 hO2 hz hTI hTO g1 g2 hk q)
end
theorem callT_kw {M : Model} {A : Around} {E : Value → Shared → Prop} {s : Shared} {env : Env} {pos : Pos} {T : String} {e : Expr} {rest : List Expr} {kws : List Keyword} {Q : Value → Shared → Prop}
    (h : wpAny M A (spliced (backTo pos (starEach (e :: rest) env))) (fun vs s₁ => wpAny M A (evalAll ((backToKw pos (keywordEach kws env)).map (·.2)))
      (fun kvs s₂ => wpAny M A (call (.type T) vs (((backToKw pos (keywordEach kws env)).filterMap (·.1)).zip kvs)) Q E s₂) E s₁) E s)
    (he : backTo pos (starEach (e :: rest) env) = (false, (do let v ← eval e env; standAt pos; pure v)) :: backTo pos (starEach rest env) ∨ backTo pos (starEach (e :: rest) env) = (false, eval e env) :: backTo pos (starEach rest env))
    (hplain : (backTo pos (starEach (e :: rest) env)).any (·.1) = false) (hall : (backToKw pos (keywordEach kws env)).all (·.1.isSome) = true) (hkw : (backToKw pos (keywordEach kws env)).any (·.1.isNone) = false) :
    wpAny M A (callWith pos (.type T) [] (backTo pos (starEach (e :: rest) env)) (backToKw pos (keywordEach kws env))) Q E s := by
  have main : wpAny M A (evalArgs (.type T) true (backTo pos (starEach (e :: rest) env)) (backToKw pos (keywordEach kws env))) (fun a s₁ => wpAny M A (call (.type T) ([] ++ a.pos) a.kw) Q E s₁) E s := by
    rcases he with he | he
    · rw [he] at h ⊢
      exact evalArgs_kwB hall h
    · rw [he] at h ⊢
      exact evalArgs_kwB hall h
  unfold callWith
  refine wpAny_bind (wpAny_holding (wpAny_mono main (fun a s₁ h₁ => wpAny_bind (wpAny_standAt ?_)) fun _ _ x => x))
  simp only [hplain, hkw, Bool.or_false]
  refine wpAny_bind (wpAny_pure ?_)
  exact wpAny_bind (wpAny_mono h₁ (fun r s₂ hr => wpAny_bind (wpAny_holding (wpAny_point (wpAny_pure hr)))) fun _ _ x => x)
theorem pi_zik {X : Cx} {e e2 : Expr} {ta : TA} {p pos tpos kp kp2 : Pos} {elts : List Expr} {kk kn : Nat} {b : Bool} (hg : Gl X "zip") (hm : X.mg "zip" = none) (ha : PA X [e, e2] ta) (hs : starEach [e, e2] X.env = (false, eval e X.env) :: starEach [e2] X.env) (hs2 : starEach [e2] X.env = [(false, eval e2 X.env)]) :
    PI X (.Tuple elts kk tpos) (.Call (.Name "zip" p) [e, e2] [⟨some "strict", .Constant (.bool b) kn kp2, kp⟩] pos) (iZi X.K b ta) := by
  refine ⟨fun pins s σ H R I h => ?_⟩
  refine wpAny_Call_Name_kw (ld_blt I hg hm PyProof.Rows.boot_zip ?_)
  refine callT_kw (thn (ha.run pos pins s σ H _ I h) fun us s1 ⟨vs, H1, I1, r1, q1⟩ => ?_) ?_ ?_ rfl rfl
  · refine kws_cons (Constant_bool (kws_nil ?_))
    obtain ⟨v1, v2, q1, q2, xs, ys, rfl, s1', s2', sv1, sv2, q⟩ := q1
    obtain ⟨u1, u2, rfl, ru1, ru2⟩ := vals2 r1
    obtain ⟨o1, Hh1, B1, hH1, l1, hO1⟩ := src_begins I1 sv1 ru1 s1'
    obtain ⟨o2, Hh2, B2, hH2, l2, hO2⟩ := src_begins I1 sv2 ru2 s2'
    exact zip_makeK b B1 B2 hH1 hH2 fun h' hz hTI hTO g1 g2 hk => iter_self hz (zi_done I1 l1 l2 hO1 hO2 hz hTI hTO g1 g2 hk q)
  · rw [hs]
    first | exact Or.inl rfl | exact Or.inr rfl
  · rw [hs, hs2]
    rfl
end BcZ
end
section
namespace Bc
open PySem L2 PyProof.Rows BcZ

/-- what is walked: the items, and what must hold of the store at each turn -/
structure Itn where
  items : List D
  guard : Sto → Prop
abbrev FI := Env → Sto → (Itn → Sto → Prop) → Xk → Prop
section
variable (K : PySem.W.Frag)
/-- the layer's walk J, begun where the cells stand at α in H, walks it -/
def ItR (α : List Addr) (H : Hp) (J : It) (it : Itn) : Prop := ∀ α' H' S', Post K α H α' H' S' → it.guard S' →
  (∀ i, i < it.items.length → J.go i H') ∧ J.stop it.items.length H' ∧
    ∀ (i : Nat) d x H'', it.items[i]? = some d → J.yld i H' x H'' → Rel K α' H'' x d ∧ Post K α' H' α' H'' S'
def liI (T : XTab) (W : WX) (f : FI) : TI := fun σ H R => ∃ α ρ S Q' X', StR K α H S ∧ EnvR K α H σ ρ ∧ f ρ S Q' X' ∧ (∀ it S' α' H' J, Post K α H α' H' S' → ItR K α' H' J it → Q' it S' → R J H') ∧ LkX K T W σ α H X'
end
def charsD (z : Str) : List D := z.cps.toList.map fun c => D.str ⟨#[c]⟩
/-- d stands for the items ds, as the store is -/
def srcG (d : D) (ds : List D) (S : Sto) : Prop := match d with
  | .ref n => lstOf S n ds
  | .tup es => es = ds
  | .str z => ds = charsD z
  | _ => False
def fSeq (a : FE) : FI := fun ρ S Q X => a ρ S (fun d S1 => ∃ ds, srcG d ds S1 ∧ Q ⟨ds, srcG d ds⟩ S1) X
def enumD (ds : List D) : List D := ds.zipIdx.map fun p => .tup [.int (p.2 : Nat), p.1]
def zipD (ds es : List D) : List D := List.zipWith (fun a b => .tup [a, b]) ds es
def fEnum (a : FA) : FI := fun ρ S Q X => a ρ S (fun xs S1 => ∃ d ds, xs = [d] ∧ srcG d ds S1 ∧ Q ⟨enumD ds, srcG d ds⟩ S1) X
def fZip (b : Bool) (a : FA) : FI := fun ρ S Q X => a ρ S (fun xs S1 => ∃ d e ds es, xs = [d, e] ∧ srcG d ds S1 ∧ srcG e es S1 ∧ (b = true → ds.length = es.length) ∧ Q ⟨zipD ds es, fun S => srcG d ds S ∧ srcG e es S⟩ S1) X
def rngD (lo c : Int) (n : Nat) : List D := (List.range n).map fun i : Nat => D.int (lo + (i : Int) * c)
def Nar (i : Int) : Prop := -(2 ^ 62) ≤ i ∧ i < 2 ^ 62
def fRng1 (a : FA) : FI := fun ρ S Q X => a ρ S (fun xs S1 => ∃ n, xs = [.int n] ∧ Nar n ∧ Q ⟨rngD 0 1 n.toNat, fun _ => True⟩ S1) X
def fRng2 (a : FA) : FI := fun ρ S Q X => a ρ S (fun xs S1 => ∃ i j, xs = [.int i, .int j] ∧ Nar i ∧ Nar j ∧ Q ⟨rngD i 1 (j - i).toNat, fun _ => True⟩ S1) X
def fRng3 (a : FA) : FI := fun ρ S Q X => a ρ S (fun xs S1 => ∃ i j c n, xs = [.int i, .int j, .int c] ∧ RgC i j c n ∧ Q ⟨rngD i c n, fun _ => True⟩ S1) X
section
variable {K : PySem.W.Frag} {T : XTab} {W : WX} {α α' : List Addr} {H H' : Hp} {S S' : Sto} {ρ : Env} {σ : L2.St} {X : Cx}
theorem charsV (z : Str) : RelL K α H (chars z) (charsD z) := by
  unfold chars charsD
  induction z.cps.toList with
  | nil => exact .nil
  | cons c r ih => exact .cons (.str _) ih
/-- the source in the layer's words -/
theorem srcG_src (st : StR K α H S) {v : V} {d : D} {ds : List D} (r : Rel K α H v d) (h : srcG d ds S) : ∃ q, SrcOf v q ∧ ∀ α' H' S', Post K α H α' H' S' → srcG d ds S' → ∃ xs, SrcV K H' q xs ∧ RelL K α' H' xs ds := by
  cases d with
  | ref n =>
    cases r with
    | @ref a _ e => exact ⟨.l a, .l a, fun α' H' S' p h' => p.st.rd h' (p.get _ _ e)⟩
  | tup es =>
    cases r with
    | @tup a xs _ s rr =>
      cases h
      exact ⟨.t a, .t a, fun α' H' S' p h' => ⟨xs, st.tk p.fr _ _ s, p.relL st rr⟩⟩
  | str z =>
    cases r
    cases (show ds = charsD z from h)
    exact ⟨.x z, .x z, fun α' H' S' p h' => ⟨_, rfl, charsV z⟩⟩
  | non => exact h.elim
  | bl b => exact h.elim
  | int i => exact h.elim
  | exc _ _ _ => exact h.elim
  | lit _ => exact h.elim
theorem enumD_len (ds : List D) : (enumD ds).length = ds.length := by simp [enumD]
theorem enumD_get {ds : List D} {i : Nat} {d : D} (h : (enumD ds)[i]? = some d) : ∃ e, ds[i]? = some e ∧ d = .tup [.int (i : Nat), e] := by
  simp only [enumD, List.getElem?_map, List.getElem?_zipIdx] at h
  cases e : ds[i]? with
  | none =>
    rw [e] at h
    cases h
  | some x =>
    rw [e] at h
    simp only [Option.map_some, Option.some.injEq] at h
    exact ⟨x, rfl, by rw [← h]; simp⟩
theorem zipD_len (ds es : List D) : (zipD ds es).length = min ds.length es.length := by simp [zipD]
theorem zipD_get {ds es : List D} {i : Nat} {d : D} (h : (zipD ds es)[i]? = some d) : ∃ x y, ds[i]? = some x ∧ es[i]? = some y ∧ d = .tup [x, y] := by
  simp only [zipD, List.getElem?_zipWith] at h
  cases e : ds[i]? with
  | none =>
    rw [e] at h
    cases h
  | some x =>
    cases e2 : es[i]? with
    | none =>
      rw [e, e2] at h
      cases h
    | some y =>
      rw [e, e2] at h
      exact ⟨x, y, rfl, rfl, (Option.some.inj h).symm⟩
theorem itr_enum (st : StR K α H S) {v : V} {d : D} {ds : List D} (r : Rel K α H v d) (h : srcG d ds S) {q : Src} (hq : ∀ α' H' S', Post K α H α' H' S' → srcG d ds S' → ∃ xs, SrcV K H' q xs ∧ RelL K α' H' xs ds) : ItR K α H (ItE K q) ⟨enumD ds, srcG d ds⟩ := by
  intro α' H' S' p g
  obtain ⟨xs, sv, rr⟩ := hq α' H' S' p g
  refine ⟨fun i hi => ?_, ⟨xs, sv, by rw [rr.length]; exact (enumD_len ds).symm⟩, fun i e x H'' he hy => ?_⟩
  · have hi' : i < xs.length := by
      rw [rr.length]
      exact (enumD_len ds) ▸ hi
    exact ⟨xs, _, sv, List.getElem?_eq_getElem hi'⟩
  · obtain ⟨y, hy0, rfl⟩ := enumD_get he
    obtain ⟨Ta, z, rfl, nT, rfl, hz⟩ := hy
    obtain ⟨u, hu, ru⟩ := rr.get hy0
    have := hz xs sv
    rw [hu] at this
    cases this
    obtain ⟨po, r2⟩ := upd_tup p.st nT (.cons (.int (i : Nat)) (.cons ru .nil))
    exact ⟨r2, po⟩
theorem itr_zip (b : Bool) {d e : D} {ds es : List D} (hb : b = true → ds.length = es.length) {q1 q2 : Src} (h1 : ∀ α' H' S', Post K α H α' H' S' → srcG d ds S' → ∃ xs, SrcV K H' q1 xs ∧ RelL K α' H' xs ds)
    (h2 : ∀ α' H' S', Post K α H α' H' S' → srcG e es S' → ∃ xs, SrcV K H' q2 xs ∧ RelL K α' H' xs es) : ItR K α H (ItZ K b q1 q2) ⟨zipD ds es, fun S => srcG d ds S ∧ srcG e es S⟩ := by
  intro α' H' S' p g
  obtain ⟨xs, sv, rr⟩ := h1 α' H' S' p g.1
  obtain ⟨ys, sv2, rr2⟩ := h2 α' H' S' p g.2
  have l1 := rr.length
  have l2 := rr2.length
  have lz := zipD_len ds es
  refine ⟨fun i hi => ?_, ⟨xs, ys, sv, sv2, ?_, ?_, ?_, fun z => ?_⟩, fun i w x H'' he hy => ?_⟩
  · have hi' : i < (zipD ds es).length := hi
    exact ⟨xs, ys, _, _, sv, sv2, List.getElem?_eq_getElem (show i < xs.length by omega), List.getElem?_eq_getElem (show i < ys.length by omega)⟩
  · show (zipD ds es).length ≤ _
    omega
  · show (zipD ds es).length ≤ _
    omega
  · show (zipD ds es).length = _ ∨ (zipD ds es).length = _
    omega
  · have := hb z
    show (zipD ds es).length = _ ∧ (zipD ds es).length = _
    omega
  · obtain ⟨x0, y0, hx, hy0, rfl⟩ := zipD_get he
    obtain ⟨Ta, a, c, rfl, nT, rfl, ha, hc⟩ := hy
    obtain ⟨u, hu, ru⟩ := rr.get hx
    obtain ⟨u2, hu2, ru2⟩ := rr2.get hy0
    have e1 := ha xs sv
    have e2 := hc ys sv2
    rw [hu] at e1
    rw [hu2] at e2
    cases e1
    cases e2
    obtain ⟨po, r2⟩ := upd_tup p.st nT (.cons ru (.cons ru2 .nil))
    exact ⟨r2, po⟩
theorem rngD_get {lo c : Int} {n i : Nat} {d : D} (h : (rngD lo c n)[i]? = some d) : i < n ∧ d = .int (lo + (i : Int) * c) := by
  simp only [rngD, List.getElem?_map] at h
  by_cases hi : i < n
  · rw [List.getElem?_range hi] at h
    exact ⟨hi, (Option.some.inj h).symm⟩
  · rw [List.getElem?_eq_none (by simpa using Nat.le_of_not_lt hi)] at h
    cases h
theorem itr_rngC (lo c : Int) (n : Nat) (G : Sto → Prop) : ItR K α H (Itc lo c n) ⟨rngD lo c n, G⟩ := by
  intro α' H' S' p g
  have hl : (rngD lo c n).length = n := by simp [rngD]
  refine ⟨fun i hi => hl ▸ hi, Nat.le_of_eq hl.symm, fun i d x H'' he hy => ?_⟩
  obtain ⟨hi, rfl⟩ := rngD_get he
  obtain ⟨rfl, rfl⟩ := hy
  exact ⟨.int _, Post.refl p.st⟩
theorem itr_rng (lo : Int) (n : Nat) (G : Sto → Prop) : ItR K α H (Itr lo n) ⟨rngD lo 1 n, G⟩ := by
  intro α' H' S' p g
  have hl : (rngD lo 1 n).length = n := by simp [rngD]
  refine ⟨fun i hi => hl ▸ hi, Nat.le_of_eq hl.symm, fun i d x H'' he hy => ?_⟩
  obtain ⟨hi, rfl⟩ := rngD_get he
  obtain ⟨rfl, rfl⟩ := hy
  rw [Int.mul_one]
  exact ⟨.int _, Post.refl p.st⟩
def iSq (K : PySem.W.Frag) (te : TE) : TI := fun σ H R => te σ H fun v H1 => (∃ a, v = .ref a ∧ (∃ xs, SqL K H1 a xs) ∧ R (Itl K a) H1) ∨ (∃ a, v = .ref a ∧ (∃ xs, SqT K H1 a xs) ∧ R (Itt K a) H1) ∨ ∃ z, v = .str z ∧ R (Its z) H1
theorem pi_sq {tg e : Expr} {te : TE} (he : PE X e te) : PI X tg e (iSq X.K te) := by
  refine ⟨fun pins s σ H R I h => ?_⟩
  refine thn (he.run pins s σ H _ I h) fun v s1 ⟨x, H1, I1, r1, q1⟩ => ?_
  rcases q1 with ⟨a, rfl, ⟨xs, hq⟩, q⟩ | ⟨a, rfl, ⟨xs, hq⟩, q⟩ | ⟨z, rfl, q⟩
  · cases r1
    obtain ⟨its, rv, p, hz⟩ := I1.list hq
    refine wpAny_pyIter_list p.isList ⟨s1.heap.objs.size, [s1.heap.objs.size], _, _, H1, rfl, I1.kept (t' := s1.toks) fun b o e => Heap.get?_push_of_some _ e, turn_list a _, ⟨_, Heap.get?_push_size _ rfl, rfl, rfl⟩, fun b hb => ?_, q⟩
    cases List.mem_singleton.mp hb
    exact I1.fpOk (Nat.le_refl _) (I1.hok.fresh (Nat.le_refl _))
  · cases r1
    obtain ⟨its, rv, p, hz⟩ := I1.tuple hq
    refine wpAny_pyIter_tuple (show s1.heap.IsTuple a its.toArray from p) ⟨s1.heap.objs.size, [s1.heap.objs.size], _, _, H1, rfl, I1.kept (t' := s1.toks) fun b o e => Heap.get?_push_of_some _ e, turn_tuple a _, ⟨_, Heap.get?_push_size _ rfl, rfl, rfl⟩, fun b hb => ?_, q⟩
    cases List.mem_singleton.mp hb
    exact I1.fpOk (Nat.le_refl _) (I1.hok.fresh (Nat.le_refl _))
  · obtain ⟨t, rfl⟩ := r1
    cases ha : z.cps.all (· < 128)
    · exact wpAny_pyIter_wide ha (pi_one (tk := s1.toks) I1 _ (turn_str _ z t "str_iterator" (.inr rfl)) ⟨_, Heap.get?_push_size _ rfl, rfl, rfl⟩ q)
    · exact wpAny_pyIter_ascii ha (pi_one (tk := s1.toks) I1 _ (turn_str _ z t "str_ascii_iterator" (.inl rfl)) ⟨_, Heap.get?_push_size _ rfl, rfl, rfl⟩ q)
theorem itr_list {a : Addr} {n : Nat} {ds : List D} (e : α[n]? = some a) : ItR K α H (Itl K a) ⟨ds, srcG (.ref n) ds⟩ := by
  intro α' H' S' p g
  obtain ⟨xs, sq, rr⟩ := p.st.rd g (p.get _ _ e)
  have hl := rr.length
  refine ⟨fun i hi => ⟨xs, _, sq, List.getElem?_eq_getElem (show i < xs.length from hl ▸ hi)⟩, ⟨xs, sq, Nat.le_of_eq hl⟩, fun i d x H'' he hy => ?_⟩
  obtain ⟨rfl, hy⟩ := hy
  obtain ⟨u, hu, ru⟩ := rr.get he
  have := hy xs sq
  rw [hu] at this
  cases this
  exact ⟨ru, Post.refl p.st⟩
theorem itr_tup (st : StR K α H S) {a : Addr} {xs : List V} {ds : List D} (sq : SqT K H a xs) (rr : RelL K α H xs ds) (G : Sto → Prop) : ItR K α H (Itt K a) ⟨ds, G⟩ := by
  intro α' H' S' p g
  have sq' := st.tk p.fr _ _ sq
  have rr' := p.relL st rr
  have hl := rr.length
  refine ⟨fun i hi => ⟨xs, _, sq', List.getElem?_eq_getElem (show i < xs.length from hl ▸ hi)⟩, ⟨xs, sq', Nat.le_of_eq hl⟩, fun i d x H'' he hy => ?_⟩
  obtain ⟨rfl, hy⟩ := hy
  obtain ⟨u, hu, ru⟩ := rr'.get he
  have := hy xs sq'
  rw [hu] at this
  cases this
  exact ⟨ru, Post.refl p.st⟩
theorem itr_str (z : Str) (G : Sto → Prop) : ItR K α H (Its z) ⟨charsD z, G⟩ := by
  intro α' H' S' p g
  have hl : (charsD z).length = z.cps.size := by simp [charsD]
  refine ⟨fun i hi => (hl ▸ hi : i < z.cps.size), Nat.le_of_eq hl.symm, fun i d x H'' he hy => ?_⟩
  obtain ⟨rfl, c, hc, rfl⟩ := hy
  simp only [charsD, List.getElem?_map, Array.getElem?_toList, hc] at he
  cases he
  exact ⟨.str _, Post.refl p.st⟩
theorem li_seq {a : FE} {R : It → Hp → Prop} (h : liI K T W (fSeq a) σ H R) : iSq K (liE K T W a) σ H R := by
  obtain ⟨α, ρ, S, Q', X', st, en, h, kv, kx⟩ := h
  refine ⟨α, ρ, S, _, X', st, en, h, fun d S1 α1 H1 v p r hg => ?_, kx⟩
  obtain ⟨ds, g, hq⟩ := hg
  cases d with
  | ref n =>
    cases r with
    | @ref a _ e =>
      obtain ⟨xs, sq, _⟩ := p.st.rd g e
      exact .inl ⟨a, rfl, ⟨xs, sq⟩, kv _ S1 α1 H1 _ p (itr_list e) hq⟩
  | tup es =>
    cases r with
    | @tup a xs _ s rr =>
      cases (show es = ds from g)
      exact .inr (.inl ⟨a, rfl, ⟨xs, s⟩, kv _ S1 α1 H1 _ p (itr_tup p.st s rr _) hq⟩)
  | str z =>
    cases r
    cases (show ds = charsD z from g)
    exact .inr (.inr ⟨z, rfl, kv _ S1 α1 H1 _ p (itr_str z _) hq⟩)
  | non => exact g.elim
  | bl b => exact g.elim
  | int i => exact g.elim
  | exc _ _ _ => exact g.elim
  | lit _ => exact g.elim
theorem li_enum {a : FA} {R : It → Hp → Prop} (h : liI K T W (fEnum a) σ H R) : iEn K (liA K T W a) σ H R := by
  obtain ⟨α, ρ, S, Q', X', st, en, h, kv, kx⟩ := h
  refine ⟨α, ρ, S, _, X', st, en, h, fun xs S1 α1 H1 vs p r hg => ?_, kx⟩
  obtain ⟨d, ds, rfl, g, hq⟩ := hg
  obtain ⟨v, rfl, r1⟩ := relL1 r
  obtain ⟨q, so, hs⟩ := srcG_src p.st r1 g
  obtain ⟨ys, sv, _⟩ := hs _ _ _ (Post.refl p.st) g
  exact ⟨v, q, ys, rfl, so, sv, kv _ S1 α1 H1 _ p (itr_enum p.st r1 g hs) hq⟩
theorem li_zip {b : Bool} {a : FA} {R : It → Hp → Prop} (h : liI K T W (fZip b a) σ H R) : iZi K b (liA K T W a) σ H R := by
  obtain ⟨α, ρ, S, Q', X', st, en, h, kv, kx⟩ := h
  refine ⟨α, ρ, S, _, X', st, en, h, fun xs S1 α1 H1 vs p r hg => ?_, kx⟩
  obtain ⟨d, e, ds, es, rfl, g1, g2, hb, hq⟩ := hg
  obtain ⟨v, u, rfl, r1, r2⟩ := relL2 r
  obtain ⟨q1, so1, hs1⟩ := srcG_src p.st r1 g1
  obtain ⟨q2, so2, hs2⟩ := srcG_src p.st r2 g2
  obtain ⟨ys, sv1, _⟩ := hs1 _ _ _ (Post.refl p.st) g1
  obtain ⟨zs, sv2, _⟩ := hs2 _ _ _ (Post.refl p.st) g2
  exact ⟨v, u, q1, q2, ys, zs, rfl, so1, so2, sv1, sv2, kv _ S1 α1 H1 _ p (itr_zip b hb hs1 hs2) hq⟩
theorem li_rng1 {a : FA} {R : It → Hp → Prop} (h : liI K T W (fRng1 a) σ H R) : iRng1 (liA K T W a) σ H R := by
  obtain ⟨α, ρ, S, Q', X', st, en, h, kv, kx⟩ := h
  refine ⟨α, ρ, S, _, X', st, en, h, fun xs S1 α1 H1 vs p r hg => ?_, kx⟩
  obtain ⟨n, rfl, g, hq⟩ := hg
  obtain ⟨v, rfl, r1⟩ := relL1 r
  cases r1
  exact ⟨n, rfl, g.1, g.2, kv _ S1 α1 H1 _ p (itr_rng 0 _ _) hq⟩
theorem li_rng2 {a : FA} {R : It → Hp → Prop} (h : liI K T W (fRng2 a) σ H R) : iRng2 (liA K T W a) σ H R := by
  obtain ⟨α, ρ, S, Q', X', st, en, h, kv, kx⟩ := h
  refine ⟨α, ρ, S, _, X', st, en, h, fun xs S1 α1 H1 vs p r hg => ?_, kx⟩
  obtain ⟨i, j, rfl, g1, g2, hq⟩ := hg
  obtain ⟨v, u, rfl, r1, r2⟩ := relL2 r
  cases r1
  cases r2
  exact ⟨i, j, rfl, ⟨g1.1, g1.2, g2.1, g2.2⟩, kv _ S1 α1 H1 _ p (itr_rng i _ _) hq⟩
theorem li_rng3 {a : FA} {R : It → Hp → Prop} (h : liI K T W (fRng3 a) σ H R) : iRng3 (liA K T W a) σ H R := by
  obtain ⟨α, ρ, S, Q', X', st, en, h, kv, kx⟩ := h
  refine ⟨α, ρ, S, _, X', st, en, h, fun xs S1 α1 H1 vs p r hg => ?_, kx⟩
  obtain ⟨i, j, c, n, rfl, g, hq⟩ := hg
  cases r with
  | cons r1 r =>
    obtain ⟨v, u, rfl, r2, r3⟩ := relL2 r
    cases r1
    cases r2
    cases r3
    exact ⟨i, j, c, n, rfl, g, kv _ S1 α1 H1 _ p (itr_rngC i c n _) hq⟩
end
end Bc
end
section
namespace Bc
open PySem L2 PyProof.Rows

abbrev FG := D → Env → Sto → (Env → Prop) → Prop
abbrev FGs := List D → Env → Sto → (Env → Prop) → Prop
def liG (K : PySem.W.Frag) (is : List Nat) (f : FG) : TG := fun v σ H Q => ∃ α ρ S d Q', StR K α H S ∧ EnvR K α H σ ρ ∧ Rel K α H v d ∧ f d ρ S Q' ∧ ∀ σ' ρ', EnvR K α H σ' ρ' → (∀ vs : List Nat, (∀ i ∈ is, i ∈ vs) → wipe σ' vs = wipe σ vs) → Q' ρ' → Q σ' H
def liGs (K : PySem.W.Frag) (is : List Nat) (f : FGs) : TGs := fun v σ H Q => ∃ α ρ S d Q', StR K α H S ∧ EnvR K α H σ ρ ∧ RelL K α H v d ∧ f d ρ S Q' ∧ ∀ σ' ρ', EnvR K α H σ' ρ' → (∀ vs : List Nat, (∀ i ∈ is, i ∈ vs) → wipe σ' vs = wipe σ vs) → Q' ρ' → Q σ' H
def gN (i : Nat) : FG := fun d ρ _ Q => Q (ρ.set i (some d))
def gNo : FGs := fun ds ρ _ Q => ds = [] ∧ Q ρ
def gMo (g : FG) (gs : FGs) : FGs := fun ds ρ S Q => ∃ d r, ds = d :: r ∧ g d ρ S fun ρ' => gs r ρ' S Q
def gT (n : Nat) (gs : FGs) : FG := fun d ρ S Q => ∃ ds, d = .tup ds ∧ ds.length = n ∧ gs ds ρ S Q
def gL (n : Nat) (gs : FGs) : FG := fun d ρ S Q => ∃ m ds, d = .ref m ∧ lstOf S m ds ∧ ds.length = n ∧ gs ds ρ S Q
structure KS where
  nx : Env → Sto → Prop
  rt : D → Sto → Prop
  bk : Env → Sto → Prop := fun _ _ => False
  ct : Env → Sto → Prop := fun _ _ => False
abbrev FS := Env → Sto → KS → (Env → Xk) → Prop
section
variable (K : PySem.W.Frag) (T : XTab) (W : WX)
def LkN (α : List Addr) (H : Hp) (N' : Env → Sto → Prop) (N : L2.St → Hp → Prop) : Prop := ∀ ρ S' α' H' σ, Post K α H α' H' S' → EnvR K α' H' σ ρ → N' ρ S' → N σ H'
structure LkS (α : List Addr) (H : Hp) (k : KS) (E : Ends) (XE : Env → Xk) : Prop where
  nx : LkN K α H k.nx E.nx
  rt : LkV K α H k.rt E.rt
  bk : LkN K α H k.bk E.bk
  ct : LkN K α H k.ct E.ct
  ex : ∀ ρ S' α' H' σ, Post K α H α' H' S' → EnvR K α' H' σ ρ → LkX K T W σ α' H' (XE ρ)
def liS (f : FS) : TS := fun E σ H => ∃ α ρ S k XE, StR K α H S ∧ EnvR K α H σ ρ ∧ f ρ S k XE ∧ LkS K T W α H k E XE
end
section
variable {K : PySem.W.Frag} {T : XTab} {W : WX} {α α' : List Addr} {H H' : Hp} {S S' : Sto} {ρ : Env} {σ : L2.St} {X : Cx}
theorem LkN.after {N' : Env → Sto → Prop} {N : L2.St → Hp → Prop} (p : Post K α H α' H' S') (l : LkN K α H N' N) : LkN K α' H' N' N := fun ρ S2 α2 H2 σ p2 e h => l ρ S2 α2 H2 σ (p.trans p2) e h
theorem LkS.after {k : KS} {E : Ends} {XE : Env → Xk} (p : Post K α H α' H' S') (l : LkS K T W α H k E XE) : LkS K T W α' H' k E XE :=
  ⟨l.nx.after p, l.rt.after p, l.bk.after p, l.ct.after p, fun ρ S2 α2 H2 σ p2 e => l.ex ρ S2 α2 H2 σ (p.trans p2) e⟩
theorem LkS.x {k : KS} {E : Ends} {XE : Env → Xk} (st : StR K α H S) (en : EnvR K α H σ ρ) (l : LkS K T W α H k E XE) : LkX K T W σ α H (XE ρ) := l.ex ρ S α H σ (Post.refl st) en
theorem ps_imp {s : Stmt} {t t' : TS} (h : PS X s t) (k : ∀ E σ H, t' E σ H → t E σ H) : PS X s t' := ⟨fun pins s σ H E I z => h.run pins s σ H E I (k _ _ _ z)⟩
theorem pss_imp {s : List Stmt} {t t' : TS} (h : PSs X s t) (k : ∀ E σ H, t' E σ H → t E σ H) : PSs X s t' := ⟨fun pins s σ H E I z => h.run pins s σ H E I (k _ _ _ z)⟩
theorem pg_imp {e : Expr} {t t' : TG} (h : PG X e t) (k : ∀ v σ H Q, t' v σ H Q → t v σ H Q) : PG X e t' := ⟨fun pins s σ H v u Q I r z => h.run pins s σ H v u Q I r (k _ _ _ _ z)⟩
theorem pgs_imp {e : List Expr} {t t' : TGs} (h : PGs X e t) (k : ∀ v σ H Q, t' v σ H Q → t v σ H Q) : PGs X e t' := ⟨fun pins s σ H v u Q I r z => h.run pins s σ H v u Q I r (k _ _ _ _ z)⟩
theorem pi_imp {tg e : Expr} {t t' : TI} (h : PI X tg e t) (k : ∀ σ H Q, t' σ H Q → t σ H Q) : PI X tg e t' := ⟨fun pins s σ H Q I z => h.run pins s σ H Q I (k _ _ _ z)⟩
theorem wipe_set (i : Nat) (v : Option V) : ∀ (vs : List Nat) (σ : L2.St), i ∈ vs → wipe (σ.set i v) vs = wipe σ vs
  | [], _, h => by cases h
  | w :: vs, σ, h => by
    show (wipe (σ.set i v) vs).set w none = (wipe σ vs).set w none
    by_cases hw : i ∈ vs
    · rw [wipe_set i v vs σ hw]
    · have e : i = w := by
        rcases List.mem_cons.mp h with e | e
        · exact e
        · exact absurd e hw
      subst e
      have key : ∀ (vs : List Nat) (σ : L2.St), i ∉ vs → wipe (σ.set i v) vs = (wipe σ vs).set i v := by
        intro vs
        induction vs with
        | nil => intro σ _; rfl
        | cons u us ih =>
          intro σ hn
          simp only [List.mem_cons, not_or] at hn
          show (wipe (σ.set i v) us).set u none = ((wipe σ us).set u none).set i v
          rw [ih σ hn.2, List.set_comm _ _ hn.1]
      rw [key vs σ hw, List.set_set]
theorem li_gN (i : Nat) {v : V} {Q : L2.St → Hp → Prop} (h : liG K [i] (gN i) v σ H Q) : gName i v σ H Q := by
  obtain ⟨α, ρ, S, d, Q', st, en, r, h, k⟩ := h
  exact k _ _ (en.set r i) (fun vs hv => wipe_set i _ vs σ (hv i (by simp))) h
theorem li_gNo {v : List V} {Q : L2.St → Hp → Prop} (h : liGs K [] gNo v σ H Q) : gNil v σ H Q := by
  obtain ⟨α, ρ, S, d, Q', st, en, r, ⟨rfl, h⟩, k⟩ := h
  cases r
  exact ⟨rfl, k _ _ en (fun _ _ => rfl) h⟩
theorem li_gMo {is js : List Nat} {g : FG} {gs : FGs} {v : List V} {Q : L2.St → Hp → Prop} (h : liGs K (is ++ js) (gMo g gs) v σ H Q) : gCons (liG K is g) (liGs K js gs) v σ H Q := by
  obtain ⟨α, ρ, S, ds, Q', st, en, r, ⟨d, rest, rfl, h⟩, k⟩ := h
  cases r with
  | cons r1 r2 =>
    refine ⟨_, _, rfl, α, ρ, S, d, _, st, en, r1, h, fun σ1 ρ1 en1 w1 h1 => ?_⟩
    exact ⟨α, ρ1, S, rest, Q', st, en1, r2, h1, fun σ2 ρ2 en2 w2 h2 => k σ2 ρ2 en2 (fun vs hv => (w2 vs fun i hi => hv i (List.mem_append_right _ hi)).trans (w1 vs fun i hi => hv i (List.mem_append_left _ hi))) h2⟩
theorem li_gT {is : List Nat} {n : Nat} {gs : FGs} {v : V} {Q : L2.St → Hp → Prop} (h : liG K is (gT n gs) v σ H Q) : gTup K n (liGs K is gs) v σ H Q := by
  obtain ⟨α, ρ, S, d, Q', st, en, r, ⟨ds, rfl, hl, h⟩, k⟩ := h
  cases r with
  | tup s rr => exact ⟨_, _, rfl, s, rr.length.trans hl, α, ρ, S, ds, Q', st, en, rr, h, k⟩
theorem b_gN {i : Nat} {x : Str} {pos : Pos} (hN : X.N.Nodup) (hi : X.N[i]? = some x) (hx : Loc X.env.scope x) (hf : X.fn x = true ∨ X.env.scope.names.lookup x = some .local := by first | exact .inl rfl | exact .inr rfl | assumption) : PG X (.Name x pos) (liG X.K [i] (gN i)) :=
  pg_imp (pg_name hN hi hx hf) fun _ _ _ _ h => li_gN i h
theorem b_gNo : PGs X [] (liGs X.K [] gNo) := pgs_imp pgs_nil fun _ _ _ _ h => li_gNo h
theorem b_gMo {e : Expr} {es : List Expr} {is js : List Nat} {g : FG} {gs : FGs} (h1 : PG X e (liG X.K is g)) (h2 : PGs X es (liGs X.K js gs))
    (hs : (assignEach (e :: es) X.env).map (·.2) = assign e X.env :: (assignEach es X.env).map (·.2) := by rfl) : PGs X (e :: es) (liGs X.K (is ++ js) (gMo g gs)) := pgs_imp (pgs_cons h1 h2 hs) fun _ _ _ _ h => li_gMo h
theorem b_gT {es : List Expr} {k : Nat} {pos : Pos} {is : List Nat} {gs : FGs} {n : Nat} (hc : X.calm = true) (h : PGs X es (liGs X.K is gs))
    (hn : (assignEach es X.env).length = n := by rfl) (hst : (assignEach es X.env).findIdx? (·.1) = none := by rfl) : PG X (.Tuple es k pos) (liG X.K is (gT n gs)) := pg_imp (pg_tup hc h hn hst) fun _ _ _ _ h => li_gT h
def fNext : FS := fun ρ S k _ => k.nx ρ S
def fBrk : FS := fun ρ S k _ => k.bk ρ S
def fCnt : FS := fun ρ S k _ => k.ct ρ S
def fSq (a b : FS) : FS := fun ρ S k X => a ρ S { k with nx := fun ρ' S' => b ρ' S' k X } X
def fSet (i : Nat) (e : FE) : FS := fun ρ S k X => e ρ S (fun d S1 => k.nx (ρ.set i (some d)) S1) (X ρ)
def fAsg (g : FG) (e : FE) : FS := fun ρ S k X => e ρ S (fun d S1 => g d ρ S1 fun ρ' => k.nx ρ' S1) (X ρ)
def fPar (i j : Nat) (a : FA) : FS := fun ρ S k X => a ρ S (fun ds S1 => ∃ d e, ds = [d, e] ∧ k.nx ((ρ.set i (some d)).set j (some e)) S1) (X ρ)
def fXp (e : FE) : FS := fun ρ S k X => e ρ S (fun _ S1 => k.nx ρ S1) (X ρ)
def fRet (e : FE) : FS := fun ρ S k X => e ρ S (fun d S1 => k.rt d S1) (X ρ)
def fRetN : FS := fun ρ S k X => k.rt .non S
def fIfS (c : FT) (a b : FS) : FS := fun ρ S k X => c ρ S (fun t S1 => if t = true then a ρ S1 k X else b ρ S1 k X) (X ρ)
def fNever : FS := fun _ _ _ _ => False
theorem li_next {E : Ends} (h : liS K T W fNext E σ H) : tNext E σ H := by
  obtain ⟨α, ρ, S, k, XE, st, en, h, l⟩ := h
  exact l.nx ρ S α H σ (Post.refl st) en h
theorem li_brk {E : Ends} (h : liS K T W fBrk E σ H) : tBreak E σ H := by
  obtain ⟨α, ρ, S, k, XE, st, en, h, l⟩ := h
  exact l.bk ρ S α H σ (Post.refl st) en h
theorem li_cnt {E : Ends} (h : liS K T W fCnt E σ H) : tCont E σ H := by
  obtain ⟨α, ρ, S, k, XE, st, en, h, l⟩ := h
  exact l.ct ρ S α H σ (Post.refl st) en h
theorem li_sq {a b : FS} {E : Ends} (h : liS K T W (fSq a b) E σ H) : tSeq (liS K T W a) (liS K T W b) E σ H := by
  obtain ⟨α, ρ, S, k, XE, st, en, h, l⟩ := h
  refine ⟨α, ρ, S, _, XE, st, en, h, ⟨fun ρ1 S1 α1 H1 σ1 p en1 hb => ?_, l.rt, l.bk, l.ct, l.ex⟩⟩
  exact ⟨α1, ρ1, S1, k, XE, p.st, en1, hb, l.after p⟩
theorem li_set {i : Nat} {e : FE} {E : Ends} (h : liS K T W (fSet i e) E σ H) : tAsg (liE K T W e) (gName i) E σ H := by
  obtain ⟨α, ρ, S, k, XE, st, en, h, l⟩ := h
  exact ⟨α, ρ, S, _, XE ρ, st, en, h, fun d S1 α1 H1 v p r hq => l.nx _ _ _ _ _ p ((p.env st en).set r i) hq, l.x st en⟩
theorem li_asg {is : List Nat} {g : FG} {e : FE} {E : Ends} (h : liS K T W (fAsg g e) E σ H) : tAsg (liE K T W e) (liG K is g) E σ H := by
  obtain ⟨α, ρ, S, k, XE, st, en, h, l⟩ := h
  refine ⟨α, ρ, S, _, XE ρ, st, en, h, fun d S1 α1 H1 v p r hq => ?_, l.x st en⟩
  exact ⟨α1, ρ, S1, d, _, p.st, p.env st en, r, hq, fun σ' ρ' en' _ h' => l.nx _ _ _ _ _ p en' h'⟩
theorem li_par {i j : Nat} {a : FA} {E : Ends} (h : liS K T W (fPar i j a) E σ H) : tPar i j (liA K T W a) E σ H := by
  obtain ⟨α, ρ, S, k, XE, st, en, h, l⟩ := h
  refine ⟨α, ρ, S, _, XE ρ, st, en, h, fun ds S1 α1 H1 vs p r hq => ?_, l.x st en⟩
  obtain ⟨d, e, rfl, hq⟩ := hq
  obtain ⟨v, u, rfl, r1, r2⟩ := relL2 r
  exact ⟨v, u, rfl, l.nx _ _ _ _ _ p (((p.env st en).set r1 i).set r2 j) hq⟩
theorem li_xp {e : FE} {E : Ends} (h : liS K T W (fXp e) E σ H) : tDrop (liE K T W e) E σ H := by
  obtain ⟨α, ρ, S, k, XE, st, en, h, l⟩ := h
  exact ⟨α, ρ, S, _, XE ρ, st, en, h, fun d S1 α1 H1 v p r hq => l.nx _ _ _ _ _ p (p.env st en) hq, l.x st en⟩
theorem li_ret {e : FE} {E : Ends} (h : liS K T W (fRet e) E σ H) : tRet (liE K T W e) E σ H := by
  obtain ⟨α, ρ, S, k, XE, st, en, h, l⟩ := h
  exact ⟨α, ρ, S, _, XE ρ, st, en, h, fun d S1 α1 H1 v p r hq => l.rt _ _ _ _ _ p r hq, l.x st en⟩
theorem li_retN {E : Ends} (h : liS K T W fRetN E σ H) : tRetN E σ H := by
  obtain ⟨α, ρ, S, k, XE, st, en, h, l⟩ := h
  exact l.rt .non S α H .non (Post.refl st) .non h
theorem li_ifS {c : FT} {a b : FS} {E : Ends} (h : liS K T W (fIfS c a b) E σ H) : tIfS (liT K T W c) (liS K T W a) (liS K T W b) E σ H := by
  obtain ⟨α, ρ, S, k, XE, st, en, h, l⟩ := h
  refine ⟨α, ρ, S, _, XE ρ, st, en, h, fun t S1 α1 H1 p hq => ?_, l.x st en⟩
  cases t with
  | true => exact ⟨α1, ρ, S1, k, XE, p.st, p.env st en, hq, l.after p⟩
  | false => exact ⟨α1, ρ, S1, k, XE, p.st, p.env st en, hq, l.after p⟩
/-- o[i] = e : the value first -/
def fSto (e o i : FE) : FS := fun ρ S k X => e ρ S (fun d S1 => o ρ S1 (fun x S2 => i ρ S2 (fun y S3 => ∃ n ds z j, x = .ref n ∧ y = .int z ∧ S3[n]? = some (.lst ds) ∧ ixN ds.length z = some j ∧ k.nx ρ (S3.set n (.lst (ds.set j d)))) (X ρ)) (X ρ)) (X ρ)
theorem li_sto {e o i : FE} {E : Ends} (h : liS K T W (fSto e o i) E σ H) : tAsg (liE K T W e) (gSub (liE K T W o) (liE K T W i) rSetL) E σ H := by
  obtain ⟨α, ρ, S, k, XE, st, en, h, l⟩ := h
  refine ⟨α, ρ, S, _, XE ρ, st, en, h, fun d S1 α1 H1 v p r hq => ?_, l.x st en⟩
  refine ⟨α1, ρ, S1, _, XE ρ, p.st, p.env st en, hq, fun x S2 α2 H2 ov p2 r2 hq2 => ?_, (l.x st en).after p⟩
  have p12 := p.trans p2
  refine ⟨α2, ρ, S2, _, XE ρ, p2.st, p12.env st en, hq2, fun y S3 α3 H3 iv p3 r3 hq3 => ?_, (l.x st en).after p12⟩
  obtain ⟨n, ds, z, j, rfl, rfl, hS, hj, hk⟩ := hq3
  have p123 := p12.trans p3
  cases r3
  have r2' := p3.rel p2.st r2
  cases r2' with
  | ref e =>
    obtain ⟨xs, e1, rr⟩ := p3.st.cellA hS e
    have po := Post.setList p3.st hS e (rr.set j ((p2.trans p3).rel p.st r))
    refine ⟨_, xs, z, j, rfl, rfl, e1, by rw [rr.length]; exact hj, ?_⟩
    exact l.nx _ _ _ _ _ (p123.trans po) ((p123.trans po).env st en) hk
/-- numbers -/
inductive Ao where
  | add | sub | mul
def Ao.op : Ao → Operator
  | .add => .Add
  | .sub => .Sub
  | .mul => .Mult
def opAo : Ao → Int → Int → (Int → Prop) → Prop
  | .add, i, j, Q => Q (i + j)
  | .sub, i, j, Q => Q (i - j)
  | .mul, i, j, Q => IntMulOk i j ∧ Q (i * j)
def ipAo (a : Ao) : TIp := fun x y H Q => ∃ i j, x = .int i ∧ y = .int j ∧ opAo a i j fun k => Q (.int k) H
theorem ip_ao : ∀ a : Ao, PIp X a.op (ipAo a)
  | .add => fun pins s σ H x y v u Q I r1 r2 ⟨i, j, e1, e2, q⟩ => ip_add pins s σ H x y v u Q I r1 r2 ⟨i, j, e1, e2, q⟩
  | .sub => fun pins s σ H x y v u Q I r1 r2 ⟨i, j, e1, e2, q⟩ => ip_sub pins s σ H x y v u Q I r1 r2 ⟨i, j, e1, e2, q⟩
  | .mul => fun pins s σ H x y v u Q I r1 r2 h => by
    obtain ⟨i, j, e1, e2, hm, q⟩ := h
    subst e1; subst e2
    obtain ⟨t, rfl⟩ := r1
    obtain ⟨t', rfl⟩ := r2
    exact PyProof.Rows.imul_int ⟨.int _, H, I.tok _, ⟨_, rfl⟩, q⟩ hm
def fAug (i : Nat) (a : Ao) (e : FE) : FS := fun ρ S k X => ∃ x, ρ[i]? = some (some (.int x)) ∧ e ρ S (fun d S1 => ∃ y, d = .int y ∧ opAo a x y fun z => k.nx (ρ.set i (some (.int z))) S1) (X ρ)
theorem opAo_imp {a : Ao} {i j : Int} {Q Q' : Int → Prop} (h : opAo a i j Q) (k : ∀ z, Q z → Q' z) : opAo a i j Q' := by
  cases a with
  | add => exact k _ h
  | sub => exact k _ h
  | mul => exact ⟨h.1, k _ h.2⟩
theorem li_aug {i : Nat} {a : Ao} {e : FE} {E : Ends} (h : liS K T W (fAug i a e) E σ H) : tAug i (liE K T W e) (ipAo a) E σ H := by
  obtain ⟨α, ρ, S, k, XE, st, en, ⟨x, hx, h⟩, l⟩ := h
  obtain ⟨v, e1, r1⟩ := en.at_ i _ hx
  cases r1
  refine ⟨_, e1, α, ρ, S, _, XE ρ, st, en, h, fun d S1 α1 H1 u p r hq => ?_, l.x st en⟩
  obtain ⟨y, rfl, hq⟩ := hq
  cases r
  exact ⟨x, y, rfl, rfl, opAo_imp hq fun z hz => l.nx _ _ _ _ _ p ((p.env st en).set (.int z) i) hz⟩
/-- o[i] op= e -/
def fAugS (o i : FE) (a : Ao) (e : FE) : FS := fun ρ S k X => o ρ S (fun x S1 => i ρ S1 (fun y S2 => ∃ n ds z j b, x = .ref n ∧ y = .int z ∧ S2[n]? = some (.lst ds) ∧ ixN ds.length z = some j ∧ ds[j]? = some (.int b) ∧
  e ρ S2 (fun d S3 => ∃ c es, d = .int c ∧ S3[n]? = some (.lst es) ∧ ixN es.length z = some j ∧ opAo a b c fun w => k.nx ρ (S3.set n (.lst (es.set j (.int w))))) (X ρ)) (X ρ)) (X ρ)
def rGetL : V → V → Hp → VK → Prop := fun o i H Q => ∃ p xs k v, o = .ref p ∧ i = .int k ∧ H p = some (.lst xs) ∧ L2.atI xs k = some v ∧ Q v H
def loopD (gd : Sto → Prop) (g : FG) (b : FS) (k : KS) (XE : Env → Xk) : List D → Env → Sto → Prop
  | [], ρ, S => gd S ∧ k.nx ρ S
  | d :: ds, ρ, S => gd S ∧ g d ρ S fun ρ' => b ρ' S ⟨loopD gd g b k XE ds, k.rt, k.nx, loopD gd g b k XE ds⟩ XE
def fFor (fi : FI) (g : FG) (b : FS) : FS := fun ρ S k X => fi ρ S (fun it S1 => loopD it.guard g b k X it.items ρ S1) (X ρ)
theorem drop_cons {α : Type} {l : List α} {i : Nat} {d : α} {r : List α} (h : l.drop i = d :: r) : l[i]? = some d ∧ l.drop (i + 1) = r ∧ i < l.length := by
  have hi : i < l.length := by
    by_cases z : i < l.length
    · exact z
    · rw [List.drop_eq_nil_of_le (by omega)] at h
      cases h
  rw [List.drop_eq_getElem_cons hi] at h
  injection h with h1 h2
  exact ⟨by rw [List.getElem?_eq_getElem hi, h1], h2, hi⟩
theorem li_for {is : List Nat} {fi : FI} {g : FG} {b : FS} {E : Ends} (h : liS K T W (fFor fi g b) E σ H) : tFor (liI K T W fi) (liG K is g) (liS K T W b) E σ H := by
  obtain ⟨α, ρ, S, k, XE, st, en, h, l⟩ := h
  refine ⟨α, ρ, S, _, XE ρ, st, en, h, fun it S1 α1 H1 J p hJ hq => ?_, l.x st en⟩
  refine ⟨fun i m σ H => m + i = it.items.length ∧ ∃ α2 ρ2 S2, Post K α1 H1 α2 H S2 ∧ EnvR K α2 H σ ρ2 ∧ loopD it.guard g b k XE (it.items.drop i) ρ2 S2, ⟨it.items.length, rfl, α1, ρ, S1, Post.refl p.st, p.env st en, hq⟩, ?_⟩
  rintro i m σ2 H2 ⟨hm, α2, ρ2, S2, p2, en2, hq2⟩
  have l2 := (l.after p).after p2
  cases hd : it.items.drop i with
  | nil =>
    rw [hd] at hq2
    have hi : it.items.length ≤ i := List.drop_eq_nil_iff.mp hd
    have e : i = it.items.length := by omega
    obtain ⟨_, h2, _⟩ := hJ α2 H2 S2 p2 hq2.1
    exact .inl ⟨e ▸ h2, l2.nx _ _ _ _ _ (Post.refl p2.st) en2 hq2.2⟩
  | cons d r =>
    rw [hd] at hq2
    obtain ⟨hi, hr, hlt⟩ := drop_cons hd
    obtain ⟨h1, _, h3⟩ := hJ α2 H2 S2 p2 hq2.1
    refine .inr ⟨h1 i hlt, fun σ' H' => ∃ α3 ρ3 S3, Post K α1 H1 α3 H' S3 ∧ EnvR K α3 H' σ' ρ3 ∧ loopD it.guard g b k XE r ρ3 S3, fun σ' H' ⟨α3, ρ3, S3, p3, en3, hq3⟩ => ⟨m - 1, by omega, by omega, α3, ρ3, S3, p3, en3, by rw [hr]; exact hq3⟩, fun x H' hy => ?_⟩
    obtain ⟨rx, px⟩ := h3 i d x H' hi hy
    refine ⟨α2, ρ2, S2, d, _, px.st, px.env p2.st en2, rx, hq2.2, fun σ' ρ' en' _ hb => ?_⟩
    have p12 := p2.trans px
    have lx := l2.after px
    refine ⟨α2, ρ', S2, _, XE, px.st, en', hb, ⟨fun ρ3 S3 α3 H3 σ3 p3 en3 hn => ⟨α3, ρ3, S3, p12.trans p3, en3, hn⟩, lx.rt, lx.nx, fun ρ3 S3 α3 H3 σ3 p3 en3 hn => ⟨α3, ρ3, S3, p12.trans p3, en3, hn⟩, lx.ex⟩⟩
def fWh (c : FT) (b : FS) : FS := fun ρ S k X => ∃ Wi : Nat → Env → Sto → Prop, (∃ m, Wi m ρ S) ∧ ∀ m ρ S, Wi m ρ S → c ρ S (fun t S1 => if t = true then b ρ S1 ⟨fun ρ' S' => ∃ m', m' < m ∧ Wi m' ρ' S', k.rt, k.nx, fun ρ' S' => ∃ m', m' < m ∧ Wi m' ρ' S'⟩ X else k.nx ρ S1) (X ρ)
theorem li_wh {c : FT} {b : FS} {E : Ends} (h : liS K T W (fWh c b) E σ H) : tWhile (liT K T W c) (liS K T W b) E σ H := by
  obtain ⟨α, ρ, S, k, XE, st, en, ⟨Wi, ⟨m, hm⟩, h⟩, l⟩ := h
  refine ⟨fun m σ H2 => ∃ α2 ρ2 S2, Post K α H α2 H2 S2 ∧ EnvR K α2 H2 σ ρ2 ∧ Wi m ρ2 S2, ⟨m, α, ρ, S, Post.refl st, en, hm⟩, ?_⟩
  rintro m σ2 H2 ⟨α2, ρ2, S2, p2, en2, hq2⟩
  have l2 := l.after p2
  refine ⟨α2, ρ2, S2, _, XE ρ2, p2.st, en2, h m ρ2 S2 hq2, fun t S3 α3 H3 p3 ht => ?_, l2.x p2.st en2⟩
  have l3 := l2.after p3
  cases t with
  | false => exact l3.nx _ _ _ _ _ (Post.refl p3.st) (p3.env p2.st en2) ht
  | true =>
    refine ⟨fun σ' H' => ∃ m', m' < m ∧ ∃ α2 ρ2 S2, Post K α H α2 H' S2 ∧ EnvR K α2 H' σ' ρ2 ∧ Wi m' ρ2 S2, fun σ' H' ⟨m', h1, h2⟩ => ⟨m', h1, h2⟩, ?_⟩
    have p23 := p2.trans p3
    exact ⟨α3, ρ2, S3, _, XE, p3.st, p3.env p2.st en2, ht, ⟨fun ρ4 S4 α4 H4 σ4 p4 en4 ⟨m', h1, h2⟩ => ⟨m', h1, α4, ρ4, S4, p23.trans p4, en4, h2⟩, l3.rt, l3.nx, fun ρ4 S4 α4 H4 σ4 p4 en4 ⟨m', h1, h2⟩ => ⟨m', h1, α4, ρ4, S4, p23.trans p4, en4, h2⟩, l3.ex⟩⟩
end
end Bc
end
section
namespace Bc
open PySem L2 PyProof.Rows
abbrev noX : Xk := fun _ _ _ => False
abbrev noW : WX := fun _ _ _ _ => False
def wipeD (ρ : Env) : List Nat → Env
  | [] => ρ
  | v :: vs => (wipeD ρ vs).set v none
def fYes : FT := fun _ S Q _ => Q true S
def compD (gd : Sto → Prop) (g : FG) (ft : FT) (fe : FE) (n : Nat) (ρ : Env) : List D → Sto → (Sto → Prop) → Prop
  | [], S, Q => gd S ∧ Q S
  | d :: ds, S, Q => gd S ∧ g d ρ S fun ρ' => ft ρ' S (fun b S2 => if b = true then fe ρ' S2 (fun y S3 => ∃ acc, S3[n]? = some (.lst acc) ∧ acc.length < sizeLine ∧ compD gd g ft fe n ρ ds (S3.set n (.lst (acc ++ [y]))) Q) noX else compD gd g ft fe n ρ ds S2 Q) noX
def fLc (own : List Nat) (fi : FI) (g : FG) (ft : FT) (fe : FE) : FE := fun ρ S Q X => fi ρ S (fun it S1 => compD it.guard g ft fe S1.length (wipeD ρ own) it.items (S1 ++ [.lst []]) fun S2 => Q (.ref S1.length) S2) X
def compD2 (gd : Sto → Prop) (g : FG) (ft : FT) (own1 : List Nat) (fi1 : FI) (g1 : FG) (ft1 : FT) (fe : FE) (n : Nat) (ρ : Env) : List D → Sto → (Sto → Prop) → Prop
  | [], S, Q => gd S ∧ Q S
  | d :: ds, S, Q => gd S ∧ g d ρ S fun ρ' => ft ρ' S (fun b S2 => if b = true then fi1 ρ' S2 (fun it S3 => compD it.guard g1 ft1 fe n (wipeD ρ' own1) it.items S3 fun S4 => compD2 gd g ft own1 fi1 g1 ft1 fe n ρ ds S4 Q) noX else compD2 gd g ft own1 fi1 g1 ft1 fe n ρ ds S2 Q) noX
def fLc2 (own : List Nat) (fi : FI) (g : FG) (ft : FT) (own1 : List Nat) (fi1 : FI) (g1 : FG) (ft1 : FT) (fe : FE) : FE := fun ρ S Q X => fi ρ S (fun it S1 => compD2 it.guard g ft own1 fi1 g1 ft1 fe S1.length (wipeD ρ own) it.items (S1 ++ [.lst []]) fun S2 => Q (.ref S1.length) S2) X
section
variable {K : PySem.W.Frag} {T : XTab} {W : WX} {α α' : List Addr} {H H' : Hp} {S S' : Sto} {ρ : Env} {σ : L2.St} {X : Cx}
theorem EnvR.unset (h : EnvR K α H σ ρ) (i : Nat) : EnvR K α H (σ.set i none) (ρ.set i none) := by
  refine ⟨by simp [h.len], fun j e hj => ?_⟩
  by_cases z : i = j
  · subst z
    by_cases hl : i < ρ.length
    · rw [List.getElem?_set_self hl] at hj
      cases hj
    · rw [List.getElem?_eq_none (by simpa using hl)] at hj
      cases hj
  · rw [List.getElem?_set_ne z] at hj
    obtain ⟨u, h1, h2⟩ := h.at_ j e hj
    exact ⟨u, by rw [List.getElem?_set_ne z]; exact h1, h2⟩
theorem EnvR.wipe (h : EnvR K α H σ ρ) : ∀ vs : List Nat, EnvR K α H (L2.wipe σ vs) (wipeD ρ vs)
  | [] => h
  | v :: vs => (h.wipe vs).unset v
theorem noLkX {W : WX} : LkX K T W σ α H noX := fun _ _ _ _ _ _ _ _ _ h => h.elim
theorem li_yes {Q : Bool → Hp → Prop} (h : liT K T W fYes σ H Q) : tYes σ H Q := by
  obtain ⟨α, ρ, S, Q', X', st, en, h, k, _⟩ := h
  exact k true S α H (Post.refl st) h
/-- one loop of a comprehension -/
theorem comp_run {is own : List Nat} (hown : ∀ i ∈ is, i ∈ own) {g : FG} {ft : FT} {fe : FE} {n : Nat} {α0 α1 : List Addr} {H0 H1 : Hp} {S0 S1 : Sto} {it : Itn} {J : It} {Dl : Addr} {σw : L2.St} {ρw : Env} {Nx : Hp → Prop} {Qn : Sto → Prop}
    (s0 : StR K α0 H0 S0) (hJ : ItR K α0 H0 J it) (p : Post K α0 H0 α1 H1 S1) (en : EnvR K α0 H0 σw ρw) (hD : α1[n]? = some Dl) (h : compD it.guard g ft fe n (wipeD ρw own) it.items S1 Qn)
    (hq : ∀ α2 H2 S2, Post K α1 H1 α2 H2 S2 → Qn S2 → Nx H2) :
    ∃ Wi : Nat → Nat → Hp → Prop, (∃ m, Wi 0 m H1) ∧ ∀ i m H, Wi i m H → (J.stop i H ∧ Nx H) ∨ (J.go i H ∧ ∃ N : Hp → Prop, (∀ H', N H' → ∃ m', m' < m ∧ Wi (i + 1) m' H') ∧ ∀ x H', J.yld i H x H' → liG K is g x (L2.wipe σw own) H' fun σ2 H2 => L2.wipe σ2 own = L2.wipe σw own ∧
      liT K T noW ft σ2 H2 fun b H3 => if b = true then liE K T noW fe σ2 H3 fun y H4 => ∃ acc, H4 Dl = some (.lst acc) ∧ acc.length < sizeLine ∧ N (upd H4 Dl (.lst (acc ++ [y]))) else N H3) := by
  refine ⟨fun i m H => m + i = it.items.length ∧ ∃ α2 S2, Post K α1 H1 α2 H S2 ∧ compD it.guard g ft fe n (wipeD ρw own) (it.items.drop i) S2 Qn, ⟨it.items.length, rfl, α1, S1, Post.refl p.st, h⟩, ?_⟩
  rintro i m H2 ⟨hm, α2, S2, p2, hq2⟩
  have p02 := p.trans p2
  cases hd : it.items.drop i with
  | nil =>
    rw [hd] at hq2
    have hi : it.items.length ≤ i := List.drop_eq_nil_iff.mp hd
    have e : i = it.items.length := by omega
    obtain ⟨_, h2, _⟩ := hJ α2 H2 S2 p02 hq2.1
    exact .inl ⟨e ▸ h2, hq _ _ _ p2 hq2.2⟩
  | cons d r =>
    rw [hd] at hq2
    obtain ⟨hi, hr, hlt⟩ := drop_cons hd
    obtain ⟨h1, _, h3⟩ := hJ α2 H2 S2 p02 hq2.1
    have done : ∀ {H' : Hp} {α3 S3}, Post K α1 H1 α3 H' S3 → compD it.guard g ft fe n (wipeD ρw own) r S3 Qn → ∃ m', m' < m ∧ m' + (i + 1) = it.items.length ∧ ∃ α2 S2, Post K α1 H1 α2 H' S2 ∧ compD it.guard g ft fe n (wipeD ρw own) (it.items.drop (i + 1)) S2 Qn :=
      fun p3 hq3 => ⟨m - 1, by omega, by omega, _, _, p3, by rw [hr]; exact hq3⟩
    refine .inr ⟨h1 i hlt, fun H' => ∃ α3 S3, Post K α1 H1 α3 H' S3 ∧ compD it.guard g ft fe n (wipeD ρw own) r S3 Qn, fun H' ⟨α3, S3, p3, hq3⟩ => done p3 hq3, fun x H' hy => ?_⟩
    obtain ⟨rx, px⟩ := h3 i d x H' hi hy
    have p12 := p2.trans px
    refine ⟨α2, _, S2, d, _, px.st, px.env p2.st (p02.env s0 (en.wipe own)), rx, hq2.2, fun σ' ρ' en' hw hb => ⟨?_, ?_⟩⟩
    · rw [hw own hown]
      exact wipe_wipe σw own
    · refine ⟨α2, ρ', S2, _, noX, px.st, en', hb, fun b S3 α3 H3 p3 hb3 => ?_, noLkX⟩
      cases b with
      | false => exact ⟨α3, S3, p12.trans p3, hb3⟩
      | true =>
        refine ⟨α3, ρ', S3, _, noX, p3.st, p3.env px.st en', hb3, fun y S4 α4 H4 v p4 r4 hb4 => ?_, noLkX⟩
        obtain ⟨acc, e, hz, hc⟩ := hb4
        have p14 := (p12.trans p3).trans p4
        have hD4 := p14.get _ _ hD
        obtain ⟨xs, e1, rr⟩ := p4.st.cellA e hD4
        exact ⟨xs, e1, by rw [rr.length]; exact hz, α4, _, p14.trans (Post.setList p4.st e hD4 (rr.append (.cons r4 .nil))), hc⟩
where
  wipe_wipe (σ : L2.St) : ∀ vs : List Nat, L2.wipe (L2.wipe σ vs) vs = L2.wipe σ vs
    | vs => by
      have key : ∀ (us : List Nat) (τ : L2.St), (∀ u ∈ us, ∀ x, τ[u]? ≠ some (some x)) → L2.wipe τ us = τ := by
        intro us
        induction us with
        | nil => intro τ _; rfl
        | cons u us ih =>
          intro τ hτ
          show (L2.wipe τ us).set u none = τ
          rw [ih τ fun w hw => hτ w (List.mem_cons_of_mem _ hw)]
          refine List.ext_getElem? fun j => ?_
          by_cases hj : u = j
          · subst hj
            by_cases hl : u < τ.length
            · rw [List.getElem?_set_self hl]
              cases hx : τ[u]? with
              | none =>
                rw [List.getElem?_eq_getElem hl] at hx
                cases hx
              | some o =>
                cases o with
                | none => rfl
                | some x => exact absurd hx (hτ u List.mem_cons_self x)
            · rw [List.getElem?_eq_none (by simpa using hl), List.getElem?_eq_none (by simpa using hl)]
          · rw [List.getElem?_set_ne hj]
      exact key vs _ fun u hu x e => (wipe_some e).2 hu
theorem li_lc {is : List Nat} {own : List Nat} (hown : ∀ i ∈ is, i ∈ own) {fi : FI} {g : FG} {ft : FT} {fe : FE} {Q : VK} (h : liE K T W (fLc own fi g ft fe) σ H Q) : tLc (liI K T W fi) (liG K is g) (liT K T noW ft) (liE K T noW fe) own σ H Q := by
  obtain ⟨α, ρ, S, Q', X', st, en, h, kv, kx⟩ := h
  refine ⟨α, ρ, S, _, X', st, en, h, fun it S1 α1 H1 J p hJ hq => fun Dl hDl => ?_, kx⟩
  have pn : Post K α1 H1 (α1 ++ [Dl]) (upd H1 Dl (.lst [])) (S1 ++ [.lst []]) := Post.newList p.st hDl .nil
  have hD : (α1 ++ [Dl])[S1.length]? = some Dl := ref_new (β := []) p.st
  exact comp_run hown p.st hJ pn (p.env st en) hD hq fun α2 H2 S2 p2 hq2 => kv _ _ _ _ _ (p.trans (pn.trans p2)) (.ref (p2.get _ _ hD)) hq2
theorem li_lc2 {is is1 : List Nat} {own own1 : List Nat} (hown : ∀ i ∈ is, i ∈ own) (hown1 : ∀ i ∈ is1, i ∈ own1) {fi fi1 : FI} {g g1 : FG} {ft ft1 : FT} {fe : FE} {Q : VK} (h : liE K T W (fLc2 own fi g ft own1 fi1 g1 ft1 fe) σ H Q) :
    tLc2 (liI K T W fi) (liG K is g) (liT K T noW ft) (liI K T noW fi1) (liG K is1 g1) (liT K T noW ft1) (liE K T noW fe) own own1 σ H Q := by
  obtain ⟨α, ρ, S, Q', X', st, en, h, kv, kx⟩ := h
  refine ⟨α, ρ, S, _, X', st, en, h, fun it S1 α1 H1 J p hJ hq => fun Dl hDl => ?_, kx⟩
  have pn : Post K α1 H1 (α1 ++ [Dl]) (upd H1 Dl (.lst [])) (S1 ++ [.lst []]) := Post.newList p.st hDl .nil
  have hD : (α1 ++ [Dl])[S1.length]? = some Dl := ref_new (β := []) p.st
  have en1 := p.env st en
  refine ⟨fun i m H => m + i = it.items.length ∧ ∃ α2 S2, Post K (α1 ++ [Dl]) (upd H1 Dl (.lst [])) α2 H S2 ∧ compD2 it.guard g ft own1 fi1 g1 ft1 fe S1.length (wipeD ρ own) (it.items.drop i) S2 (fun S2 => Q' (.ref S1.length) S2), ⟨it.items.length, rfl, _, _, Post.refl pn.st, hq⟩, ?_⟩
  rintro i m H2 ⟨hm, α2, S2, p2, hq2⟩
  have p02 := pn.trans p2
  cases hd : it.items.drop i with
  | nil =>
    rw [hd] at hq2
    have hi : it.items.length ≤ i := List.drop_eq_nil_iff.mp hd
    have e : i = it.items.length := by omega
    obtain ⟨_, h2, _⟩ := hJ α2 H2 S2 p02 hq2.1
    exact .inl ⟨e ▸ h2, kv _ _ _ _ _ (p.trans p02) (.ref (p2.get _ _ hD)) hq2.2⟩
  | cons d r =>
    rw [hd] at hq2
    obtain ⟨hi, hr, hlt⟩ := drop_cons hd
    obtain ⟨h1, _, h3⟩ := hJ α2 H2 S2 p02 hq2.1
    refine .inr ⟨h1 i hlt, fun H' => ∃ α3 S3, Post K (α1 ++ [Dl]) (upd H1 Dl (.lst [])) α3 H' S3 ∧ compD2 it.guard g ft own1 fi1 g1 ft1 fe S1.length (wipeD ρ own) r S3 (fun S2 => Q' (.ref S1.length) S2), fun H' ⟨α3, S3, p3, hq3⟩ => ⟨m - 1, by omega, by omega, α3, S3, p3, by rw [hr]; exact hq3⟩, fun x H' hy => ?_⟩
    obtain ⟨rx, px⟩ := h3 i d x H' hi hy
    have p12 := p2.trans px
    refine ⟨α2, _, S2, d, _, px.st, px.env p2.st (p02.env p.st (en1.wipe own)), rx, hq2.2, fun σ' ρ' en' hw hb => ⟨?_, ?_⟩⟩
    · rw [hw own hown]
      exact comp_run.wipe_wipe σ own
    · refine ⟨α2, ρ', S2, _, noX, px.st, en', hb, fun b S3 α3 H3 p3 hb3 => ?_, noLkX⟩
      cases b with
      | false => exact ⟨α3, S3, p12.trans p3, hb3⟩
      | true =>
        refine ⟨α3, ρ', S3, _, noX, p3.st, p3.env px.st en', hb3, fun it1 S4 α4 H4 J1 p4 hJ1 hb4 => ?_, noLkX⟩
        have p14 := (p12.trans p3).trans p4
        exact comp_run hown1 p4.st hJ1 (Post.refl p4.st) ((p3.trans p4).env px.st en') (p14.get _ _ hD) hb4 fun α5 H5 S5 p5 hq5 => ⟨α5, S5, p14.trans p5, hq5⟩
abbrev FSpec := List D → Sto → Kv → Xk → Prop
def spI (K : PySem.W.Frag) (T : XTab) (q : FSpec) : Sp := fun vs H Q E => ∃ α S ds Q' X', StR K α H S ∧ RelL K α H vs ds ∧ q ds S Q' X' ∧ LkV K α H Q' Q ∧ ∀ c v S' α' H' cls dx, Post K α H α' H' S' → ExAt K T α' H' c v cls dx → X' c v S' → E cls dx H'
def fCall (q : FSpec) (a : FA) : FE := fun ρ S Q X => a ρ S (fun xs S1 => q xs S1 Q X) X
theorem li_call {q : FSpec} {a : FA} {Q : VK} (h : liE K T W (fCall q a) σ H Q) : tCallSD (spI K T q) [] (WE W) (liA K T W a) σ H Q := by
  obtain ⟨α, ρ, S, Q', X', st, en, h, kv, kx⟩ := h
  refine ⟨α, ρ, S, _, X', st, en, h, fun ds S1 α1 H1 vs p r hq => ?_, kx⟩
  show spI K T q (vs ++ []) H1 Q (WE W σ)
  rw [List.append_nil]
  exact ⟨α1, S1, ds, Q', X', p.st, r, hq, kv.after p, fun c v S' α' H' cls dx p2 r2 h2 => kx c v S' α' H' cls dx (p.trans p2) r2 h2⟩
mutual
def D.bel (n : Nat) : D → Bool
  | .ref m => decide (m < n)
  | .exc _ m _ => decide (m < n)
  | .lit ds => belL n ds
  | .tup ds => belL n ds
  | _ => true
def belL (n : Nat) : List D → Bool
  | [] => true
  | d :: ds => d.bel n && belL n ds
end
def Cell.bel (n : Nat) : Cell → Bool
  | .lst ds => belL n ds
  | .ro ds => belL n ds
  | .dct kvs => belL n (kvs.map (·.2))
  | .dctT kvs => belL n (kvs.map (·.2))
  | .set _ _ => true
  | .xd _ v => v.bel n
mutual
theorem Rel.shrink {β : List Addr} (n : Nat) (hg : ∀ (m : Nat) a, m < n → α[m]? = some a → β[m]? = some a) : ∀ {v : V} (d : D), Rel K α H v d → d.bel n = true → Rel K β H v d
  | _, .non, h, _ => by cases h; exact .non
  | _, .bl _, h, _ => by cases h; exact .bl _
  | _, .int _, h, _ => by cases h; exact .int _
  | _, .str _, h, _ => by cases h; exact .str _
  | _, .tup ds, h, b => by
    cases h with
    | tup h1 h2 => exact .tup h1 (RelL.shrink n hg ds h2 (by simpa [D.bel] using b))
  | _, .ref m, h, b => by
    cases h with
    | ref h => exact .ref (hg _ _ (by simpa [D.bel] using b) h)
  | _, .exc _ m _, h, b => by
    cases h with
    | exc h => exact .exc (hg _ _ (by simpa [D.bel] using b) h)
  | _, .lit ds, h, b => by
    cases h with
    | lit h1 h2 => exact .lit h1 (RelL.shrink n hg ds h2 (by simpa [D.bel] using b))
theorem RelL.shrink {β : List Addr} (n : Nat) (hg : ∀ (m : Nat) a, m < n → α[m]? = some a → β[m]? = some a) : ∀ {vs : List V} (ds : List D), RelL K α H vs ds → belL n ds = true → RelL K β H vs ds
  | _, [], h, _ => by cases h; exact .nil
  | _, d :: ds, h, b => by
    cases h with
    | cons h1 h2 =>
      simp only [belL, Bool.and_eq_true] at b
      exact .cons (Rel.shrink n hg d h1 b.1) (RelL.shrink n hg ds h2 b.2)
end
theorem CellR.shrink {β : List Addr} {n : Nat} (hg : ∀ (m : Nat) a, m < n → α[m]? = some a → β[m]? = some a) {a : Addr} {c : Cell} (h : CellR K α H a c) (b : c.bel n = true) : CellR K β H a c := by
  cases c with
  | lst ds =>
    obtain ⟨xs, e, r⟩ := h
    exact ⟨xs, e, RelL.shrink n hg ds r b⟩
  | ro ds =>
    obtain ⟨o, xs, e, r⟩ := h
    exact ⟨o, xs, e, RelL.shrink n hg ds r b⟩
  | dct kvs =>
    obtain ⟨xs, e, r⟩ := h
    exact ⟨xs, e, r.1, RelL.shrink n hg _ r.2 b⟩
  | dctT kvs =>
    obtain ⟨xs, e, r⟩ := h
    exact ⟨xs, e, r.1, RelL.shrink n hg _ r.2 b⟩
  | set M k => exact h
  | xd f v =>
    obtain ⟨u, e, r⟩ := h
    exact ⟨u, e, Rel.shrink n hg v r b⟩
/-- the cells from n on are dropped -/
theorem Post.drop (p : Post K α H α' H' S') (hb : ∀ c ∈ S'.take α.length, Cell.bel α.length c = true) : Post K α H α H' (S'.take α.length) ∧ ∀ v d, Rel K α' H' v d → d.bel α.length = true → Rel K α H' v d := by
  obtain ⟨β, e, hn⟩ := p.ext
  subst e
  have hl := p.st.len
  have hg : ∀ (m : Nat) a, m < α.length → (α ++ β)[m]? = some a → α[m]? = some a := fun m a hm h => by rw [List.getElem?_append_left hm] at h; exact h
  refine ⟨⟨⟨[], by simp, fun _ h => by cases h⟩, ⟨?_, ?_, fun n c a h1 h2 => ?_⟩, p.fr⟩, fun v d r b => Rel.shrink α.length hg d r b⟩
  · rw [List.length_take, ← hl, List.length_append]
    omega
  · exact (List.nodup_append.mp p.st.nd).1
  · have hn : n < α.length := (List.getElem?_eq_some_iff.mp h2).1
    have h3 : (α ++ β)[n]? = some a := by rw [List.getElem?_append_left hn]; exact h2
    have h4 : S'[n]? = some c := by
      rw [List.getElem?_take_of_lt hn] at h1
      exact h1
    exact (p.st.at_ n c a h4 h3).shrink hg (hb c (List.mem_of_getElem? h1))
/-- all but one new cell are dropped -/
theorem Post.keep1 (p : Post K α H α' H' S') (hb : ∀ c ∈ S'.take α.length, Cell.bel α.length c = true) {m : Nat} {c1 : Cell} (hm : α.length ≤ m) (hS : S'[m]? = some c1) (hd : c1.bel α.length = true) :
    ∃ a, α'[m]? = some a ∧ Post K α H (α ++ [a]) H' (S'.take α.length ++ [c1]) := by
  obtain ⟨po, _⟩ := p.drop hb
  have hlt : m < α'.length := by
    rw [p.st.len]
    exact (List.getElem?_eq_some_iff.mp hS).1
  have e0 : α'[m]? = some α'[m] := List.getElem?_eq_getElem hlt
  refine ⟨α'[m], e0, ?_⟩
  obtain ⟨β, e, hn⟩ := p.ext
  have hg : ∀ (k : Nat) a, k < α.length → α'[k]? = some a → (α ++ [α'[m]])[k]? = some a := fun k a hk h => by
    rw [e, List.getElem?_append_left hk] at h
    rw [List.getElem?_append_left hk]
    exact h
  have hβ : α'[m] ∈ β := by
    have h1 : α'[m]? = β[m - α.length]? := by
      rw [e, List.getElem?_append_right hm]
    exact List.mem_of_getElem? (h1.symm.trans e0)
  have nd : (α ++ [α'[m]]).Nodup := by
    rw [List.nodup_append]
    refine ⟨po.st.nd, by simp, fun x hx y hy z => ?_⟩
    have hy := List.mem_singleton.mp hy
    have nd := p.st.nd
    rw [e, List.nodup_append] at nd
    exact nd.2.2 x hx y (by rw [hy]; exact hβ) z
  refine ⟨⟨[α'[m]], rfl, fun b hb' => hn b (by rw [List.mem_singleton.mp hb']; exact hβ)⟩, ⟨(by have := po.st.len; rw [List.length_append, List.length_append]; exact congrArg (· + 1) this), nd, fun k c a h1 h2 => ?_⟩, p.fr⟩
  by_cases hk : k < α.length
  · rw [List.getElem?_append_left hk] at h2
    rw [List.getElem?_append_left (by rw [← po.st.len]; exact hk)] at h1
    exact CellR.mono (Tk.refl) pre_get (fun o h => h) (po.st.at_ k c a h1 h2)
  · have hk2 := (List.getElem?_eq_some_iff.mp h2).1
    simp at hk2
    have ek : k = α.length := by omega
    subst ek
    rw [List.getElem?_append_right (Nat.le_refl _), Nat.sub_self] at h2
    rw [List.getElem?_append_right (by rw [← po.st.len]; exact Nat.le_refl _), ← po.st.len, Nat.sub_self] at h1
    cases h1
    cases h2
    exact CellR.shrink hg (p.st.at_ m _ _ hS e0) hd
/-- what a def may give back: of what it made, all that nobody can reach is forgotten -/
def RetD (n : Nat) (Q : Kv) : Kv := fun d S => ((∀ c ∈ S.take n, Cell.bel n c = true) ∧ ((d.bel n = true ∧ Q d (S.take n)) ∨ ∃ m ds, d = .ref m ∧ n ≤ m ∧ S[m]? = some (.lst ds) ∧ belL n ds = true ∧ Q (.ref n) (S.take n ++ [.lst ds]))) ∨ Q d S
theorem retD_lk {Q' : Kv} {Q : VK} (h : LkV K α H Q' Q) : LkV K α H (RetD α.length Q') Q := fun d S' α' H' v p r hq => by
  rcases hq with ⟨hb, ⟨hd, hq⟩ | ⟨m, ds, rfl, hm, hS, hd, hq⟩⟩ | hq
  · obtain ⟨po, pr⟩ := p.drop hb
    exact h _ _ _ _ _ po (pr v d r hd) hq
  · obtain ⟨a, ha, po⟩ := p.keep1 hb hm hS (c1 := .lst ds) hd
    cases r with
    | ref e =>
      rw [ha] at e
      cases e
      refine h _ _ _ _ _ po (.ref ?_) hq
      rw [List.getElem?_append_right (Nat.le_refl _), Nat.sub_self]
      rfl
  · exact h _ _ _ _ _ p r hq
/-- the same of what is raised -/
def RetX (n : Nat) (X : Xk) : Xk := fun c m S => ((∀ e ∈ S.take n, Cell.bel n e = true) ∧ ∃ c1, n ≤ m ∧ S[m]? = some c1 ∧ c1.bel n = true ∧ X c n (S.take n ++ [c1])) ∨ X c m S
def startD (N : List Str) (ds : List D) : Env := ds.map some ++ List.replicate (N.length - ds.length) none
theorem start_env {N : List Str} {vs : List V} {ds : List D} (r : RelL K α H vs ds) (hl : ds.length ≤ N.length) : EnvR K α H (L2.start N vs) (startD N ds) := by
  have e := r.length
  refine ⟨by simp [L2.start, startD, e], fun i d h => ?_⟩
  unfold startD at h
  by_cases hi : i < ds.length
  · rw [List.getElem?_append_left (by simpa using hi), List.getElem?_map] at h
    cases hd : ds[i]? with
    | none =>
      rw [hd] at h
      cases h
    | some x =>
      rw [hd] at h
      cases h
      obtain ⟨v, hv, rv⟩ := r.get hd
      refine ⟨v, ?_, rv⟩
      unfold L2.start
      rw [List.getElem?_append_left (by simpa [e] using hi), List.getElem?_map, hv]
      rfl
  · rw [List.getElem?_append_right (by simpa using hi), List.getElem?_replicate] at h
    split at h <;> cases h
/-- the reading of a def's body is what its promise asks -/
def Keeps (N : List Str) (f : FS) (q : FSpec) : Prop := ∀ ds S Q X, q ds S Q X → ds.length ≤ N.length ∧ f (startD N ds) S ⟨fun _ S' => RetD S.length Q .non S', fun d S' => RetD S.length Q d S', fun _ _ => False, fun _ _ => False⟩ fun _ => RetX S.length X
theorem keeps_run {N : List Str} {f : FS} {q : FSpec} (h : Keeps N f q) {vs : List V} {Q : VK} {E : XK} (hs : spI K T q vs H Q E) : liS K T (fun cls d _ H => E cls d H) f { nx := fun _ H' => Q .non H', rt := Q } (L2.start N vs) H := by
  obtain ⟨α, S, ds, Q', X', st, r, hq, kv, kx⟩ := hs
  obtain ⟨hl, hf⟩ := h ds S Q' X' hq
  refine ⟨α, _, S, _, _, st, start_env r hl, hf, ⟨fun ρ S1 α1 H1 σ1 p en h1 => ?_, ?_, fun _ _ _ _ _ _ _ h => h.elim, fun _ _ _ _ _ _ _ h => h.elim, fun ρ S1 α1 H1 σ1 p en => fun c m S2 α2 H2 cls dx p2 r2 h2 => ?_⟩⟩
  · exact (by rw [← st.len]; exact retD_lk kv : LkV K α H (RetD S.length Q') Q) .non S1 α1 H1 .non p .non h1
  · rw [← st.len]
    exact retD_lk kv
  · have p12 := p.trans p2
    rw [← st.len] at h2
    rcases h2 with ⟨hb, c1, hm, hS, h1, hx⟩ | hx
    · obtain ⟨a, ha, po⟩ := p12.keep1 hb hm hS h1
      obtain ⟨C, f, d, t1, t2, t3, t4⟩ := r2
      rw [ha] at t4
      cases t4
      refine kx c α.length _ _ _ cls dx po ⟨C, f, _, t1, t2, t3, ?_⟩ hx
      rw [List.getElem?_append_right (Nat.le_refl _), Nat.sub_self]
      rfl
    · exact kx c m S2 α2 H2 cls dx p12 r2 hx
theorem fn_ok {P : Program} {w : World} {mg : Str → Option Value} {base : Heap} {x qual : Str} {st : Stmt} {f : Addr} {fd : FuncData} {N ps : List Str} {k : Nat} {q : FSpec} (F : Fun K x qual st f fd) (Sc : FnScope N ps (defScope st)) (b : FS)
    (len : ∀ ds S Q X, q ds S Q X → ds.length = ps.length) (hk : Keeps N b q)
    (hb : ∀ (cdv : Value) (A : Around) (outer : List PySem.Env) (s : Shared) (H : Hp) (E : XK), Room k (A.deeper (envOfC qual (defScope st) s.heap.objs.size f cdv)) →
      PSs (cxOf (L2.CX P w) P w K mg base N qual (defScope st) f cdv A outer s H E) (defBody st) (liS K T (fun cls d _ H => E cls d H) b)) :
    FnOk P w K mg base (L2.CX P w) (k + 1) f fd ps (spI K T q) := by
  refine F.okX Sc (fun vs H Q E h => ?_) (fun cdv A outer s H vs Q E hr h => ⟨_, hb cdv A outer s H E hr, keeps_run hk h⟩)
  obtain ⟨α, S, ds, Q', X', st, r, hq, kv, kx⟩ := h
  rw [r.length]
  exact len _ _ _ _ hq
end
end Bc
end
section
namespace BcO
open PySem PySem.W PySem.Calls PyProof.Rows PySem.HandSPX L2
/-- what is written of such a class -/
structure OxC (K : PySem.W.Frag) (C : Addr) (bmB : List Value) (newId : String) : Prop where
  cls : ∃ nm q N bs sn sub ab col dd k0 k1 k2 k3 k5, K.lookup C = some (excClassObj nm q C N bs bmB true sn sub ab col dd k0 k1 k2 k3 k5 newId)
  sa : PySem.W.findIn K (.ref C) "__setattr__" = some (some (.builtin "object.__setattr__"))
  exC : PySem.W.subIn K (.ref C) (.type "BaseException") = some true
  tyC : PySem.W.typeIn K (.ref C) = some (.type "type")
  kC : PySem.W.keepIn K (.ref C) = true
section
open Builtin Builtin.ObjectAttr
/-- the first field of an exception object -/
theorem put_first {prog : Program} {w : World} {A : Around} {R : Result → Shared → Prop} {hp : Heap} {g : Array GenState} {d : Drawn} {t : Nat} {os : OsState} {K : PySem.W.Frag} {B : String} {bmB : List Value} {fld : Str} {tk : Tok} {v : Value} {x C : Addr} {fv : Array Value} {cd : ClassData}
    (SF : StoreFacts B bmB "object.__setattr__" "object") (Y : K.In hp) (hx : hp.get? x = some { cls := .ref C, data := .fields fv }) (hcd : PySem.W.clsIn K C = some cd) (hm : cd.mro = .ref C :: bmB) (hh : cd.hasDict = true) (ha : PySem.W.findIn K (.ref C) fld = some none)
    (hq : ∀ h' tk' dx, (∀ b o, b ≠ x → hp.get? b = some o → h'.get? b = some o) → hp.objs.size ≤ dx → dx ≠ x → h'.get? x = some { cls := .ref C, dict := some dx, data := .fields fv } →
      h'.Ns1 dx (fun y => if y = fld then some v else none) → R (.ok (.ret .none)) ⟨h', g, d, tk', os⟩) :
    codeAny (model prog w) A (.call (.builtin "object.__setattr__") ⟨[.ref x, .str fld tk, v], []⟩) R ⟨hp, g, d, t, os⟩ := by
  have J : PySem.W.InstAt hp x { cls := .ref C, data := .fields fv } C none := ⟨hx, rfl, rfl, trivial⟩
  have SO := F.store_object
  have nx : x ≠ hp.objs.size := Nat.ne_of_lt (Heap.lt_size hx)
  have hob : cd.mro.contains (.type "object") = true := by rw [hm, List.contains_cons, SF.hasOwner, Bool.or_true]
  have isO : PySem.W.Looks (model prog w) hp (isInstance (.ref x) (.type "object")) true :=
    J.type.andThen (PySem.W.looks_mroIn Y (by unfold PySem.W.mroIn; rw [hcd, Option.bind_some, if_neg (by rw [hm]; exact Bool.false_ne_true), hob]))
  refine codeAny_call_builtin SO.slot.plain SO.entry (@PySem.W.check_slot (model prog w) _ _ ⟨hp, g, d, t, os⟩ "object.__setattr__" "object" "__setattr__" (.ref x) [.str fld tk, v] [] _ SO.kind SO.split isO (SO.args (.ref x) (.str fld tk) v) ?_)
  have lm : PySem.W.Looks (model prog w) hp (mroOf (.ref C)) cd.mro := (PySem.W.looks_clsIn Y hcd).andThen .now
  have lt : PySem.W.Looks (model prog w) hp (storeTaker? none) none := .now
  have lc : PySem.W.Looks (model prog w) hp (classData C) cd := PySem.W.looks_clsIn Y hcd
  rw [PySem.W.osa_eq, refuse_eq]
  refine wpAny_bind (wpAny_bind (J.type.at (wpAny_bind (lm.at ?_))))
  rw [hm, refuseLoop_ref, SF.passes]
  refine wpAny_pure (wpAny_bind (J.type.at (wpAny_bind ((PySem.W.looks_findIn Y ha).at (wpAny_bind (lt.at ?_))))))
  show wpAny _ _ (storeInOwnDict (.ref x) (.ref C) (.str fld tk) fld v false) _ _ _
  obtain ⟨nm, bs, mro, ns, qn, hd, sn, sb, ab, col, del⟩ := cd
  dsimp only at hh
  subst hh
  unfold storeInOwnDict ownDictForStores
  repeat (first | with_reducible refine PySem.HandSPX.store_in_new ?_ ?_ | with_reducible refine wpAny_loadPart_at hx ?_ | with_reducible refine lc.at ?_ | wp_step)
  · exact ⟨_, #[], _, (Heap.get?_update_ne _ _ _ _ nx.symm).trans (Heap.get?_push_at rfl rfl), rfl, fun e he => absurd he (by simp), fun _ => rfl⟩
  · intro h' tk' hn' hs
    refine hq h' tk' hp.objs.size (fun b o hb ho => ?_) (Nat.le_refl _) nx.symm ?_ hn'
    · exact (hs.2 b (Nat.ne_of_lt (Heap.lt_size ho))).trans ((Heap.get?_update_ne _ _ _ _ hb).trans (Heap.get?_push_of_some _ ho))
    · exact (hs.2 x nx).trans (Heap.get?_update_self _ (Heap.get?_push_of_some _ hx) rfl)
end
theorem OxC.data {K : PySem.W.Frag} {C : Addr} {bmB : List Value} {newId : String} (T : OxC K C bmB newId) : ∃ cd, PySem.W.clsIn K C = some cd ∧ cd.mro = .ref C :: bmB ∧ cd.hasDict = true := by
  obtain ⟨nm, q, N, bs, sn, sub, ab, col, dd, k0, k1, k2, k3, k5, hC⟩ := T.cls
  refine ⟨{ name := nm, bases := bs, mro := .ref C :: bmB, ns := N, qualname := q, hasDict := true, slotNames := sn, subclasses := sub, abstract := ab, collection := col, hasDel := false }, ?_, rfl, rfl⟩
  unfold PySem.W.clsIn
  rw [hC] <;> rfl
theorem OxC.some {K : PySem.W.Frag} {C : Addr} {bmB : List Value} {newId : String} (T : OxC K C bmB newId) : (PySem.W.clsIn K C).isSome = true := by
  obtain ⟨cd, h, _⟩ := T.data
  rw [h]
  rfl
section
variable {X : Cx} {pins : List (Addr × Obj)} {σ : L2.St} {H : Hp} {s : Shared} {a C : Addr} {fld : Str} {y : V} {u : Value} {B newId initId : String} {bmB : List Value} {E : Value → Shared → Prop} {A : Around}
/-- self.f = y in the __init__ -/
theorem ox_put {Q : Unit → Shared → Prop} (SF : StoreFacts B bmB "object.__setattr__" "object") (T : OxC X.K C bmB newId) (I : Inv X pins σ H s) (e : H a = some (exo a C none)) (hno : PySem.W.findIn X.K (.ref C) fld = some none) (ry : RelV y u)
    (h : ∀ dx s', H dx = none → dx ≠ a → Inv X pins σ (upd (upd H dx (exd dx [(fld, y)])) a (exo a C (some dx))) s' → Q () s') : wpAny (model X.prog X.w) A (setAttr (.ref a) fld u) Q E s := by
  obtain ⟨cd, hcd, hm, hh⟩ := T.data
  obtain ⟨t1, ho⟩ := exo_at I.hok e
  obtain ⟨hp, g, d, t, os⟩ := s
  refine PySem.W.set_plain I.kIn (ox := { cls := .ref C, dict := none, data := .fields #[.ref t1, .none, .none, .none, .bool false, .none] }) (od := none) ⟨ho, rfl, rfl, trivial⟩ T.sa ?_
  refine put_first SF I.kIn ho hcd hm hh hno (fun h' tk' dx k dn dne hx hn => ?_)
  have hnd : H dx = none := I.hok.fresh dn
  have nd : ∀ {b : Addr} {o : Obj}, hp.get? b = some o → b ≠ dx := fun {b o} q => Nat.ne_of_lt (Nat.lt_of_lt_of_le (Heap.lt_size q) dn)
  have na : ∀ {b : Addr}, H b = none → b ≠ a := fun {b} n z => by
    subst z
    rw [e] at n
    cases n
  have two : ∀ {b : Addr}, b ≠ a → b ≠ dx → upd (upd H dx (exd dx [(fld, y)])) a (exo a C (some dx)) b = H b := fun {b} h1 h2 => by rw [upd_ne h1, upd_ne h2]
  have U : Un X.fs [] H (upd (upd H dx (exd dx [(fld, y)])) a (exo a C (some dx))) hp h' :=
    ⟨fun b o q n _ _ => k b o (na n) q, fun b o q n _ _ => ⟨o.slots, k b o (na n) q⟩, fun b o q n _ => (two (na n) (nd q)).trans n, fun b o q _ => by
        by_cases hb : b = a
        · exact ⟨_, by rw [hb]; exact hx⟩
        · exact ⟨o, k b o hb q⟩,
      fun b xs q => (two (at_ne e q exo_tup) (ne_of_none q hnd)).trans q, fun b o v q => (two (at_ne e q exo_frz) (ne_of_none q hnd)).trans q,
      fun b ps q => ⟨#[], by rw [two (at_ne e q exo_tbl) (ne_of_none q hnd), q]; simp⟩⟩
  refine h dx _ hnd dne (I.un (t' := tk') U fun b o q => ?_)
  by_cases hb : b = a
  · subst hb
    rw [upd_same] at q
    cases q
    exact exo_ok hx
  · rw [upd_ne hb] at q
    by_cases hd : b = dx
    · subst hd
      rw [upd_same] at q
      cases q
      exact exd_ok hn (relO_put (fs := []) ry fun g => True.intro)
    · rw [upd_ne hd] at q
      refine (I.hok b o q).stay (fun c v hc z => k c v ?_ z) (fun c hc => (two (at_ne e hc exo_own) (ne_of_none hc hnd)).trans hc) fun c xs hc => (two (at_ne e hc exo_tup) (ne_of_none hc hnd)).trans hc
      rcases hc with hc | hc
      · rw [hc]
        exact hb
      · exact at_ne e hc exo_own
/-- B.__init__(self, ..) -/
theorem ox_base {us : List Value} {Q : Value → Shared → Prop} (FB : ExcBaseFacts B newId initId bmB) (T : OxC X.K C bmB newId) (I : Inv X pins σ H s) (e : H a = some (exo a C none)) (hl : us.length ≤ sizeLine) (h : ∀ s', Inv X pins σ H s' → Q .none s') :
    wpAny (model X.prog X.w) A (call (.builtin initId) (.ref a :: us)) Q E s := by
  obtain ⟨nm, q, N, bs, sn, sub, ab, col, dd, k0, k1, k2, k3, k5, hC⟩ := T.cls
  obtain ⟨t1, ho⟩ := exo_at I.hok e
  obtain ⟨hp, g, d, t, os⟩ := s
  refine wpAny_call (PySem.HandSPX.init_base FB (fun _ => rfl) (I.kIn _ _ hC) ho hl fun h' t2 k hx => ?_)
  have J := I.write (t' := t) (x := a) (e := a) (o := exo a C none) (by rw [e]; exact True.intro) (.inl rfl) k ⟨_, hx⟩ (exo_ok hx)
  have same : upd H a (exo a C none) = H := funext fun b => by
    by_cases hb : b = a
    · rw [hb, upd_same, e]
    · exact upd_ne hb
  exact h _ (same ▸ J)
end
def tOxI (K : PySem.W.Frag) (bmB : List Value) (newId : String) (ta : TA) : TE := fun σ H Q => ta σ H fun vs H1 => ∃ (a C : Addr) (ws : List V), vs = .ref a :: ws ∧ ws.length ≤ 1000 ∧ OxC K C bmB newId ∧ H1 a = some (exo a C none) ∧ Q .non H1
def tOxP (K : PySem.W.Frag) (bmB : List Value) (newId : String) (fld : Str) (to te : TE) : TS := fun D σ H => te σ H fun y H1 => to σ H1 fun x H2 => ∃ a C : Addr, x = .ref a ∧ OxC K C bmB newId ∧ PySem.W.findIn K (.ref C) fld = some none ∧ H2 a = some (exo a C none) ∧
  ∀ dx, H2 dx = none → dx ≠ a → D.nx σ (upd (upd H2 dx (exd dx [(fld, y)])) a (exo a C (some dx)))
section
variable {X : Cx} {o e : Expr} {es : List Expr} {to te : TE} {ta : TA} {fld : Str} {p p' p1 p2 pos : Pos} {B newId initId : String} {bmB : List Value} {x : Str}
theorem pe_oxi {pl : Sem Bool} (FB : ExcBaseFacts B newId initId bmB) (hg : Gl X x) (hm : X.mg x = none) (hv : bootBuiltins x = some (.type B)) (ty : typeOf (.type B) = pure (.type "type")) (st : Manifest.isStub B = false) (hh : PySem.W.handedIn (.builtin initId) = true) (vV : PySem.W.findCls X.K (.type B) (.type "type") "__init__" = some (.val (.builtin initId))) (ha : PA X (e :: es) ta)
    (hn : x ≠ "__name__") (hd : (x == ("__debug__" : Str)) = false)
    (hc : eval (.Call (.Attribute (.Name x p1) "__init__" p2) (e :: es) [] pos) X.env = (do
      let ov ← eval (.Name x p1) X.env
      standAt p2.atName
      let (f, first) ← holding [ov] (getMethod ov "__init__" pl)
      callWith pos f first (backTo pos (starEach (e :: es) X.env)) (backToKw pos (keywordEach [] X.env))) := by rfl)
    (he : starEach (e :: es) X.env = (false, eval e X.env) :: starEach es X.env := by rfl) (hpl : (backTo pos (starEach es X.env)).any (·.1) = false := by rfl) :
    PE X (.Call (.Attribute (.Name x p1) "__init__" p2) (e :: es) [] pos) (tOxI X.K bmB newId ta) := by
  refine ⟨fun pins s σ H Q I h => ?_⟩
  refine PySem.W.methodCall_KW (ld_blt I hg hm hv ?_ hn hd) hc
  obtain ⟨m, fr⟩ := I.fr
  refine PySem.W.method_type fr I.ok.mod.kin ty st vV hh ?_
  show wpAny _ _ (callWith pos (Value.builtin initId) [] (backTo pos (starEach (e :: es) X.env)) []) _ _ _
  refine PyProof.Rows.callWith_method1 (thn (ha.run pos pins _ σ H _ (I.tok _) h) fun us s1 ⟨vs, H1, I1, r1, a, C, ws, ev, hl, T, ea, q⟩ => ?_) he hpl
  subst ev
  cases r1 with
  | @cons _ u0 _ ur ra rw' =>
    obtain rfl : u0 = Value.ref a := ra
    have hz : ur.length ≤ sizeLine := by
      rw [← Paired.length rw', sizeLine_eq]
      omega
    exact ox_base FB T I1 ea hz fun s' J => ⟨.non, H1, J, rfl, q⟩
theorem ps_oxp (SF : StoreFacts B bmB "object.__setattr__" "object") (ho : PE X o to) (he : PE X e te) (hs : swapsWith e (some (.Attribute o fld p')) pos.line X.env = pure false := by rfl) : PS X (.Assign [.Attribute o fld p'] e pos) (tOxP X.K bmB newId fld to te) := by
  refine ⟨fun pins s σ H D I h => ?_⟩
  refine plainObj_wpAny_Assign_Attribute (thn (he.run pins s σ H _ I h) fun v s1 ⟨y, H1, I1, r1, q1⟩ => thn (ho.run pins s1 σ H1 _ I1 q1) fun u s2 ⟨x, H2, I2, r2, a, C, ex, T, hno, ea, q⟩ => ?_) hs
  subst ex
  obtain rfl : u = Value.ref a := r2
  exact ox_put SF T I2 ea hno r1 fun dx s' n ne J => ⟨σ, _, J, q dx n ne⟩
/-- what the __init__ does -/
def spOx (C : Addr) (fld : Str) : Sp := fun vs H Q _ => ∃ (a : Addr) (v : V), vs = [.ref a, v] ∧ H a = some (exo a C none) ∧ ∀ dx, H dx = none → dx ≠ a → Q .non (upd (upd H dx (exd dx [(fld, v)])) a (exo a C (some dx)))
/-- what raising C(e) asks -/
def tMkX (C : Addr) (fld : Str) (ta : TA) : L2.St → Hp → XK → Prop := fun σ H Q => ta σ H fun vs H1 => ∃ v, vs = [v] ∧ ∀ d, H1 d = none → Q (.ref C) (some d) (upd H1 d (.xd [(fld, v)]))
theorem pmk_ox {CX : CXT} {C fI : Addr} {k : Nat} {fd : FuncData} {ps : List Str} (FB : ExcBaseFacts B newId initId bmB) (T : OxC X.K C bmB newId) (iC : PySem.W.findIn X.K (.ref C) "__init__" = some (some (.ref fI))) (tI : PySem.W.typeIn X.K (.ref fI) = some (.type "function"))
    (F1 : FnOk X.prog X.w X.K X.mg X.base CX k fI fd ps (spOx C fld)) (hr : Room (k + 1) X.A) (hb : Binds X.K fd ps []) (hx : Passes CX X (fun _ _ _ => False)) (hg : Gl X x) (hm : X.mg x = some (.ref C)) (ha : PA X [e] ta)
    (hdb : (x == ("__debug__" : Str)) = false := by decide) (he : starEach (e :: []) X.env = (false, eval e X.env) :: starEach [] X.env := by rfl) (hpl : (backTo pos (starEach [] X.env)).any (·.1) = false := by rfl) :
    PMk X (.Call (.Name x p) [e] [] pos) (tMkX C fld ta) := by
  intro pins s σ H Q I h
  obtain ⟨nm, q, N, bs, sn, sub, ab, col, dd, k0, k1, k2, k3, k5, hC⟩ := T.cls
  refine wpAny_Call_Name_kw (ld_glob I hg hm ?_ hdb)
  refine PySem.W.callWith_K (h₀ := X.base) I.ok.mod.kin T.kC (thn (ha.run pos pins s σ H _ I h) fun us s1 ⟨vs, H1, I1, r1, v, ev, q1⟩ => ⟨I1.kIn, ?_⟩) he hpl
  subst ev
  cases r1 with
  | @cons _ u0 _ ur rv rn =>
  cases rn
  show wpAny _ _ (call (.ref C) [u0]) _ _ _
  obtain ⟨hp, g, dr, tk, os⟩ := s1
  have big : hp.objs.size ≤ hp.objs.size + 1 := Nat.le_succ _
  have old : ∀ b o, hp.get? b = some o → ((hp.push (PySem.W.kdv_tup [u0])).push (PySem.HandSPX.excO C hp.objs.size)).get? b = some o := fun b o e => Heap.get?_push_of_some _ (Heap.get?_push_of_some _ e)
  have new : ((hp.push (PySem.W.kdv_tup [u0])).push (PySem.HandSPX.excO C hp.objs.size)).get? (hp.objs.size + 1) = some (PySem.HandSPX.excO C hp.objs.size) := by heap_get
  have I2 : Inv X pins σ (upd H1 (hp.objs.size + 1) (exo (hp.objs.size + 1) C none)) ⟨(hp.push (PySem.W.kdv_tup [u0])).push (PySem.HandSPX.excO C hp.objs.size), g, dr, tk, os⟩ :=
    I1.laid (t' := tk) (a := hp.objs.size + 1) (o := exo (hp.objs.size + 1) C none) (h' := (hp.push (PySem.W.kdv_tup [u0])).push (PySem.HandSPX.excO C hp.objs.size)) old big (exo_ok new)
  have hn1 : H1 (hp.objs.size + 1) = none := I1.hok.fresh big
  have ask : spOx C fld [V.ref (hp.objs.size + 1), v] (upd H1 (hp.objs.size + 1) (exo (hp.objs.size + 1) C none))
      (fun w H2 => w = .non ∧ ∃ d : Addr, H2 (hp.objs.size + 1) = some (exo (hp.objs.size + 1) C (some d)) ∧ H2 d = some (exd d [(fld, v)]) ∧ H1 d = none ∧ Q (.ref C) (some d) (upd (del H2 (hp.objs.size + 1)) d (.xd [(fld, v)]))) (fun _ _ _ => False) := by
    refine ⟨_, _, rfl, upd_same, fun dx hd dne => ⟨rfl, dx, upd_same, ?_, ?_, ?_⟩⟩
    · rw [upd_ne dne, upd_same]
    · rw [upd_ne dne] at hd
      exact hd
    · have hd1 : H1 dx = none := by
        rw [upd_ne dne] at hd
        exact hd
      have := q1 dx hd1
      refine cast ?_ this
      congr 1
      funext b
      by_cases hb : b = dx
      · subst hb
        rw [upd_same, upd_same]
      · rw [upd_ne hb, upd_ne hb]
        by_cases ha : b = hp.objs.size + 1
        · subst ha
          rw [del_same]
          exact hn1
        · rw [del_ne ha, upd_ne ha, upd_ne hb, upd_ne ha]
  have r2 : Vals [V.ref (hp.objs.size + 1), v] [Value.ref (hp.objs.size + 1), u0] := .cons rfl (.cons rv .nil)
  have hl : ([Value.ref (hp.objs.size + 1), u0] ++ []).length = ps.length := by
    have e1 := F1.len _ _ _ _ ask
    simpa using e1
  have one : [u0].length ≤ sizeLine := by
    rw [sizeLine_eq]
    exact (by decide : 1 ≤ 16777216)
  refine wpAny_call (PySem.HandSPX.call_own FB (fun _ => rfl) (I1.kIn _ _ hC) (PySem.W.looks_findIn I1.kIn iC) (fun self => PySem.W.bind_fn I1.kIn self tI) one
    (codeAny_mono (F1.run _ X.stack _ _ ⟨[Value.ref (hp.objs.size + 1), u0], []⟩ _ _ _ (fun _ _ _ => False) (hr.make C [u0] []) (I2.env0.make C [u0] []) (hb _ [Value.ref (hp.objs.size + 1), u0] I2.kIn hl) r2 ask) fun r s' hq' => ?_))
  cases r with
  | error er => exact hx pins σ _ _ er s' I2 hq'
  | ok fl =>
    cases fl with
    | ret u =>
      obtain ⟨w, H2, os2, bare2, un2, hok2, rw', ew, d, ea, ed, hd1, q2⟩ := hq'
      subst ew
      obtain ⟨h2, g2, d2, t2, os'⟩ := s'
      exact ⟨rw', mk_end (raises_own T.exC T.tyC) I1 big old un2 hok2 os2 bare2 ea ed hd1 q2⟩
    | next => exact False.elim hq'
    | brk => exact False.elim hq'
    | cont => exact False.elim hq'
end
end BcO
end
section
namespace Bc
open PySem L2 PyProof.Rows BcZ BcO
section
variable {κ : Type} [DecidableEq κ]
def valD (kvs : List (κ × D)) (k : κ) : Option D := (kvs.find? fun kv => decide (kv.1 = k)).map (·.2)
def putD (kvs : List (κ × D)) (k : κ) (v : D) : List (κ × D) := if (kvs.any fun kv => decide (kv.1 = k)) = true then kvs.map (fun kv => if kv.1 = k then (kv.1, v) else kv) else kvs ++ [(k, v)]
def mergeD (kvs more : List (κ × D)) : List (κ × D) := more.foldl (fun acc kv => putD acc kv.1 kv.2) kvs
end
def D.key : D → Option Key
  | .int i => some (.inl i)
  | .str z => some (.inr z)
  | _ => none
section
variable {K : PySem.W.Frag} {T : XTab} {W : WX} {α α' : List Addr} {H H' : Hp} {S S' : Sto} {ρ : Env} {σ : L2.St} {X : Cx} {κ : Type} [DecidableEq κ]
theorem relKV_nil : RelKV K α H ([] : List (κ × V)) [] := ⟨rfl, .nil⟩
theorem RelKV.cons {k : κ} {v : V} {d : D} {ws : List (κ × V)} {kvs : List (κ × D)} (r : Rel K α H v d) (h : RelKV K α H ws kvs) : RelKV K α H ((k, v) :: ws) ((k, d) :: kvs) := ⟨by simp [h.1], .cons r h.2⟩
theorem RelKV.cases {ws : List (κ × V)} {k : κ} {d : D} {kvs : List (κ × D)} (h : RelKV K α H ws ((k, d) :: kvs)) : ∃ v us, ws = (k, v) :: us ∧ Rel K α H v d ∧ RelKV K α H us kvs := by
  cases ws with
  | nil => cases h.1
  | cons w us =>
    obtain ⟨h1, h2⟩ := h
    cases h2 with
    | cons r1 r2 =>
      injection h1 with e1 e2
      exact ⟨w.2, us, by rw [← show w.1 = k from e1], r1, e2, r2⟩
theorem RelKV.nil' {ws : List (κ × V)} (h : RelKV K α H ws ([] : List (κ × D))) : ws = [] := by
  have := h.1
  simpa using this
theorem RelKV.val : ∀ {kvs : List (κ × D)} {ws : List (κ × V)} (k : κ), RelKV K α H ws kvs → (∀ d, valD kvs k = some d → ∃ v, valV ws k = some v ∧ Rel K α H v d) ∧ (valD kvs k = none → valV ws k = none)
  | [], ws, k, h => by
    rw [h.nil']
    exact ⟨fun d e => (by cases e), fun _ => rfl⟩
  | (k0, d0) :: kvs, ws, k, h => by
    obtain ⟨v, us, rfl, r, h'⟩ := h.cases
    by_cases e : k0 = k
    · rw [valV_pos (p := (k0, v)) e]
      have : valD ((k0, d0) :: kvs) k = some d0 := by simp [valD, List.find?_cons, e]
      rw [this]
      exact ⟨fun d z => ⟨v, rfl, by cases z; exact r⟩, fun z => by cases z⟩
    · rw [valV_neg (p := (k0, v)) e]
      have : valD ((k0, d0) :: kvs) k = valD kvs k := by simp [valD, List.find?_cons, e]
      rw [this]
      exact RelKV.val k h'
theorem RelKV.any {kvs : List (κ × D)} {ws : List (κ × V)} (h : RelKV K α H ws kvs) (k : κ) : (ws.any fun kv => decide (kv.1 = k)) = (kvs.any fun kv => decide (kv.1 = k)) := by
  have e : ∀ l : List κ, True := fun _ => trivial
  have h1 : (ws.map (·.1)).any (fun x => decide (x = k)) = (kvs.map (·.1)).any (fun x => decide (x = k)) := by rw [h.1]
  rw [List.any_map, List.any_map] at h1
  exact h1
theorem RelKV.length {kvs : List (κ × D)} {ws : List (κ × V)} (h : RelKV K α H ws kvs) : ws.length = kvs.length := by
  have := congrArg List.length h.1
  simpa using this
theorem RelKV.repl : ∀ {kvs : List (κ × D)} {ws : List (κ × V)} (k : κ) {v : V} {d : D}, RelKV K α H ws kvs → Rel K α H v d → RelKV K α H (ws.map fun kv => if kv.1 = k then (kv.1, v) else kv) (kvs.map fun kv => if kv.1 = k then (kv.1, d) else kv)
  | [], ws, k, v, d, h, r => by rw [h.nil']; exact relKV_nil
  | (k0, d0) :: kvs, ws, k, v, d, h, r => by
    obtain ⟨w, us, rfl, r0, h'⟩ := h.cases
    simp only [List.map_cons]
    by_cases e : k0 = k
    · rw [if_pos e, if_pos e]
      exact (RelKV.repl k h' r).cons r
    · rw [if_neg e, if_neg e]
      exact (RelKV.repl k h' r).cons r0
theorem RelKV.snoc : ∀ {kvs : List (κ × D)} {ws : List (κ × V)} (k : κ) {v : V} {d : D}, RelKV K α H ws kvs → Rel K α H v d → RelKV K α H (ws ++ [(k, v)]) (kvs ++ [(k, d)])
  | [], ws, k, v, d, h, r => by rw [h.nil']; exact relKV_nil.cons r
  | (k0, d0) :: kvs, ws, k, v, d, h, r => by
    obtain ⟨w, us, rfl, r0, h'⟩ := h.cases
    exact (RelKV.snoc k h' r).cons r0
theorem RelKV.put {kvs : List (κ × D)} {ws : List (κ × V)} (k : κ) {v : V} {d : D} (h : RelKV K α H ws kvs) (r : Rel K α H v d) : RelKV K α H (putK ws k v) (putD kvs k d) := by
  unfold putK putD
  rw [h.any k]
  by_cases e : (kvs.any fun kv => decide (kv.1 = k)) = true
  · rw [if_pos e, if_pos e]
    exact h.repl k r
  · rw [if_neg e, if_neg e]
    exact h.snoc k r
theorem RelKV.merge : ∀ {more : List (κ × D)} {ms : List (κ × V)} {kvs : List (κ × D)} {ws : List (κ × V)}, RelKV K α H ms more → RelKV K α H ws kvs → RelKV K α H (ms.foldl (fun acc kv => putK acc kv.1 kv.2) ws) (mergeD kvs more)
  | [], ms, kvs, ws, h, g => by rw [h.nil']; exact g
  | (k0, d0) :: more, ms, kvs, ws, h, g => by
    obtain ⟨w, us, rfl, r0, h'⟩ := h.cases
    show RelKV K α H (us.foldl (fun acc kv => putK acc kv.1 kv.2) (putK ws k0 w)) (mergeD (putD kvs k0 d0) more)
    exact RelKV.merge h' (g.put k0 r0)
theorem Rel.key {v : V} {d : D} {k : Key} (r : Rel K α H v d) (h : d.key = some k) : v = kV k := by
  cases r <;> first | (cases h; rfl) | cases h
/-- d[k], d.get(k, x), k in d, d[k] = x, {..} -/
def fDg (d k : FE) : FE := fun ρ S Q X => d ρ S (fun x S1 => k ρ S1 (fun y S2 => ∃ n kvs j v, x = .ref n ∧ S2[n]? = some (.dct kvs) ∧ y.key = some j ∧ valD kvs j = some v ∧ Q v S2) X) X
def isDct (x : D) (S : Sto) : Prop := ∃ n kvs, x = .ref n ∧ S[n]? = some (.dct kvs)
def fDg1 (d k : FE) : FE := fun ρ S Q X => d ρ S (fun x S1 => isDct x S1 ∧ k ρ S1 (fun y S2 => ∃ n kvs j, x = .ref n ∧ S2[n]? = some (.dct kvs) ∧ y.key = some j ∧ Q ((valD kvs j).getD .non) S2) X) X
def fDg2 (d k z : FE) : FE := fun ρ S Q X => d ρ S (fun x S1 => isDct x S1 ∧ k ρ S1 (fun y S2 => z ρ S2 (fun u S3 => ∃ n kvs j, x = .ref n ∧ S3[n]? = some (.dct kvs) ∧ y.key = some j ∧ Q ((valD kvs j).getD u) S3) X) X) X
def fDin (neg : Bool) (k d : FE) : FE := fun ρ S Q X => k ρ S (fun y S1 => d ρ S1 (fun x S2 => ∃ n kvs j, x = .ref n ∧ S2[n]? = some (.dct kvs) ∧ y.key = some j ∧ Q (.bl (if neg then !(valD kvs j).isSome else (valD kvs j).isSome)) S2) X) X
def fDp (e d k : FE) : FS := fun ρ S κ X => e ρ S (fun v S1 => d ρ S1 (fun x S2 => k ρ S2 (fun y S3 => ∃ n kvs j, x = .ref n ∧ S3[n]? = some (.dct kvs) ∧ y.key = some j ∧ kvs.length < sizeLine ∧ κ.nx ρ (S3.set n (.dct (putD kvs j v)))) (X ρ)) (X ρ)) (X ρ)
def fDn : FE := fun _ S Q _ => Q (.ref S.length) (S ++ [.dct []])
def fPrs : List (FE × FE) → Env → Sto → (List (D × D) → Sto → Prop) → Xk → Prop
  | [], _, S, Q, _ => Q [] S
  | (a, b) :: r, ρ, S, Q, X => a ρ S (fun x S1 => b ρ S1 (fun y S2 => fPrs r ρ S2 (fun ps S3 => Q ((x, y) :: ps) S3) X) X) X
def keysD : List (D × D) → Option (List (Key × D))
  | [] => some []
  | (x, y) :: r => x.key.bind fun k => (keysD r).map ((k, y) :: ·)
def fDs (ps : List (FE × FE)) : FE := fun ρ S Q X => fPrs ps ρ (S ++ [.dct []]) (fun prs S1 => ∃ kvs, keysD prs = some kvs ∧ S1[S.length]? = some (.dct []) ∧ kvs.length ≤ 15 ∧ Q (.ref S.length) (S1.set S.length (.dct (mergeD [] kvs)))) X
theorem StR.dct (st : StR K α H S) {n : Nat} {kvs : List (Key × D)} {v : V} (r : Rel K α H v (.ref n)) (h : S[n]? = some (.dct kvs)) : ∃ a ws, v = .ref a ∧ α[n]? = some a ∧ H a = some (.dK ws) ∧ RelKV K α H ws kvs := by
  cases r with
  | ref e =>
    obtain ⟨ws, e1, rr⟩ := st.cellA h e
    exact ⟨_, ws, rfl, e, e1, rr⟩
theorem li_dg {d k : FE} {Q : VK} (h : liE K T W (fDg d k) σ H Q) : tDGet (liE K T W d) (liE K T W k) σ H Q := by
  obtain ⟨α, ρ, S, Q', X', st, en, h, kv, kx⟩ := h
  refine ⟨α, ρ, S, _, X', st, en, h, fun x S1 α1 H1 v p r hg => ?_, kx⟩
  refine ⟨α1, ρ, S1, _, X', p.st, p.env st en, hg, fun y S2 α2 H2 u p2 r2 hg2 => ?_, kx.after p⟩
  obtain ⟨n, kvs, j, w, rfl, hS, hj, hv, hq⟩ := hg2
  obtain ⟨a, ws, rfl, ea, e1, rr⟩ := p2.st.dct (p2.rel p.st r) hS
  obtain ⟨vv, e2, rv⟩ := (rr.val j).1 w hv
  exact ⟨a, vv, rfl, .inl ⟨ws, j, .inl e1, r2.key hj, e2.symm⟩, kv _ _ _ _ _ (p.trans p2) rv hq⟩
theorem getD_rel {ws : List (Key × V)} {kvs : List (Key × D)} {j : Key} {u : V} {d : D} (rr : RelKV K α H ws kvs) (r : Rel K α H u d) : Rel K α H ((valV ws j).getD u) ((valD kvs j).getD d) := by
  cases e : valD kvs j with
  | none => rw [(rr.val j).2 e]; exact r
  | some z =>
    obtain ⟨vv, e2, rv⟩ := (rr.val j).1 z e
    rw [e2]
    exact rv
theorem isD_of {x : D} {v : V} (st : StR K α H S) (r : Rel K α H v x) (h : isDct x S) : ∃ a, v = .ref a ∧ IsD H a := by
  obtain ⟨n, kvs, rfl, hS⟩ := h
  obtain ⟨a, ws, rfl, ea, e1, rr⟩ := st.dct r hS
  exact ⟨a, rfl, .inl ⟨ws, .inl e1⟩⟩
theorem li_dg1 {d k : FE} {Q : VK} (h : liE K T W (fDg1 d k) σ H Q) : tDGet1 (liE K T W d) (liE K T W k) σ H Q := by
  obtain ⟨α, ρ, S, Q', X', st, en, h, kv, kx⟩ := h
  refine ⟨α, ρ, S, _, X', st, en, h, fun x S1 α1 H1 v p r hg => ?_, kx⟩
  obtain ⟨a0, rfl, hd⟩ := isD_of p.st r hg.1
  refine ⟨a0, rfl, hd, α1, ρ, S1, _, X', p.st, p.env st en, hg.2, fun y S2 α2 H2 u p2 r2 hg2 => ?_, kx.after p⟩
  obtain ⟨n, kvs, j, rfl, hS, hj, hq⟩ := hg2
  obtain ⟨a, ws, ea0, ea, e1, rr⟩ := p2.st.dct (p2.rel p.st r) hS
  cases ea0
  exact ⟨_, .inl ⟨ws, j, .inl e1, r2.key hj, rfl⟩, kv _ _ _ _ _ (p.trans p2) (getD_rel rr .non) hq⟩
theorem li_dg2 {d k z : FE} {Q : VK} (h : liE K T W (fDg2 d k z) σ H Q) : tDGet2 (liE K T W d) (liE K T W k) (liE K T W z) σ H Q := by
  obtain ⟨α, ρ, S, Q', X', st, en, h, kv, kx⟩ := h
  refine ⟨α, ρ, S, _, X', st, en, h, fun x S1 α1 H1 v p r hg => ?_, kx⟩
  obtain ⟨a0, rfl, hd⟩ := isD_of p.st r hg.1
  refine ⟨a0, rfl, hd, α1, ρ, S1, _, X', p.st, p.env st en, hg.2, fun y S2 α2 H2 u p2 r2 hg2 => ?_, kx.after p⟩
  refine ⟨α2, ρ, S2, _, X', p2.st, (p.trans p2).env st en, hg2, fun z S3 α3 H3 w p3 r3 hg3 => ?_, kx.after (p.trans p2)⟩
  obtain ⟨n, kvs, j, rfl, hS, hj, hq⟩ := hg3
  obtain ⟨a, ws, ea0, ea, e1, rr⟩ := p3.st.dct ((p2.trans p3).rel p.st r) hS
  cases ea0
  exact ⟨_, .inl ⟨ws, j, .inl e1, (p3.rel p2.st r2).key hj, rfl⟩, kv _ _ _ _ _ ((p.trans p2).trans p3) (getD_rel rr r3) hq⟩
theorem isSome_rel {ws : List (Key × V)} {kvs : List (Key × D)} (rr : RelKV K α H ws kvs) (j : Key) : (valV ws j).isSome = (valD kvs j).isSome := by
  cases e : valD kvs j with
  | none =>
    rw [(rr.val j).2 e]
    rfl
  | some z =>
    obtain ⟨vv, e2, rv⟩ := (rr.val j).1 z e
    rw [e2]
    rfl
theorem li_din {k d : FE} {Q : VK} (h : liE K T W (fDin false k d) σ H Q) : tDIn (liE K T W k) (liE K T W d) σ H Q := by
  obtain ⟨α, ρ, S, Q', X', st, en, h, kv, kx⟩ := h
  refine ⟨α, ρ, S, _, X', st, en, h, fun y S1 α1 H1 v p r hg => ?_, kx⟩
  refine ⟨α1, ρ, S1, _, X', p.st, p.env st en, hg, fun x S2 α2 H2 u p2 r2 hg2 => ?_, kx.after p⟩
  obtain ⟨n, kvs, j, rfl, hS, hj, hq⟩ := hg2
  obtain ⟨a, ws, rfl, ea, e1, rr⟩ := p2.st.dct r2 hS
  exact ⟨a, _, rfl, .inl ⟨ws, j, .inl e1, (p2.rel p.st r).key hj, rfl⟩, kv _ _ _ _ _ (p.trans p2) (by rw [isSome_rel rr]; exact .bl _) hq⟩
theorem li_dnin {k d : FE} {Q : VK} (h : liE K T W (fDin true k d) σ H Q) : tDNotIn (liE K T W k) (liE K T W d) σ H Q := by
  obtain ⟨α, ρ, S, Q', X', st, en, h, kv, kx⟩ := h
  refine ⟨α, ρ, S, _, X', st, en, h, fun y S1 α1 H1 v p r hg => ?_, kx⟩
  refine ⟨α1, ρ, S1, _, X', p.st, p.env st en, hg, fun x S2 α2 H2 u p2 r2 hg2 => ?_, kx.after p⟩
  obtain ⟨n, kvs, j, rfl, hS, hj, hq⟩ := hg2
  obtain ⟨a, ws, rfl, ea, e1, rr⟩ := p2.st.dct r2 hS
  exact ⟨a, _, rfl, .inl ⟨ws, j, .inl e1, (p2.rel p.st r).key hj, rfl⟩, kv _ _ _ _ _ (p.trans p2) (by rw [isSome_rel rr]; exact .bl _) hq⟩
theorem li_dp {e d k : FE} {E : Ends} (h : liS K T W (fDp e d k) E σ H) : sDPut (liE K T W d) (liE K T W k) (liE K T W e) E σ H := by
  obtain ⟨α, ρ, S, κ, XE, st, en, h, l⟩ := h
  refine ⟨α, ρ, S, _, XE ρ, st, en, h, fun d S1 α1 H1 v p r hq => ?_, l.x st en⟩
  refine ⟨α1, ρ, S1, _, XE ρ, p.st, p.env st en, hq, fun x S2 α2 H2 ov p2 r2 hq2 => ?_, (l.x st en).after p⟩
  have p12 := p.trans p2
  refine ⟨α2, ρ, S2, _, XE ρ, p2.st, p12.env st en, hq2, fun y S3 α3 H3 iv p3 r3 hq3 => ?_, (l.x st en).after p12⟩
  obtain ⟨n, kvs, j, rfl, hS, hj, hz, hk⟩ := hq3
  have p123 := p12.trans p3
  obtain ⟨a, ws, rfl, ea, e1, rr⟩ := p3.st.dct (p3.rel p2.st r2) hS
  have rv := (p2.trans p3).rel p.st r
  have po : Post K α3 H3 α3 (upd H3 a (.dK (putK ws j v))) (S3.set n (.dct (putD kvs j d))) := Post.setCell p3.st hS ea fun t => ⟨_, upd_same, (rr.put j rv).mono t fun _ _ h => h⟩
  exact ⟨a, _, rfl, .inl ⟨ws, j, e1, r3.key hj, by rw [rr.length]; exact hz, rfl⟩, l.nx _ _ _ _ _ (p123.trans po) ((p123.trans po).env st en) hk⟩
theorem li_dn {Q : VK} (h : liE K T W fDn σ H Q) : tDNewK σ H Q := by
  obtain ⟨α, ρ, S, Q', X', st, en, h, kv, kx⟩ := h
  exact fun p hp => kv _ _ _ _ _ (Post.newCell (c0 := .dct []) st hp ⟨[], upd_same, relKV_nil⟩) (.ref (ref_new (β := []) st)) h
inductive RelPs (K : PySem.W.Frag) (α : List Addr) (H : Hp) : List (V × V) → List (D × D) → Prop
  | nil : RelPs K α H [] []
  | cons {v u : V} {d e : D} {vs : List (V × V)} {ds : List (D × D)} : Rel K α H v d → Rel K α H u e → RelPs K α H vs ds → RelPs K α H ((v, u) :: vs) ((d, e) :: ds)
theorem RelPs.after (p : Post K α H α' H' S') (st : StR K α H S) {vs : List (V × V)} {ds : List (D × D)} (h : RelPs K α H vs ds) : RelPs K α' H' vs ds := by
  induction h with
  | nil => exact .nil
  | cons a b _ ih => exact .cons (p.rel st a) (p.rel st b) ih
theorem li_prs : ∀ (ps : List (FE × FE)) {α : List Addr} {ρ : Env} {S : Sto} {H : Hp} {X' : Xk} {Q' : List (D × D) → Sto → Prop} {Q : List (V × V) → Hp → Prop}, StR K α H S → EnvR K α H σ ρ → LkX K T W σ α H X' →
    (∀ prs S' α' H' vs, Post K α H α' H' S' → RelPs K α' H' vs prs → Q' prs S' → Q vs H') → fPrs ps ρ S Q' X' → tPairs (ps.map fun p => (liE K T W p.1, liE K T W p.2)) σ H Q
  | [], _, _, _, _, _, _, _, st, en, kx, kq, h => kq [] _ _ _ _ (Post.refl st) .nil h
  | (a, b) :: r, α, ρ, S, H, X', Q', Q, st, en, kx, kq, h =>
    ⟨α, ρ, S, _, X', st, en, h, fun x S1 α1 H1 v p r1 h1 => ⟨α1, ρ, S1, _, X', p.st, p.env st en, h1, fun y S2 α2 H2 u p2 r2 h2 =>
      li_prs r p2.st ((p.trans p2).env st en) (kx.after (p.trans p2)) (fun prs S3 α3 H3 vs p3 r3 h3 => kq _ _ _ _ _ ((p.trans p2).trans p3) (.cons (p3.rel p2.st (p2.rel p.st r1)) (p3.rel p2.st r2) r3) h3) h2, kx.after p⟩, kx⟩
theorem RelPs.keys : ∀ {prs : List (D × D)} {vs : List (V × V)} {kvs : List (Key × D)}, RelPs K α H vs prs → keysD prs = some kvs → ∃ ws : List (Key × V), vs = ws.map (fun kv => (kV kv.1, kv.2)) ∧ RelKV K α H ws kvs
  | [], _, kvs, h, e => by
    cases h
    cases e
    exact ⟨[], rfl, relKV_nil⟩
  | (x, y) :: r, _, kvs, h, e => by
    cases h with
    | cons r1 r2 rr =>
      unfold keysD at e
      cases hk : x.key with
      | none => rw [hk] at e; cases e
      | some k =>
        rw [hk] at e
        cases hr : keysD r with
        | none => rw [hr] at e; cases e
        | some l =>
          rw [hr] at e
          cases e
          obtain ⟨ws, e1, q⟩ := RelPs.keys rr hr
          exact ⟨(k, _) :: ws, by rw [e1, r1.key hk]; rfl, q.cons r2⟩
theorem li_ds {ps : List (FE × FE)} {Q : VK} (h : liE K T W (fDs ps) σ H Q) : tDisp (ps.map fun p => (liE K T W p.1, liE K T W p.2)) σ H Q := by
  obtain ⟨α, ρ, S, Q', X', st, en, h, kv, kx⟩ := h
  intro p hp
  have pn : Post K α H (α ++ [p]) (upd H p (.dK [])) (S ++ [.dct []]) := Post.newCell (c0 := .dct []) st hp ⟨[], upd_same, relKV_nil⟩
  have ea : (α ++ [p])[S.length]? = some p := ref_new (β := []) st
  refine li_prs ps pn.st (pn.env st en) (kx.after pn) (fun prs S1 α1 H1 vs p1 r1 h1 => ?_) h
  obtain ⟨kvs, hk, hS, h15, hq⟩ := h1
  have ea1 := p1.get _ _ ea
  obtain ⟨w0, e1, r0⟩ := p1.st.cellA hS ea1
  cases r0.nil'
  obtain ⟨ws, e2, rr⟩ := r1.keys hk
  refine ⟨e1, ws, e2, by rw [rr.length]; exact h15, ?_⟩
  have po : Post K α1 H1 α1 (upd H1 p (.dK (mergeK [] ws))) (S1.set S.length (.dct (mergeD [] kvs))) := Post.setCell p1.st hS ea1 fun t => ⟨_, upd_same, (RelKV.merge rr relKV_nil).mono t fun _ _ h => h⟩
  exact kv _ _ _ _ _ (pn.trans (p1.trans po)) (.ref ea1) hq
def fRaise (f : Str) (c : Nat) (a : FA) : FS := fun ρ S k X => a ρ S (fun ds S1 => ∃ d, ds = [d] ∧ X ρ c S1.length (S1 ++ [.xd f d])) (X ρ)
theorem li_raise {f : Str} {c : Nat} {C : Addr} {a : FA} {E : Ends} (hT : T[c]? = some (C, f)) (h : liS K T W (fRaise f c a) E σ H) : tMkX C f (liA K T W a) σ H (fun cls d H' => W cls d σ H') := by
  obtain ⟨α, ρ, S, k, XE, st, en, h, l⟩ := h
  refine ⟨α, ρ, S, _, XE ρ, st, en, h, fun ds S1 α1 H1 vs p r hq => ?_, l.x st en⟩
  obtain ⟨d, rfl, hx⟩ := hq
  obtain ⟨v, rfl, rv⟩ := relL1 r
  refine ⟨v, rfl, fun dx hd => ?_⟩
  have pn : Post K α1 H1 (α1 ++ [dx]) (upd H1 dx (.xd [(f, v)])) (S1 ++ [.xd f d]) := Post.newCell p.st hd ⟨v, upd_same, Rel.mono (p.st.tkNew hd) pre_get d rv⟩
  exact l.x st en c S1.length _ _ _ _ _ (p.trans pn) ⟨C, f, dx, hT, rfl, rfl, ref_new (β := []) p.st⟩ hx
/-- try: b except C0 as <slot i>: s -/
def fTryAs (K : PySem.W.Frag) (T : XTab) (c0 : Value) (i : Nat) (b : FS) (s : Addr → Value → Option Addr → FS) : FS := fun ρ S k X => b ρ S k fun ρ' c m S' => ∃ C f t, T[c]? = some (C, f) ∧ PySem.W.exmOne K (.ref C) c0 = some t ∧
  (t = true → ∀ a dd, s a (.ref C) (some dd) (ρ'.set i (some (.exc a m dd))) S' ⟨fun ρ'' S'' => k.nx (ρ''.set i none) S'', k.rt, fun ρ'' S'' => k.bk (ρ''.set i none) S'', fun ρ'' S'' => k.ct (ρ''.set i none) S''⟩ fun _ => noX) ∧ (t = false → X ρ' c m S')
theorem li_tryAs {c0 : Value} {i : Nat} {b : FS} {s : Addr → Value → Option Addr → FS} {E : Ends} (h : liS K T W (fTryAs K T c0 i b s) E σ H) : liS K T (wAs K c0 i (fun a cls d => liS K T noW (s a cls d)) W E) b E σ H := by
  obtain ⟨α, ρ, S, k, XE, st, en, h, l⟩ := h
  refine ⟨α, ρ, S, k, _, st, en, h, ⟨l.nx, l.rt, l.bk, l.ct, fun ρ1 S1 α1 H1 σ1 p1 en1 c m S2 α2 H2 cls dx p2 hx hq => ?_⟩⟩
  obtain ⟨C, f, t, hT, hm, h1, h2⟩ := hq
  have hx0 := hx
  obtain ⟨C', f', dd, hT', rfl, rfl, hα⟩ := hx
  rw [hT] at hT'
  cases hT'
  have p12 := p1.trans p2
  refine ⟨t, hm, fun z a ha => ?_, fun z => l.ex ρ1 S1 α1 H1 σ1 p1 en1 c m S2 α2 H2 _ _ p2 hx0 (h2 z)⟩
  have l2 := l.after p12
  refine ⟨α2, _, S2, _, _, p2.st, (p2.env p1.st en1).set (.exc hα) i, h1 z a dd, ⟨fun ρ3 S3 α3 H3 σ3 p3 en3 q => ?_, l2.rt, fun ρ3 S3 α3 H3 σ3 p3 en3 q => ?_, fun ρ3 S3 α3 H3 σ3 p3 en3 q => ?_, fun _ _ _ _ _ _ _ => noLkX⟩⟩
  · exact l2.nx _ _ _ _ _ p3 (en3.unset i) q
  · exact l2.bk _ _ _ _ _ p3 (en3.unset i) q
  · exact l2.ct _ _ _ _ _ p3 (en3.unset i) q
/-- e.f of the caught exception -/
def fXf (a : Addr) (cls : Value) (d : Option Addr) (C : Addr) (f : Str) (e : FE) : FE := fun ρ S Q X => e ρ S (fun x S1 => cls = .ref C ∧ ∃ n dd v, x = .exc a n dd ∧ d = some dd ∧ S1[n]? = some (.xd f v) ∧ Q v S1) X
theorem li_xf {a C : Addr} {cls : Value} {d : Option Addr} {f : Str} {e : FE} {Q : VK} (h : liE K T W (fXf a cls d C f e) σ H Q) : tXf a cls d C f (liE K T W e) σ H Q := by
  obtain ⟨α, ρ, S, Q', X', st, en, h, kv, kx⟩ := h
  refine ⟨α, ρ, S, _, X', st, en, h, fun x S1 α1 H1 v p r hg => ?_, kx⟩
  obtain ⟨rfl, n, dd, y, rfl, rfl, hS, hq⟩ := hg
  cases r with
  | exc e =>
    obtain ⟨u, e1, ru⟩ := p.st.cellA hS e
    exact ⟨rfl, rfl, dd, _, u, rfl, e1, by simp [List.lookup], kv _ _ _ _ _ p ru hq⟩
/-- what the class must say for isinstance of a caught exception -/
structure XiC (K : PySem.W.Frag) (C : Addr) : Prop where
  cl : (PySem.W.clsIn K C).isSome = true
  ga : PySem.W.findIn K (.ref C) "__getattribute__" = some (some (.builtin "BaseException.__getattribute__"))
  gg : PySem.W.findIn K (.ref C) "__getattr__" = some none
  sb : PySem.W.subIn K (.ref C) (.type "BaseException") = some true
  ca : PySem.W.findIn K (.ref C) "__class__" = some (some (.builtin "object.__class__"))
  cg : PySem.W.specialIn K (.builtin "object.__class__") "__get__" = some (some (.builtin "getset_descriptor.__get__"))
  ct : PySem.W.takesIn K (.builtin "object.__class__") = some true
  cm : PySem.W.mroIn K C (.type "object") = some true
/-- isinstance(e, t) -/
def fXi (K : PySem.W.Frag) (a : Addr) (cls : Value) (d : Option Addr) (t : Value) (e : FE) : FE := fun ρ S Q X => e ρ S (fun x S1 => ∃ C n dd f v b, cls = .ref C ∧ XiC K C ∧ x = .exc a n dd ∧ d = some dd ∧ S1[n]? = some (.xd f v) ∧ PySem.W.kitOne K cls t = some b ∧ Q (.bl b) S1) X
def rIx (K : PySem.W.Frag) (a : Addr) (cls : Value) (d : Option Addr) (tv : V) (t : Value) : List V → Hp → VK → Prop := fun xs H Q => ∃ (C dd : Addr) (fs : List (Str × V)) (b : Bool), cls = .ref C ∧ XiC K C ∧ xs = [.ref a, tv] ∧ d = some dd ∧ H dd = some (.xd fs) ∧ PySem.W.kitOne K cls t = some b ∧ Q (.bl b) H
theorem call_xi {a : Addr} {cls : Value} {oe : Obj} {d : Option Addr} {pn : List (Addr × Obj)} {tv : V} {t : Value} (ht : ∀ u, RelV tv u → u = t) (hz : Zc cls d oe) (hf : ∃ vs, oe.data = .fields vs) : CallR (X.suite a ((a, oe) :: pn)) (.builtin "isinstance") (rIx X.K a cls d tv t) := by
  intro pins s σ H xs us Q I r h
  obtain ⟨C, dd, fs, b, rfl, c, rfl, rfl, hd, e, q⟩ := h
  cases r with
  | cons rx rr =>
    cases rr with
    | cons rt rr =>
      cases rr
      cases rx
      have et := ht _ rt
      subst et
      obtain ⟨hget, _⟩ := I.pin (a, oe) (List.mem_append.mpr (.inl List.mem_cons_self))
      obtain ⟨vs, hv⟩ := hf
      obtain ⟨mA, hns, hr⟩ : ∃ mA, s.heap.Ns1 dd mA ∧ ∀ f, RelO (fs.lookup f) (mA f) := I.hok dd _ hd
      obtain ⟨od, ho, _⟩ := lookIn_ns hns
      have J : PySem.W.InstAt s.heap a oe C (some od) := by
        refine ⟨hget, hz.1, by unfold PySem.W.notCls; rw [hv] <;> rfl, ?_⟩
        rw [hz.2]
        exact ho
      exact PySem.W.kia_one (PySem.W.kitx_exc c.cl c.ga c.gg c.sb c.ca c.cg c.ct c.cm) I.kIn J e (fun z => nomatch z) fun tk => ⟨.bl b, H, I.kept (t' := tk) fun _ _ z => z, rfl, q⟩
theorem li_xi {a : Addr} {cls : Value} {d : Option Addr} {tv : V} {t : Value} {e : FE} {Q : VK} (h : liE K T W (fXi K a cls d t e) σ H Q) : tCB (rIx K a cls d tv t) (tCons (liE K T W e) (tCons (tC tv) tNil)) σ H Q := by
  obtain ⟨α, ρ, S, Q', X', st, en, h, kv, kx⟩ := h
  refine ⟨α, ρ, S, _, X', st, en, h, fun x S1 α1 H1 v p r hg => ?_, kx⟩
  obtain ⟨C, n, dd, f, y, b, rfl, c, rfl, rfl, hS, hk, hq⟩ := hg
  cases r with
  | exc e =>
    obtain ⟨u, e1, ru⟩ := p.st.cellA hS e
    exact ⟨C, dd, _, b, rfl, c, rfl, rfl, e1, hk, kv _ _ _ _ _ p (.bl b) hq⟩
end
end Bc
end
section
namespace Bc
open PySem L2 PyProof.Rows BcZ BcO
/-- a def of the text as its callers see it -/
structure Def (P : Program) (w : World) (K : PySem.W.Frag) (mg : Str → Option Value) (base : Heap) (T : XTab) (k : Nat) (x : Str) (ps : List Str) (q : FSpec) : Prop where
  ex : ∃ f fd, FnOk P w K mg base (L2.CX P w) k f fd ps (spI K T q) ∧ mg x = some (.ref f) ∧ PySem.W.keepIn K (.ref f) = true ∧ Binds K fd ps []
/-- where it stands -/
structure At (K : PySem.W.Frag) (mg : Str → Option Value) (x : Str) (ps : List Str) (st : Stmt) : Prop where
  ex : ∃ f fd, mg x = some (.ref f) ∧ Fun K x x st f fd
  bd : ∀ f fd, Fun K x x st f fd → Binds K fd ps []
section
variable {K : PySem.W.Frag} {T : XTab} {W : WX} {α α' : List Addr} {H H' : Hp} {S S' : Sto} {ρ : Env} {σ : L2.St} {X : Cx} {k : Nat} {x : Str} {ps : List Str} {q : FSpec}
theorem def_mk {P : Program} {w : World} {mg : Str → Option Value} {base : Heap} {st : Stmt} {N : List Str} (A : At K mg x ps st) (Sc : FnScope N ps (defScope st)) (b : FS) (len : ∀ ds S Q X, q ds S Q X → ds.length = ps.length) (hk : Keeps N b q)
    (hb : ∀ (f : Addr) (cdv : Value) (A : Around) (outer : List PySem.Env) (s : Shared) (H : Hp) (E : XK), Room k (A.deeper (envOfC x (defScope st) s.heap.objs.size f cdv)) →
      PSs (cxOf (L2.CX P w) P w K mg base N x (defScope st) f cdv A outer s H E) (defBody st) (liS K T (fun cls d _ H => E cls d H) b)) : Def P w K mg base T (k + 1) x ps q := by
  obtain ⟨f, fd, hm, F⟩ := A.ex
  exact ⟨f, fd, fn_ok F Sc b len hk (hb f), hm, F.kp, A.bd f fd F⟩
theorem Def.up {P : Program} {w : World} {mg : Str → Option Value} {base : Heap} {j : Nat} (d : Def P w K mg base T k x ps q) (h : k ≤ j) : Def P w K mg base T j x ps q := by
  obtain ⟨f, fd, F, r⟩ := d.ex
  exact ⟨f, fd, F.mono h, r⟩
theorem Def.imp {P : Program} {w : World} {mg : Str → Option Value} {base : Heap} {q' : FSpec} (d : Def P w K mg base T k x ps q) (h : ∀ ds S Q X, q' ds S Q X → q ds S Q X) : Def P w K mg base T k x ps q' := by
  obtain ⟨f, fd, F, r⟩ := d.ex
  refine ⟨f, fd, F.imp (fun vs H Q E z => ?_), r⟩
  obtain ⟨α, S, ds, Q', X', st, rr, hq, kv, kx⟩ := z
  exact ⟨α, S, ds, Q', X', st, rr, h _ _ _ _ hq, kv, kx⟩
variable {a b c e : Expr} {es : List Expr} {fa fb fc : FE} {fe : FA} {pos p p1 p2 apos cpos : Pos} {op op' : CmpOp} {kk : Nat}
theorem b_v (i : Nat) (hN : X.N[i]? = some x := by rfl) (hv : Vis X.env.scope x := by first | exact Or.inl rfl | exact Or.inr (Or.inl rfl) | exact Or.inr (Or.inr rfl)) (hd : (x == ("__debug__" : Str)) = false := by decide)
    (hc : (x == ("__classdict__" : Str)) = false := by decide) : PE X (.Name x pos) (liE X.K T W (fVar i)) := p_var hN hv hd hc
theorem b_i {i : Int} : PE X (.Constant (.int i) kk pos) (liE X.K T W (fC (.int i))) := p_c pe_int fun _ _ => .int i
theorem b_b {i : Bool} : PE X (.Constant (.bool i) kk pos) (liE X.K T W (fC (.bl i))) := p_c pe_bl fun _ _ => .bl i
theorem b_n : PE X (.Constant .none kk pos) (liE X.K T W (fC .non)) := p_c pe_non fun _ _ => .non
theorem b_s {z : Str} : PE X (.Constant (.str z) kk pos) (liE X.K T W (fC (.str z))) := p_c pe_str fun _ _ => .str z
/-- a module's number -/
theorem b_gi {i : Int} (hm : ∃ t, X.mg x = some (.int i t)) (hg : Gl X x := by rfl) (hd : (x == ("__debug__" : Str)) = false := by decide) : PE X (.Name x pos) (liE X.K T W (fC (.int i))) := by
  obtain ⟨t, hm⟩ := hm
  exact p_c (pe_glob (v := .int i) hg hm ⟨t, rfl⟩ hd) fun _ _ => .int i
theorem b_op {o : Operator} (ha : PE X a (liE X.K T W fa)) (hb : PE X b (liE X.K T W fb)) : PE X (.BinOp a o b pos) (liE X.K T W (f2 (opBin o) fa fb)) := pe_imp (pe_op (ok_bin o) ha hb) fun _ _ _ h => li_f2 h
theorem b_neg (ha : PE X a (liE X.K T W fa)) : PE X (.UnaryOp .USub a pos) (liE X.K T W (f1 opNeg fa)) := pe_imp (pe_un ok_neg ha) fun _ _ _ h => li_f1 h
theorem b_cm (hr : Room k X.A) (ha : PE X a (liE X.K T W fa)) (hb : PE X b (liE X.K T W fb)) (hm : behindInMarks op b = false := by first | exact nomark _ | rfl | with_unfolding_all rfl) : PE X (.Compare a [op] [b] pos) (liE X.K T W (f2 (opCmp op) fa fb)) :=
  pe_imp (pe_cmpR (ok_cmp hr.units op) ha hb hm) fun _ _ _ h => li_f2 h
theorem b_ch (hr : Room k X.A) (ha : PE X a (liE X.K T W fa)) (hb : PE X b (liE X.K T W fb)) (hc : PE X c (liE X.K T W fc)) (hm : lastMarks [op, op'] [b, c] = false := by with_unfolding_all rfl) : PE X (.Compare a [op, op'] [b, c] pos) (liE X.K T W (fChn (opCmp op) (opCmp op') fa fb fc)) :=
  pe_imp (pe_chain (ok_cmp hr.units op) (ok_cmp hr.units op') ha hb hc hm) fun _ _ _ h => li_chn h
theorem b_ix (ha : PE X a (liE X.K T W fa)) (hb : PE X b (liE X.K T W fb)) (hs : PlainIx b := by exact fun _ _ => rfl) : PE X (.Subscript a b pos) (liE X.K T W (f2 opIx fa fb)) := pe_imp (pe_ix ok_ix ha hb hs) fun _ _ _ h => li_f2 h
theorem b_po0 : PO X none (liO X.K T W fNoP) := by
  have h := po_none (X := X)
  exact ⟨fun pins s σ H Q I z => h.run pins s σ H Q I (li_noP z)⟩
theorem b_po (ha : PE X a (liE X.K T W fa)) : PO X (some a) (liO X.K T W (fPart fa)) := by
  have h := po_some ha
  exact ⟨fun pins s σ H Q I z => h.run pins s σ H Q I (li_part z)⟩
theorem b_sl {lo hi : Option Expr} {fl fh : FO} (ha : PE X a (liE X.K T W fa)) (hl : PO X lo (liO X.K T W fl)) (hh : PO X hi (liO X.K T W fh)) : PE X (.Subscript a (.Slice lo hi none p2) pos) (liE X.K T W (fSl fa fl fh)) := pe_imp (pe_slice slR_ok ha hl hh) fun _ _ _ h => li_sl h
theorem b_a0 : PA X [] (liA X.K T W fNil) := pa_imp pa_nil fun _ _ _ h => li_nil h
theorem b_a (ha : PE X a (liE X.K T W fa)) (hr : PA X es (liA X.K T W fe)) (hs : starEach (a :: es) X.env = (false, eval a X.env) :: starEach es X.env := by rfl) : PA X (a :: es) (liA X.K T W (fCons fa fe)) := pa_imp (pa_cons ha hr hs) fun _ _ _ h => li_cons h
theorem b_t (h : PA X es (liA X.K T W fe)) : PE X (.Tuple es kk pos) (liE X.K T W (fTup fe)) := pe_imp (pe_tup h) fun _ _ _ h => li_tup h
theorem b_l (h : PA X es (liA X.K T W fe)) : PE X (.List es pos) (liE X.K T W (fLst fe)) := pe_imp (pe_lst h) fun _ _ _ h => li_lst h
/-- constants under T: pe_tup's own constant tuples -/
def Bi.isT : Bi → Bool
  | .int => true
  | .list => true
  | .tuple => true
  | _ => false
def Bi.nm : Bi → String
  | .len => "len"
  | .int => "int"
  | .list => "list"
  | .tuple => "tuple"
  | .sum => "sum"
  | .abs => "abs"
  | .min => "min"
  | .max => "max"
  | .all => "all"
  | .any => "any"
  | .sorted => "sorted"
theorem bi_f (hc : X.calm = true) : ∀ b : Bi, b.isT = false → CallR X (.builtin b.nm) (liN X.K (opBi b))
  | .len, _ => bi_len
  | .sum, _ => bi_sum hc
  | .abs, _ => bi_abs
  | .min, _ => bi_min hc
  | .max, _ => bi_max hc
  | .all, _ => bi_all hc
  | .any, _ => bi_any hc
  | .sorted, _ => bi_sorted
  | .int, h => by cases h
  | .list, h => by cases h
  | .tuple, h => by cases h
theorem bi_ty : ∀ b : Bi, b.isT = true → CallR X (.type b.nm) (liN X.K (opBi b))
  | .int, _ => bi_int
  | .list, _ => bi_list
  | .tuple, _ => bi_tuple
  | .len, h => by cases h
  | .sum, h => by cases h
  | .abs, h => by cases h
  | .min, h => by cases h
  | .max, h => by cases h
  | .all, h => by cases h
  | .any, h => by cases h
  | .sorted, h => by cases h
theorem bi_boot : ∀ b : Bi, bootBuiltins (Str.ofString b.nm) = some (if b.isT then .type b.nm else .builtin b.nm) := by
  intro b
  cases b <;> decide +kernel
theorem b_bi (b : Bi) (hm : X.mg (Str.ofString b.nm) = none) (ha : PA X (e :: es) (liA X.K T W fe)) (hc : X.calm = true := by rfl) (hg : Gl X (Str.ofString b.nm) := by rfl) (hn : Str.ofString b.nm ≠ "__name__" := by decide) (hdb : (Str.ofString b.nm == ("__debug__" : Str)) = false := by decide)
    (he : starEach (e :: es) X.env = (false, eval e X.env) :: starEach es X.env := by rfl) (hpl : (backTo pos (starEach es X.env)).any (·.1) = false := by rfl) : PE X (.Call (.Name (Str.ofString b.nm) p) (e :: es) [] pos) (liE X.K T W (fN (opBi b) fe)) := by
  have hv := bi_boot b
  cases hb : b.isT with
  | true =>
    rw [hb] at hv
    exact pe_imp (pe_callTy (bi_ty b hb) hg hm hv ha hn hdb he hpl) fun _ _ _ h => li_fN h
  | false =>
    rw [hb] at hv
    exact pe_imp (pe_callB (bi_f hc b hb) hg hm hv ha hn hdb he hpl) fun _ _ _ h => li_fN h
theorem liE_mono {f : FE} {Q R : VK} (h : liE K T W f σ H Q) (hq : ∀ v H, Q v H → R v H) : liE K T W f σ H R := by
  obtain ⟨α, ρ, S, Q', X', st, en, h, kv, kx⟩ := h
  exact ⟨α, ρ, S, Q', X', st, en, h, fun d S1 α1 H1 v p r z => hq _ _ (kv d S1 α1 H1 v p r z), kx⟩
theorem ty_boot : ∀ t : Ty, bootBuiltins (Str.ofString t.nm) = some (.type t.nm) := by
  intro t
  cases t <;> decide +kernel
/-- isinstance(e, T) -/
theorem b_isi (t : Ty) (hm : X.mg "isinstance" = none) (hmt : X.mg (Str.ofString t.nm) = none) (ha : PE X a (liE X.K T W fa)) (hg : Gl X "isinstance" := by rfl) (hgt : Gl X (Str.ofString t.nm) := by rfl) (hn : Str.ofString t.nm ≠ "__name__" := by decide) (hdb : (Str.ofString t.nm == ("__debug__" : Str)) = false := by decide)
    (he : starEach (a :: [.Name (Str.ofString t.nm) p1]) X.env = (false, eval a X.env) :: starEach [.Name (Str.ofString t.nm) p1] X.env := by rfl) (he2 : starEach [.Name (Str.ofString t.nm) p1] X.env = [(false, eval (.Name (Str.ofString t.nm) p1) X.env)] := by rfl) (hpl : (backTo pos (starEach [.Name (Str.ofString t.nm) p1] X.env)).any (·.1) = false := by rfl) :
    PE X (.Call (.Name "isinstance" p) [a, .Name (Str.ofString t.nm) p1] [] pos) (liE X.K T W (f1 (opIsi t) fa)) :=
  pe_imp (pe_callB (bi_isi t) hg hm (by decide +kernel) (pa_cons ha (pa_cons (pe_bltn hgt hmt (ty_boot t) (v := .ty t.nm) rfl hn hdb) pa_nil he2) he) (by decide) (by decide) he hpl) fun _ _ _ h =>
    liE_mono (li_f1 h) fun v H z => ⟨v, rfl, z⟩
/-- a call of a def -/
theorem b_call (d : Def X.prog X.w X.K X.mg X.base T k x ps q) (hr : Room k X.A) (tk : Takes X W) (ha : PA X (e :: es) (liA X.K T W fe)) (hg : Gl X x := by rfl) (hdb : (x == ("__debug__" : Str)) = false := by decide)
    (he : starEach (e :: es) X.env = (false, eval e X.env) :: starEach es X.env := by rfl) (hpl : (backTo pos (starEach es X.env)).any (·.1) = false := by rfl) : PE X (.Call (.Name x p) (e :: es) [] pos) (liE X.K T W (fCall q fe)) := by
  obtain ⟨f, fd, F, hm, kp, bd⟩ := d.ex
  exact pe_imp (pe_callSD F hr hg hm kp bd .nil (fun σ => passAt tk σ) ha hdb he hpl) fun _ _ _ h => li_call h
theorem b_me (m : Me) {n : Str} (ho : PE X a (liE X.K T W fa)) (ha : PA X (e :: es) (liA X.K T W fe)) (en : m.nm = n := by rfl) (hb : attributeBase a n X.env (eval a X.env) = eval a X.env := by rfl)
    (hfew : ((backTo cpos (starEach (e :: es) X.env)).all (fun x => !x.1) && (backToKw cpos (keywordEach [] X.env)).all (fun x => x.1.isSome)
      && decide ((e :: es).length + ([] : List Keyword).length + (if ([] : List Keyword).isEmpty then 0 else 1) < 30)) = true := by rfl)
    (hline : (apos.endLine == cpos.line) = true := by rfl) (hs : starEach (e :: es) X.env = (false, eval e X.env) :: starEach es X.env := by rfl) (hpl : (backTo cpos (starEach es X.env)).any (·.1) = false := by rfl) :
    PE X (.Call (.Attribute a n apos) (e :: es) [] cpos) (liE X.K T W (fMe m fa fe)) := by
  subst en
  exact pe_imp (pe_bm (me_plain m) (me_slot m) (me_typ m) (me_ok m) ho ha hb hfew hline hs hpl) fun _ _ _ h => li_me h
theorem b_me0 (m : Me) {n : Str} (ho : PE X a (liE X.K T W fa)) (en : m.nm = n := by rfl) (hb : attributeBase a n X.env (eval a X.env) = eval a X.env := by rfl) (hline : (apos.endLine == cpos.line) = true := by rfl) :
    PE X (.Call (.Attribute a n apos) [] [] cpos) (liE X.K T W (fMe m fa fNil)) := by
  subst en
  exact pe_imp (pe_bm0 (me_plain m) (me_slot m) (me_typ m) (me_ok m) ho hb hline) fun _ _ _ h => li_me0 h
theorem b_if {ft : FT} (hc : PT X c (liT X.K T W ft)) (ha : PE X a (liE X.K T W fa)) (hb : PE X b (liE X.K T W fb)) : PE X (.IfExp c a b pos) (liE X.K T W (fIf ft fa fb)) := pe_imp (pe_ifExp hc ha hb) fun _ _ _ h => li_if h
theorem b_one {o : BoolOp} (h : PE X a (liE X.K T W fa)) : PE X (.BoolOp o [a] pos) (liE X.K T W fa) := pe_one h
theorem b_and {r : List Expr} (ha : PE X a (liE X.K T W fa)) (hb : PE X (.BoolOp .And (b :: r) pos) (liE X.K T W fb)) : PE X (.BoolOp .And (a :: b :: r) pos) (liE X.K T W (fAndV fa fb)) := pe_imp (pe_and ha hb) fun _ _ _ h => li_andV h
theorem b_or {r : List Expr} (ha : PE X a (liE X.K T W fa)) (hb : PE X (.BoolOp .Or (b :: r) pos) (liE X.K T W fb)) : PE X (.BoolOp .Or (a :: b :: r) pos) (liE X.K T W (fOrV fa fb)) := pe_imp (pe_or ha hb) fun _ _ _ h => li_orV h
theorem b_not (ha : PE X a (liE X.K T W fa)) : PE X (.UnaryOp .Not a pos) (liE X.K T W (fNotV fa)) := pe_imp (pe_not ha) fun _ _ _ h => li_notV h
theorem b_dg {hr : Room k X.A} (ha : PE X a (liE X.K T W fa)) (hb : PE X b (liE X.K T W fb)) (hs : NoSl b := by exact fun _ _ => rfl) : PE X (.Subscript a b pos) (liE X.K T W (fDg fa fb)) := pe_imp (pe_dget (hu_of hr) ha hb hs) fun _ _ _ h => li_dg h
theorem b_din (hr : Room k X.A) (ha : PE X a (liE X.K T W fa)) (hb : PE X b (liE X.K T W fb)) (hm : behindInMarks .In b = false := by rfl) : PE X (.Compare a [.In] [b] pos) (liE X.K T W (fDin false fa fb)) := pe_imp (pe_cmp (pc_din (hu_of hr) ha hb) hm) fun _ _ _ h => li_din h
theorem b_dnin (hr : Room k X.A) (ha : PE X a (liE X.K T W fa)) (hb : PE X b (liE X.K T W fb)) (hm : behindInMarks .NotIn b = false := by rfl) : PE X (.Compare a [.NotIn] [b] pos) (liE X.K T W (fDin true fa fb)) := pe_imp (pe_cmp (pc_dnotin (hu_of hr) ha hb) hm) fun _ _ _ h => li_dnin h
theorem b_dn : PE X (.Dict [] [] pos) (liE X.K T W fDn) := pe_imp pe_dnewK fun _ _ _ h => li_dn h
theorem b_pr0 : PPs X pos [] [] [] := pps_nil
theorem b_ds {keys : List (Option Expr)} {values : List Expr} {prs : List (FE × FE)} (h : PPs X pos keys values (prs.map fun p => (liE X.K T W p.1, liE X.K T W p.2))) (hall : keys.all (·.isSome) = true := by rfl) (hl : keys.length = values.length := by rfl) (h0 : keys ≠ [] := by exact List.cons_ne_nil _ _) (h15 : keys.length ≤ 15 := by decide) :
    PE X (.Dict keys values pos) (liE X.K T W (fDs prs)) := pe_imp (pe_disp h hall hl h0 h15) fun _ _ _ h => li_ds h
theorem c_cm (hr : Room k X.A) (ha : PE X a (liE X.K T W fa)) (hb : PE X b (liE X.K T W fb)) (hm : behindInMarks op b = false := by first | exact nomark _ | rfl | with_unfolding_all rfl) : PT X (.Compare a [op] [b] pos) (liT X.K T W (fTst (f2 (opCmp op) fa fb))) :=
  pt_imp (pt_cmpR (ok_cmp hr.units op) ha hb hm) fun _ _ _ h => li_f2 (li_tst h)
theorem c_ch (hr : Room k X.A) (ha : PE X a (liE X.K T W fa)) (hb : PE X b (liE X.K T W fb)) (hc : PE X c (liE X.K T W fc)) (hm : lastMarks [op, op'] [b, c] = false := by with_unfolding_all rfl) : PT X (.Compare a [op, op'] [b, c] pos) (liT X.K T W (fTst (fChn (opCmp op) (opCmp op') fa fb fc))) :=
  pt_imp (pt_chain (ok_cmp hr.units op) (ok_cmp hr.units op') ha hb hc hm) fun _ _ _ h => li_chn (li_tst h)
theorem c_din (hr : Room k X.A) (ha : PE X a (liE X.K T W fa)) (hb : PE X b (liE X.K T W fb)) (hm : behindInMarks .In b = false := by rfl) : PT X (.Compare a [.In] [b] pos) (liT X.K T W (fTst (fDin false fa fb))) := pt_imp (pt_cmp (pc_din (hu_of hr) ha hb) hm) fun _ _ _ h => li_din (li_tst h)
theorem c_dnin (hr : Room k X.A) (ha : PE X a (liE X.K T W fa)) (hb : PE X b (liE X.K T W fb)) (hm : behindInMarks .NotIn b = false := by rfl) : PT X (.Compare a [.NotIn] [b] pos) (liT X.K T W (fTst (fDin true fa fb))) := pt_imp (pt_cmp (pc_dnotin (hu_of hr) ha hb) hm) fun _ _ _ h => li_dnin (li_tst h)
/-- a value that is a bool -/
theorem c_v (h : PE X e (liE X.K T W fa)) (he : ∀ whole, isTrue e X.env whole = (do let v ← whole; standAt e.pos; holding [v] (truthy v)) := by intro _; rfl) : PT X e (liT X.K T W (fTst fa)) := pt_imp (pt_val h he) fun _ _ _ h => li_tst h
/-- any value's truth -/
theorem c_t (h : PE X e (liE X.K T W fa)) (he : ∀ whole, isTrue e X.env whole = (do let v ← whole; standAt e.pos; holding [v] (truthy v)) := by intro _; rfl) : PT X e (liT X.K T W (fTru fa)) := pt_imp (pt_truth h he) fun _ _ _ h => li_tru h
section
variable {fA fB : FT} {r : List Expr}
theorem pw_imp {t t' : TT} (h : PW X e t) (k : ∀ σ H Q, t' σ H Q → t σ H Q) : PW X e t' := ⟨fun wh pins s σ H Q I z => h.run wh pins s σ H Q I (k _ _ _ z)⟩
theorem c_and1 (h : PT X a (liT X.K T W fA)) : PW X (.BoolOp .And [a] pos) (liT X.K T W fA) := pw_and1 h
theorem c_or1 (h : PT X a (liT X.K T W fA)) : PW X (.BoolOp .Or [a] pos) (liT X.K T W fA) := pw_or1 h
theorem c_and (h : PT X a (liT X.K T W fA)) (g : PW X (.BoolOp .And (b :: r) pos) (liT X.K T W fB)) : PW X (.BoolOp .And (a :: b :: r) pos) (liT X.K T W (fAnd fA fB)) := pw_imp (pw_and h g) fun _ _ _ h => li_and h
theorem c_or (h : PT X a (liT X.K T W fA)) (g : PW X (.BoolOp .Or (b :: r) pos) (liT X.K T W fB)) : PW X (.BoolOp .Or (a :: b :: r) pos) (liT X.K T W (fOr fA fB)) := pw_imp (pw_or h g) fun _ _ _ h => li_or h
theorem c_w {t : TT} (h : PW X a t) : PT X a t := h.pt
theorem c_not (h : PT X a (liT X.K T W fA)) : PT X (.UnaryOp .Not a pos) (liT X.K T W (fNot fA)) := pt_imp (pt_not h) fun _ _ _ h => li_not h
end
section
variable {tg : Expr} {elts : List Expr} {tpos : Pos}
theorem i_s (h : PE X e (liE X.K T W fa)) : PI X tg e (liI X.K T W (fSeq fa)) := pi_imp (pi_sq h) fun _ _ _ h => li_seq h
theorem i_r1 (hm : X.mg "range" = none) (h : PA X [a] (liA X.K T W fe)) (hg : Gl X "range" := by rfl) (hs : starEach [a] X.env = [(false, eval a X.env)] := by rfl) : PI X tg (.Call (.Name "range" p) [a] [] pos) (liI X.K T W (fRng1 fe)) := pi_imp (pi_range1 hg hm h hs) fun _ _ _ h => li_rng1 h
theorem i_r2 (hm : X.mg "range" = none) (h : PA X [a, b] (liA X.K T W fe)) (hg : Gl X "range" := by rfl) (hs : starEach [a, b] X.env = [(false, eval a X.env), (false, eval b X.env)] := by rfl) (hs2 : starEach [b] X.env = [(false, eval b X.env)] := by rfl) :
    PI X tg (.Call (.Name "range" p) [a, b] [] pos) (liI X.K T W (fRng2 fe)) := pi_imp (pi_range2 hg hm h hs hs2) fun _ _ _ h => li_rng2 h
theorem i_en (hm : X.mg "enumerate" = none) (h : PA X [e] (liA X.K T W fe)) (hg : Gl X "enumerate" := by rfl) (hs : starEach [e] X.env = [(false, eval e X.env)] := by rfl) : PI X (.Tuple elts kk tpos) (.Call (.Name "enumerate" p) [e] [] pos) (liI X.K T W (fEnum fe)) :=
  pi_imp (pi_en hg hm h hs) fun _ _ _ h => li_enum h
theorem i_z (hm : X.mg "zip" = none) (h : PA X [a, b] (liA X.K T W fe)) (hg : Gl X "zip" := by rfl) (hs : starEach [a, b] X.env = (false, eval a X.env) :: starEach [b] X.env := by rfl) (hpl : (backTo pos (starEach [b] X.env)).any (·.1) = false := by rfl) :
    PI X (.Tuple elts kk tpos) (.Call (.Name "zip" p) [a, b] [] pos) (liI X.K T W (fZip false fe)) := pi_imp (pi_zi hg hm h hs hpl) fun _ _ _ h => li_zip h
theorem i_zk {kp kp2 : Pos} {kn : Nat} {s : Bool} (hm : X.mg "zip" = none) (h : PA X [a, b] (liA X.K T W fe)) (hg : Gl X "zip" := by rfl) (hs : starEach [a, b] X.env = (false, eval a X.env) :: starEach [b] X.env := by rfl) (hs2 : starEach [b] X.env = [(false, eval b X.env)] := by rfl) :
    PI X (.Tuple elts kk tpos) (.Call (.Name "zip" p) [a, b] [⟨some "strict", .Constant (.bool s) kn kp2, kp⟩] pos) (liI X.K T W (fZip s fe)) := pi_imp (pi_zik hg hm h hs hs2) fun _ _ _ h => li_zip h
variable {scope : Scope} {own : List (Str × Nat)} {is is1 : List Nat} {fi fi1 : FI} {g g1 : FG} {ft ft1 : FT} {ifs ifs1 : List Expr} {tg1 : Expr} {iter iter1 : Expr}
theorem l_0 : PTs X [] (liT X.K T W fYes) := ⟨fun pins s σ H Q I z => pts_nil.run pins s σ H Q I (li_yes z)⟩
theorem l_1 (h : PT X c (liT X.K T W ft)) : PTs X [c] (liT X.K T W ft) := pts_one h
abbrev InBlk (X : Cx) (scope : Scope) (R : Cx → Prop) : Prop := ∀ (s : Shared) (H : Hp) (C : Addr) (cl : List (Str × Addr)) (fp : List Addr), R (X.blk s H scope (compEnvC scope cl C X.env) fp)
theorem b_lc (own : List (Str × Nat)) (hi : PI X tg iter (liI X.K T W fi)) (hg : InBlk X scope fun Y => PG Y tg (liG X.K is g)) (ht : InBlk X scope fun Y => PTs Y ifs (liT X.K T noW ft)) (he : InBlk X scope fun Y => PE Y e (liE X.K T noW fa)) (ok : blkC X.N X.env.scope scope own = true := by kernel_rfl)
    (hown : ∀ i ∈ is, i ∈ own.map (·.2) := by decide) (hc : X.calm = true := by rfl) (hN : X.N.Nodup := by decide +kernel) (hs : ∀ x, foldedSetIterable iter X.env x = pure x := by intro _; rfl) : PE X (.ListComp e [⟨tg, iter, ifs, 0⟩] scope pos) (liE X.K T W (fLc (own.map (·.2)) fi g ft fa)) :=
  pe_imp (pe_lc hc hN hi (blkOk_by ok) hg ht he hs) fun _ _ _ h => li_lc hown h
theorem b_lc2 (own : List (Str × Nat)) (own1 : List Nat) (hi : PI X tg iter (liI X.K T W fi)) (hg : InBlk X scope fun Y => PG Y tg (liG X.K is g)) (ht : InBlk X scope fun Y => PTs Y ifs (liT X.K T noW ft)) (hi1 : InBlk X scope fun Y => PI Y tg1 iter1 (liI X.K T noW fi1)) (hg1 : InBlk X scope fun Y => PG Y tg1 (liG X.K is1 g1)) (ht1 : InBlk X scope fun Y => PTs Y ifs1 (liT X.K T noW ft1))
    (he : InBlk X scope fun Y => PE Y e (liE X.K T noW fa)) (ok : blkC X.N X.env.scope scope own = true := by kernel_rfl) (hv : ∀ i ∈ own1, i ∈ own.map (·.2) := by decide)
    (hown : ∀ i ∈ is, i ∈ own.map (·.2) := by decide) (hown1 : ∀ i ∈ is1, i ∈ own1 := by decide) (hc : X.calm = true := by rfl) (hN : X.N.Nodup := by decide +kernel) (hs : ∀ x, foldedSetIterable iter X.env x = pure x := by intro _; rfl) (hs1 : ∀ env x, foldedSetIterable iter1 env x = pure x := by intro _ _; rfl) :
    PE X (.ListComp e [⟨tg, iter, ifs, 0⟩, ⟨tg1, iter1, ifs1, 0⟩] scope pos) (liE X.K T W (fLc2 (own.map (·.2)) fi g ft own1 fi1 g1 ft1 fa)) :=
  pe_imp (pe_lc2 hc hN hi (blkOk_by ok) hv hg ht hi1 hg1 ht1 he hs hs1) fun _ _ _ h => li_lc2 hown hown1 h
variable {st : Stmt} {rest body : List Stmt} {i j : Nat} {fs gs : FS} {py spos : Pos} {y : Str}
theorem s_0 : PSs X [] (liS X.K T W fNext) := pss_imp pss_nil fun _ _ _ h => li_next h
theorem s_c (h : PS X st (liS X.K T W fs)) (g : PSs X rest (liS X.K T W gs)) : PSs X (st :: rest) (liS X.K T W (fSq fs gs)) := pss_imp (pss_cons h g) fun _ _ _ h => li_sq h
theorem s_1 (h : PS X st (liS X.K T W fs)) : PSs X [st] (liS X.K T W fs) := pss_one h
theorem s_set (i : Nat) (he : PE X e (liE X.K T W fa)) (hN : X.N.Nodup := by decide +kernel) (hi : X.N[i]? = some x := by rfl) (hx : Loc X.env.scope x := by first | exact Or.inl rfl | exact Or.inr rfl) (hs : swapsWith e (some (.Name x p)) pos.line X.env = pure false := by rfl)
    (hf : X.fn x = true ∨ X.env.scope.names.lookup x = some .local := by first | exact .inl rfl | exact .inr rfl) : PS X (.Assign [.Name x p] e pos) (liS X.K T W (fSet i fa)) := ps_imp (ps_set hN hi hx he hs hf) fun _ _ _ h => li_set h
/-- name = [..] on one line -/
theorem s_lc (i : Nat) (own : List (Str × Nat)) (hi : PI X tg iter (liI X.K T W fi)) (hg : InBlk X scope fun Y => PG Y tg (liG X.K is g)) (ht : InBlk X scope fun Y => PTs Y ifs (liT X.K T noW ft)) (he : InBlk X scope fun Y => PE Y e (liE X.K T noW fa)) (ok : blkC X.N X.env.scope scope own = true := by kernel_rfl)
    (hown : ∀ i ∈ is, i ∈ own.map (·.2) := by decide) (hc : X.calm = true := by rfl) (hN : X.N.Nodup := by decide +kernel) (hy : X.N[i]? = some y := by rfl) (hyl : X.env.scope.names.lookup y = some .local := by rfl) (hk : X.env.scope.kind = .function := by rfl) (hl : (py.line == pos.line) = true := by rfl)
    (hna : (scope.names.any fun (n, k) => n == y && (k == .local || k == .cell)) = false := by kernel_rfl) (hs : ∀ x, foldedSetIterable iter X.env x = pure x := by intro _; rfl) :
    PS X (.Assign [.Name y py] (.ListComp e [⟨tg, iter, ifs, 0⟩] scope pos) spos) (liS X.K T W (fSet i (fLc (own.map (·.2)) fi g ft fa))) :=
  ps_imp (ps_setLc hc hN hy hyl (sw_true hk hyl hl hna) hi (blkOk_by ok) hg ht he hs) fun E σ H h => li_lc hown (li_set h)
theorem s_lc2 (i : Nat) (own : List (Str × Nat)) (own1 : List Nat) (hi : PI X tg iter (liI X.K T W fi)) (hg : InBlk X scope fun Y => PG Y tg (liG X.K is g)) (ht : InBlk X scope fun Y => PTs Y ifs (liT X.K T noW ft)) (hi1 : InBlk X scope fun Y => PI Y tg1 iter1 (liI X.K T noW fi1)) (hg1 : InBlk X scope fun Y => PG Y tg1 (liG X.K is1 g1)) (ht1 : InBlk X scope fun Y => PTs Y ifs1 (liT X.K T noW ft1))
    (he : InBlk X scope fun Y => PE Y e (liE X.K T noW fa)) (ok : blkC X.N X.env.scope scope own = true := by kernel_rfl) (hv : ∀ i ∈ own1, i ∈ own.map (·.2) := by decide)
    (hown : ∀ i ∈ is, i ∈ own.map (·.2) := by decide) (hown1 : ∀ i ∈ is1, i ∈ own1 := by decide) (hc : X.calm = true := by rfl) (hN : X.N.Nodup := by decide +kernel) (hy : X.N[i]? = some y := by rfl) (hyl : X.env.scope.names.lookup y = some .local := by rfl) (hk : X.env.scope.kind = .function := by rfl) (hl : (py.line == pos.line) = true := by rfl)
    (hna : (scope.names.any fun (n, k) => n == y && (k == .local || k == .cell)) = false := by kernel_rfl) (hs : ∀ x, foldedSetIterable iter X.env x = pure x := by intro _; rfl) (hs1 : ∀ env x, foldedSetIterable iter1 env x = pure x := by intro _ _; rfl) :
    PS X (.Assign [.Name y py] (.ListComp e [⟨tg, iter, ifs, 0⟩, ⟨tg1, iter1, ifs1, 0⟩] scope pos) spos) (liS X.K T W (fSet i (fLc2 (own.map (·.2)) fi g ft own1 fi1 g1 ft1 fa))) :=
  ps_imp (ps_setLc2 hc hN hy hyl (sw_true hk hyl hl hna) hi (blkOk_by ok) hv hg ht hi1 hg1 ht1 he hs hs1) fun E σ H h => li_lc2 hown hown1 (li_set h)
theorem s_asg (he : PE X e (liE X.K T W fa)) (hg : PG X tg (liG X.K is g)) (hs : swapsWithSole [tg] e pos.line X.env = pure false := by rfl) (hw : swappedStores [tg] e X.env = pure none := by rfl) (h1 : (assignEach [tg] X.env).map (·.2) = [assign tg X.env] := by rfl) :
    PS X (.Assign [tg] e pos) (liS X.K T W (fAsg g fa)) := ps_imp (ps_asg he hg hs hw h1) fun _ _ _ h => li_asg h
theorem s_par (i j : Nat) {x y : Str} {px pt p2t : Pos} {kt k2 : Nat} (ha : PA X [a, b] (liA X.K T W fe)) (hc : X.calm = true := by rfl) (hN : X.N.Nodup := by decide +kernel) (hi : X.N[i]? = some x := by rfl) (hj : X.N[j]? = some y := by rfl) (hij : i ≠ j := by decide)
    (hx : X.env.scope.names.lookup x = some .local := by rfl) (hy : X.env.scope.names.lookup y = some .local := by rfl) (hw : swappedStores [.Tuple [.Name x px, .Name y py] kt pt] (.Tuple [a, b] k2 p2t) X.env = pure (some [x, y]) := by rfl)
    (hs : swapsWithSole [.Tuple [.Name x px, .Name y py] kt pt] (.Tuple [a, b] k2 p2t) pos.line X.env = pure false := by rfl) : PS X (.Assign [.Tuple [.Name x px, .Name y py] kt pt] (.Tuple [a, b] k2 p2t) pos) (liS X.K T W (fPar i j fe)) :=
  ps_imp (ps_par hc hN hi hj hij hx hy ha hw hs) fun _ _ _ h => li_par h
theorem s_xp (he : PE X e (liE X.K T W fa)) (hs : swapsWith e none pos.line X.env = pure false := by rfl) : PS X (.Expr e pos) (liS X.K T W (fXp fa)) := ps_imp (ps_expr he hs) fun _ _ _ h => li_xp h
theorem s_ret (he : PE X e (liE X.K T W fa)) : PS X (.Return (some e) pos) (liS X.K T W (fRet fa)) := ps_imp (ps_ret he) fun _ _ _ h => li_ret h
theorem s_retN : PS X (.Return none pos) (liS X.K T W fRetN) := ps_imp ps_retN fun _ _ _ h => li_retN h
theorem s_brk : PS X (.Break pos) (liS X.K T W fBrk) := ps_imp ps_break fun _ _ _ h => li_brk h
theorem s_cnt : PS X (.Continue pos) (liS X.K T W fCnt) := ps_imp ps_continue fun _ _ _ h => li_cnt h
theorem s_pass : PS X (.Pass pos) (liS X.K T W fNext) := ps_imp ps_pass fun _ _ _ h => li_next h
theorem s_never : PS X st (liS X.K T W fNever) := ps_imp ps_never fun _ _ _ h => by
  obtain ⟨_, _, _, _, _, _, _, h, _⟩ := h
  exact h
theorem s_if {ft : FT} {l : List Stmt} {m : List Stmt} (hc : PT X c (liT X.K T W ft)) (ha : PSs X l (liS X.K T W fs)) (hb : PSs X m (liS X.K T W gs)) : PS X (.If c l m pos) (liS X.K T W (fIfS ft fs gs)) := ps_imp (ps_if hc ha hb) fun _ _ _ h => li_ifS h
theorem s_for (hp : PassesOwn (model X.prog X.w) X.A X.env X.xe) (hi : PI X tg iter (liI X.K T W fi)) (hg : PG X tg (liG X.K is g)) (hb : PSs X body (liS X.K T W fs)) (hc : X.calm = true := by rfl) (hs : ∀ x, foldedSetIterable iter X.env x = pure x := by intro _; rfl) :
    PS X (.For tg iter body [] pos) (liS X.K T W (fFor fi g fs)) := ps_imp (ps_for hp hc hi hg hb hs) fun _ _ _ h => li_for h
theorem s_wh {ft : FT} (hp : PassesOwn (model X.prog X.w) X.A X.env X.xe) (hc : PT X c (liT X.K T W ft)) (hb : PSs X body (liS X.K T W fs)) : PS X (.While c body [] pos) (liS X.K T W (fWh ft fs)) := ps_imp (ps_while hp hc hb) fun _ _ _ h => li_wh h
theorem s_aug (i : Nat) (o : Ao) (he : PE X e (liE X.K T W fa)) {op : Operator} (eo : o.op = op := by rfl) (hN : X.N.Nodup := by decide +kernel) (hi : X.N[i]? = some x := by rfl) (hx : Loc X.env.scope x := by first | exact Or.inl rfl | exact Or.inr rfl)
    (hf : X.fn x = true ∨ X.env.scope.names.lookup x = some .local := by first | exact .inl rfl | exact .inr rfl) : PS X (.AugAssign (.Name x p) op e pos) (liS X.K T W (fAug i o fa)) := by
  subst eo
  exact ps_imp (ps_aug hN hi hx he (ip_ao o) hf) fun _ _ _ h => li_aug h
theorem s_sto (he : PE X e (liE X.K T W fa)) (ho : PE X a (liE X.K T W fb)) (hi : PE X b (liE X.K T W fc)) (ha : ∀ v, assign (.Subscript a b p) X.env v = (do
      let ov ← holding [v] (eval a X.env)
      let iv ← holding [v, ov] (eval b X.env)
      standAt p
      holding [v, ov, iv] (setItem ov iv v)
      release [v, ov, iv] []) := by intro _; rfl) (hs : swapsWithSole [.Subscript a b p] e pos.line X.env = pure false := by rfl) (hw : swappedStores [.Subscript a b p] e X.env = pure none := by rfl) (h1 : (assignEach [.Subscript a b p] X.env).map (·.2) = [assign (.Subscript a b p) X.env] := by rfl) :
    PS X (.Assign [.Subscript a b p] e pos) (liS X.K T W (fSto fa fb fc)) := ps_imp (ps_asg he (pg_sub ho hi set_list ha) hs hw h1) fun _ _ _ h => li_sto h
theorem s_dp (hr : Room k X.A) (he : PE X e (liE X.K T W fa)) (ho : PE X a (liE X.K T W fb)) (hi : PE X b (liE X.K T W fc)) (hs : swapsWith e (some (.Subscript a b p)) pos.line X.env = pure false := by rfl) : PS X (.Assign [.Subscript a b p] e pos) (liS X.K T W (fDp fa fb fc)) :=
  ps_imp (ps_dput (hu_of hr) ho hi he hs) fun _ _ _ h => li_dp h
end
/-- an exception class of the text -/
structure Ex (P : Program) (w : World) (K : PySem.W.Frag) (mg : Str → Option Value) (base : Heap) (T : XTab) (x : Str) (c : Nat) (f : Str) : Prop where
  ex : ∃ (C fI : Addr) (fd : FuncData) (B newId initId : String) (bmB : List Value) (ps : List Str), T[c]? = some (C, f) ∧ mg x = some (.ref C) ∧ ExcBaseFacts B newId initId bmB ∧ OxC K C bmB newId ∧ PySem.W.findIn K (.ref C) "__init__" = some (some (.ref fI)) ∧ PySem.W.typeIn K (.ref fI) = some (.type "function") ∧
    FnOk P w K mg base (L2.CX P w) 1 fI fd ps (spOx C f) ∧ Binds K fd ps []
theorem s_raise {f : Str} {cn : Nat} {p2 : Pos} (E : Ex X.prog X.w X.K X.mg X.base T x cn f) (hr : Room (1 + 1) X.A) (tk : Takes X W) (ha : PA X [e] (liA X.K T W fe)) (hc : X.calm = true := by rfl) (hg : Gl X x := by rfl) (hdb : (x == ("__debug__" : Str)) = false := by decide)
    (he : starEach (e :: []) X.env = (false, eval e X.env) :: starEach [] X.env := by rfl) (hpl : (backTo pos (starEach [] X.env)).any (·.1) = false := by rfl) : PS X (.Raise (some (.Call (.Name x p) [e] [] pos)) none p2) (liS X.K T W (fRaise f cn fe)) := by
  obtain ⟨C, fI, fd, B, newId, initId, bmB, ps, hT, hm, FB, ox, iC, tI, F, bd⟩ := E.ex
  exact ps_imp (ps_raise hc tk (pmk_ox FB ox iC tI F hr bd passL hg hm ha hdb he hpl)) fun _ _ _ h => li_raise hT h
theorem s_try {n : Str} {c0 : Value} {np : Pos} {pos' : Pos} {fb : FS} {fs : Addr → Value → Option Addr → FS} {body suite : List Stmt} {b0 : Stmt} (i : Nat) (hc : Names X x c0) (tk : Takes X W)
    (hb : ∀ (W' : WX) (pn : List (Addr × Obj)) (xe : Value → Shared → Prop), Takes (X.tr pn xe) W' → PassesOwn (model X.prog X.w) X.A X.env xe → PSs (X.tr pn xe) body (liS X.K T W' fb))
    (hsu : ∀ (a : Addr) (oe : Obj) (cls : Value) (d : Option Addr) (pn : List (Addr × Obj)), Zc cls d oe → (∃ vs, oe.data = .fields vs) → PSs (X.suite a ((a, oe) :: pn)) (b0 :: suite) (liS X.K T noW (fs a cls d)))
    (hs : X.stack = X.env :: X.outer := by rfl) (hf : X.env.frame = some X.env.locals := by rfl) (hN : X.N.Nodup := by decide +kernel) (hi : X.N[i]? = some n := by rfl) (hln : X.env.kindOf n = some .local := by rfl) :
    PS X (.Try body [.ExceptHandler (some (.Name x np)) (some n) (b0 :: suite) pos'] [] [] pos) (liS X.K T W (fTryAs X.K T c0 i fb fs)) :=
  ps_imp (ps_try_as (tb := fun W' => liS X.K T W' fb) (ts := fun a cls d => liS X.K T noW (fs a cls d)) hs hf hN hi hln hc tk hb hsu) fun _ _ _ h => li_tryAs h
section
variable {ad C : Addr} {oe : Obj} {cls : Value} {dx : Option Addr} {pn : List (Addr × Obj)} {f : Str}
theorem b_xf (c : XfC X.K C) (hno : PySem.W.findIn X.K (.ref C) f = some none) (hz : Zc cls dx oe) (hf : ∃ vs, oe.data = .fields vs) (he : PE (X.suite ad ((ad, oe) :: pn)) e (liE X.K T noW fa)) (hb : attributeBase e f X.env (eval e X.env) = eval e X.env := by rfl) :
    PE (X.suite ad ((ad, oe) :: pn)) (.Attribute e f pos) (liE X.K T noW (fXf ad cls dx C f fa)) := pe_imp (pe_xf c hno hz hf he hb) fun _ _ _ h => li_xf h
theorem b_xi {tv : V} {t : Value} {e2 : Expr} (ht : ∀ u, RelV tv u → u = t) (hz : Zc cls dx oe) (hf : ∃ vs, oe.data = .fields vs) (hm : X.mg "isinstance" = none) (he : PE (X.suite ad ((ad, oe) :: pn)) e (liE X.K T noW fa)) (h2 : PE (X.suite ad ((ad, oe) :: pn)) e2 (tC tv)) (hg : Gl X "isinstance" := by rfl)
    (hs : starEach (e :: [e2]) X.env = (false, eval e X.env) :: starEach [e2] X.env := by rfl) (hs2 : starEach [e2] X.env = [(false, eval e2 X.env)] := by rfl) (hpl : (backTo pos (starEach [e2] X.env)).any (·.1) = false := by rfl) :
    PE (X.suite ad ((ad, oe) :: pn)) (.Call (.Name "isinstance" p) [e, e2] [] pos) (liE X.K T noW (fXi X.K ad cls dx t fa)) :=
  pe_imp (pe_callB (X := X.suite ad ((ad, oe) :: pn)) (call_xi ht hz hf) hg hm (by decide +kernel) (pa_cons he (pa_cons h2 pa_nil hs2) hs) (by decide) (by decide) hs hpl) fun σ H Q h => li_xi h
end
end
end Bc
end
section
namespace Bc
open PySem L2 PyProof.Rows BcZ BcO
def KTab (K : PySem.W.Frag) (mg : Str → Option Value) (w : World) (x : Str) (tab : List (Str × Int)) : Prop := ∃ a es n, mg x = some (.ref a) ∧ K.lookup a = some ⟨.type "dict", none, .dict es n, #[]⟩ ∧ PySem.W.KeysLit w.params es.toList ∧ (a == sysModules) = false ∧
  ∀ z, ∃ o, PySem.W.nsIn K a z = some o ∧ match tab.lookup z with
    | some i => ∃ t, o = some (.int i t)
    | none => o = none
def fKg (tab : List (Str × Int)) (k d : FE) : FE := fun ρ S Q X => k ρ S (fun y S1 => d ρ S1 (fun u S2 => ∃ z, y = .str z ∧ Q (match tab.lookup z with | some i => .int i | none => u) S2) X) X
section
variable {K : PySem.W.Frag} {T : XTab} {W : WX} {α α' : List Addr} {H H' : Hp} {S S' : Sto} {ρ : Env} {σ : L2.St} {X : Cx} {k : Nat} {x : Str} {ps : List Str} {q : FSpec} {e f : Expr} {fa fb : FE} {fe : FA} {pos p apos cpos : Pos} {tab : List (Str × Int)} {es : List Expr} {kk : Nat}
theorem b_kg (h : KTab X.K X.mg X.w x tab) (hr : Room k X.A) (he : PE X e (liE X.K T W fa)) (hf : PE X f (liE X.K T W fb)) (hg : Gl X x := by rfl) (hd : (x == ("__debug__" : Str)) = false := by decide) (m : M2 X (.Name x p) "get" apos e f cpos := by exact ⟨rfl, rfl, rfl, rfl⟩) :
    PE X (.Call (.Attribute (.Name x p) "get" apos) [e, f] [] cpos) (liE X.K T W (fKg tab fa fb)) := by
  obtain ⟨a, es, n, hm, hl, hk, low, ht⟩ := h
  refine ⟨fun pins s σ H Q I hq => ?_⟩
  refine wpAny_Call_method m.base m.few m.line PySem.F.plainAttrs_dict PySem.F.slot_dict_get PySem.F.type_dict_get (ld_glob I hg hm ?_ hd)
  have mp := PySem.W.mapOf_K (prog := X.prog) (w := X.w) I.kIn hl hk
  refine ⟨mp.typeIs, fun b z => ?_, ?_⟩
  · cases z
    exact ⟨_, I.kIn _ _ hl, rfl⟩
  rw [m.trees]
  have hq2 : liE X.K T W fa σ H (fun y H2 => liE X.K T W fb σ H2 fun z H3 => ∃ w, y = .str w ∧ Q (match tab.lookup w with | some i => .int i | none => z) H3) := by
    obtain ⟨α, ρ, S, Q', X', st, en, hq, kv, kx⟩ := hq
    refine ⟨α, ρ, S, _, X', st, en, hq, fun d S1 α1 H1 v pp r hg => ?_, kx⟩
    refine ⟨α1, ρ, S1, _, X', pp.st, pp.env st en, hg, fun z S3 α3 H3 u p3 r3 h3 => ?_, kx.after pp⟩
    obtain ⟨w, rfl, qq⟩ := h3
    cases r
    refine ⟨w, rfl, ?_⟩
    cases hl2 : tab.lookup w with
    | none =>
      rw [hl2] at qq
      exact kv _ _ _ _ _ (pp.trans p3) r3 qq
    | some i =>
      rw [hl2] at qq
      exact kv _ _ _ _ _ (pp.trans p3) (.int i) qq
  refine Calls.callWith_builtin rfl (Calls.evalArgs_plain (Calls.spliced_cons (thn (he.run pins s σ H _ I hq2) fun iv s2 ⟨y, H2, I2, ry, q2⟩ => Calls.spliced_cons (thn (hf.run pins s2 σ H2 _ I2 q2) fun fv s3 ⟨z, H3, I3, rz, q3⟩ => Calls.spliced_nil ?_))))
  obtain ⟨w, rfl, qq⟩ := q3
  obtain ⟨t, rfl⟩ := ry
  have mp3 := PySem.W.mapOf_K (prog := X.prog) (w := X.w) I3.kIn hl hk
  obtain ⟨o, ho, hw⟩ := ht w
  refine call_meetsIn PySem.F.slot_dict_get mp3.typeIs PySem.F.entry_dict_get (PySem.F.args_dict_get_3 _ _ _) (meets_dict_get_default (strKind X.prog X.w) a (strKind_is X.prog X.w w t) low fv) ⟨_, mp3, ?_⟩
  rw [PySem.W.find_K hl ho]
  cases hl2 : tab.lookup w with
  | none =>
    rw [hl2] at hw qq
    have hw : o = none := hw
    subst hw
    exact ⟨z, H3, I3.tok _, rz, qq⟩
  | some i =>
    rw [hl2] at hw qq
    obtain ⟨t2, rfl⟩ : ∃ t, o = some (.int i t) := hw
    exact ⟨.int i, H3, I3.tok _, ⟨_, rfl⟩, qq⟩
def entOf (e : DictEntry) : Str × Int := match e.key, e.val with | .str z _, .int i _ => (z, i) | _, _ => ("", 0)
/-- the entries, one by one -/
theorem ktab_find {tab : List (Str × Int)} : ∀ {l : List DictEntry}, l.map entOf = tab → (∀ e ∈ l, (∃ z t, e.key = .str z t) ∧ ∃ i t, e.val = .int i t) →
    ∀ z, match tab.lookup z with
      | some i => ∃ e t, l.find? (fun e => e.key.isStr z) = some e ∧ e.val = .int i t
      | none => l.find? (fun e => e.key.isStr z) = none := by
  intro l
  induction l generalizing tab with
  | nil =>
    intro h _ z
    subst h
    rfl
  | cons e l ih =>
    intro h hk z
    subst h
    obtain ⟨⟨zk, tk, ek⟩, i, t, ev⟩ := hk e List.mem_cons_self
    have ih' := ih rfl (fun e h => hk e (List.mem_cons_of_mem _ h)) z
    simp only [List.map_cons, entOf, ek, ev, List.lookup, List.find?_cons]
    by_cases hz : z = zk
    · subst hz
      have e1 : (z == z) = true := beq_self_eq_true z
      have e2 : (Value.str z tk).isStr z = true := by simp [Value.isStr]
      simp only [e1, e2]
      exact ⟨e, t, rfl, ev⟩
    · have e1 : (z == zk) = false := by simpa using hz
      have e2 : (Value.str zk tk).isStr z = false := by
        simp only [Value.isStr]
        exact beq_eq_false_iff_ne.mpr (Ne.symm hz)
      simp only [e1, e2]
      exact ih'
theorem ktab_mk {w : World} {mg : Str → Option Value} {a : Addr} {es : Array DictEntry} {n : Nat} (hm : mg x = some (.ref a)) (hl : K.lookup a = some ⟨.type "dict", none, .dict es n, #[]⟩) (hk : PySem.W.KeysLit w.params es.toList) (low : (a == sysModules) = false)
    (hr : es.toList.any (·.refKey) = false) (ht : es.toList.map entOf = tab) (hi : ∀ e ∈ es.toList, ∃ i t, e.val = .int i t) : KTab K mg w x tab := by
  refine ⟨a, es, n, hm, hl, hk, low, fun z => ?_⟩
  have f := ktab_find ht (fun e h => ⟨let ⟨z, t, e1, _⟩ := hk.all e h; ⟨z, t, e1⟩, hi e h⟩) z
  unfold PySem.W.nsIn
  rw [hl]
  dsimp only
  cases hl2 : tab.lookup z with
  | none =>
    rw [hl2] at f
    have f : es.toList.find? (fun e => e.key.isStr z) = none := f
    rw [f]
    dsimp only
    rw [hr]
    exact ⟨_, rfl, rfl⟩
  | some i =>
    rw [hl2] at f
    obtain ⟨e, t, f1, f2⟩ := f
    rw [f1]
    exact ⟨_, rfl, t, by rw [f2]⟩
theorem li_gL {is : List Nat} {n : Nat} {gs : FGs} {v : V} {Q : L2.St → Hp → Prop} (h : liG K is (gL n gs) v σ H Q) : gLst K n (liGs K is gs) v σ H Q := by
  obtain ⟨α, ρ, S, d, Q', st, en, r, ⟨m, ds, rfl, hS, hl, h⟩, k⟩ := h
  cases r with
  | ref e =>
    obtain ⟨xs, sq, rr⟩ := st.rd hS e
    exact ⟨_, xs, rfl, sq, rr.length.trans hl, α, ρ, S, ds, Q', st, en, rr, h, k⟩
theorem b_gL {es : List Expr} {k : Nat} {is : List Nat} {gs : FGs} {n : Nat} (hc : X.calm = true) (h : PGs X es (liGs X.K is gs))
    (hn : (assignEach es X.env).length = n := by rfl) (hst : (assignEach es X.env).findIdx? (·.1) = none := by rfl) : PG X (.Tuple es k pos) (liG X.K is (gL n gs)) := pg_imp (pg_lst hc h hn hst) fun _ _ _ _ h => li_gL h
theorem pk_imp {kws : List Keyword} {t t' : TA} (h : PK X kws t) (k : ∀ σ H Q, t' σ H Q → t σ H Q) : PK X kws t' := ⟨fun pos pins s σ H Q I z => h.run pos pins s σ H Q I (k _ _ _ z)⟩
theorem b_k0 : PK X [] (liA X.K T W fNil) := pk_imp pk_nil fun _ _ _ h => li_nil h
theorem b_k {nm : Option Str} {kws : List Keyword} (ha : PE X e (liE X.K T W fa)) (hr : PK X kws (liA X.K T W fe)) : PK X (⟨nm, e, p⟩ :: kws) (liA X.K T W (fCons fa fe)) := pk_imp (pk_cons ha hr) fun _ _ _ h => li_cons h
/-- as Def, all the arguments by keyword -/
structure DefK (P : Program) (w : World) (K : PySem.W.Frag) (mg : Str → Option Value) (base : Heap) (T : XTab) (k : Nat) (x : Str) (ps : List Str) (q : FSpec) : Prop where
  ex : ∃ f fd, FnOk P w K mg base (L2.CX P w) k f fd ps (spI K T q) ∧ mg x = some (.ref f) ∧ PySem.W.keepIn K (.ref f) = true ∧ ∀ (s : Shared) (ws : List Value), ws.length = ps.length → BindsTo s fd ⟨[], ps.zip ws⟩ (ps.zip ws)
theorem DefK.up {P : Program} {w : World} {mg : Str → Option Value} {base : Heap} {j : Nat} (d : DefK P w K mg base T k x ps q) (h : k ≤ j) : DefK P w K mg base T j x ps q := by
  obtain ⟨f, fd, F, r⟩ := d.ex
  exact ⟨f, fd, F.mono h, r⟩
structure AtK (K : PySem.W.Frag) (mg : Str → Option Value) (x : Str) (ps : List Str) (st : Stmt) : Prop where
  ex : ∃ f fd, mg x = some (.ref f) ∧ Fun K x x st f fd
  bd : ∀ f fd, Fun K x x st f fd → ∀ (s : Shared) (ws : List Value), ws.length = ps.length → BindsTo s fd ⟨[], ps.zip ws⟩ (ps.zip ws)
theorem def_mkK {P : Program} {w : World} {mg : Str → Option Value} {base : Heap} {st : Stmt} {N : List Str} (A : AtK K mg x ps st) (Sc : FnScope N ps (defScope st)) (b : FS) (len : ∀ ds S Q X, q ds S Q X → ds.length = ps.length) (hk : Keeps N b q)
    (hb : ∀ (f : Addr) (cdv : Value) (A : Around) (outer : List PySem.Env) (s : Shared) (H : Hp) (E : XK), Room k (A.deeper (envOfC x (defScope st) s.heap.objs.size f cdv)) →
      PSs (cxOf (L2.CX P w) P w K mg base N x (defScope st) f cdv A outer s H E) (defBody st) (liS K T (fun cls d _ H => E cls d H) b)) : DefK P w K mg base T (k + 1) x ps q := by
  obtain ⟨f, fd, hm, F⟩ := A.ex
  exact ⟨f, fd, fn_ok F Sc b len hk (hb f), hm, F.kp, A.bd f fd F⟩
theorem b_callk {kws : List Keyword} (d : DefK X.prog X.w X.K X.mg X.base T k x ps q) (hr : Room k X.A) (tk : Takes X W) (ha : PK X kws (liA X.K T W fe)) (hall : (backToKw pos (keywordEach kws X.env)).all (·.1.isSome) = true := by rfl) (hks : (backToKw pos (keywordEach kws X.env)).filterMap (·.1) = ps := by rfl)
    (hg : Gl X x := by rfl) (hdb : (x == ("__debug__" : Str)) = false := by decide) (hpl : ((backTo pos (starEach [] X.env)).any (·.1) || (backToKw pos (keywordEach kws X.env)).any (·.1.isNone)) = false := by rfl) : PE X (.Call (.Name x p) [] kws pos) (liE X.K T W (fCall q fe)) := by
  obtain ⟨f, fd, F, hm, kp, bd⟩ := d.ex
  refine ⟨fun pins s σ H Q I h => ?_⟩
  refine wpAny_Call_Name_kw (ld_glob I hg hm ?_ hdb)
  refine PySem.W.callWith_KW0 (h₀ := X.base) I.ok.mod.kin kp hall (thn (ha.run pos pins s σ H _ I (li_call h)) fun ws s2 ⟨zs, H2, I2, rz, q2⟩ => ⟨I2.kIn, ?_⟩) hpl
  rw [hks]
  have q2 : spI X.K T q (zs ++ []) H2 Q (WE W σ) := q2
  rw [List.append_nil] at q2
  have hl : ws.length = ps.length := by
    rw [← rz.length]
    exact F.len _ _ _ _ q2
  show wpAny _ _ (call (.ref f) [] (ps.zip ws)) _ _ _
  refine wpAny_call (codeAny_mono (F.run X.A X.stack s2 H2 ⟨[], ps.zip ws⟩ ws zs Q (WE W σ) hr I2.env0 (bd s2 ws hl) rz q2) fun r s' hq => ?_)
  cases r with
  | error e => exact passAt tk σ pins H2 s2 e s' I2 hq
  | ok fl =>
    cases fl with
    | ret u => exact I2.after hq
    | next => exact False.elim hq
    | brk => exact False.elim hq
    | cont => exact False.elim hq
theorem ox_pure {C : Addr} {bmB : List Value} {newId : String} {fld : Str} {msg : Str} (ox : OxC K C bmB newId) (hno : PySem.W.findIn K (.ref C) fld = some none) (vs : List V) (H : Hp) (Q : VK) (E : XK) (h : spOx C fld vs H Q E) :
    tSeq (tDrop (tOxI K bmB newId (tCons (tVar 0) (tCons (tC (.str msg)) tNil)))) (tOxP K bmB newId fld (tVar 0) (tVar 1)) { nx := fun _ H' => Q .non H', rt := Q } (L2.start ["self", fld] vs) H := by
  obtain ⟨a, v, rfl, ha, k⟩ := h
  exact ⟨_, rfl, a, C, _, rfl, (by show 1 ≤ 1000; decide), ox, ha, v, rfl, _, rfl, a, C, rfl, ox, hno, ha, fun dx h1 h2 => k dx h1 h2⟩
end
end Bc
end
section
namespace Bc
open PySem
section
variable {S : Sto} {ρ : Env} {Q : Kv} {X : Xk}
@[simp] theorem sp_var {i : Nat} : fVar i ρ S Q X ↔ ∃ d, ρ[i]? = some (some d) ∧ Q d S := Iff.rfl
@[simp] theorem sp_c {d : D} : fC d ρ S Q X ↔ Q d S := Iff.rfl
@[simp] theorem sp_f2 {q : F2} {a b : FE} : f2 q a b ρ S Q X ↔ a ρ S (fun x S1 => b ρ S1 (fun y S2 => q x y S2 Q) X) X := Iff.rfl
@[simp] theorem sp_f1 {q : F1} {a : FE} : f1 q a ρ S Q X ↔ a ρ S (fun x S1 => q x S1 Q) X := Iff.rfl
@[simp] theorem sp_nil {Q : List D → Sto → Prop} : fNil ρ S Q X ↔ Q [] S := Iff.rfl
@[simp] theorem sp_cons {a : FE} {r : FA} {Q : List D → Sto → Prop} : fCons a r ρ S Q X ↔ a ρ S (fun x S1 => r ρ S1 (fun xs S2 => Q (x :: xs) S2) X) X := Iff.rfl
@[simp] theorem sp_tup {a : FA} : fTup a ρ S Q X ↔ a ρ S (fun xs S1 => xs.length ≤ sizeLine ∧ Q (.tup xs) S1) X := Iff.rfl
@[simp] theorem sp_lst {a : FA} : fLst a ρ S Q X ↔ a ρ S (fun xs S1 => xs.length ≤ sizeLine ∧ Q (.ref S1.length) (S1 ++ [.lst xs])) X := Iff.rfl
@[simp] theorem sp_fN {q : FN} {a : FA} : fN q a ρ S Q X ↔ a ρ S (fun xs S1 => q xs S1 Q) X := Iff.rfl
@[simp] theorem sp_if {c : FT} {a b : FE} : fIf c a b ρ S Q X ↔ c ρ S (fun k S1 => if k = true then a ρ S1 Q X else b ρ S1 Q X) X := Iff.rfl
@[simp] theorem sp_tst {a : FE} {Q : Bool → Sto → Prop} : fTst a ρ S Q X ↔ a ρ S (fun d S1 => ∃ b, d = .bl b ∧ Q b S1) X := Iff.rfl
@[simp] theorem sp_tru {a : FE} {Q : Bool → Sto → Prop} : fTru a ρ S Q X ↔ a ρ S (fun d S1 => tru S1 d fun b => Q b S1) X := Iff.rfl
@[simp] theorem sp_and {a b : FT} {Q : Bool → Sto → Prop} : fAnd a b ρ S Q X ↔ a ρ S (fun k S1 => if k = true then b ρ S1 Q X else Q false S1) X := Iff.rfl
@[simp] theorem sp_or {a b : FT} {Q : Bool → Sto → Prop} : fOr a b ρ S Q X ↔ a ρ S (fun k S1 => if k = true then Q true S1 else b ρ S1 Q X) X := Iff.rfl
@[simp] theorem sp_not {a : FT} {Q : Bool → Sto → Prop} : fNot a ρ S Q X ↔ a ρ S (fun k S1 => Q (!k) S1) X := Iff.rfl
@[simp] theorem sp_andV {a b : FE} : fAndV a b ρ S Q X ↔ a ρ S (fun d S1 => ∃ k, d = .bl k ∧ if k = true then b ρ S1 Q X else Q (.bl false) S1) X := Iff.rfl
@[simp] theorem sp_orV {a b : FE} : fOrV a b ρ S Q X ↔ a ρ S (fun d S1 => ∃ k, d = .bl k ∧ if k = true then Q (.bl true) S1 else b ρ S1 Q X) X := Iff.rfl
@[simp] theorem sp_notV {a : FE} : fNotV a ρ S Q X ↔ a ρ S (fun d S1 => ∃ k, d = .bl k ∧ Q (.bl (!k)) S1) X := Iff.rfl
@[simp] theorem sp_chn {q1 q2 : F2} {a b c : FE} : fChn q1 q2 a b c ρ S Q X ↔ a ρ S (fun x S1 => b ρ S1 (fun y S2 => q1 x y S2 fun z S3 => ∃ k, z = .bl k ∧ if k = true then c ρ S3 (fun u S4 => q2 y u S4 Q) X else Q (.bl false) S3) X) X := Iff.rfl
@[simp] theorem sp_call {q : FSpec} {a : FA} : fCall q a ρ S Q X ↔ a ρ S (fun xs S1 => q xs S1 Q X) X := Iff.rfl
@[simp] theorem sp_me {m : Me} {o : FE} {as : FA} : fMe m o as ρ S Q X ↔ o ρ S (fun d S1 => m.on d S1 ∧ as ρ S1 (fun xs S2 => opMe m d xs S2 Q) X) X := Iff.rfl
@[simp] theorem sp_noP {Q : Option Int → Sto → Prop} : fNoP ρ S Q X ↔ Q none S := Iff.rfl
@[simp] theorem sp_part {a : FE} {Q : Option Int → Sto → Prop} : fPart a ρ S Q X ↔ a ρ S (fun d S1 => ∃ i, d = .int i ∧ Q (some i) S1) X := Iff.rfl
@[simp] theorem sp_sl {a : FE} {l u : FO} : fSl a l u ρ S Q X ↔ a ρ S (fun d S1 => l ρ S1 (fun lo S2 => u ρ S2 (fun hi S3 => opSl d lo hi S3 Q) X) X) X := Iff.rfl
@[simp] theorem sp_dg {d k : FE} : fDg d k ρ S Q X ↔ d ρ S (fun x S1 => k ρ S1 (fun y S2 => ∃ n kvs j v, x = .ref n ∧ S2[n]? = some (.dct kvs) ∧ y.key = some j ∧ valD kvs j = some v ∧ Q v S2) X) X := Iff.rfl
@[simp] theorem sp_kg {tab : List (Str × Int)} {k d : FE} : fKg tab k d ρ S Q X ↔ k ρ S (fun y S1 => d ρ S1 (fun u S2 => ∃ z, y = .str z ∧ Q (match tab.lookup z with | some i => .int i | none => u) S2) X) X := Iff.rfl
@[simp] theorem tr_non {Q : Bool → Prop} : tru S .non Q ↔ Q false := Iff.rfl
@[simp] theorem tr_bl {b : Bool} {Q : Bool → Prop} : tru S (.bl b) Q ↔ Q b := Iff.rfl
@[simp] theorem tr_int {i : Int} {Q : Bool → Prop} : tru S (.int i) Q ↔ Q (i != 0) := Iff.rfl
@[simp] theorem tr_tup {ds : List D} {Q : Bool → Prop} : tru S (.tup ds) Q ↔ Q (!ds.isEmpty) := Iff.rfl
section
variable {i j : Int} {a b : Str} {xs ys : List D}
@[simp] theorem o_addI : opBin .Add (.int i) (.int j) S Q ↔ Q (.int (i + j)) S := by simp [opBin]
@[simp] theorem o_addS : opBin .Add (.str a) (.str b) S Q ↔ a.length + b.length ≤ sizeLine ∧ Q (.str (a ++ b)) S := by simp [opBin]
@[simp] theorem o_addT : opBin .Add (.tup xs) (.tup ys) S Q ↔ xs ≠ [] ∧ xs.length + ys.length ≤ sizeLine ∧ Q (.tup (xs ++ ys)) S := by simp [opBin]
@[simp] theorem o_addL {n m : Nat} : opBin .Add (.ref n) (.ref m) S Q ↔ ∃ a b, S[n]? = some (.lst a) ∧ S[m]? = some (.lst b) ∧ a.length + b.length ≤ sizeLine ∧ Q (.ref S.length) (S ++ [.lst (a ++ b)]) := by simp [opBin]
@[simp] theorem o_sub : opBin .Sub (.int i) (.int j) S Q ↔ Q (.int (i - j)) S := by simp [opBin]
@[simp] theorem o_mulI : opBin .Mult (.int i) (.int j) S Q ↔ IntMulOk i j ∧ Q (.int (i * j)) S := by simp [opBin]
@[simp] theorem o_div : opBin .FloorDiv (.int i) (.int j) S Q ↔ j ≠ 0 ∧ j.natAbs.log2 < 9000 ∧ Q (.int (i.fdiv j)) S := by simp [opBin]
@[simp] theorem o_mod : opBin .Mod (.int i) (.int j) S Q ↔ j ≠ 0 ∧ Q (.int (i.fmod j)) S := by simp [opBin]
@[simp] theorem o_pow : opBin .Pow (.int i) (.int j) S Q ↔ (0 ≤ j ∧ j ≤ 1000000 ∧ i.natAbs < 2 ^ 64) ∧ Q (.int (i ^ j.toNat)) S := by simp [opBin]
@[simp] theorem o_neg : opNeg (.int i) S Q ↔ Q (.int (-i)) S := by simp [opNeg]
@[simp] theorem o_lt : opCmp .Lt (.int i) (.int j) S Q ↔ Q (.bl (decide (i < j))) S := by simp [opCmp]
@[simp] theorem o_le : opCmp .LtE (.int i) (.int j) S Q ↔ Q (.bl (decide (i ≤ j))) S := by simp [opCmp]
@[simp] theorem o_gt : opCmp .Gt (.int i) (.int j) S Q ↔ Q (.bl (decide (j < i))) S := by simp [opCmp]
@[simp] theorem o_ge : opCmp .GtE (.int i) (.int j) S Q ↔ Q (.bl (decide (j ≤ i))) S := by simp [opCmp]
@[simp] theorem o_is {x : D} : opCmp .Is x .non S Q ↔ Q (.bl x.isNon) S := by simp [opCmp]
@[simp] theorem o_isnot {x : D} : opCmp .IsNot x .non S Q ↔ Q (.bl (!x.isNon)) S := by simp [opCmp]
@[simp] theorem nn_non : D.isNon .non = true := rfl
@[simp] theorem nn_bl {b : Bool} : D.isNon (.bl b) = false := rfl
@[simp] theorem nn_int : D.isNon (.int i) = false := rfl
@[simp] theorem nn_str : D.isNon (.str a) = false := rfl
@[simp] theorem nn_tup : D.isNon (.tup xs) = false := rfl
@[simp] theorem nn_ref {n : Nat} : D.isNon (.ref n) = false := rfl
theorem pyOf_nr {x : D} {p : PyData} (hx : x.nr = true) : PyOf S x p ↔ p = x.pyd := by
  constructor
  · intro h
    cases h with
    | nr _ => rfl
    | lst _ _ => simp [D.nr] at hx
  · rintro rfl
    exact .nr hx
/-- small enough to be compared -/
def D.sm (d : D) : Bool := SeqAt.shaped d.pyd
theorem opEq_nr {neg : Bool} {x y : D} (hx : x.nr = true) (hy : y.nr = true) : opEq neg x y S Q ↔ x.sm = true ∧ y.sm = true ∧ Q (.bl (if neg then !PyData.eqv x.pyd y.pyd else PyData.eqv x.pyd y.pyd)) S := by
  unfold opEq D.sm
  simp [pyOf_nr hx, pyOf_nr hy]
@[simp] theorem sm_int : (D.int i).sm = true := rfl
@[simp] theorem sm_bl {b : Bool} : (D.bl b).sm = true := rfl
@[simp] theorem sm_non : D.non.sm = true := rfl
@[simp] theorem eq_ii : opCmp .Eq (.int i) (.int j) S Q ↔ Q (.bl (i == j)) S := by
  show opEq false _ _ S Q ↔ _
  rw [opEq_nr rfl rfl]
  simp [D.pyd, PyData.eqv]
@[simp] theorem ne_ii : opCmp .NotEq (.int i) (.int j) S Q ↔ Q (.bl (!(i == j))) S := by
  show opEq true _ _ S Q ↔ _
  rw [opEq_nr rfl rfl]
  simp [D.pyd, PyData.eqv]
@[simp] theorem eq_ss : opCmp .Eq (.str a) (.str b) S Q ↔ (D.str a).sm = true ∧ (D.str b).sm = true ∧ Q (.bl (a == b)) S := by
  show opEq false _ _ S Q ↔ _
  rw [opEq_nr rfl rfl]
  simp [D.pyd, PyData.eqv]
@[simp] theorem ne_ss : opCmp .NotEq (.str a) (.str b) S Q ↔ (D.str a).sm = true ∧ (D.str b).sm = true ∧ Q (.bl (!(a == b))) S := by
  show opEq true _ _ S Q ↔ _
  rw [opEq_nr rfl rfl]
  simp [D.pyd, PyData.eqv]
theorem sm_str (h : PyData.strOk a = true) : (D.str a).sm = true := by
  unfold D.sm D.pyd SeqAt.shaped
  simp [PyData.canLay0, PyData.depth, h]
end
@[simp] theorem at_0 {x : D} {l : List D} : L2.atI (x :: l) 0 = some x := L2.atI_nat (j := 0) rfl
@[simp] theorem at_1 {x y : D} {l : List D} : L2.atI (x :: y :: l) 1 = some y := L2.atI_nat (j := 1) rfl
@[simp] theorem at_2 {x y z : D} {l : List D} : L2.atI (x :: y :: z :: l) 2 = some z := L2.atI_nat (j := 2) rfl
@[simp] theorem ixN_30 : L2.ixN 3 0 = some 0 := rfl
@[simp] theorem ixN_31 : L2.ixN 3 1 = some 1 := rfl
@[simp] theorem ixN_32 : L2.ixN 3 2 = some 2 := rfl
theorem atN {l : List D} {i : Int} (h0 : 0 ≤ i) (h : i < l.length) : ∃ d, L2.atI l i = some d ∧ l[i.toNat]? = some d := by
  have e : ((i.toNat : Nat) : Int) = i := Int.toNat_of_nonneg h0
  have hl : i.toNat < l.length := by omega
  refine ⟨l[i.toNat], ?_, List.getElem?_eq_getElem hl⟩
  have := L2.atI_nat (List.getElem?_eq_getElem hl)
  rw [e] at this
  exact this
theorem ix_ref {n : Nat} {ds : List D} {i : Int} (h : S[n]? = some (.lst ds)) : opIx (.ref n) (.int i) S Q ↔ ∃ d, L2.atI ds i = some d ∧ Q d S := by
  simp [opIx, itemsOf, h]
@[simp] theorem ix_tup {ds : List D} {i : Int} : opIx (.tup ds) (.int i) S Q ↔ ∃ d, L2.atI ds i = some d ∧ Q d S := by
  simp [opIx, itemsOf]
@[simp] theorem ix_str {z : Str} {i : Int} : opIx (.str z) (.int i) S Q ↔ z.length ≤ sizeLine ∧ ∃ c, L2.atI z.cps.toList i = some c ∧ Q (.str ⟨#[c]⟩) S := by
  simp only [opIx, itemsOf]
  constructor
  · rintro (⟨ds, i', d, h | ⟨n, h, _⟩, _⟩ | ⟨z', i', c, h1, h2, h3, h4, h5⟩)
    · cases h
    · cases h
    · cases h1
      cases h2
      exact ⟨h3, c, h4, h5⟩
  · rintro ⟨h1, c, h2, h3⟩
    exact .inr ⟨z, i, c, rfl, rfl, h1, h2, h3⟩
theorem len_ref {n : Nat} {ds : List D} (h : S[n]? = some (.lst ds)) : opBi .len [.ref n] S Q ↔ Q (.int ds.length) S := by
  simp [opBi, itemsOf, h]
@[simp] theorem len_tup {ds : List D} : opBi .len [.tup ds] S Q ↔ Q (.int ds.length) S := by
  simp [opBi, itemsOf]
@[simp] theorem len_str {z : Str} : opBi .len [.str z] S Q ↔ z.length ≤ sizeLine ∧ Q (.int z.length) S := by
  simp [opBi, itemsOf]
@[simp] theorem int_b {b : Bool} : opBi .int [.bl b] S Q ↔ Q (.int (if b = true then 1 else 0)) S := by
  simp [opBi]
/-- the lists at n and m: equal or not -/
theorem ne_rr {n m : Nat} {as bs : List D} (h1 : S[n]? = some (.lst as)) (h2 : S[m]? = some (.lst bs)) (n1 : nrL as = true) (n2 : nrL bs = true) (s1 : SeqAt.shaped (.list (pydL as)) = true) (s2 : SeqAt.shaped (.list (pydL bs)) = true)
    (hq : Q (.bl (!PyData.eqv (.list (pydL as)) (.list (pydL bs)))) S) : opCmp .NotEq (.ref n) (.ref m) S Q := ⟨_, _, .lst (.inl h1) n1, .lst (.inl h2) n2, s1, s2, hq⟩
/-- flat data in a list -/
def flatD (ds : List D) : Prop := PyData.canLayAll0 (pydL ds) = true ∧ PyData.depthAll (pydL ds) = 0
theorem flat_ints : ∀ ns : List Int, nrL (ns.map D.int) = true ∧ PyData.canLayAll0 (pydL (ns.map D.int)) = true ∧ PyData.depthAll (pydL (ns.map D.int)) = 0
  | [] => ⟨rfl, rfl, rfl⟩
  | n :: ns => by
    obtain ⟨h1, h2, h3⟩ := flat_ints ns
    refine ⟨by simp [nrL, D.nr, h1], ?_, ?_⟩
    · simp [pydL, D.pyd, PyData.canLayAll0, PyData.canLay0, h2]
    · simp [pydL, D.pyd, PyData.depthAll, PyData.depth, h3]
theorem shaped_list {xs : List PyData} (h1 : PyData.canLayAll0 xs = true) (h2 : PyData.depthAll xs ≤ 63) : SeqAt.shaped (.list xs) = true := by
  unfold SeqAt.shaped
  simp [PyData.canLay0, PyData.depth, h1]
  omega
theorem shaped_tup {xs : List PyData} (h1 : PyData.canLayAll0 xs = true) (h2 : PyData.depthAll xs ≤ 63) : SeqAt.shaped (.tuple xs) = true := by
  unfold SeqAt.shaped
  simp [PyData.canLay0, PyData.depth, h1]
  omega
/-- xs != [] of a list of ints, the new [] at m -/
theorem ne_nil {n m : Nat} {ns : List Int} (h1 : S[n]? = some (.lst (ns.map D.int))) (h2 : S[m]? = some (.lst [])) (hq : Q (.bl (!ns.isEmpty)) S) : opCmp .NotEq (.ref n) (.ref m) S Q := by
  obtain ⟨a, b, c⟩ := flat_ints ns
  refine ne_rr h1 h2 a rfl (shaped_list b (by omega)) (shaped_list rfl (Nat.zero_le _)) ?_
  have e : PyData.eqv (.list (pydL (ns.map D.int))) (.list (pydL [])) = ns.isEmpty := by
    cases ns <;> simp [pydL, PyData.eqv, PyData.eqvAll]
  rw [e]
  exact hq
theorem mulR {i j : Int} (h1 : -(2 ^ 64) < j) (h2 : j < 2 ^ 64) : IntMulOk i j := .of_right (PySem.intBits_le_64 h1 h2)
theorem mulL {i j : Int} (h1 : -(2 ^ 64) < i) (h2 : i < 2 ^ 64) : IntMulOk i j := .of_left (PySem.intBits_le_64 h1 h2)
@[simp] theorem gn {i : Nat} {d : D} {Q : Env → Prop} : gN i d ρ S Q ↔ Q (ρ.set i (some d)) := Iff.rfl
@[simp] theorem gno {ds : List D} {Q : Env → Prop} : gNo ds ρ S Q ↔ ds = [] ∧ Q ρ := Iff.rfl
@[simp] theorem gmo {g : FG} {gs : FGs} {d : D} {ds : List D} {Q : Env → Prop} : gMo g gs (d :: ds) ρ S Q ↔ g d ρ S fun ρ' => gs ds ρ' S Q :=
  ⟨fun ⟨_, _, e, h⟩ => by cases e; exact h, fun h => ⟨_, _, rfl, h⟩⟩
@[simp] theorem gt {n : Nat} {gs : FGs} {ds : List D} {Q : Env → Prop} : gT n gs (.tup ds) ρ S Q ↔ ds.length = n ∧ gs ds ρ S Q := by simp [gT]
variable {k : KS} {XE : Env → Xk}
@[simp] theorem ss_next : fNext ρ S k XE ↔ k.nx ρ S := Iff.rfl
@[simp] theorem ss_brk : fBrk ρ S k XE ↔ k.bk ρ S := Iff.rfl
@[simp] theorem ss_cnt : fCnt ρ S k XE ↔ k.ct ρ S := Iff.rfl
@[simp] theorem ss_sq {a b : FS} : fSq a b ρ S k XE ↔ a ρ S { k with nx := fun ρ' S' => b ρ' S' k XE } XE := Iff.rfl
@[simp] theorem ss_set {i : Nat} {e : FE} : fSet i e ρ S k XE ↔ e ρ S (fun d S1 => k.nx (ρ.set i (some d)) S1) (XE ρ) := Iff.rfl
@[simp] theorem ss_asg {g : FG} {e : FE} : fAsg g e ρ S k XE ↔ e ρ S (fun d S1 => g d ρ S1 fun ρ' => k.nx ρ' S1) (XE ρ) := Iff.rfl
@[simp] theorem ss_par {i j : Nat} {a : FA} : fPar i j a ρ S k XE ↔ a ρ S (fun ds S1 => ∃ d e, ds = [d, e] ∧ k.nx ((ρ.set i (some d)).set j (some e)) S1) (XE ρ) := Iff.rfl
@[simp] theorem ss_xp {e : FE} : fXp e ρ S k XE ↔ e ρ S (fun _ S1 => k.nx ρ S1) (XE ρ) := Iff.rfl
@[simp] theorem ss_ret {e : FE} : fRet e ρ S k XE ↔ e ρ S (fun d S1 => k.rt d S1) (XE ρ) := Iff.rfl
@[simp] theorem ss_retN : fRetN ρ S k XE ↔ k.rt .non S := Iff.rfl
@[simp] theorem ss_if {c : FT} {a b : FS} : fIfS c a b ρ S k XE ↔ c ρ S (fun t S1 => if t = true then a ρ S1 k XE else b ρ S1 k XE) (XE ρ) := Iff.rfl
@[simp] theorem ss_aug {i : Nat} {a : Ao} {e : FE} : fAug i a e ρ S k XE ↔ ∃ x, ρ[i]? = some (some (.int x)) ∧ e ρ S (fun d S1 => ∃ y, d = .int y ∧ opAo a x y fun z => k.nx (ρ.set i (some (.int z))) S1) (XE ρ) := Iff.rfl
@[simp] theorem ao_add {i j : Int} {Q : Int → Prop} : opAo .add i j Q ↔ Q (i + j) := Iff.rfl
@[simp] theorem ao_sub {i j : Int} {Q : Int → Prop} : opAo .sub i j Q ↔ Q (i - j) := Iff.rfl
@[simp] theorem ao_mul {i j : Int} {Q : Int → Prop} : opAo .mul i j Q ↔ IntMulOk i j ∧ Q (i * j) := Iff.rfl
@[simp] theorem ss_sto {e o i : FE} : fSto e o i ρ S k XE ↔ e ρ S (fun d S1 => o ρ S1 (fun x S2 => i ρ S2 (fun y S3 => ∃ n ds z j, x = .ref n ∧ y = .int z ∧ S3[n]? = some (.lst ds) ∧ L2.ixN ds.length z = some j ∧ k.nx ρ (S3.set n (.lst (ds.set j d)))) (XE ρ)) (XE ρ)) (XE ρ) := Iff.rfl
@[simp] theorem ss_for {fi : FI} {g : FG} {b : FS} : fFor fi g b ρ S k XE ↔ fi ρ S (fun it S1 => loopD it.guard g b k XE it.items ρ S1) (XE ρ) := Iff.rfl
@[simp] theorem si_seq {a : FE} {Q : Itn → Sto → Prop} : fSeq a ρ S Q X ↔ a ρ S (fun d S1 => ∃ ds, srcG d ds S1 ∧ Q ⟨ds, srcG d ds⟩ S1) X := Iff.rfl
@[simp] theorem si_en {a : FA} {Q : Itn → Sto → Prop} : fEnum a ρ S Q X ↔ a ρ S (fun xs S1 => ∃ d ds, xs = [d] ∧ srcG d ds S1 ∧ Q ⟨enumD ds, srcG d ds⟩ S1) X := Iff.rfl
@[simp] theorem si_r1 {a : FA} {Q : Itn → Sto → Prop} : fRng1 a ρ S Q X ↔ a ρ S (fun xs S1 => ∃ n, xs = [.int n] ∧ Nar n ∧ Q ⟨rngD 0 1 n.toNat, fun _ => True⟩ S1) X := Iff.rfl
@[simp] theorem si_z {s : Bool} {a : FA} {Q : Itn → Sto → Prop} : fZip s a ρ S Q X ↔ a ρ S (fun xs S1 => ∃ d e ds es, xs = [d, e] ∧ srcG d ds S1 ∧ srcG e es S1 ∧ (s = true → ds.length = es.length) ∧ Q ⟨zipD ds es, fun S => srcG d ds S ∧ srcG e es S⟩ S1) X := Iff.rfl
@[simp] theorem sg_tup {es ds : List D} : srcG (.tup es) ds S ↔ es = ds := Iff.rfl
@[simp] theorem sg_str {z : Str} {ds : List D} : srcG (.str z) ds S ↔ ds = charsD z := Iff.rfl
@[simp] theorem sg_ref {n : Nat} {ds : List D} : srcG (.ref n) ds S ↔ lstOf S n ds := Iff.rfl
/-- a loop by an invariant over the turn -/
theorem loop_inv {gd : Sto → Prop} {g : FG} {b : FS} (I : Nat → Env → Sto → Prop) : ∀ (items : List D) (i : Nat) {ρ : Env} {S : Sto}, I i ρ S → (∀ j ρ S, i ≤ j → I j ρ S → gd S) →
    (∀ (j : Nat) d ρ S, items[j]? = some d → I (i + j) ρ S → ∀ N : Env → Sto → Prop, (∀ ρ' S', I (i + j + 1) ρ' S' → N ρ' S') → g d ρ S fun ρ' => b ρ' S ⟨N, k.rt, k.nx, N⟩ XE) →
    (∀ ρ S, I (i + items.length) ρ S → k.nx ρ S) → loopD gd g b k XE items ρ S
  | [], i, ρ, S, h, hg, hs, hd => ⟨hg i _ _ (Nat.le_refl _) h, hd _ _ h⟩
  | d :: r, i, ρ, S, h, hg, hs, hd => by
    refine ⟨hg i _ _ (Nat.le_refl _) h, hs 0 d ρ S rfl h _ fun ρ' S' h' => ?_⟩
    refine loop_inv I r (i + 1) h' (fun j ρ S hj => hg j ρ S (by omega)) (fun j d ρ S hj hI N hN => ?_) (fun ρ S hI => hd ρ S ?_)
    · have e : i + 1 + j = i + (j + 1) := by omega
      rw [e] at hI hN
      exact hs (j + 1) d ρ S (by simpa using hj) hI N hN
    · have e : i + 1 + r.length = i + (d :: r).length := by simp; omega
      rw [e] at hI
      exact hI
/-- a comprehension whose turns leave the store alone: pick d = what is taken of d -/
theorem comp_map {gd : Sto → Prop} {g : FG} {ft : FT} {fe : FE} (S0 : Sto) (pick : D → Option D) : ∀ (items : List D) (acc : List D) {Q : Sto → Prop}, (∀ acc, gd (S0 ++ [.lst acc])) → acc.length + items.length < sizeLine →
    (∀ d ∈ items, ∀ acc (C : Sto → Prop), acc.length < sizeLine → (∀ y, pick d = some y → C (S0 ++ [.lst (acc ++ [y])])) → (pick d = none → C (S0 ++ [.lst acc])) →
      g d ρ (S0 ++ [.lst acc]) fun ρ' => ft ρ' (S0 ++ [.lst acc]) (fun b S2 => if b = true then fe ρ' S2 (fun y S3 => ∃ acc, S3[S0.length]? = some (.lst acc) ∧ acc.length < sizeLine ∧ C (S3.set S0.length (.lst (acc ++ [y])))) noX else C S2) noX) →
    Q (S0 ++ [.lst (acc ++ items.filterMap pick)]) → compD gd g ft fe S0.length ρ items (S0 ++ [.lst acc]) Q
  | [], acc, Q, hg, hz, hs, hq => ⟨hg _, by simpa using hq⟩
  | d :: r, acc, Q, hg, hz, hs, hq => by
    simp only [List.length_cons] at hz
    refine ⟨hg _, hs d List.mem_cons_self acc _ (by omega) (fun y hy => ?_) (fun hn => ?_)⟩
    · refine comp_map S0 pick r _ hg (by simp; omega) (fun d hd => hs d (List.mem_cons_of_mem _ hd)) ?_
      rw [List.filterMap_cons, hy] at hq
      simpa using hq
    · refine comp_map S0 pick r _ hg (by omega) (fun d hd => hs d (List.mem_cons_of_mem _ hd)) ?_
      rw [List.filterMap_cons, hn] at hq
      exact hq
/-- a comprehension by an invariant over the turn -/
theorem comp_inv {gd : Sto → Prop} {g : FG} {ft : FT} {fe : FE} {n : Nat} {Q : Sto → Prop} (I : Nat → Sto → Prop) : ∀ (items : List D) (i : Nat) {S : Sto}, I i S → (∀ j S, I j S → gd S) →
    (∀ (j : Nat) d S, items[j]? = some d → I (i + j) S → ∀ N : Sto → Prop, (∀ S', I (i + j + 1) S' → N S') → g d ρ S fun ρ' => ft ρ' S (fun b S2 => if b = true then fe ρ' S2 (fun y S3 => ∃ acc, S3[n]? = some (.lst acc) ∧ acc.length < sizeLine ∧ N (S3.set n (.lst (acc ++ [y])))) noX else N S2) noX) →
    (∀ S, I (i + items.length) S → Q S) → compD gd g ft fe n ρ items S Q
  | [], i, S, h, hg, hs, hd => ⟨hg i _ h, hd _ h⟩
  | d :: r, i, S, h, hg, hs, hd => by
    refine ⟨hg i _ h, hs 0 d S rfl h _ fun S' h' => ?_⟩
    refine comp_inv I r (i + 1) h' hg (fun j d S hj hI N hN => ?_) (fun S hI => hd S ?_)
    · have e : i + 1 + j = i + (j + 1) := by omega
      rw [e] at hI hN
      exact hs (j + 1) d S (by simpa using hj) hI N hN
    · have e : i + 1 + r.length = i + (d :: r).length := by simp; omega
      rw [e] at hI
      exact hI
@[simp] theorem sp_lc {own : List Nat} {fi : FI} {g : FG} {ft : FT} {fe : FE} : fLc own fi g ft fe ρ S Q X ↔ fi ρ S (fun it S1 => compD it.guard g ft fe S1.length (wipeD ρ own) it.items (S1 ++ [.lst []]) fun S2 => Q (.ref S1.length) S2) X := Iff.rfl
@[simp] theorem sp_yes {Q : Bool → Sto → Prop} : fYes ρ S Q X ↔ Q true S := Iff.rfl
@[simp] theorem wi_nil {ρ : Env} : wipeD ρ [] = ρ := rfl
@[simp] theorem wi_cons {ρ : Env} {v : Nat} {vs : List Nat} : wipeD ρ (v :: vs) = (wipeD ρ vs).set v none := rfl
@[simp] theorem me_app {n : Nat} {y : D} : opMe .append (.ref n) [y] S Q ↔ ∃ ds, S[n]? = some (.lst ds) ∧ ds.length < sizeLine ∧ Q .non (S.set n (.lst (ds ++ [y]))) := by
  simp [opMe]
theorem me_on {n : Nat} {ds : List D} {m : Me} (hm : m.ty = "list") (h : S[n]? = some (.lst ds)) : m.on (.ref n) S := by
  unfold Me.on
  rw [hm, if_neg (by decide)]
  exact ⟨n, ds, rfl, .inl h⟩
theorem me_onS {z : Str} {m : Me} (hm : m.ty = "str") : m.on (.str z) S := by
  unfold Me.on
  rw [if_pos hm]
  exact ⟨z, rfl⟩
theorem put_acc {S0 : Sto} {acc : List D} {y : D} {C : Sto → Prop} (hz : acc.length < sizeLine) (h : C (S0 ++ [.lst (acc ++ [y])])) : ∃ a, (S0 ++ [Cell.lst acc])[S0.length]? = some (.lst a) ∧ a.length < sizeLine ∧ C ((S0 ++ [Cell.lst acc]).set S0.length (.lst (a ++ [y]))) :=
  ⟨acc, by simp, hz, by simpa using h⟩
/-- what is given back when the store is as it was -/
theorem ret_same {n : Nat} {d : D} (h : Q d S) : RetD n Q d S := .inr h
end
end Bc
end
section
namespace G
open PySem PySem.Spec PyProof.Rows L2 Bc BcO BcZ

abbrev topS (i : Nat) : Stmt := PySem.Challenge.pw_bentcoin_k46_recipes_as_machines.main.body.getD i (.Pass ⟨0, 0, 0, 0⟩)
def clsBody : Stmt → List Stmt
  | .ClassDef _ _ _ b _ _ _ _ _ _ _ => b
  | _ => []
abbrev initS (i : Nat) : Stmt := (clsBody (topS i)).getD 0 (.Pass ⟨0, 0, 0, 0⟩)
structure Bt (K : PySem.W.Frag) (mg : Str → Option Value) (w : World) (C_LimitExceeded : Addr) (C_StepLimitExceeded : Addr) : Prop where
  b_OverflowError : mg "OverflowError" = none
  b_all : mg "all" = none
  b_bool : mg "bool" = none
  b_enumerate : mg "enumerate" = none
  b_int : mg "int" = none
  b_isinstance : mg "isinstance" = none
  b_len : mg "len" = none
  b_list : mg "list" = none
  b_range : mg "range" = none
  b_str : mg "str" = none
  b_sum : mg "sum" = none
  b_tuple : mg "tuple" = none
  b_zip : mg "zip" = none
  c_MAX_COMPILED_TOSSES : ∃ t, mg "MAX_COMPILED_TOSSES" = some (.int 5 t)
  c_MOST_ANSWER : ∃ t, mg "MOST_ANSWER" = some (.int 99 t)
  c_MOST_PLACES : ∃ t, mg "MOST_PLACES" = some (.int 60 t)
  g_LimitExceeded : mg "LimitExceeded" = some (.ref C_LimitExceeded)
  xf_LimitExceeded : XfC K C_LimitExceeded
  xn_LimitExceeded : PySem.W.findIn K (.ref C_LimitExceeded) "limit" = some none
  xi_LimitExceeded : XiC K C_LimitExceeded
  ox_LimitExceeded : OxC K C_LimitExceeded [.type "OverflowError", .type "ArithmeticError", .type "Exception", .type "BaseException", .type "object"] "OverflowError.__new__"
  in_LimitExceeded : ∃ f fd, PySem.W.findIn K (.ref C_LimitExceeded) "__init__" = some (some (.ref f)) ∧ PySem.W.typeIn K (.ref f) = some (.type "function") ∧ Fun K "__init__" "LimitExceeded.__init__" (initS 1) f fd
  vv_OverflowError : PySem.W.findCls K (.type "OverflowError") (.type "type") "__init__" = some (.val (.builtin "OverflowError.__init__"))
  g_StepLimitExceeded : mg "StepLimitExceeded" = some (.ref C_StepLimitExceeded)
  xf_StepLimitExceeded : XfC K C_StepLimitExceeded
  xn_StepLimitExceeded : PySem.W.findIn K (.ref C_StepLimitExceeded) "limit" = some none
  xi_StepLimitExceeded : XiC K C_StepLimitExceeded
  ox_StepLimitExceeded : OxC K C_StepLimitExceeded [.type "OverflowError", .type "ArithmeticError", .type "Exception", .type "BaseException", .type "object"] "OverflowError.__new__"
  in_StepLimitExceeded : ∃ f fd, PySem.W.findIn K (.ref C_StepLimitExceeded) "__init__" = some (some (.ref f)) ∧ PySem.W.typeIn K (.ref f) = some (.type "function") ∧ Fun K "__init__" "StepLimitExceeded.__init__" (initS 2) f fd
  k_WIDTHS : KTab K mg w "WIDTHS" [("toss", 3), ("end", 2), ("never", 1)]
  a_raise_degree : At K mg "raise_degree" ["form"] (topS 4)
  a_binomial_row : At K mg "binomial_row" ["length"] (topS 7)
  a_rank_in_row : At K mg "rank_in_row" ["tape"] (topS 8)
  a_classify_round : At K mg "classify_round" ["recipe", "tape"] (topS 9)
  a_run_recipe : At K mg "run_recipe" ["recipe", "tape"] (topS 10)
  a_machine_from_recipe : At K mg "machine_from_recipe" ["recipe"] (topS 11)
  a_is_integer : At K mg "is_integer" ["value"] (topS 16)
  a_state_error : At K mg "state_error" ["value", "count"] (topS 17)
  a_machine_error : At K mg "machine_error" ["value"] (topS 18)
  a__law_pen : At K mg "_law_pen" ["script"] (topS 20)
  a__law_fresh : At K mg "_law_fresh" ["pen"] (topS 21)
  a__law_draw : At K mg "_law_draw" ["pen", "many"] (topS 22)
  a__law_run : At K mg "_law_run" ["machine", "tape"] (topS 23)
  a__law_tape : At K mg "_law_tape" ["pen", "many"] (topS 24)
  a__law_tapes : At K mg "_law_tapes" ["many"] (topS 25)
  a__law_binomials : At K mg "_law_binomials" ["many"] (topS 26)
  a__law_recipe : At K mg "_law_recipe" ["pen", "most"] (topS 27)
  a__law_compiled : At K mg "_law_compiled" ["some"] (topS 28)
  a__law_tape_agrees : At K mg "_law_tape_agrees" ["some", "machine", "tape"] (topS 29)
  a_law : At K mg "law" ["script"] (topS 30)
  ak_machine_from_recipe : AtK K mg "machine_from_recipe" ["recipe"] (topS 11)
abbrev tabX (C_LimitExceeded C_StepLimitExceeded : Addr) : XTab := [(C_LimitExceeded, "limit"), (C_StepLimitExceeded, "limit")]
def tab_WIDTHS : List (Str × Int) := [("toss", 3), ("end", 2), ("never", 1)]
theorem X_LimitExceeded {P : Program} {w : World} {K : PySem.W.Frag} {mg : Str → Option Value} {base : Heap} {C_LimitExceeded C_StepLimitExceeded : Addr} (B : Bt K mg w C_LimitExceeded C_StepLimitExceeded) : Ex P w K mg base (tabX C_LimitExceeded C_StepLimitExceeded) "LimitExceeded" 0 "limit" := by
  obtain ⟨f, fd, h1, h2, F⟩ := B.in_LimitExceeded
  refine ⟨C_LimitExceeded, f, fd, "OverflowError", "OverflowError.__new__", "OverflowError.__init__", [.type "OverflowError", .type "ArithmeticError", .type "Exception", .type "BaseException", .type "object"], ["self", "limit"], rfl, B.g_LimitExceeded, PySem.F.excBase_OverflowError, B.ox_LimitExceeded, h1, h2, ?_, F.binds fun _ _ _ _ _ _ us hl => match us, hl with | [_, _], _ => rfl⟩
  have sc : FnScope ["self", "limit"] ["self", "limit"] (defScope (initS 1)) := ⟨rfl, rfl, rfl, by decide +kernel, rfl, by decide +kernel, by decide +kernel⟩
  refine F.okX sc (fun vs H Q E h => ?_) (fun cdv A outer s H vs Q E hr h => ⟨tSeq (tDrop (tOxI K [.type "OverflowError", .type "ArithmeticError", .type "Exception", .type "BaseException", .type "object"] "OverflowError.__new__" (tCons (tVar 0) (tCons (tC (.str "a size limit is exceeded")) tNil)))) (tOxP K [.type "OverflowError", .type "ArithmeticError", .type "Exception", .type "BaseException", .type "object"] "OverflowError.__new__" "limit" (tVar 0) (tVar 1)), ?_, ox_pure B.ox_LimitExceeded B.xn_LimitExceeded vs H Q E h⟩)
  · obtain ⟨a, v, rfl, _⟩ := h
    rfl
  · exact pss_cons (ps_expr (pe_oxi PySem.F.excBase_OverflowError rfl B.b_OverflowError PyProof.Rows.Boot.«OverflowError» (by kernel_rfl) (by decide +kernel) (by decide +kernel) B.vv_OverflowError (pa_cons (pv 0) (pa_cons pe_str pa_nil)) (by decide) (by decide))) (pss_one (ps_oxp PySem.F.store_OverflowError (pv 0) (pv 1)))
theorem X_StepLimitExceeded {P : Program} {w : World} {K : PySem.W.Frag} {mg : Str → Option Value} {base : Heap} {C_LimitExceeded C_StepLimitExceeded : Addr} (B : Bt K mg w C_LimitExceeded C_StepLimitExceeded) : Ex P w K mg base (tabX C_LimitExceeded C_StepLimitExceeded) "StepLimitExceeded" 1 "limit" := by
  obtain ⟨f, fd, h1, h2, F⟩ := B.in_StepLimitExceeded
  refine ⟨C_StepLimitExceeded, f, fd, "OverflowError", "OverflowError.__new__", "OverflowError.__init__", [.type "OverflowError", .type "ArithmeticError", .type "Exception", .type "BaseException", .type "object"], ["self", "limit"], rfl, B.g_StepLimitExceeded, PySem.F.excBase_OverflowError, B.ox_StepLimitExceeded, h1, h2, ?_, F.binds fun _ _ _ _ _ _ us hl => match us, hl with | [_, _], _ => rfl⟩
  have sc : FnScope ["self", "limit"] ["self", "limit"] (defScope (initS 2)) := ⟨rfl, rfl, rfl, by decide +kernel, rfl, by decide +kernel, by decide +kernel⟩
  refine F.okX sc (fun vs H Q E h => ?_) (fun cdv A outer s H vs Q E hr h => ⟨tSeq (tDrop (tOxI K [.type "OverflowError", .type "ArithmeticError", .type "Exception", .type "BaseException", .type "object"] "OverflowError.__new__" (tCons (tVar 0) (tCons (tC (.str "too many statements without a toss")) tNil)))) (tOxP K [.type "OverflowError", .type "ArithmeticError", .type "Exception", .type "BaseException", .type "object"] "OverflowError.__new__" "limit" (tVar 0) (tVar 1)), ?_, ox_pure B.ox_StepLimitExceeded B.xn_StepLimitExceeded vs H Q E h⟩)
  · obtain ⟨a, v, rfl, _⟩ := h
    rfl
  · exact pss_cons (ps_expr (pe_oxi PySem.F.excBase_OverflowError rfl B.b_OverflowError PyProof.Rows.Boot.«OverflowError» (by kernel_rfl) (by decide +kernel) (by decide +kernel) B.vv_OverflowError (pa_cons (pv 0) (pa_cons pe_str pa_nil)) (by decide) (by decide))) (pss_one (ps_oxp PySem.F.store_OverflowError (pv 0) (pv 1)))
abbrev nraise_degree : List Str := ["form", "low", "high"]
theorem scraise_degree : FnScope nraise_degree ["form"] (defScope (topS 4)) := ⟨rfl, rfl, rfl, by decide +kernel, rfl, by decide +kernel, by decide +kernel⟩
def denraise_degree_0  : FS := fRet (fN (opBi .tuple) (fCons (fLc [1, 2] (fZip true (fCons (f2 (opBin .Add) (fVar 0) (fTup (fCons (fC (.int 0)) (fNil)))) (fCons (f2 (opBin .Add) (fTup (fCons (fC (.int 0)) (fNil))) (fVar 0)) (fNil)))) (gT 2 (gMo (gN 1) (gMo (gN 2) (gNo)))) (fYes) (f2 (opBin .Add) (fVar 1) (fVar 2))) (fNil)))
abbrev denraise_degree  : FS := denraise_degree_0 
theorem bdraise_degree {P : Program} {w : World} {K : PySem.W.Frag} {mg : Str → Option Value} {base : Heap} {C_LimitExceeded C_StepLimitExceeded : Addr}  (B : Bt K mg w C_LimitExceeded C_StepLimitExceeded)   (f : Addr) (cdv : Value) (A : Around) (outer : List PySem.Env) (s : Shared) (H : Hp) (E : XK)
    (hr : Room 0 (A.deeper (envOfC "raise_degree" (defScope (topS 4)) s.heap.objs.size f cdv))) : PSs (cxOf (L2.CX P w) P w K mg base nraise_degree "raise_degree" (defScope (topS 4)) f cdv A outer s H E) (defBody (topS 4)) (liS K (tabX C_LimitExceeded C_StepLimitExceeded) (fun cls d _ H => E cls d H) (denraise_degree )) := by
  have nd := scraise_degree.nd
  exact s_1 (s_ret (b_bi .tuple B.b_tuple (b_a (b_lc [("low", 1), ("high", 2)] (i_zk B.b_zip (b_a (b_op (b_v 0) (b_t (b_a (b_i) (b_a0)))) (b_a (b_op (b_t (b_a (b_i) (b_a0))) (b_v 0)) (b_a0)))) (fun s H C cl fp => b_gT rfl (b_gMo (b_gN (i := 1) nd rfl (by first | exact Or.inl rfl | exact Or.inr rfl)) (b_gMo (b_gN (i := 2) nd rfl (by first | exact Or.inl rfl | exact Or.inr rfl)) (b_gNo)))) (fun s H C cl fp => l_0) (fun s H C cl fp => b_op (b_v 1) (b_v 2)) (hN := nd)) (b_a0))))
abbrev nbinomial_row : List Str := ["length", "row", "step"]
theorem scbinomial_row : FnScope nbinomial_row ["length"] (defScope (topS 7)) := ⟨rfl, rfl, rfl, by decide +kernel, rfl, by decide +kernel, by decide +kernel⟩
def denbinomial_row_3 (q_raise_degree : FSpec) : FS := fSet 1 (fCall q_raise_degree (fCons (fVar 1) (fNil)))
def denbinomial_row_2 (q_raise_degree : FSpec) : FS := fRet (fVar 1)
def denbinomial_row_1 (q_raise_degree : FSpec) : FS := fSq (fFor (fRng1 (fCons (fVar 0) (fNil))) (gN 2) ((denbinomial_row_3 q_raise_degree))) ((denbinomial_row_2 q_raise_degree))
def denbinomial_row_0 (q_raise_degree : FSpec) : FS := fSq (fSet 1 (fTup (fCons (fC (.int 1)) (fNil)))) ((denbinomial_row_1 q_raise_degree))
abbrev denbinomial_row (q_raise_degree : FSpec) : FS := denbinomial_row_0 q_raise_degree
theorem bdbinomial_row {P : Program} {w : World} {K : PySem.W.Frag} {mg : Str → Option Value} {base : Heap} {C_LimitExceeded C_StepLimitExceeded : Addr} {q_raise_degree : FSpec} (B : Bt K mg w C_LimitExceeded C_StepLimitExceeded) (d_raise_degree : Def P w K mg base (tabX C_LimitExceeded C_StepLimitExceeded) 1 "raise_degree" ["form"] q_raise_degree)  (f : Addr) (cdv : Value) (A : Around) (outer : List PySem.Env) (s : Shared) (H : Hp) (E : XK)
    (hr : Room 1 (A.deeper (envOfC "binomial_row" (defScope (topS 7)) s.heap.objs.size f cdv))) : PSs (cxOf (L2.CX P w) P w K mg base nbinomial_row "binomial_row" (defScope (topS 7)) f cdv A outer s H E) (defBody (topS 7)) (liS K (tabX C_LimitExceeded C_StepLimitExceeded) (fun cls d _ H => E cls d H) (denbinomial_row q_raise_degree)) := by
  have nd := scbinomial_row.nd
  exact s_c (s_set 1 (b_t (b_a (b_i) (b_a0))) (hN := nd))
    (s_c (s_for (passes_of rfl) (i_r1 B.b_range (b_a (b_v 0) (b_a0))) (b_gN (i := 2) nd rfl (by first | exact Or.inl rfl | exact Or.inr rfl)) (s_1 (s_set 1 (b_call (d_raise_degree.up (by decide)) hr (takes_of rfl rfl rfl rfl) (b_a (b_v 1) (b_a0))) (hN := nd))))
    (s_1 (s_ret (b_v 1))))
abbrev nrank_in_row : List Str := ["tape", "heads", "rank", "index", "side", "remaining"]
theorem scrank_in_row : FnScope nrank_in_row ["tape"] (defScope (topS 8)) := ⟨rfl, rfl, rfl, by decide +kernel, rfl, by decide +kernel, by decide +kernel⟩
def denrank_in_row_8 (q_binomial_row : FSpec) : FS := fAug 2 .add (f2 opIx (fCall q_binomial_row (fCons (fVar 5) (fNil))) (f2 (opBin .Sub) (fVar 1) (fC (.int 1))))
def denrank_in_row_7 (q_binomial_row : FSpec) : FS := fIfS (fTst (f2 (opCmp .Gt) (fVar 1) (fC (.int 0)))) ((denrank_in_row_8 q_binomial_row)) (fNext)
def denrank_in_row_6 (q_binomial_row : FSpec) : FS := fAug 1 .sub (fC (.int 1))
def denrank_in_row_5 (q_binomial_row : FSpec) : FS := fIfS (fTst (f2 (opCmp .Eq) (fVar 4) (fC (.str "H")))) ((denrank_in_row_6 q_binomial_row)) ((denrank_in_row_7 q_binomial_row))
def denrank_in_row_4 (q_binomial_row : FSpec) : FS := fSq (fSet 5 (f2 (opBin .Sub) (f2 (opBin .Sub) (fN (opBi .len) (fCons (fVar 0) (fNil))) (fVar 3)) (fC (.int 1)))) ((denrank_in_row_5 q_binomial_row))
def denrank_in_row_3 (q_binomial_row : FSpec) : FS := fRet (fVar 2)
def denrank_in_row_2 (q_binomial_row : FSpec) : FS := fSq (fFor (fEnum (fCons (fVar 0) (fNil))) (gT 2 (gMo (gN 3) (gMo (gN 4) (gNo)))) ((denrank_in_row_4 q_binomial_row))) ((denrank_in_row_3 q_binomial_row))
def denrank_in_row_1 (q_binomial_row : FSpec) : FS := fSq (fSet 2 (fC (.int 0))) ((denrank_in_row_2 q_binomial_row))
def denrank_in_row_0 (q_binomial_row : FSpec) : FS := fSq (fSet 1 (fMe .count (fVar 0) (fCons (fC (.str "H")) (fNil)))) ((denrank_in_row_1 q_binomial_row))
abbrev denrank_in_row (q_binomial_row : FSpec) : FS := denrank_in_row_0 q_binomial_row
theorem bdrank_in_row {P : Program} {w : World} {K : PySem.W.Frag} {mg : Str → Option Value} {base : Heap} {C_LimitExceeded C_StepLimitExceeded : Addr} {q_binomial_row : FSpec} (B : Bt K mg w C_LimitExceeded C_StepLimitExceeded) (d_binomial_row : Def P w K mg base (tabX C_LimitExceeded C_StepLimitExceeded) 2 "binomial_row" ["length"] q_binomial_row)  (f : Addr) (cdv : Value) (A : Around) (outer : List PySem.Env) (s : Shared) (H : Hp) (E : XK)
    (hr : Room 2 (A.deeper (envOfC "rank_in_row" (defScope (topS 8)) s.heap.objs.size f cdv))) : PSs (cxOf (L2.CX P w) P w K mg base nrank_in_row "rank_in_row" (defScope (topS 8)) f cdv A outer s H E) (defBody (topS 8)) (liS K (tabX C_LimitExceeded C_StepLimitExceeded) (fun cls d _ H => E cls d H) (denrank_in_row q_binomial_row)) := by
  have nd := scrank_in_row.nd
  exact s_c (s_set 1 (b_me .count (b_v 0) (b_a (b_s) (b_a0))) (hN := nd))
    (s_c (s_set 2 (b_i) (hN := nd))
    (s_c (s_for (passes_of rfl) (i_en B.b_enumerate (b_a (b_v 0) (b_a0))) (b_gT rfl (b_gMo (b_gN (i := 3) nd rfl (by first | exact Or.inl rfl | exact Or.inr rfl)) (b_gMo (b_gN (i := 4) nd rfl (by first | exact Or.inl rfl | exact Or.inr rfl)) (b_gNo)))) (s_c (s_set 5 (b_op (b_op (b_bi .len B.b_len (b_a (b_v 0) (b_a0))) (b_v 3)) (b_i)) (hN := nd))
    (s_1 (s_if (c_cm hr (b_v 4) (b_s)) (s_1 (s_aug 1 .sub (b_i) (hN := nd))) (s_1 (s_if (c_cm hr (b_v 1) (b_i)) (s_1 (s_aug 2 .add (b_ix (b_call (d_binomial_row.up (by decide)) hr (takes_of rfl rfl rfl rfl) (b_a (b_v 5) (b_a0))) (b_op (b_v 1) (b_i))) (hN := nd))) (s_0)))))))
    (s_1 (s_ret (b_v 2)))))
abbrev nclassify_round : List Str := ["recipe", "tape", "heads", "rank"]
theorem scclassify_round : FnScope nclassify_round ["recipe", "tape"] (defScope (topS 9)) := ⟨rfl, rfl, rfl, by decide +kernel, rfl, by decide +kernel, by decide +kernel⟩
def denclassify_round_3 (q_rank_in_row : FSpec) : FS := fRet (fC (.str "yes"))
def denclassify_round_2 (q_rank_in_row : FSpec) : FS := fRet (fIf (fTst (f2 (opCmp .Lt) (fVar 3) (f2 opIx (f2 opIx (fVar 0) (fC (.int 2))) (fVar 2)))) (fC (.str "no")) (fC (.str "again")))
def denclassify_round_1 (q_rank_in_row : FSpec) : FS := fSq (fIfS (fTst (f2 (opCmp .Lt) (fVar 3) (f2 opIx (f2 opIx (fVar 0) (fC (.int 1))) (fVar 2)))) ((denclassify_round_3 q_rank_in_row)) (fNext)) ((denclassify_round_2 q_rank_in_row))
def denclassify_round_0 (q_rank_in_row : FSpec) : FS := fSq (fPar 2 3 (fCons (fMe .count (fVar 1) (fCons (fC (.str "H")) (fNil))) (fCons (fCall q_rank_in_row (fCons (fVar 1) (fNil))) (fNil)))) ((denclassify_round_1 q_rank_in_row))
abbrev denclassify_round (q_rank_in_row : FSpec) : FS := denclassify_round_0 q_rank_in_row
theorem bdclassify_round {P : Program} {w : World} {K : PySem.W.Frag} {mg : Str → Option Value} {base : Heap} {C_LimitExceeded C_StepLimitExceeded : Addr} {q_rank_in_row : FSpec} (B : Bt K mg w C_LimitExceeded C_StepLimitExceeded) (d_rank_in_row : Def P w K mg base (tabX C_LimitExceeded C_StepLimitExceeded) 3 "rank_in_row" ["tape"] q_rank_in_row)  (f : Addr) (cdv : Value) (A : Around) (outer : List PySem.Env) (s : Shared) (H : Hp) (E : XK)
    (hr : Room 3 (A.deeper (envOfC "classify_round" (defScope (topS 9)) s.heap.objs.size f cdv))) : PSs (cxOf (L2.CX P w) P w K mg base nclassify_round "classify_round" (defScope (topS 9)) f cdv A outer s H E) (defBody (topS 9)) (liS K (tabX C_LimitExceeded C_StepLimitExceeded) (fun cls d _ H => E cls d H) (denclassify_round q_rank_in_row)) := by
  have nd := scclassify_round.nd
  exact s_c (s_par 2 3 (b_a (b_me .count (b_v 1) (b_a (b_s) (b_a0))) (b_a (b_call (d_rank_in_row.up (by decide)) hr (takes_of rfl rfl rfl rfl) (b_a (b_v 1) (b_a0))) (b_a0))) (hN := nd))
    (s_c (s_if (c_cm hr (b_v 3) (b_ix (b_ix (b_v 0) (b_i)) (b_v 2))) (s_1 (s_ret (b_s))) (s_0))
    (s_1 (s_ret (b_if (c_cm hr (b_v 3) (b_ix (b_ix (b_v 0) (b_i)) (b_v 2))) (b_s) (b_s)))))
abbrev nrun_recipe : List Str := ["recipe", "tape", "tosses", "rounds", "result"]
theorem scrun_recipe : FnScope nrun_recipe ["recipe", "tape"] (defScope (topS 10)) := ⟨rfl, rfl, rfl, by decide +kernel, rfl, by decide +kernel, by decide +kernel⟩
def denrun_recipe_7 (q_classify_round : FSpec) : FS := fRet (fTup (fCons (fVar 4) (fCons (fVar 3) (fNil))))
def denrun_recipe_6 (q_classify_round : FSpec) : FS := fIfS (fTst (f2 (opCmp .NotEq) (fVar 4) (fC (.str "again")))) ((denrun_recipe_7 q_classify_round)) (fNext)
def denrun_recipe_5 (q_classify_round : FSpec) : FS := fSq (fAug 3 .add (fC (.int 1))) ((denrun_recipe_6 q_classify_round))
def denrun_recipe_4 (q_classify_round : FSpec) : FS := fSq (fSet 4 (fCall q_classify_round (fCons (fVar 0) (fCons (fSl (fVar 1) (fPart (f2 (opBin .Mult) (fVar 3) (fVar 2))) (fPart (f2 (opBin .Mult) (f2 (opBin .Add) (fVar 3) (fC (.int 1))) (fVar 2)))) (fNil))))) ((denrun_recipe_5 q_classify_round))
def denrun_recipe_3 (q_classify_round : FSpec) : FS := fRet (fTup (fCons (fC (.str "going")) (fCons (fVar 3) (fNil))))
def denrun_recipe_2 (q_classify_round : FSpec) : FS := fSq (fWh (fTst (f2 (opCmp .LtE) (f2 (opBin .Mult) (f2 (opBin .Add) (fVar 3) (fC (.int 1))) (fVar 2)) (fN (opBi .len) (fCons (fVar 1) (fNil))))) ((denrun_recipe_4 q_classify_round))) ((denrun_recipe_3 q_classify_round))
def denrun_recipe_1 (q_classify_round : FSpec) : FS := fSq (fSet 3 (fC (.int 0))) ((denrun_recipe_2 q_classify_round))
def denrun_recipe_0 (q_classify_round : FSpec) : FS := fSq (fSet 2 (f2 opIx (fVar 0) (fC (.int 0)))) ((denrun_recipe_1 q_classify_round))
abbrev denrun_recipe (q_classify_round : FSpec) : FS := denrun_recipe_0 q_classify_round
theorem bdrun_recipe {P : Program} {w : World} {K : PySem.W.Frag} {mg : Str → Option Value} {base : Heap} {C_LimitExceeded C_StepLimitExceeded : Addr} {q_classify_round : FSpec} (B : Bt K mg w C_LimitExceeded C_StepLimitExceeded) (d_classify_round : Def P w K mg base (tabX C_LimitExceeded C_StepLimitExceeded) 4 "classify_round" ["recipe", "tape"] q_classify_round)  (f : Addr) (cdv : Value) (A : Around) (outer : List PySem.Env) (s : Shared) (H : Hp) (E : XK)
    (hr : Room 4 (A.deeper (envOfC "run_recipe" (defScope (topS 10)) s.heap.objs.size f cdv))) : PSs (cxOf (L2.CX P w) P w K mg base nrun_recipe "run_recipe" (defScope (topS 10)) f cdv A outer s H E) (defBody (topS 10)) (liS K (tabX C_LimitExceeded C_StepLimitExceeded) (fun cls d _ H => E cls d H) (denrun_recipe q_classify_round)) := by
  have nd := scrun_recipe.nd
  exact s_c (s_set 2 (b_ix (b_v 0) (b_i)) (hN := nd))
    (s_c (s_set 3 (b_i) (hN := nd))
    (s_c (s_wh (passes_of rfl) (c_cm hr (b_op (b_op (b_v 3) (b_i)) (b_v 2)) (b_bi .len B.b_len (b_a (b_v 1) (b_a0)))) (s_c (s_set 4 (b_call (d_classify_round.up (by decide)) hr (takes_of rfl rfl rfl rfl) (b_a (b_v 0) (b_a (b_sl (b_v 1) (b_po (b_op (b_v 3) (b_v 2))) (b_po (b_op (b_op (b_v 3) (b_i)) (b_v 2)))) (b_a0)))) (hN := nd))
    (s_c (s_aug 3 .add (b_i) (hN := nd))
    (s_1 (s_if (c_cm hr (b_v 4) (b_s)) (s_1 (s_ret (b_t (b_a (b_v 4) (b_a (b_v 3) (b_a0)))))) (s_0))))))
    (s_1 (s_ret (b_t (b_a (b_s) (b_a (b_v 3) (b_a0))))))))
abbrev nmachine_from_recipe : List Str := ["recipe", "tosses", "prefixes", "level", "step", "prefix", "side", "targets", "states", "index", "heads", "tails"]
theorem scmachine_from_recipe : FnScope nmachine_from_recipe ["recipe"] (defScope (topS 11)) := ⟨rfl, rfl, rfl, by decide +kernel, rfl, by decide +kernel, by decide +kernel⟩
def denmachine_from_recipe_16 (q_classify_round : FSpec) : FS := fXp (fMe .append (fVar 8) (fCons (fTup (fCons (fC (.str "toss")) (fCons (fVar 10) (fCons (fVar 11) (fNil))))) (fNil)))
def denmachine_from_recipe_15 (q_classify_round : FSpec) : FS := fSq (fAsg (gL 2 (gMo (gN 10) (gMo (gN 11) (gNo)))) (fLc [6] (fSeq (fC (.str "HT"))) (gN 6) (fYes) (fDg (fVar 7) (fCall q_classify_round (fCons (fVar 0) (fCons (f2 (opBin .Add) (fVar 5) (fVar 6)) (fNil))))))) ((denmachine_from_recipe_16 q_classify_round))
def denmachine_from_recipe_14 (q_classify_round : FSpec) : FS := fXp (fMe .append (fVar 8) (fCons (fTup (fCons (fC (.str "toss")) (fCons (f2 (opBin .Add) (f2 (opBin .Mult) (fC (.int 2)) (fVar 9)) (fC (.int 1))) (fCons (f2 (opBin .Add) (f2 (opBin .Mult) (fC (.int 2)) (fVar 9)) (fC (.int 2))) (fNil))))) (fNil)))
def denmachine_from_recipe_13 (q_classify_round : FSpec) : FS := fIfS (fTst (f2 (opCmp .Lt) (fN (opBi .len) (fCons (fVar 5) (fNil))) (f2 (opBin .Sub) (fVar 1) (fC (.int 1))))) ((denmachine_from_recipe_14 q_classify_round)) ((denmachine_from_recipe_15 q_classify_round))
def denmachine_from_recipe_12 (q_classify_round : FSpec) : FS := fXp (fMe .extend (fVar 2) (fCons (fVar 3) (fNil)))
def denmachine_from_recipe_11 (q_classify_round : FSpec) : FS := fSq (fSet 3 (fLc2 [5, 6] (fSeq (fVar 3)) (gN 5) (fYes) [6] (fSeq (fC (.str "HT"))) (gN 6) (fYes) (f2 (opBin .Add) (fVar 5) (fVar 6)))) ((denmachine_from_recipe_12 q_classify_round))
def denmachine_from_recipe_10 (q_classify_round : FSpec) : FS := fRet (fTup (fCons (fTup (fCons (fC (.str "end")) (fCons (f2 opIx (f2 opIx (fVar 0) (fC (.int 1))) (fC (.int 0))) (fNil)))) (fNil)))
def denmachine_from_recipe_9 (q_classify_round : FSpec) : FS := fRaise "limit" 0 (fCons (fC (.int 5)) (fNil))
def denmachine_from_recipe_8 (q_classify_round : FSpec) : FS := fRet (f2 (opBin .Add) (fN (opBi .tuple) (fCons (fVar 8) (fNil))) (fTup (fCons (fTup (fCons (fC (.str "end")) (fCons (fC (.int 1)) (fNil)))) (fCons (fTup (fCons (fC (.str "end")) (fCons (fC (.int 0)) (fNil)))) (fNil)))))
def denmachine_from_recipe_7 (q_classify_round : FSpec) : FS := fSq (fFor (fEnum (fCons (fVar 2) (fNil))) (gT 2 (gMo (gN 9) (gMo (gN 5) (gNo)))) ((denmachine_from_recipe_13 q_classify_round))) ((denmachine_from_recipe_8 q_classify_round))
def denmachine_from_recipe_6 (q_classify_round : FSpec) : FS := fSq (fSet 8 (fLst (fNil))) ((denmachine_from_recipe_7 q_classify_round))
def denmachine_from_recipe_5 (q_classify_round : FSpec) : FS := fSq (fSet 7 (fDs [(fC (.str "again"), fC (.int 0)), (fC (.str "yes"), fN (opBi .len) (fCons (fVar 2) (fNil))), (fC (.str "no"), f2 (opBin .Add) (fN (opBi .len) (fCons (fVar 2) (fNil))) (fC (.int 1)))])) ((denmachine_from_recipe_6 q_classify_round))
def denmachine_from_recipe_4 (q_classify_round : FSpec) : FS := fSq (fFor (fRng1 (fCons (f2 (opBin .Sub) (fVar 1) (fC (.int 1))) (fNil))) (gN 4) ((denmachine_from_recipe_11 q_classify_round))) ((denmachine_from_recipe_5 q_classify_round))
def denmachine_from_recipe_3 (q_classify_round : FSpec) : FS := fSq (fPar 2 3 (fCons (fLst (fCons (fC (.str "")) (fNil))) (fCons (fLst (fCons (fC (.str "")) (fNil))) (fNil)))) ((denmachine_from_recipe_4 q_classify_round))
def denmachine_from_recipe_2 (q_classify_round : FSpec) : FS := fSq (fIfS (fTst (f2 (opCmp .Eq) (fVar 1) (fC (.int 0)))) ((denmachine_from_recipe_10 q_classify_round)) (fNext)) ((denmachine_from_recipe_3 q_classify_round))
def denmachine_from_recipe_1 (q_classify_round : FSpec) : FS := fSq (fIfS (fTst (f2 (opCmp .Gt) (fVar 1) (fC (.int 5)))) ((denmachine_from_recipe_9 q_classify_round)) (fNext)) ((denmachine_from_recipe_2 q_classify_round))
def denmachine_from_recipe_0 (q_classify_round : FSpec) : FS := fSq (fSet 1 (f2 opIx (fVar 0) (fC (.int 0)))) ((denmachine_from_recipe_1 q_classify_round))
abbrev denmachine_from_recipe (q_classify_round : FSpec) : FS := denmachine_from_recipe_0 q_classify_round
theorem bdmachine_from_recipe {P : Program} {w : World} {K : PySem.W.Frag} {mg : Str → Option Value} {base : Heap} {C_LimitExceeded C_StepLimitExceeded : Addr} {q_classify_round : FSpec} (B : Bt K mg w C_LimitExceeded C_StepLimitExceeded) (d_classify_round : Def P w K mg base (tabX C_LimitExceeded C_StepLimitExceeded) 4 "classify_round" ["recipe", "tape"] q_classify_round)  (f : Addr) (cdv : Value) (A : Around) (outer : List PySem.Env) (s : Shared) (H : Hp) (E : XK)
    (hr : Room 4 (A.deeper (envOfC "machine_from_recipe" (defScope (topS 11)) s.heap.objs.size f cdv))) : PSs (cxOf (L2.CX P w) P w K mg base nmachine_from_recipe "machine_from_recipe" (defScope (topS 11)) f cdv A outer s H E) (defBody (topS 11)) (liS K (tabX C_LimitExceeded C_StepLimitExceeded) (fun cls d _ H => E cls d H) (denmachine_from_recipe q_classify_round)) := by
  have nd := scmachine_from_recipe.nd
  exact s_c (s_set 1 (b_ix (b_v 0) (b_i)) (hN := nd))
    (s_c (s_if (c_cm hr (b_v 1) (b_gi B.c_MAX_COMPILED_TOSSES)) (s_1 (s_raise (X_LimitExceeded (P := P) (w := w) (base := base) B) (hr.mono (by decide)) (takes_of rfl rfl rfl rfl) (b_a (b_gi B.c_MAX_COMPILED_TOSSES) (b_a0)))) (s_0))
    (s_c (s_if (c_cm hr (b_v 1) (b_i)) (s_1 (s_ret (b_t (b_a (b_t (b_a (b_s) (b_a (b_ix (b_ix (b_v 0) (b_i)) (b_i)) (b_a0)))) (b_a0))))) (s_0))
    (s_c (s_par 2 3 (b_a (b_l (b_a (b_s) (b_a0))) (b_a (b_l (b_a (b_s) (b_a0))) (b_a0))) (hN := nd))
    (s_c (s_for (passes_of rfl) (i_r1 B.b_range (b_a (b_op (b_v 1) (b_i)) (b_a0))) (b_gN (i := 4) nd rfl (by first | exact Or.inl rfl | exact Or.inr rfl)) (s_c (s_lc2 3 [("prefix", 5), ("side", 6)] [6] (i_s (b_v 3)) (fun s H C cl fp => b_gN (i := 5) nd rfl (by first | exact Or.inl rfl | exact Or.inr rfl)) (fun s H C cl fp => l_0) (fun s H C cl fp => i_s (b_s)) (fun s H C cl fp => b_gN (i := 6) nd rfl (by first | exact Or.inl rfl | exact Or.inr rfl)) (fun s H C cl fp => l_0) (fun s H C cl fp => b_op (b_v 5) (b_v 6)) (hN := nd))
    (s_1 (s_xp (b_me .extend (b_v 2) (b_a (b_v 3) (b_a0)))))))
    (s_c (s_set 7 (b_ds (pps_cons (b_s) (b_i) (pps_cons (b_s) (b_bi .len B.b_len (b_a (b_v 2) (b_a0))) (pps_cons (b_s) (b_op (b_bi .len B.b_len (b_a (b_v 2) (b_a0))) (b_i)) (b_pr0))))) (hN := nd))
    (s_c (s_set 8 (b_l (b_a0)) (hN := nd))
    (s_c (s_for (passes_of rfl) (i_en B.b_enumerate (b_a (b_v 2) (b_a0))) (b_gT rfl (b_gMo (b_gN (i := 9) nd rfl (by first | exact Or.inl rfl | exact Or.inr rfl)) (b_gMo (b_gN (i := 5) nd rfl (by first | exact Or.inl rfl | exact Or.inr rfl)) (b_gNo)))) (s_1 (s_if (c_cm hr (b_bi .len B.b_len (b_a (b_v 5) (b_a0))) (b_op (b_v 1) (b_i))) (s_1 (s_xp (b_me .append (b_v 8) (b_a (b_t (b_a (b_s) (b_a (b_op (b_op (b_i) (b_v 9)) (b_i)) (b_a (b_op (b_op (b_i) (b_v 9)) (b_i)) (b_a0))))) (b_a0))))) (s_c (s_asg (b_lc [("side", 6)] (i_s (b_s)) (fun s H C cl fp => b_gN (i := 6) nd rfl (by first | exact Or.inl rfl | exact Or.inr rfl)) (fun s H C cl fp => l_0) (fun s H C cl fp => b_dg (hr := hr) (b_v 7) (b_call (d_classify_round.up (by decide)) hr takes0 (b_a (b_v 0) (b_a (b_op (b_v 5) (b_v 6)) (b_a0))))) (hN := nd)) (b_gL rfl (b_gMo (b_gN (i := 10) nd rfl (by first | exact Or.inl rfl | exact Or.inr rfl)) (b_gMo (b_gN (i := 11) nd rfl (by first | exact Or.inl rfl | exact Or.inr rfl)) (b_gNo)))))
    (s_1 (s_xp (b_me .append (b_v 8) (b_a (b_t (b_a (b_s) (b_a (b_v 10) (b_a (b_v 11) (b_a0))))) (b_a0)))))))))
    (s_1 (s_ret (b_op (b_bi .tuple B.b_tuple (b_a (b_v 8) (b_a0))) (b_t (b_a (b_t (b_a (b_s) (b_a (b_i) (b_a0)))) (b_a (b_t (b_a (b_s) (b_a (b_i) (b_a0)))) (b_a0))))))))))))))
abbrev nis_integer : List Str := ["value"]
theorem scis_integer : FnScope nis_integer ["value"] (defScope (topS 16)) := ⟨rfl, rfl, rfl, by decide +kernel, rfl, by decide +kernel, by decide +kernel⟩
def denis_integer_0  : FS := fRet (fAndV (f1 (opIsi .int) (fVar 0)) (fNotV (f1 (opIsi .bool) (fVar 0))))
abbrev denis_integer  : FS := denis_integer_0 
theorem bdis_integer {P : Program} {w : World} {K : PySem.W.Frag} {mg : Str → Option Value} {base : Heap} {C_LimitExceeded C_StepLimitExceeded : Addr}  (B : Bt K mg w C_LimitExceeded C_StepLimitExceeded)   (f : Addr) (cdv : Value) (A : Around) (outer : List PySem.Env) (s : Shared) (H : Hp) (E : XK)
    (hr : Room 0 (A.deeper (envOfC "is_integer" (defScope (topS 16)) s.heap.objs.size f cdv))) : PSs (cxOf (L2.CX P w) P w K mg base nis_integer "is_integer" (defScope (topS 16)) f cdv A outer s H E) (defBody (topS 16)) (liS K (tabX C_LimitExceeded C_StepLimitExceeded) (fun cls d _ H => E cls d H) (denis_integer )) := by
  have nd := scis_integer.nd
  exact s_1 (s_ret (b_and (b_isi .int B.b_isinstance B.b_int (b_v 0)) (b_one (b_not (b_isi .bool B.b_isinstance B.b_bool (b_v 0))))))
abbrev nstate_error : List Str := ["value", "count", "part", "target"]
theorem scstate_error : FnScope nstate_error ["value", "count"] (defScope (topS 17)) := ⟨rfl, rfl, rfl, by decide +kernel, rfl, by decide +kernel, by decide +kernel⟩
def denstate_error_8 (q_is_integer : FSpec) : FS := fRet (fC (.str "answer"))
def denstate_error_7 (q_is_integer : FSpec) : FS := fRet (fC (.str "place"))
def denstate_error_6 (q_is_integer : FSpec) : FS := fRet (fC (.str "form"))
def denstate_error_5 (q_is_integer : FSpec) : FS := fRet (fC (.str "form"))
def denstate_error_4 (q_is_integer : FSpec) : FS := fRet (fC .non)
def denstate_error_3 (q_is_integer : FSpec) : FS := fSq (fIfS (fAnd (fTst (f2 (opCmp .Eq) (f2 opIx (fVar 0) (fC (.int 0))) (fC (.str "end")))) (fNot (fTst (fChn (opCmp .LtE) (opCmp .LtE) (fC (.int 0)) (f2 opIx (fVar 0) (fC (.int 1))) (fC (.int 99)))))) ((denstate_error_8 q_is_integer)) (fNext)) ((denstate_error_4 q_is_integer))
def denstate_error_2 (q_is_integer : FSpec) : FS := fSq (fIfS (fAnd (fTst (f2 (opCmp .Eq) (f2 opIx (fVar 0) (fC (.int 0))) (fC (.str "toss")))) (fNot (fTru (fN (opBi .all) (fCons (fLc [3] (fSeq (fSl (fVar 0) (fPart (fC (.int 1))) (fNoP))) (gN 3) (fYes) (fChn (opCmp .LtE) (opCmp .Lt) (fC (.int 0)) (fVar 3) (fVar 1))) (fNil)))))) ((denstate_error_7 q_is_integer)) (fNext)) ((denstate_error_3 q_is_integer))
def denstate_error_1 (q_is_integer : FSpec) : FS := fSq (fIfS (fOr (fTst (f2 (opCmp .NotEq) (fN (opBi .len) (fCons (fVar 0) (fNil))) (fKg tab_WIDTHS (f2 opIx (fVar 0) (fC (.int 0))) (fC (.int 0))))) (fNot (fTru (fN (opBi .all) (fCons (fLc [2] (fSeq (fSl (fVar 0) (fPart (fC (.int 1))) (fNoP))) (gN 2) (fYes) (fCall q_is_integer (fCons (fVar 2) (fNil)))) (fNil)))))) ((denstate_error_6 q_is_integer)) (fNext)) ((denstate_error_2 q_is_integer))
def denstate_error_0 (q_is_integer : FSpec) : FS := fSq (fIfS (fOr (fNot (fTru (f1 (opIsi .tuple) (fVar 0)))) (fOr (fNot (fTru (fVar 0))) (fNot (fTru (f1 (opIsi .str) (f2 opIx (fVar 0) (fC (.int 0)))))))) ((denstate_error_5 q_is_integer)) (fNext)) ((denstate_error_1 q_is_integer))
abbrev denstate_error (q_is_integer : FSpec) : FS := denstate_error_0 q_is_integer
theorem bdstate_error {P : Program} {w : World} {K : PySem.W.Frag} {mg : Str → Option Value} {base : Heap} {C_LimitExceeded C_StepLimitExceeded : Addr} {q_is_integer : FSpec} (B : Bt K mg w C_LimitExceeded C_StepLimitExceeded) (d_is_integer : Def P w K mg base (tabX C_LimitExceeded C_StepLimitExceeded) 1 "is_integer" ["value"] q_is_integer)  (f : Addr) (cdv : Value) (A : Around) (outer : List PySem.Env) (s : Shared) (H : Hp) (E : XK)
    (hr : Room 1 (A.deeper (envOfC "state_error" (defScope (topS 17)) s.heap.objs.size f cdv))) : PSs (cxOf (L2.CX P w) P w K mg base nstate_error "state_error" (defScope (topS 17)) f cdv A outer s H E) (defBody (topS 17)) (liS K (tabX C_LimitExceeded C_StepLimitExceeded) (fun cls d _ H => E cls d H) (denstate_error q_is_integer)) := by
  have nd := scstate_error.nd
  exact s_c (s_if (c_w (c_or (c_not (c_t (b_isi .tuple B.b_isinstance B.b_tuple (b_v 0)))) (c_or (c_not (c_t (b_v 0))) (c_or1 (c_not (c_t (b_isi .str B.b_isinstance B.b_str (b_ix (b_v 0) (b_i))))))))) (s_1 (s_ret (b_s))) (s_0))
    (s_c (s_if (c_w (c_or (c_cm hr (b_bi .len B.b_len (b_a (b_v 0) (b_a0))) (b_kg B.k_WIDTHS hr (b_ix (b_v 0) (b_i)) (b_i))) (c_or1 (c_not (c_t (b_bi .all B.b_all (b_a (b_lc [("part", 2)] (i_s (b_sl (b_v 0) (b_po (b_i)) (b_po0))) (fun s H C cl fp => b_gN (i := 2) nd rfl (by first | exact Or.inl rfl | exact Or.inr rfl)) (fun s H C cl fp => l_0) (fun s H C cl fp => b_call (d_is_integer.up (by decide)) hr takes0 (b_a (b_v 2) (b_a0))) (hN := nd)) (b_a0)))))))) (s_1 (s_ret (b_s))) (s_0))
    (s_c (s_if (c_w (c_and (c_cm hr (b_ix (b_v 0) (b_i)) (b_s)) (c_and1 (c_not (c_t (b_bi .all B.b_all (b_a (b_lc [("target", 3)] (i_s (b_sl (b_v 0) (b_po (b_i)) (b_po0))) (fun s H C cl fp => b_gN (i := 3) nd rfl (by first | exact Or.inl rfl | exact Or.inr rfl)) (fun s H C cl fp => l_0) (fun s H C cl fp => b_ch hr (b_i) (b_v 3) (b_v 1)) (hN := nd)) (b_a0)))))))) (s_1 (s_ret (b_s))) (s_0))
    (s_c (s_if (c_w (c_and (c_cm hr (b_ix (b_v 0) (b_i)) (b_s)) (c_and1 (c_not (c_ch hr (b_i) (b_ix (b_v 0) (b_i)) (b_gi B.c_MOST_ANSWER)))))) (s_1 (s_ret (b_s))) (s_0))
    (s_1 (s_ret (b_n))))))
abbrev nmachine_error : List Str := ["value", "index", "state", "reason"]
theorem scmachine_error : FnScope nmachine_error ["value"] (defScope (topS 18)) := ⟨rfl, rfl, rfl, by decide +kernel, rfl, by decide +kernel, by decide +kernel⟩
def denmachine_error_6 (q_state_error : FSpec) : FS := fRet (fTup (fCons (fVar 1) (fCons (fVar 3) (fNil))))
def denmachine_error_5 (q_state_error : FSpec) : FS := fIfS (fTst (f2 (opCmp .IsNot) (fVar 3) (fC .non))) ((denmachine_error_6 q_state_error)) (fNext)
def denmachine_error_4 (q_state_error : FSpec) : FS := fSq (fSet 3 (fCall q_state_error (fCons (fVar 2) (fCons (fN (opBi .len) (fCons (fVar 0) (fNil))) (fNil))))) ((denmachine_error_5 q_state_error))
def denmachine_error_3 (q_state_error : FSpec) : FS := fRet (fTup (fCons (f1 opNeg (fC (.int 1))) (fCons (fC (.str "form")) (fNil))))
def denmachine_error_2 (q_state_error : FSpec) : FS := fRet (fC .non)
def denmachine_error_1 (q_state_error : FSpec) : FS := fSq (fFor (fEnum (fCons (fVar 0) (fNil))) (gT 2 (gMo (gN 1) (gMo (gN 2) (gNo)))) ((denmachine_error_4 q_state_error))) ((denmachine_error_2 q_state_error))
def denmachine_error_0 (q_state_error : FSpec) : FS := fSq (fIfS (fOr (fNot (fTru (f1 (opIsi .tuple) (fVar 0)))) (fNot (fTst (fChn (opCmp .LtE) (opCmp .LtE) (fC (.int 1)) (fN (opBi .len) (fCons (fVar 0) (fNil))) (fC (.int 60)))))) ((denmachine_error_3 q_state_error)) (fNext)) ((denmachine_error_1 q_state_error))
abbrev denmachine_error (q_state_error : FSpec) : FS := denmachine_error_0 q_state_error
theorem bdmachine_error {P : Program} {w : World} {K : PySem.W.Frag} {mg : Str → Option Value} {base : Heap} {C_LimitExceeded C_StepLimitExceeded : Addr} {q_state_error : FSpec} (B : Bt K mg w C_LimitExceeded C_StepLimitExceeded) (d_state_error : Def P w K mg base (tabX C_LimitExceeded C_StepLimitExceeded) 2 "state_error" ["value", "count"] q_state_error)  (f : Addr) (cdv : Value) (A : Around) (outer : List PySem.Env) (s : Shared) (H : Hp) (E : XK)
    (hr : Room 2 (A.deeper (envOfC "machine_error" (defScope (topS 18)) s.heap.objs.size f cdv))) : PSs (cxOf (L2.CX P w) P w K mg base nmachine_error "machine_error" (defScope (topS 18)) f cdv A outer s H E) (defBody (topS 18)) (liS K (tabX C_LimitExceeded C_StepLimitExceeded) (fun cls d _ H => E cls d H) (denmachine_error q_state_error)) := by
  have nd := scmachine_error.nd
  exact s_c (s_if (c_w (c_or (c_not (c_t (b_isi .tuple B.b_isinstance B.b_tuple (b_v 0)))) (c_or1 (c_not (c_ch hr (b_i) (b_bi .len B.b_len (b_a (b_v 0) (b_a0))) (b_gi B.c_MOST_PLACES)))))) (s_1 (s_ret (b_t (b_a (b_neg (b_i)) (b_a (b_s) (b_a0)))))) (s_0))
    (s_c (s_for (passes_of rfl) (i_en B.b_enumerate (b_a (b_v 0) (b_a0))) (b_gT rfl (b_gMo (b_gN (i := 1) nd rfl (by first | exact Or.inl rfl | exact Or.inr rfl)) (b_gMo (b_gN (i := 2) nd rfl (by first | exact Or.inl rfl | exact Or.inr rfl)) (b_gNo)))) (s_c (s_set 3 (b_call (d_state_error.up (by decide)) hr (takes_of rfl rfl rfl rfl) (b_a (b_v 2) (b_a (b_bi .len B.b_len (b_a (b_v 0) (b_a0))) (b_a0)))) (hN := nd))
    (s_1 (s_if (c_cm hr (b_v 3) (b_n)) (s_1 (s_ret (b_t (b_a (b_v 1) (b_a (b_v 3) (b_a0)))))) (s_0)))))
    (s_1 (s_ret (b_n))))
abbrev n_law_pen : List Str := ["script"]
theorem sc_law_pen : FnScope n_law_pen ["script"] (defScope (topS 20)) := ⟨rfl, rfl, rfl, by decide +kernel, rfl, by decide +kernel, by decide +kernel⟩
def den_law_pen_0  : FS := fRet (fLst (fCons (fN (opBi .list) (fCons (fSl (fVar 0) (fNoP) (fPart (fC (.int 63)))) (fNil))) (fCons (fC (.int 0)) (fCons (fC (.int 0)) (fNil)))))
abbrev den_law_pen  : FS := den_law_pen_0 
theorem bd_law_pen {P : Program} {w : World} {K : PySem.W.Frag} {mg : Str → Option Value} {base : Heap} {C_LimitExceeded C_StepLimitExceeded : Addr}  (B : Bt K mg w C_LimitExceeded C_StepLimitExceeded)   (f : Addr) (cdv : Value) (A : Around) (outer : List PySem.Env) (s : Shared) (H : Hp) (E : XK)
    (hr : Room 0 (A.deeper (envOfC "_law_pen" (defScope (topS 20)) s.heap.objs.size f cdv))) : PSs (cxOf (L2.CX P w) P w K mg base n_law_pen "_law_pen" (defScope (topS 20)) f cdv A outer s H E) (defBody (topS 20)) (liS K (tabX C_LimitExceeded C_StepLimitExceeded) (fun cls d _ H => E cls d H) (den_law_pen )) := by
  have nd := sc_law_pen.nd
  exact s_1 (s_ret (b_l (b_a (b_bi .list B.b_list (b_a (b_sl (b_v 0) (b_po0) (b_po (b_i))) (b_a0))) (b_a (b_i) (b_a (b_i) (b_a0))))))
abbrev n_law_fresh : List Str := ["pen", "at", "cell", "p", "one", "found", "turn"]
theorem sc_law_fresh : FnScope n_law_fresh ["pen"] (defScope (topS 21)) := ⟨rfl, rfl, rfl, by decide +kernel, rfl, by decide +kernel, by decide +kernel⟩
def den_law_fresh_13  : FS := fSet 5 (f2 (opBin .Add) (f2 (opBin .Mult) (fVar 5) (fVar 3)) (fVar 4))
def den_law_fresh_12  : FS := fSq (fSet 4 (f2 (opBin .Mod) (f2 (opBin .Add) (f2 (opBin .Add) (f2 (opBin .Mult) (fVar 4) (fVar 4)) (f2 (opBin .Mult) (f2 (opBin .Mult) (fC (.int 69621)) (f2 (opBin .Add) (fVar 6) (fC (.int 1)))) (f2 (opBin .Add) (fVar 1) (fC (.int 1))))) (fVar 2)) (fVar 3))) ((den_law_fresh_13 ))
def den_law_fresh_11  : FS := fRet (f2 (opBin .Sub) (fVar 2) (f2 (opBin .Pow) (fC (.int 10)) (fC (.int 18))))
def den_law_fresh_10  : FS := fSet 2 (f2 opIx (f2 opIx (fVar 0) (fC (.int 0))) (f2 (opBin .Mod) (fVar 1) (fN (opBi .len) (fCons (f2 opIx (fVar 0) (fC (.int 0))) (fNil)))))
def den_law_fresh_9  : FS := fRet (fVar 5)
def den_law_fresh_8  : FS := fSq (fFor (fRng1 (fCons (fC (.int 6)) (fNil))) (gN 6) ((den_law_fresh_12 ))) ((den_law_fresh_9 ))
def den_law_fresh_7  : FS := fSq (fSet 5 (fVar 4)) ((den_law_fresh_8 ))
def den_law_fresh_6  : FS := fSq (fSet 4 (f2 (opBin .Mod) (f2 (opBin .Add) (f2 (opBin .Add) (f2 (opBin .Mult) (fVar 2) (fC (.int 48271))) (f2 (opBin .Mult) (fC (.int 40692)) (fVar 1))) (fC (.int 31))) (fVar 3))) ((den_law_fresh_7 ))
def den_law_fresh_5  : FS := fSq (fSet 3 (fC (.int 2305843009213693951))) ((den_law_fresh_6 ))
def den_law_fresh_4  : FS := fSq (fIfS (fAnd (fTst (f2 (opCmp .Lt) (fVar 1) (fN (opBi .len) (fCons (f2 opIx (fVar 0) (fC (.int 0))) (fNil))))) (fTst (f2 (opCmp .GtE) (fVar 2) (f2 (opBin .Pow) (fC (.int 10)) (fC (.int 18)))))) ((den_law_fresh_11 )) (fNext)) ((den_law_fresh_5 ))
def den_law_fresh_3  : FS := fSq (fIfS (fTst (f2 (opCmp .NotEq) (f2 opIx (fVar 0) (fC (.int 0))) (fLst (fNil)))) ((den_law_fresh_10 )) (fNext)) ((den_law_fresh_4 ))
def den_law_fresh_2  : FS := fSq (fSet 2 (fC (.int 0))) ((den_law_fresh_3 ))
def den_law_fresh_1  : FS := fSq (fSto (f2 (opBin .Add) (fVar 1) (fC (.int 1))) (fVar 0) (fC (.int 1))) ((den_law_fresh_2 ))
def den_law_fresh_0  : FS := fSq (fSet 1 (f2 opIx (fVar 0) (fC (.int 1)))) ((den_law_fresh_1 ))
abbrev den_law_fresh  : FS := den_law_fresh_0 
theorem bd_law_fresh {P : Program} {w : World} {K : PySem.W.Frag} {mg : Str → Option Value} {base : Heap} {C_LimitExceeded C_StepLimitExceeded : Addr}  (B : Bt K mg w C_LimitExceeded C_StepLimitExceeded)   (f : Addr) (cdv : Value) (A : Around) (outer : List PySem.Env) (s : Shared) (H : Hp) (E : XK)
    (hr : Room 0 (A.deeper (envOfC "_law_fresh" (defScope (topS 21)) s.heap.objs.size f cdv))) : PSs (cxOf (L2.CX P w) P w K mg base n_law_fresh "_law_fresh" (defScope (topS 21)) f cdv A outer s H E) (defBody (topS 21)) (liS K (tabX C_LimitExceeded C_StepLimitExceeded) (fun cls d _ H => E cls d H) (den_law_fresh )) := by
  have nd := sc_law_fresh.nd
  exact s_c (s_set 1 (b_ix (b_v 0) (b_i)) (hN := nd))
    (s_c (s_sto (b_op (b_v 1) (b_i)) (b_v 0) (b_i))
    (s_c (s_set 2 (b_i) (hN := nd))
    (s_c (s_if (c_cm hr (b_ix (b_v 0) (b_i)) (b_l (b_a0))) (s_1 (s_set 2 (b_ix (b_ix (b_v 0) (b_i)) (b_op (b_v 1) (b_bi .len B.b_len (b_a (b_ix (b_v 0) (b_i)) (b_a0))))) (hN := nd))) (s_0))
    (s_c (s_if (c_w (c_and (c_cm hr (b_v 1) (b_bi .len B.b_len (b_a (b_ix (b_v 0) (b_i)) (b_a0)))) (c_and1 (c_cm hr (b_v 2) (b_op (b_i) (b_i)))))) (s_1 (s_ret (b_op (b_v 2) (b_op (b_i) (b_i))))) (s_0))
    (s_c (s_set 3 (b_i) (hN := nd))
    (s_c (s_set 4 (b_op (b_op (b_op (b_op (b_v 2) (b_i)) (b_op (b_i) (b_v 1))) (b_i)) (b_v 3)) (hN := nd))
    (s_c (s_set 5 (b_v 4) (hN := nd))
    (s_c (s_for (passes_of rfl) (i_r1 B.b_range (b_a (b_i) (b_a0))) (b_gN (i := 6) nd rfl (by first | exact Or.inl rfl | exact Or.inr rfl)) (s_c (s_set 4 (b_op (b_op (b_op (b_op (b_v 4) (b_v 4)) (b_op (b_op (b_i) (b_op (b_v 6) (b_i))) (b_op (b_v 1) (b_i)))) (b_v 2)) (b_v 3)) (hN := nd))
    (s_1 (s_set 5 (b_op (b_op (b_v 5) (b_v 3)) (b_v 4)) (hN := nd)))))
    (s_1 (s_ret (b_v 5)))))))))))
abbrev n_law_draw : List Str := ["pen", "many", "digit"]
theorem sc_law_draw : FnScope n_law_draw ["pen", "many"] (defScope (topS 22)) := ⟨rfl, rfl, rfl, by decide +kernel, rfl, by decide +kernel, by decide +kernel⟩
def den_law_draw_4 (q__law_fresh : FSpec) : FS := fSto (fCall q__law_fresh (fCons (fVar 0) (fNil))) (fVar 0) (fC (.int 2))
def den_law_draw_3 (q__law_fresh : FSpec) : FS := fRet (fVar 2)
def den_law_draw_2 (q__law_fresh : FSpec) : FS := fSq (fSto (f2 (opBin .FloorDiv) (f2 opIx (fVar 0) (fC (.int 2))) (fVar 1)) (fVar 0) (fC (.int 2))) ((den_law_draw_3 q__law_fresh))
def den_law_draw_1 (q__law_fresh : FSpec) : FS := fSq (fSet 2 (f2 (opBin .Mod) (f2 opIx (fVar 0) (fC (.int 2))) (fVar 1))) ((den_law_draw_2 q__law_fresh))
def den_law_draw_0 (q__law_fresh : FSpec) : FS := fSq (fIfS (fTst (f2 (opCmp .Lt) (f2 opIx (fVar 0) (fC (.int 2))) (fVar 1))) ((den_law_draw_4 q__law_fresh)) (fNext)) ((den_law_draw_1 q__law_fresh))
abbrev den_law_draw (q__law_fresh : FSpec) : FS := den_law_draw_0 q__law_fresh
theorem bd_law_draw {P : Program} {w : World} {K : PySem.W.Frag} {mg : Str → Option Value} {base : Heap} {C_LimitExceeded C_StepLimitExceeded : Addr} {q__law_fresh : FSpec} (B : Bt K mg w C_LimitExceeded C_StepLimitExceeded) (d__law_fresh : Def P w K mg base (tabX C_LimitExceeded C_StepLimitExceeded) 1 "_law_fresh" ["pen"] q__law_fresh)  (f : Addr) (cdv : Value) (A : Around) (outer : List PySem.Env) (s : Shared) (H : Hp) (E : XK)
    (hr : Room 1 (A.deeper (envOfC "_law_draw" (defScope (topS 22)) s.heap.objs.size f cdv))) : PSs (cxOf (L2.CX P w) P w K mg base n_law_draw "_law_draw" (defScope (topS 22)) f cdv A outer s H E) (defBody (topS 22)) (liS K (tabX C_LimitExceeded C_StepLimitExceeded) (fun cls d _ H => E cls d H) (den_law_draw q__law_fresh)) := by
  have nd := sc_law_draw.nd
  exact s_c (s_if (c_cm hr (b_ix (b_v 0) (b_i)) (b_v 1)) (s_1 (s_sto (b_call (d__law_fresh.up (by decide)) hr (takes_of rfl rfl rfl rfl) (b_a (b_v 0) (b_a0))) (b_v 0) (b_i))) (s_0))
    (s_c (s_set 2 (b_op (b_ix (b_v 0) (b_i)) (b_v 1)) (hN := nd))
    (s_c (s_sto (b_op (b_ix (b_v 0) (b_i)) (b_v 1)) (b_v 0) (b_i))
    (s_1 (s_ret (b_v 2)))))
abbrev n_law_run : List Str := ["machine", "tape", "at", "used", "place"]
theorem sc_law_run : FnScope n_law_run ["machine", "tape"] (defScope (topS 23)) := ⟨rfl, rfl, rfl, by decide +kernel, rfl, by decide +kernel, by decide +kernel⟩
def den_law_run_9  : FS := fSet 2 (f2 opIx (fVar 4) (f2 (opBin .Sub) (fC (.int 2)) (fN (opBi .int) (fCons (f2 (opCmp .Eq) (f2 opIx (fVar 1) (fVar 3)) (fC (.str "H"))) (fNil)))))
def den_law_run_8  : FS := fRet (fTup (fCons (fC (.str "never")) (fCons (fVar 3) (fNil))))
def den_law_run_7  : FS := fRet (fTup (fCons (fC (.str "ended")) (fCons (f2 opIx (fVar 4) (fC (.int 1))) (fCons (fVar 3) (fNil)))))
def den_law_run_6  : FS := fIfS (fTst (f2 (opCmp .Lt) (fVar 3) (fN (opBi .len) (fCons (fVar 1) (fNil))))) ((den_law_run_9 )) (fNext)
def den_law_run_5  : FS := fSq (fIfS (fTst (f2 (opCmp .Eq) (f2 opIx (fVar 4) (fC (.int 0))) (fC (.str "never")))) ((den_law_run_8 )) (fNext)) ((den_law_run_6 ))
def den_law_run_4  : FS := fSq (fIfS (fTst (f2 (opCmp .Eq) (f2 opIx (fVar 4) (fC (.int 0))) (fC (.str "end")))) ((den_law_run_7 )) (fNext)) ((den_law_run_5 ))
def den_law_run_3  : FS := fSq (fSet 4 (f2 opIx (fVar 0) (fVar 2))) ((den_law_run_4 ))
def den_law_run_2  : FS := fRet (fTup (fCons (fC (.str "going")) (fCons (fVar 2) (fNil))))
def den_law_run_1  : FS := fSq (fFor (fRng1 (fCons (f2 (opBin .Add) (fN (opBi .len) (fCons (fVar 1) (fNil))) (fC (.int 1))) (fNil))) (gN 3) ((den_law_run_3 ))) ((den_law_run_2 ))
def den_law_run_0  : FS := fSq (fSet 2 (fC (.int 0))) ((den_law_run_1 ))
abbrev den_law_run  : FS := den_law_run_0 
theorem bd_law_run {P : Program} {w : World} {K : PySem.W.Frag} {mg : Str → Option Value} {base : Heap} {C_LimitExceeded C_StepLimitExceeded : Addr}  (B : Bt K mg w C_LimitExceeded C_StepLimitExceeded)   (f : Addr) (cdv : Value) (A : Around) (outer : List PySem.Env) (s : Shared) (H : Hp) (E : XK)
    (hr : Room 0 (A.deeper (envOfC "_law_run" (defScope (topS 23)) s.heap.objs.size f cdv))) : PSs (cxOf (L2.CX P w) P w K mg base n_law_run "_law_run" (defScope (topS 23)) f cdv A outer s H E) (defBody (topS 23)) (liS K (tabX C_LimitExceeded C_StepLimitExceeded) (fun cls d _ H => E cls d H) (den_law_run )) := by
  have nd := sc_law_run.nd
  exact s_c (s_set 2 (b_i) (hN := nd))
    (s_c (s_for (passes_of rfl) (i_r1 B.b_range (b_a (b_op (b_bi .len B.b_len (b_a (b_v 1) (b_a0))) (b_i)) (b_a0))) (b_gN (i := 3) nd rfl (by first | exact Or.inl rfl | exact Or.inr rfl)) (s_c (s_set 4 (b_ix (b_v 0) (b_v 2)) (hN := nd))
    (s_c (s_if (c_cm hr (b_ix (b_v 4) (b_i)) (b_s)) (s_1 (s_ret (b_t (b_a (b_s) (b_a (b_ix (b_v 4) (b_i)) (b_a (b_v 3) (b_a0))))))) (s_0))
    (s_c (s_if (c_cm hr (b_ix (b_v 4) (b_i)) (b_s)) (s_1 (s_ret (b_t (b_a (b_s) (b_a (b_v 3) (b_a0)))))) (s_0))
    (s_1 (s_if (c_cm hr (b_v 3) (b_bi .len B.b_len (b_a (b_v 1) (b_a0)))) (s_1 (s_set 2 (b_ix (b_v 4) (b_op (b_i) (b_bi .int B.b_int (b_a (b_cm hr (b_ix (b_v 1) (b_v 3)) (b_s)) (b_a0))))) (hN := nd))) (s_0)))))))
    (s_1 (s_ret (b_t (b_a (b_s) (b_a (b_v 2) (b_a0)))))))
abbrev n_law_tape : List Str := ["pen", "many", "k"]
theorem sc_law_tape : FnScope n_law_tape ["pen", "many"] (defScope (topS 24)) := ⟨rfl, rfl, rfl, by decide +kernel, rfl, by decide +kernel, by decide +kernel⟩
def den_law_tape_0 (q__law_draw : FSpec) : FS := fRet (fMe .join (fC (.str "")) (fCons (fLc [2] (fRng1 (fCons (fVar 1) (fNil))) (gN 2) (fYes) (f2 opIx (fC (.str "HT")) (fCall q__law_draw (fCons (fVar 0) (fCons (fC (.int 2)) (fNil)))))) (fNil)))
abbrev den_law_tape (q__law_draw : FSpec) : FS := den_law_tape_0 q__law_draw
theorem bd_law_tape {P : Program} {w : World} {K : PySem.W.Frag} {mg : Str → Option Value} {base : Heap} {C_LimitExceeded C_StepLimitExceeded : Addr} {q__law_draw : FSpec} (B : Bt K mg w C_LimitExceeded C_StepLimitExceeded) (d__law_draw : Def P w K mg base (tabX C_LimitExceeded C_StepLimitExceeded) 2 "_law_draw" ["pen", "many"] q__law_draw)  (f : Addr) (cdv : Value) (A : Around) (outer : List PySem.Env) (s : Shared) (H : Hp) (E : XK)
    (hr : Room 2 (A.deeper (envOfC "_law_tape" (defScope (topS 24)) s.heap.objs.size f cdv))) : PSs (cxOf (L2.CX P w) P w K mg base n_law_tape "_law_tape" (defScope (topS 24)) f cdv A outer s H E) (defBody (topS 24)) (liS K (tabX C_LimitExceeded C_StepLimitExceeded) (fun cls d _ H => E cls d H) (den_law_tape q__law_draw)) := by
  have nd := sc_law_tape.nd
  exact s_1 (s_ret (b_me .join (b_s) (b_a (b_lc [("k", 2)] (i_r1 B.b_range (b_a (b_v 1) (b_a0))) (fun s H C cl fp => b_gN (i := 2) nd rfl (by first | exact Or.inl rfl | exact Or.inr rfl)) (fun s H C cl fp => l_0) (fun s H C cl fp => b_ix (b_s) (b_call (d__law_draw.up (by decide)) hr takes0 (b_a (b_v 0) (b_a (b_i) (b_a0))))) (hN := nd)) (b_a0))))
abbrev n_law_tapes : List Str := ["many", "found", "k", "longer", "tape"]
theorem sc_law_tapes : FnScope n_law_tapes ["many"] (defScope (topS 25)) := ⟨rfl, rfl, rfl, by decide +kernel, rfl, by decide +kernel, by decide +kernel⟩
def den_law_tapes_6  : FS := fSet 3 (f2 (opBin .Add) (fVar 3) (fLst (fCons (f2 (opBin .Add) (fVar 4) (fC (.str "H"))) (fCons (f2 (opBin .Add) (fVar 4) (fC (.str "T"))) (fNil)))))
def den_law_tapes_5  : FS := fSet 1 (fVar 3)
def den_law_tapes_4  : FS := fSq (fFor (fSeq (fVar 1)) (gN 4) ((den_law_tapes_6 ))) ((den_law_tapes_5 ))
def den_law_tapes_3  : FS := fSq (fSet 3 (fLst (fNil))) ((den_law_tapes_4 ))
def den_law_tapes_2  : FS := fRet (fVar 1)
def den_law_tapes_1  : FS := fSq (fFor (fRng1 (fCons (fVar 0) (fNil))) (gN 2) ((den_law_tapes_3 ))) ((den_law_tapes_2 ))
def den_law_tapes_0  : FS := fSq (fSet 1 (fLst (fCons (fC (.str "")) (fNil)))) ((den_law_tapes_1 ))
abbrev den_law_tapes  : FS := den_law_tapes_0 
theorem bd_law_tapes {P : Program} {w : World} {K : PySem.W.Frag} {mg : Str → Option Value} {base : Heap} {C_LimitExceeded C_StepLimitExceeded : Addr}  (B : Bt K mg w C_LimitExceeded C_StepLimitExceeded)   (f : Addr) (cdv : Value) (A : Around) (outer : List PySem.Env) (s : Shared) (H : Hp) (E : XK)
    (hr : Room 0 (A.deeper (envOfC "_law_tapes" (defScope (topS 25)) s.heap.objs.size f cdv))) : PSs (cxOf (L2.CX P w) P w K mg base n_law_tapes "_law_tapes" (defScope (topS 25)) f cdv A outer s H E) (defBody (topS 25)) (liS K (tabX C_LimitExceeded C_StepLimitExceeded) (fun cls d _ H => E cls d H) (den_law_tapes )) := by
  have nd := sc_law_tapes.nd
  exact s_c (s_set 1 (b_l (b_a (b_s) (b_a0))) (hN := nd))
    (s_c (s_for (passes_of rfl) (i_r1 B.b_range (b_a (b_v 0) (b_a0))) (b_gN (i := 2) nd rfl (by first | exact Or.inl rfl | exact Or.inr rfl)) (s_c (s_set 3 (b_l (b_a0)) (hN := nd))
    (s_c (s_for (passes_of rfl) (i_s (b_v 1)) (b_gN (i := 4) nd rfl (by first | exact Or.inl rfl | exact Or.inr rfl)) (s_1 (s_set 3 (b_op (b_v 3) (b_l (b_a (b_op (b_v 4) (b_s)) (b_a (b_op (b_v 4) (b_s)) (b_a0))))) (hN := nd))))
    (s_1 (s_set 1 (b_v 3) (hN := nd))))))
    (s_1 (s_ret (b_v 1))))
abbrev n_law_binomials : List Str := ["many", "found", "k", "a", "b"]
theorem sc_law_binomials : FnScope n_law_binomials ["many"] (defScope (topS 26)) := ⟨rfl, rfl, rfl, by decide +kernel, rfl, by decide +kernel, by decide +kernel⟩
def den_law_binomials_3  : FS := fSet 1 (fLc [3, 4] (fZip false (fCons (f2 (opBin .Add) (fVar 1) (fLst (fCons (fC (.int 0)) (fNil)))) (fCons (f2 (opBin .Add) (fLst (fCons (fC (.int 0)) (fNil))) (fVar 1)) (fNil)))) (gT 2 (gMo (gN 3) (gMo (gN 4) (gNo)))) (fYes) (f2 (opBin .Add) (fVar 3) (fVar 4)))
def den_law_binomials_2  : FS := fRet (fVar 1)
def den_law_binomials_1  : FS := fSq (fFor (fRng1 (fCons (fVar 0) (fNil))) (gN 2) ((den_law_binomials_3 ))) ((den_law_binomials_2 ))
def den_law_binomials_0  : FS := fSq (fSet 1 (fLst (fCons (fC (.int 1)) (fNil)))) ((den_law_binomials_1 ))
abbrev den_law_binomials  : FS := den_law_binomials_0 
theorem bd_law_binomials {P : Program} {w : World} {K : PySem.W.Frag} {mg : Str → Option Value} {base : Heap} {C_LimitExceeded C_StepLimitExceeded : Addr}  (B : Bt K mg w C_LimitExceeded C_StepLimitExceeded)   (f : Addr) (cdv : Value) (A : Around) (outer : List PySem.Env) (s : Shared) (H : Hp) (E : XK)
    (hr : Room 0 (A.deeper (envOfC "_law_binomials" (defScope (topS 26)) s.heap.objs.size f cdv))) : PSs (cxOf (L2.CX P w) P w K mg base n_law_binomials "_law_binomials" (defScope (topS 26)) f cdv A outer s H E) (defBody (topS 26)) (liS K (tabX C_LimitExceeded C_StepLimitExceeded) (fun cls d _ H => E cls d H) (den_law_binomials )) := by
  have nd := sc_law_binomials.nd
  exact s_c (s_set 1 (b_l (b_a (b_i) (b_a0))) (hN := nd))
    (s_c (s_for (passes_of rfl) (i_r1 B.b_range (b_a (b_v 0) (b_a0))) (b_gN (i := 2) nd rfl (by first | exact Or.inl rfl | exact Or.inr rfl)) (s_1 (s_lc 1 [("a", 3), ("b", 4)] (i_z B.b_zip (b_a (b_op (b_v 1) (b_l (b_a (b_i) (b_a0)))) (b_a (b_op (b_l (b_a (b_i) (b_a0))) (b_v 1)) (b_a0)))) (fun s H C cl fp => b_gT rfl (b_gMo (b_gN (i := 3) nd rfl (by first | exact Or.inl rfl | exact Or.inr rfl)) (b_gMo (b_gN (i := 4) nd rfl (by first | exact Or.inl rfl | exact Or.inr rfl)) (b_gNo)))) (fun s H C cl fp => l_0) (fun s H C cl fp => b_op (b_v 3) (b_v 4)) (hN := nd))))
    (s_1 (s_ret (b_v 1))))
abbrev n_law_recipe : List Str := ["pen", "most", "many", "caps", "ends", "cap", "end"]
theorem sc_law_recipe : FnScope n_law_recipe ["pen", "most"] (defScope (topS 27)) := ⟨rfl, rfl, rfl, by decide +kernel, rfl, by decide +kernel, by decide +kernel⟩
def den_law_recipe_5 (q__law_draw : FSpec) (q__law_binomials : FSpec) : FS := fSet 4 (fVar 3)
def den_law_recipe_4 (q__law_draw : FSpec) (q__law_binomials : FSpec) : FS := fRet (fTup (fCons (fVar 2) (fCons (fN (opBi .tuple) (fCons (fLc [6] (fSeq (fVar 4)) (gN 6) (fYes) (fCall q__law_draw (fCons (fVar 0) (fCons (f2 (opBin .Add) (fVar 6) (fC (.int 1))) (fNil))))) (fNil))) (fCons (fN (opBi .tuple) (fCons (fVar 4) (fNil))) (fNil)))))
def den_law_recipe_3 (q__law_draw : FSpec) (q__law_binomials : FSpec) : FS := fSq (fIfS (fTst (f2 (opCmp .Eq) (fN (opBi .sum) (fCons (fVar 4) (fNil))) (fC (.int 0)))) ((den_law_recipe_5 q__law_draw q__law_binomials)) (fNext)) ((den_law_recipe_4 q__law_draw q__law_binomials))
def den_law_recipe_2 (q__law_draw : FSpec) (q__law_binomials : FSpec) : FS := fSq (fSet 4 (fLc [5] (fSeq (fVar 3)) (gN 5) (fYes) (fCall q__law_draw (fCons (fVar 0) (fCons (f2 (opBin .Add) (fVar 5) (fC (.int 1))) (fNil)))))) ((den_law_recipe_3 q__law_draw q__law_binomials))
def den_law_recipe_1 (q__law_draw : FSpec) (q__law_binomials : FSpec) : FS := fSq (fSet 3 (fCall q__law_binomials (fCons (fVar 2) (fNil)))) ((den_law_recipe_2 q__law_draw q__law_binomials))
def den_law_recipe_0 (q__law_draw : FSpec) (q__law_binomials : FSpec) : FS := fSq (fSet 2 (fCall q__law_draw (fCons (fVar 0) (fCons (f2 (opBin .Add) (fVar 1) (fC (.int 1))) (fNil))))) ((den_law_recipe_1 q__law_draw q__law_binomials))
abbrev den_law_recipe (q__law_draw : FSpec) (q__law_binomials : FSpec) : FS := den_law_recipe_0 q__law_draw q__law_binomials
theorem bd_law_recipe {P : Program} {w : World} {K : PySem.W.Frag} {mg : Str → Option Value} {base : Heap} {C_LimitExceeded C_StepLimitExceeded : Addr} {q__law_draw q__law_binomials : FSpec} (B : Bt K mg w C_LimitExceeded C_StepLimitExceeded) (d__law_draw : Def P w K mg base (tabX C_LimitExceeded C_StepLimitExceeded) 2 "_law_draw" ["pen", "many"] q__law_draw) (d__law_binomials : Def P w K mg base (tabX C_LimitExceeded C_StepLimitExceeded) 1 "_law_binomials" ["many"] q__law_binomials)  (f : Addr) (cdv : Value) (A : Around) (outer : List PySem.Env) (s : Shared) (H : Hp) (E : XK)
    (hr : Room 2 (A.deeper (envOfC "_law_recipe" (defScope (topS 27)) s.heap.objs.size f cdv))) : PSs (cxOf (L2.CX P w) P w K mg base n_law_recipe "_law_recipe" (defScope (topS 27)) f cdv A outer s H E) (defBody (topS 27)) (liS K (tabX C_LimitExceeded C_StepLimitExceeded) (fun cls d _ H => E cls d H) (den_law_recipe q__law_draw q__law_binomials)) := by
  have nd := sc_law_recipe.nd
  exact s_c (s_set 2 (b_call (d__law_draw.up (by decide)) hr (takes_of rfl rfl rfl rfl) (b_a (b_v 0) (b_a (b_op (b_v 1) (b_i)) (b_a0)))) (hN := nd))
    (s_c (s_set 3 (b_call (d__law_binomials.up (by decide)) hr (takes_of rfl rfl rfl rfl) (b_a (b_v 2) (b_a0))) (hN := nd))
    (s_c (s_lc 4 [("cap", 5)] (i_s (b_v 3)) (fun s H C cl fp => b_gN (i := 5) nd rfl (by first | exact Or.inl rfl | exact Or.inr rfl)) (fun s H C cl fp => l_0) (fun s H C cl fp => b_call (d__law_draw.up (by decide)) hr takes0 (b_a (b_v 0) (b_a (b_op (b_v 5) (b_i)) (b_a0)))) (hN := nd))
    (s_c (s_if (c_cm hr (b_bi .sum B.b_sum (b_a (b_v 4) (b_a0))) (b_i)) (s_1 (s_set 4 (b_v 3) (hN := nd))) (s_0))
    (s_1 (s_ret (b_t (b_a (b_v 2) (b_a (b_bi .tuple B.b_tuple (b_a (b_lc [("end", 6)] (i_s (b_v 4)) (fun s H C cl fp => b_gN (i := 6) nd rfl (by first | exact Or.inl rfl | exact Or.inr rfl)) (fun s H C cl fp => l_0) (fun s H C cl fp => b_call (d__law_draw.up (by decide)) hr takes0 (b_a (b_v 0) (b_a (b_op (b_v 6) (b_i)) (b_a0)))) (hN := nd)) (b_a0))) (b_a (b_bi .tuple B.b_tuple (b_a (b_v 4) (b_a0))) (b_a0))))))))))
abbrev n_law_compiled : List Str := ["some", "e"]
theorem sc_law_compiled : FnScope n_law_compiled ["some"] (defScope (topS 28)) := ⟨rfl, rfl, rfl, by decide +kernel, rfl, by decide +kernel, by decide +kernel⟩
def den_law_compiled_2 (K : PySem.W.Frag) (T_ : XTab) (C_LimitExceeded : Addr) (C_StepLimitExceeded : Addr) (q_machine_from_recipe : FSpec) (ad : Addr) (cls : Value) (dx : Option Addr) : FS := fRet (fIf (fAnd (fTru (fXi K ad cls dx (.type "OverflowError") (fVar 1))) (fNot (fTru (fXi K ad cls dx (.ref C_StepLimitExceeded) (fVar 1))))) (fXf ad cls dx C_LimitExceeded "limit" (fVar 1)) (fC .non))
def den_law_compiled_1 (K : PySem.W.Frag) (T_ : XTab) (C_LimitExceeded : Addr) (C_StepLimitExceeded : Addr) (q_machine_from_recipe : FSpec) : FS := fRet (fCall q_machine_from_recipe (fCons (fVar 0) (fNil)))
def den_law_compiled_0 (K : PySem.W.Frag) (T_ : XTab) (C_LimitExceeded : Addr) (C_StepLimitExceeded : Addr) (q_machine_from_recipe : FSpec) : FS := fTryAs K T_ (.ref C_LimitExceeded) 1 ((den_law_compiled_1 K T_ C_LimitExceeded C_StepLimitExceeded q_machine_from_recipe)) (fun ad cls dx => (den_law_compiled_2 K T_ C_LimitExceeded C_StepLimitExceeded q_machine_from_recipe ad cls dx))
abbrev den_law_compiled (K : PySem.W.Frag) (T_ : XTab) (C_LimitExceeded : Addr) (C_StepLimitExceeded : Addr) (q_machine_from_recipe : FSpec) : FS := den_law_compiled_0 K T_ C_LimitExceeded C_StepLimitExceeded q_machine_from_recipe
theorem bd_law_compiled {P : Program} {w : World} {K : PySem.W.Frag} {mg : Str → Option Value} {base : Heap} {C_LimitExceeded C_StepLimitExceeded : Addr} {q_machine_from_recipe : FSpec} (B : Bt K mg w C_LimitExceeded C_StepLimitExceeded) (d_machine_from_recipe : Def P w K mg base (tabX C_LimitExceeded C_StepLimitExceeded) 5 "machine_from_recipe" ["recipe"] q_machine_from_recipe)  (f : Addr) (cdv : Value) (A : Around) (outer : List PySem.Env) (s : Shared) (H : Hp) (E : XK)
    (hr : Room 5 (A.deeper (envOfC "_law_compiled" (defScope (topS 28)) s.heap.objs.size f cdv))) : PSs (cxOf (L2.CX P w) P w K mg base n_law_compiled "_law_compiled" (defScope (topS 28)) f cdv A outer s H E) (defBody (topS 28)) (liS K (tabX C_LimitExceeded C_StepLimitExceeded) (fun cls d _ H => E cls d H) (den_law_compiled K (tabX C_LimitExceeded C_StepLimitExceeded) C_LimitExceeded C_StepLimitExceeded q_machine_from_recipe)) := by
  have nd := sc_law_compiled.nd
  exact s_1 (s_try 1 ⟨rfl, by decide, Or.inl B.g_LimitExceeded⟩ (takes_of rfl rfl rfl rfl) (fun W2 pn xe tk2 po2 => s_1 (s_ret (b_call (d_machine_from_recipe.up (by decide)) hr tk2 (b_a (b_v 0) (b_a0))))) (fun ad oe cls dx pn hz hf => s_1 (s_ret (b_if (c_w (c_and (c_t (b_xi (tv := .ty "OverflowError") (fun _ h => h) hz hf B.b_isinstance (b_v 1) (pe_bltn rfl B.b_OverflowError (by decide +kernel) rfl))) (c_and1 (c_not (c_t (b_xi (tv := .ref C_StepLimitExceeded) (fun _ h => h) hz hf B.b_isinstance (b_v 1) (pe_glob rfl B.g_StepLimitExceeded rfl))))))) (b_xf B.xf_LimitExceeded B.xn_LimitExceeded hz hf (b_v 1)) (b_n)))) (hN := nd))
abbrev n_law_tape_agrees : List Str := ["some", "machine", "tape", "found", "walk"]
theorem sc_law_tape_agrees : FnScope n_law_tape_agrees ["some", "machine", "tape"] (defScope (topS 29)) := ⟨rfl, rfl, rfl, by decide +kernel, rfl, by decide +kernel, by decide +kernel⟩
def den_law_tape_agrees_4 (q_run_recipe : FSpec) (q__law_run : FSpec) : FS := fRet (f2 (opCmp .Eq) (f2 opIx (fVar 4) (fC (.int 0))) (fC (.str "going")))
def den_law_tape_agrees_3 (q_run_recipe : FSpec) (q__law_run : FSpec) : FS := fRet (f2 (opCmp .Eq) (fVar 4) (fTup (fCons (fC (.str "ended")) (fCons (fN (opBi .int) (fCons (f2 (opCmp .Eq) (f2 opIx (fVar 3) (fC (.int 0))) (fC (.str "yes"))) (fNil))) (fCons (f2 (opBin .Mult) (f2 opIx (fVar 3) (fC (.int 1))) (f2 opIx (fVar 0) (fC (.int 0)))) (fNil))))))
def den_law_tape_agrees_2 (q_run_recipe : FSpec) (q__law_run : FSpec) : FS := fSq (fIfS (fTst (f2 (opCmp .Eq) (f2 opIx (fVar 3) (fC (.int 0))) (fC (.str "going")))) ((den_law_tape_agrees_4 q_run_recipe q__law_run)) (fNext)) ((den_law_tape_agrees_3 q_run_recipe q__law_run))
def den_law_tape_agrees_1 (q_run_recipe : FSpec) (q__law_run : FSpec) : FS := fSq (fSet 4 (fCall q__law_run (fCons (fVar 1) (fCons (fVar 2) (fNil))))) ((den_law_tape_agrees_2 q_run_recipe q__law_run))
def den_law_tape_agrees_0 (q_run_recipe : FSpec) (q__law_run : FSpec) : FS := fSq (fSet 3 (fCall q_run_recipe (fCons (fVar 0) (fCons (fVar 2) (fNil))))) ((den_law_tape_agrees_1 q_run_recipe q__law_run))
abbrev den_law_tape_agrees (q_run_recipe : FSpec) (q__law_run : FSpec) : FS := den_law_tape_agrees_0 q_run_recipe q__law_run
theorem bd_law_tape_agrees {P : Program} {w : World} {K : PySem.W.Frag} {mg : Str → Option Value} {base : Heap} {C_LimitExceeded C_StepLimitExceeded : Addr} {q_run_recipe q__law_run : FSpec} (B : Bt K mg w C_LimitExceeded C_StepLimitExceeded) (d_run_recipe : Def P w K mg base (tabX C_LimitExceeded C_StepLimitExceeded) 5 "run_recipe" ["recipe", "tape"] q_run_recipe) (d__law_run : Def P w K mg base (tabX C_LimitExceeded C_StepLimitExceeded) 1 "_law_run" ["machine", "tape"] q__law_run)  (f : Addr) (cdv : Value) (A : Around) (outer : List PySem.Env) (s : Shared) (H : Hp) (E : XK)
    (hr : Room 5 (A.deeper (envOfC "_law_tape_agrees" (defScope (topS 29)) s.heap.objs.size f cdv))) : PSs (cxOf (L2.CX P w) P w K mg base n_law_tape_agrees "_law_tape_agrees" (defScope (topS 29)) f cdv A outer s H E) (defBody (topS 29)) (liS K (tabX C_LimitExceeded C_StepLimitExceeded) (fun cls d _ H => E cls d H) (den_law_tape_agrees q_run_recipe q__law_run)) := by
  have nd := sc_law_tape_agrees.nd
  exact s_c (s_set 3 (b_call (d_run_recipe.up (by decide)) hr (takes_of rfl rfl rfl rfl) (b_a (b_v 0) (b_a (b_v 2) (b_a0)))) (hN := nd))
    (s_c (s_set 4 (b_call (d__law_run.up (by decide)) hr (takes_of rfl rfl rfl rfl) (b_a (b_v 1) (b_a (b_v 2) (b_a0)))) (hN := nd))
    (s_c (s_if (c_cm hr (b_ix (b_v 3) (b_i)) (b_s)) (s_1 (s_ret (b_cm hr (b_ix (b_v 4) (b_i)) (b_s)))) (s_0))
    (s_1 (s_ret (b_cm hr (b_v 4) (b_t (b_a (b_s) (b_a (b_bi .int B.b_int (b_a (b_cm hr (b_ix (b_v 3) (b_i)) (b_s)) (b_a0))) (b_a (b_op (b_ix (b_v 3) (b_i)) (b_ix (b_v 0) (b_i))) (b_a0))))))))))
abbrev nlaw : List Str := ["script", "pen", "turn", "some", "machine", "place", "tape", "k"]
theorem sclaw : FnScope nlaw ["script"] (defScope (topS 30)) := ⟨rfl, rfl, rfl, by decide +kernel, rfl, by decide +kernel, by decide +kernel⟩
def denlaw_15 (q__law_pen : FSpec) (q__law_recipe : FSpec) (q__law_compiled : FSpec) (q_machine_error : FSpec) (q_machine_from_recipe : FSpec) (q__law_tapes : FSpec) (q__law_draw : FSpec) (q__law_tape : FSpec) (q__law_tape_agrees : FSpec) : FS := fRet (fC (.bl false))
def denlaw_14 (q__law_pen : FSpec) (q__law_recipe : FSpec) (q__law_compiled : FSpec) (q_machine_error : FSpec) (q_machine_from_recipe : FSpec) (q__law_tapes : FSpec) (q__law_draw : FSpec) (q__law_tape : FSpec) (q__law_tape_agrees : FSpec) : FS := fIfS (fNot (fTru (fCall q__law_tape_agrees (fCons (fVar 3) (fCons (fVar 4) (fCons (fVar 6) (fNil))))))) ((denlaw_15 q__law_pen q__law_recipe q__law_compiled q_machine_error q_machine_from_recipe q__law_tapes q__law_draw q__law_tape q__law_tape_agrees)) (fNext)
def denlaw_13 (q__law_pen : FSpec) (q__law_recipe : FSpec) (q__law_compiled : FSpec) (q_machine_error : FSpec) (q_machine_from_recipe : FSpec) (q__law_tapes : FSpec) (q__law_draw : FSpec) (q__law_tape : FSpec) (q__law_tape_agrees : FSpec) : FS := fRet (fC (.bl false))
def denlaw_12 (q__law_pen : FSpec) (q__law_recipe : FSpec) (q__law_compiled : FSpec) (q_machine_error : FSpec) (q_machine_from_recipe : FSpec) (q__law_tapes : FSpec) (q__law_draw : FSpec) (q__law_tape : FSpec) (q__law_tape_agrees : FSpec) : FS := fRet (fC (.bl false))
def denlaw_11 (q__law_pen : FSpec) (q__law_recipe : FSpec) (q__law_compiled : FSpec) (q_machine_error : FSpec) (q_machine_from_recipe : FSpec) (q__law_tapes : FSpec) (q__law_draw : FSpec) (q__law_tape : FSpec) (q__law_tape_agrees : FSpec) : FS := fRet (fC (.bl false))
def denlaw_10 (q__law_pen : FSpec) (q__law_recipe : FSpec) (q__law_compiled : FSpec) (q_machine_error : FSpec) (q_machine_from_recipe : FSpec) (q__law_tapes : FSpec) (q__law_draw : FSpec) (q__law_tape : FSpec) (q__law_tape_agrees : FSpec) : FS := fCnt
def denlaw_9 (q__law_pen : FSpec) (q__law_recipe : FSpec) (q__law_compiled : FSpec) (q_machine_error : FSpec) (q_machine_from_recipe : FSpec) (q__law_tapes : FSpec) (q__law_draw : FSpec) (q__law_tape : FSpec) (q__law_tape_agrees : FSpec) : FS := fSq (fIfS (fOr (fTst (f2 (opCmp .NotEq) (fVar 4) (fC (.int 5)))) (fTru (f1 (opIsi .bool) (fVar 4)))) ((denlaw_11 q__law_pen q__law_recipe q__law_compiled q_machine_error q_machine_from_recipe q__law_tapes q__law_draw q__law_tape q__law_tape_agrees)) (fNext)) ((denlaw_10 q__law_pen q__law_recipe q__law_compiled q_machine_error q_machine_from_recipe q__law_tapes q__law_draw q__law_tape q__law_tape_agrees))
def denlaw_8 (q__law_pen : FSpec) (q__law_recipe : FSpec) (q__law_compiled : FSpec) (q_machine_error : FSpec) (q_machine_from_recipe : FSpec) (q__law_tapes : FSpec) (q__law_draw : FSpec) (q__law_tape : FSpec) (q__law_tape_agrees : FSpec) : FS := fFor (fSeq (f2 (opBin .Add) (fCall q__law_tapes (fCons (f2 opIx (fVar 3) (fC (.int 0))) (fNil))) (fLc [7] (fRng1 (fCons (fC (.int 6)) (fNil))) (gN 7) (fYes) (fCall q__law_tape (fCons (fVar 1) (fCons (fCall q__law_draw (fCons (fVar 1) (fCons (fC (.int 41)) (fNil)))) (fNil))))))) (gN 6) ((denlaw_14 q__law_pen q__law_recipe q__law_compiled q_machine_error q_machine_from_recipe q__law_tapes q__law_draw q__law_tape q__law_tape_agrees))
def denlaw_7 (q__law_pen : FSpec) (q__law_recipe : FSpec) (q__law_compiled : FSpec) (q_machine_error : FSpec) (q_machine_from_recipe : FSpec) (q__law_tapes : FSpec) (q__law_draw : FSpec) (q__law_tape : FSpec) (q__law_tape_agrees : FSpec) : FS := fSq (fIfS (fTst (f2 (opCmp .Gt) (fN (opBi .len) (fCons (fLc [5] (fSeq (fVar 4)) (gN 5) (fTst (f2 (opCmp .Eq) (f2 opIx (fVar 5) (fC (.int 0))) (fC (.str "toss")))) (fVar 5)) (fNil))) (f2 opIx (fLst (fCons (fC (.int 0)) (fCons (fC (.int 1)) (fCons (fC (.int 3)) (fCons (fC (.int 7)) (fCons (fC (.int 15)) (fCons (fC (.int 31)) (fNil)))))))) (f2 opIx (fVar 3) (fC (.int 0)))))) ((denlaw_13 q__law_pen q__law_recipe q__law_compiled q_machine_error q_machine_from_recipe q__law_tapes q__law_draw q__law_tape q__law_tape_agrees)) (fNext)) ((denlaw_8 q__law_pen q__law_recipe q__law_compiled q_machine_error q_machine_from_recipe q__law_tapes q__law_draw q__law_tape q__law_tape_agrees))
def denlaw_6 (q__law_pen : FSpec) (q__law_recipe : FSpec) (q__law_compiled : FSpec) (q_machine_error : FSpec) (q_machine_from_recipe : FSpec) (q__law_tapes : FSpec) (q__law_draw : FSpec) (q__law_tape : FSpec) (q__law_tape_agrees : FSpec) : FS := fSq (fIfS (fOr (fTst (f2 (opCmp .IsNot) (fCall q_machine_error (fCons (fVar 4) (fNil))) (fC .non))) (fTst (f2 (opCmp .NotEq) (fCall q_machine_from_recipe (fCons (fVar 3) (fNil))) (fVar 4)))) ((denlaw_12 q__law_pen q__law_recipe q__law_compiled q_machine_error q_machine_from_recipe q__law_tapes q__law_draw q__law_tape q__law_tape_agrees)) (fNext)) ((denlaw_7 q__law_pen q__law_recipe q__law_compiled q_machine_error q_machine_from_recipe q__law_tapes q__law_draw q__law_tape q__law_tape_agrees))
def denlaw_5 (q__law_pen : FSpec) (q__law_recipe : FSpec) (q__law_compiled : FSpec) (q_machine_error : FSpec) (q_machine_from_recipe : FSpec) (q__law_tapes : FSpec) (q__law_draw : FSpec) (q__law_tape : FSpec) (q__law_tape_agrees : FSpec) : FS := fSq (fIfS (fTst (f2 (opCmp .Gt) (f2 opIx (fVar 3) (fC (.int 0))) (fC (.int 5)))) ((denlaw_9 q__law_pen q__law_recipe q__law_compiled q_machine_error q_machine_from_recipe q__law_tapes q__law_draw q__law_tape q__law_tape_agrees)) (fNext)) ((denlaw_6 q__law_pen q__law_recipe q__law_compiled q_machine_error q_machine_from_recipe q__law_tapes q__law_draw q__law_tape q__law_tape_agrees))
def denlaw_4 (q__law_pen : FSpec) (q__law_recipe : FSpec) (q__law_compiled : FSpec) (q_machine_error : FSpec) (q_machine_from_recipe : FSpec) (q__law_tapes : FSpec) (q__law_draw : FSpec) (q__law_tape : FSpec) (q__law_tape_agrees : FSpec) : FS := fSq (fSet 4 (fCall q__law_compiled (fCons (fVar 3) (fNil)))) ((denlaw_5 q__law_pen q__law_recipe q__law_compiled q_machine_error q_machine_from_recipe q__law_tapes q__law_draw q__law_tape q__law_tape_agrees))
def denlaw_3 (q__law_pen : FSpec) (q__law_recipe : FSpec) (q__law_compiled : FSpec) (q_machine_error : FSpec) (q_machine_from_recipe : FSpec) (q__law_tapes : FSpec) (q__law_draw : FSpec) (q__law_tape : FSpec) (q__law_tape_agrees : FSpec) : FS := fSq (fSet 3 (fCall q__law_recipe (fCons (fVar 1) (fCons (fC (.int 7)) (fNil))))) ((denlaw_4 q__law_pen q__law_recipe q__law_compiled q_machine_error q_machine_from_recipe q__law_tapes q__law_draw q__law_tape q__law_tape_agrees))
def denlaw_2 (q__law_pen : FSpec) (q__law_recipe : FSpec) (q__law_compiled : FSpec) (q_machine_error : FSpec) (q_machine_from_recipe : FSpec) (q__law_tapes : FSpec) (q__law_draw : FSpec) (q__law_tape : FSpec) (q__law_tape_agrees : FSpec) : FS := fRet (fC (.bl true))
def denlaw_1 (q__law_pen : FSpec) (q__law_recipe : FSpec) (q__law_compiled : FSpec) (q_machine_error : FSpec) (q_machine_from_recipe : FSpec) (q__law_tapes : FSpec) (q__law_draw : FSpec) (q__law_tape : FSpec) (q__law_tape_agrees : FSpec) : FS := fSq (fFor (fRng1 (fCons (fC (.int 3)) (fNil))) (gN 2) ((denlaw_3 q__law_pen q__law_recipe q__law_compiled q_machine_error q_machine_from_recipe q__law_tapes q__law_draw q__law_tape q__law_tape_agrees))) ((denlaw_2 q__law_pen q__law_recipe q__law_compiled q_machine_error q_machine_from_recipe q__law_tapes q__law_draw q__law_tape q__law_tape_agrees))
def denlaw_0 (q__law_pen : FSpec) (q__law_recipe : FSpec) (q__law_compiled : FSpec) (q_machine_error : FSpec) (q_machine_from_recipe : FSpec) (q__law_tapes : FSpec) (q__law_draw : FSpec) (q__law_tape : FSpec) (q__law_tape_agrees : FSpec) : FS := fSq (fSet 1 (fCall q__law_pen (fCons (fVar 0) (fNil)))) ((denlaw_1 q__law_pen q__law_recipe q__law_compiled q_machine_error q_machine_from_recipe q__law_tapes q__law_draw q__law_tape q__law_tape_agrees))
abbrev denlaw (q__law_pen : FSpec) (q__law_recipe : FSpec) (q__law_compiled : FSpec) (q_machine_error : FSpec) (q_machine_from_recipe : FSpec) (q__law_tapes : FSpec) (q__law_draw : FSpec) (q__law_tape : FSpec) (q__law_tape_agrees : FSpec) : FS := denlaw_0 q__law_pen q__law_recipe q__law_compiled q_machine_error q_machine_from_recipe q__law_tapes q__law_draw q__law_tape q__law_tape_agrees
theorem bdlaw {P : Program} {w : World} {K : PySem.W.Frag} {mg : Str → Option Value} {base : Heap} {C_LimitExceeded C_StepLimitExceeded : Addr} {q__law_pen q__law_recipe q__law_compiled q_machine_error q_machine_from_recipe q__law_tapes q__law_draw q__law_tape q__law_tape_agrees : FSpec} (B : Bt K mg w C_LimitExceeded C_StepLimitExceeded) (d__law_pen : Def P w K mg base (tabX C_LimitExceeded C_StepLimitExceeded) 1 "_law_pen" ["script"] q__law_pen) (d__law_recipe : Def P w K mg base (tabX C_LimitExceeded C_StepLimitExceeded) 3 "_law_recipe" ["pen", "most"] q__law_recipe) (d__law_compiled : Def P w K mg base (tabX C_LimitExceeded C_StepLimitExceeded) 6 "_law_compiled" ["some"] q__law_compiled) (d_machine_error : Def P w K mg base (tabX C_LimitExceeded C_StepLimitExceeded) 3 "machine_error" ["value"] q_machine_error) (d__law_tapes : Def P w K mg base (tabX C_LimitExceeded C_StepLimitExceeded) 1 "_law_tapes" ["many"] q__law_tapes) (d__law_draw : Def P w K mg base (tabX C_LimitExceeded C_StepLimitExceeded) 2 "_law_draw" ["pen", "many"] q__law_draw) (d__law_tape : Def P w K mg base (tabX C_LimitExceeded C_StepLimitExceeded) 3 "_law_tape" ["pen", "many"] q__law_tape) (d__law_tape_agrees : Def P w K mg base (tabX C_LimitExceeded C_StepLimitExceeded) 6 "_law_tape_agrees" ["some", "machine", "tape"] q__law_tape_agrees) (dk_machine_from_recipe : DefK P w K mg base (tabX C_LimitExceeded C_StepLimitExceeded) 5 "machine_from_recipe" ["recipe"] q_machine_from_recipe) (f : Addr) (cdv : Value) (A : Around) (outer : List PySem.Env) (s : Shared) (H : Hp) (E : XK)
    (hr : Room 6 (A.deeper (envOfC "law" (defScope (topS 30)) s.heap.objs.size f cdv))) : PSs (cxOf (L2.CX P w) P w K mg base nlaw "law" (defScope (topS 30)) f cdv A outer s H E) (defBody (topS 30)) (liS K (tabX C_LimitExceeded C_StepLimitExceeded) (fun cls d _ H => E cls d H) (denlaw q__law_pen q__law_recipe q__law_compiled q_machine_error q_machine_from_recipe q__law_tapes q__law_draw q__law_tape q__law_tape_agrees)) := by
  have nd := sclaw.nd
  exact s_c (s_set 1 (b_call (d__law_pen.up (by decide)) hr (takes_of rfl rfl rfl rfl) (b_a (b_v 0) (b_a0))) (hN := nd))
    (s_c (s_for (passes_of rfl) (i_r1 B.b_range (b_a (b_i) (b_a0))) (b_gN (i := 2) nd rfl (by first | exact Or.inl rfl | exact Or.inr rfl)) (s_c (s_set 3 (b_call (d__law_recipe.up (by decide)) hr (takes_of rfl rfl rfl rfl) (b_a (b_v 1) (b_a (b_i) (b_a0)))) (hN := nd))
    (s_c (s_set 4 (b_call (d__law_compiled.up (by decide)) hr (takes_of rfl rfl rfl rfl) (b_a (b_v 3) (b_a0))) (hN := nd))
    (s_c (s_if (c_cm hr (b_ix (b_v 3) (b_i)) (b_i)) (s_c (s_if (c_w (c_or (c_cm hr (b_v 4) (b_i)) (c_or1 (c_t (b_isi .bool B.b_isinstance B.b_bool (b_v 4)))))) (s_1 (s_ret (b_b))) (s_0))
    (s_1 (s_cnt))) (s_0))
    (s_c (s_if (c_w (c_or (c_cm hr (b_call (d_machine_error.up (by decide)) hr (takes_of rfl rfl rfl rfl) (b_a (b_v 4) (b_a0))) (b_n)) (c_or1 (c_cm hr (b_callk (dk_machine_from_recipe.up (by decide)) hr (takes_of rfl rfl rfl rfl) (b_k (b_v 3) (b_k0))) (b_v 4))))) (s_1 (s_ret (b_b))) (s_0))
    (s_c (s_if (c_cm hr (b_bi .len B.b_len (b_a (b_lc [("place", 5)] (i_s (b_v 4)) (fun s H C cl fp => b_gN (i := 5) nd rfl (by first | exact Or.inl rfl | exact Or.inr rfl)) (fun s H C cl fp => l_1 (c_cm hr (b_ix (b_v 5) (b_i)) (b_s))) (fun s H C cl fp => b_v 5) (hN := nd)) (b_a0))) (b_ix (b_l (b_a (b_i) (b_a (b_i) (b_a (b_i) (b_a (b_i) (b_a (b_i) (b_a (b_i) (b_a0)))))))) (b_ix (b_v 3) (b_i)))) (s_1 (s_ret (b_b))) (s_0))
    (s_1 (s_for (passes_of rfl) (i_s (b_op (b_call (d__law_tapes.up (by decide)) hr (takes_of rfl rfl rfl rfl) (b_a (b_ix (b_v 3) (b_i)) (b_a0))) (b_lc [("k", 7)] (i_r1 B.b_range (b_a (b_i) (b_a0))) (fun s H C cl fp => b_gN (i := 7) nd rfl (by first | exact Or.inl rfl | exact Or.inr rfl)) (fun s H C cl fp => l_0) (fun s H C cl fp => b_call (d__law_tape.up (by decide)) hr takes0 (b_a (b_v 1) (b_a (b_call (d__law_draw.up (by decide)) hr takes0 (b_a (b_v 1) (b_a (b_i) (b_a0)))) (b_a0)))) (hN := nd)))) (b_gN (i := 6) nd rfl (by first | exact Or.inl rfl | exact Or.inr rfl)) (s_1 (s_if (c_not (c_t (b_call (d__law_tape_agrees.up (by decide)) hr (takes_of rfl rfl rfl rfl) (b_a (b_v 3) (b_a (b_v 4) (b_a (b_v 6) (b_a0))))))) (s_1 (s_ret (b_b))) (s_0)))))))))))
    (s_1 (s_ret (b_b))))
theorem bt_mk {w : World} {K : PySem.W.Frag} {h : Heap} {mg : Str → Option Value} {C_LimitExceeded C_StepLimitExceeded D_WIDTHS f_iLimitExceeded f_iStepLimitExceeded f_raise_degree f_binomial_row f_rank_in_row f_classify_round f_run_recipe f_machine_from_recipe f_is_integer f_state_error f_machine_error f__law_pen f__law_fresh f__law_draw f__law_run f__law_tape f__law_tapes f__law_binomials f__law_recipe f__law_compiled f__law_tape_agrees f_law : Addr} {od_iLimitExceeded an_iLimitExceeded : Option Addr} {sl_iLimitExceeded : Array (Option Value)} {oc_iLimitExceeded kV_iLimitExceeded dc_iLimitExceeded pm_iLimitExceeded cd_iLimitExceeded ct_iLimitExceeded : Value} {od_iStepLimitExceeded an_iStepLimitExceeded : Option Addr} {sl_iStepLimitExceeded : Array (Option Value)} {oc_iStepLimitExceeded kV_iStepLimitExceeded dc_iStepLimitExceeded pm_iStepLimitExceeded cd_iStepLimitExceeded ct_iStepLimitExceeded : Value} {od_raise_degree an_raise_degree : Option Addr} {sl_raise_degree : Array (Option Value)} {oc_raise_degree kV_raise_degree dc_raise_degree pm_raise_degree cd_raise_degree ct_raise_degree : Value} {od_binomial_row an_binomial_row : Option Addr} {sl_binomial_row : Array (Option Value)} {oc_binomial_row kV_binomial_row dc_binomial_row pm_binomial_row cd_binomial_row ct_binomial_row : Value} {od_rank_in_row an_rank_in_row : Option Addr} {sl_rank_in_row : Array (Option Value)} {oc_rank_in_row kV_rank_in_row dc_rank_in_row pm_rank_in_row cd_rank_in_row ct_rank_in_row : Value} {od_classify_round an_classify_round : Option Addr} {sl_classify_round : Array (Option Value)} {oc_classify_round kV_classify_round dc_classify_round pm_classify_round cd_classify_round ct_classify_round : Value} {od_run_recipe an_run_recipe : Option Addr} {sl_run_recipe : Array (Option Value)} {oc_run_recipe kV_run_recipe dc_run_recipe pm_run_recipe cd_run_recipe ct_run_recipe : Value} {od_machine_from_recipe an_machine_from_recipe : Option Addr} {sl_machine_from_recipe : Array (Option Value)} {oc_machine_from_recipe kV_machine_from_recipe dc_machine_from_recipe pm_machine_from_recipe cd_machine_from_recipe ct_machine_from_recipe : Value} {od_is_integer an_is_integer : Option Addr} {sl_is_integer : Array (Option Value)} {oc_is_integer kV_is_integer dc_is_integer pm_is_integer cd_is_integer ct_is_integer : Value} {od_state_error an_state_error : Option Addr} {sl_state_error : Array (Option Value)} {oc_state_error kV_state_error dc_state_error pm_state_error cd_state_error ct_state_error : Value} {od_machine_error an_machine_error : Option Addr} {sl_machine_error : Array (Option Value)} {oc_machine_error kV_machine_error dc_machine_error pm_machine_error cd_machine_error ct_machine_error : Value} {od__law_pen an__law_pen : Option Addr} {sl__law_pen : Array (Option Value)} {oc__law_pen kV__law_pen dc__law_pen pm__law_pen cd__law_pen ct__law_pen : Value} {od__law_fresh an__law_fresh : Option Addr} {sl__law_fresh : Array (Option Value)} {oc__law_fresh kV__law_fresh dc__law_fresh pm__law_fresh cd__law_fresh ct__law_fresh : Value} {od__law_draw an__law_draw : Option Addr} {sl__law_draw : Array (Option Value)} {oc__law_draw kV__law_draw dc__law_draw pm__law_draw cd__law_draw ct__law_draw : Value} {od__law_run an__law_run : Option Addr} {sl__law_run : Array (Option Value)} {oc__law_run kV__law_run dc__law_run pm__law_run cd__law_run ct__law_run : Value} {od__law_tape an__law_tape : Option Addr} {sl__law_tape : Array (Option Value)} {oc__law_tape kV__law_tape dc__law_tape pm__law_tape cd__law_tape ct__law_tape : Value} {od__law_tapes an__law_tapes : Option Addr} {sl__law_tapes : Array (Option Value)} {oc__law_tapes kV__law_tapes dc__law_tapes pm__law_tapes cd__law_tapes ct__law_tapes : Value} {od__law_binomials an__law_binomials : Option Addr} {sl__law_binomials : Array (Option Value)} {oc__law_binomials kV__law_binomials dc__law_binomials pm__law_binomials cd__law_binomials ct__law_binomials : Value} {od__law_recipe an__law_recipe : Option Addr} {sl__law_recipe : Array (Option Value)} {oc__law_recipe kV__law_recipe dc__law_recipe pm__law_recipe cd__law_recipe ct__law_recipe : Value} {od__law_compiled an__law_compiled : Option Addr} {sl__law_compiled : Array (Option Value)} {oc__law_compiled kV__law_compiled dc__law_compiled pm__law_compiled cd__law_compiled ct__law_compiled : Value} {od__law_tape_agrees an__law_tape_agrees : Option Addr} {sl__law_tape_agrees : Array (Option Value)} {oc__law_tape_agrees kV__law_tape_agrees dc__law_tape_agrees pm__law_tape_agrees cd__law_tape_agrees ct__law_tape_agrees : Value} {od_law an_law : Option Addr} {sl_law : Array (Option Value)} {oc_law kV_law dc_law pm_law cd_law ct_law : Value} {nm_LimitExceeded q_LimitExceeded : Str} {N_LimitExceeded : Addr} {bs_LimitExceeded : List Value} {sn_LimitExceeded : List Str} {sub_LimitExceeded : List Value} {ab_LimitExceeded : Bool} {col_LimitExceeded : Option Bool} {dd_LimitExceeded : Option Addr} {m0_LimitExceeded m1_LimitExceeded m2_LimitExceeded m3_LimitExceeded m5_LimitExceeded : Option Value} {nm_StepLimitExceeded q_StepLimitExceeded : Str} {N_StepLimitExceeded : Addr} {bs_StepLimitExceeded : List Value} {sn_StepLimitExceeded : List Str} {sub_StepLimitExceeded : List Value} {ab_StepLimitExceeded : Bool} {col_StepLimitExceeded : Option Bool} {dd_StepLimitExceeded : Option Addr} {m0_StepLimitExceeded m1_StepLimitExceeded m2_StepLimitExceeded m3_StepLimitExceeded m5_StepLimitExceeded : Option Value} {es_WIDTHS : Array DictEntry} {n_WIDTHS : Nat} {t_MAX_COMPILED_TOSSES t_MOST_ANSWER t_MOST_PLACES : Tok} (X : K.In h) (Gm : h.Ns mainGlobals mg)
    (z_OverflowError : PySem.W.nsIn K mainGlobals "OverflowError" = some none)
    (z_all : PySem.W.nsIn K mainGlobals "all" = some none)
    (z_bool : PySem.W.nsIn K mainGlobals "bool" = some none)
    (z_enumerate : PySem.W.nsIn K mainGlobals "enumerate" = some none)
    (z_int : PySem.W.nsIn K mainGlobals "int" = some none)
    (z_isinstance : PySem.W.nsIn K mainGlobals "isinstance" = some none)
    (z_len : PySem.W.nsIn K mainGlobals "len" = some none)
    (z_list : PySem.W.nsIn K mainGlobals "list" = some none)
    (z_range : PySem.W.nsIn K mainGlobals "range" = some none)
    (z_str : PySem.W.nsIn K mainGlobals "str" = some none)
    (z_sum : PySem.W.nsIn K mainGlobals "sum" = some none)
    (z_tuple : PySem.W.nsIn K mainGlobals "tuple" = some none)
    (z_zip : PySem.W.nsIn K mainGlobals "zip" = some none)
    (c_MAX_COMPILED_TOSSES : PySem.W.nsIn K mainGlobals "MAX_COMPILED_TOSSES" = some (some (.int 5 t_MAX_COMPILED_TOSSES)))
    (c_MOST_ANSWER : PySem.W.nsIn K mainGlobals "MOST_ANSWER" = some (some (.int 99 t_MOST_ANSWER)))
    (c_MOST_PLACES : PySem.W.nsIn K mainGlobals "MOST_PLACES" = some (some (.int 60 t_MOST_PLACES)))
    (g_LimitExceeded : PySem.W.nsIn K mainGlobals "LimitExceeded" = some (some (.ref C_LimitExceeded)))
    (xL_LimitExceeded : K.lookup C_LimitExceeded = some (excClassObj nm_LimitExceeded q_LimitExceeded C_LimitExceeded N_LimitExceeded bs_LimitExceeded [.type "OverflowError", .type "ArithmeticError", .type "Exception", .type "BaseException", .type "object"] true sn_LimitExceeded sub_LimitExceeded ab_LimitExceeded col_LimitExceeded dd_LimitExceeded m0_LimitExceeded m1_LimitExceeded m2_LimitExceeded m3_LimitExceeded m5_LimitExceeded "OverflowError.__new__"))
    (sa_LimitExceeded : PySem.W.findIn K (.ref C_LimitExceeded) "__setattr__" = some (some (.builtin "object.__setattr__")))
    (eC_LimitExceeded : PySem.W.subIn K (.ref C_LimitExceeded) (.type "BaseException") = some true)
    (tC_LimitExceeded : PySem.W.typeIn K (.ref C_LimitExceeded) = some (.type "type"))
    (kC_LimitExceeded : PySem.W.keepIn K (.ref C_LimitExceeded) = true)
    (ga_LimitExceeded : PySem.W.findIn K (.ref C_LimitExceeded) "__getattribute__" = some (some (.builtin "BaseException.__getattribute__")))
    (gg_LimitExceeded : PySem.W.findIn K (.ref C_LimitExceeded) "__getattr__" = some none)
    (hC_LimitExceeded : PySem.W.hasDictIn K C_LimitExceeded = true)
    (xn_LimitExceeded : PySem.W.findIn K (.ref C_LimitExceeded) "limit" = some none)
    (ca_LimitExceeded : PySem.W.findIn K (.ref C_LimitExceeded) "__class__" = some (some (.builtin "object.__class__")))
    (cm_LimitExceeded : PySem.W.mroIn K C_LimitExceeded (.type "object") = some true)
    (iC_LimitExceeded : PySem.W.findIn K (.ref C_LimitExceeded) "__init__" = some (some (.ref f_iLimitExceeded)))
    (ti_LimitExceeded : PySem.W.typeIn K (.ref f_iLimitExceeded) = some (.type "function"))
    (l_iLimitExceeded : K.lookup f_iLimitExceeded = some ⟨oc_iLimitExceeded, od_iLimitExceeded, .func (PySem.W.fnOf "__init__" "LimitExceeded.__init__" (defArgs (initS 1)) (defBody (initS 1)) (defScope (initS 1)) .none kV_iLimitExceeded dc_iLimitExceeded pm_iLimitExceeded an_iLimitExceeded cd_iLimitExceeded ct_iLimitExceeded), sl_iLimitExceeded⟩)
    (d_iLimitExceeded : PySem.W.codeIn K cd_iLimitExceeded "LimitExceeded.__init__" = true)
    (k_iLimitExceeded : PySem.W.keepIn K (.ref f_iLimitExceeded) = true)
    (vv_OverflowError : PySem.W.findCls K (.type "OverflowError") (.type "type") "__init__" = some (.val (.builtin "OverflowError.__init__")))
    (cg : PySem.W.specialIn K (.builtin "object.__class__") "__get__" = some (some (.builtin "getset_descriptor.__get__")))
    (ct : PySem.W.takesIn K (.builtin "object.__class__") = some true)
    (g_StepLimitExceeded : PySem.W.nsIn K mainGlobals "StepLimitExceeded" = some (some (.ref C_StepLimitExceeded)))
    (xL_StepLimitExceeded : K.lookup C_StepLimitExceeded = some (excClassObj nm_StepLimitExceeded q_StepLimitExceeded C_StepLimitExceeded N_StepLimitExceeded bs_StepLimitExceeded [.type "OverflowError", .type "ArithmeticError", .type "Exception", .type "BaseException", .type "object"] true sn_StepLimitExceeded sub_StepLimitExceeded ab_StepLimitExceeded col_StepLimitExceeded dd_StepLimitExceeded m0_StepLimitExceeded m1_StepLimitExceeded m2_StepLimitExceeded m3_StepLimitExceeded m5_StepLimitExceeded "OverflowError.__new__"))
    (sa_StepLimitExceeded : PySem.W.findIn K (.ref C_StepLimitExceeded) "__setattr__" = some (some (.builtin "object.__setattr__")))
    (eC_StepLimitExceeded : PySem.W.subIn K (.ref C_StepLimitExceeded) (.type "BaseException") = some true)
    (tC_StepLimitExceeded : PySem.W.typeIn K (.ref C_StepLimitExceeded) = some (.type "type"))
    (kC_StepLimitExceeded : PySem.W.keepIn K (.ref C_StepLimitExceeded) = true)
    (ga_StepLimitExceeded : PySem.W.findIn K (.ref C_StepLimitExceeded) "__getattribute__" = some (some (.builtin "BaseException.__getattribute__")))
    (gg_StepLimitExceeded : PySem.W.findIn K (.ref C_StepLimitExceeded) "__getattr__" = some none)
    (hC_StepLimitExceeded : PySem.W.hasDictIn K C_StepLimitExceeded = true)
    (xn_StepLimitExceeded : PySem.W.findIn K (.ref C_StepLimitExceeded) "limit" = some none)
    (ca_StepLimitExceeded : PySem.W.findIn K (.ref C_StepLimitExceeded) "__class__" = some (some (.builtin "object.__class__")))
    (cm_StepLimitExceeded : PySem.W.mroIn K C_StepLimitExceeded (.type "object") = some true)
    (iC_StepLimitExceeded : PySem.W.findIn K (.ref C_StepLimitExceeded) "__init__" = some (some (.ref f_iStepLimitExceeded)))
    (ti_StepLimitExceeded : PySem.W.typeIn K (.ref f_iStepLimitExceeded) = some (.type "function"))
    (l_iStepLimitExceeded : K.lookup f_iStepLimitExceeded = some ⟨oc_iStepLimitExceeded, od_iStepLimitExceeded, .func (PySem.W.fnOf "__init__" "StepLimitExceeded.__init__" (defArgs (initS 2)) (defBody (initS 2)) (defScope (initS 2)) .none kV_iStepLimitExceeded dc_iStepLimitExceeded pm_iStepLimitExceeded an_iStepLimitExceeded cd_iStepLimitExceeded ct_iStepLimitExceeded), sl_iStepLimitExceeded⟩)
    (d_iStepLimitExceeded : PySem.W.codeIn K cd_iStepLimitExceeded "StepLimitExceeded.__init__" = true)
    (k_iStepLimitExceeded : PySem.W.keepIn K (.ref f_iStepLimitExceeded) = true)
    (dk_WIDTHS : PySem.W.nsIn K mainGlobals "WIDTHS" = some (some (.ref D_WIDTHS)))
    (dl_WIDTHS : K.lookup D_WIDTHS = some ⟨.type "dict", none, .dict es_WIDTHS n_WIDTHS, #[]⟩)
    (dh_WIDTHS : PySem.W.KeysLit w.params es_WIDTHS.toList)
    (ds_WIDTHS : (D_WIDTHS == sysModules) = false)
    (dr_WIDTHS : es_WIDTHS.toList.any (·.refKey) = false)
    (dt_WIDTHS : es_WIDTHS.toList.map entOf = ([("toss", 3), ("end", 2), ("never", 1)] : List (Str × Int)))
    (di_WIDTHS : ∀ e ∈ es_WIDTHS.toList, ∃ i t, e.val = .int i t)
    (a_raise_degree : PySem.W.nsIn K mainGlobals "raise_degree" = some (some (.ref f_raise_degree)))
    (l_raise_degree : K.lookup f_raise_degree = some ⟨oc_raise_degree, od_raise_degree, .func (PySem.W.fnOf "raise_degree" "raise_degree" (defArgs (topS 4)) (defBody (topS 4)) (defScope (topS 4)) .none kV_raise_degree dc_raise_degree pm_raise_degree an_raise_degree cd_raise_degree ct_raise_degree), sl_raise_degree⟩)
    (d_raise_degree : PySem.W.codeIn K cd_raise_degree "raise_degree" = true)
    (k_raise_degree : PySem.W.keepIn K (.ref f_raise_degree) = true)
    (a_binomial_row : PySem.W.nsIn K mainGlobals "binomial_row" = some (some (.ref f_binomial_row)))
    (l_binomial_row : K.lookup f_binomial_row = some ⟨oc_binomial_row, od_binomial_row, .func (PySem.W.fnOf "binomial_row" "binomial_row" (defArgs (topS 7)) (defBody (topS 7)) (defScope (topS 7)) .none kV_binomial_row dc_binomial_row pm_binomial_row an_binomial_row cd_binomial_row ct_binomial_row), sl_binomial_row⟩)
    (d_binomial_row : PySem.W.codeIn K cd_binomial_row "binomial_row" = true)
    (k_binomial_row : PySem.W.keepIn K (.ref f_binomial_row) = true)
    (a_rank_in_row : PySem.W.nsIn K mainGlobals "rank_in_row" = some (some (.ref f_rank_in_row)))
    (l_rank_in_row : K.lookup f_rank_in_row = some ⟨oc_rank_in_row, od_rank_in_row, .func (PySem.W.fnOf "rank_in_row" "rank_in_row" (defArgs (topS 8)) (defBody (topS 8)) (defScope (topS 8)) .none kV_rank_in_row dc_rank_in_row pm_rank_in_row an_rank_in_row cd_rank_in_row ct_rank_in_row), sl_rank_in_row⟩)
    (d_rank_in_row : PySem.W.codeIn K cd_rank_in_row "rank_in_row" = true)
    (k_rank_in_row : PySem.W.keepIn K (.ref f_rank_in_row) = true)
    (a_classify_round : PySem.W.nsIn K mainGlobals "classify_round" = some (some (.ref f_classify_round)))
    (l_classify_round : K.lookup f_classify_round = some ⟨oc_classify_round, od_classify_round, .func (PySem.W.fnOf "classify_round" "classify_round" (defArgs (topS 9)) (defBody (topS 9)) (defScope (topS 9)) .none kV_classify_round dc_classify_round pm_classify_round an_classify_round cd_classify_round ct_classify_round), sl_classify_round⟩)
    (d_classify_round : PySem.W.codeIn K cd_classify_round "classify_round" = true)
    (k_classify_round : PySem.W.keepIn K (.ref f_classify_round) = true)
    (a_run_recipe : PySem.W.nsIn K mainGlobals "run_recipe" = some (some (.ref f_run_recipe)))
    (l_run_recipe : K.lookup f_run_recipe = some ⟨oc_run_recipe, od_run_recipe, .func (PySem.W.fnOf "run_recipe" "run_recipe" (defArgs (topS 10)) (defBody (topS 10)) (defScope (topS 10)) .none kV_run_recipe dc_run_recipe pm_run_recipe an_run_recipe cd_run_recipe ct_run_recipe), sl_run_recipe⟩)
    (d_run_recipe : PySem.W.codeIn K cd_run_recipe "run_recipe" = true)
    (k_run_recipe : PySem.W.keepIn K (.ref f_run_recipe) = true)
    (a_machine_from_recipe : PySem.W.nsIn K mainGlobals "machine_from_recipe" = some (some (.ref f_machine_from_recipe)))
    (l_machine_from_recipe : K.lookup f_machine_from_recipe = some ⟨oc_machine_from_recipe, od_machine_from_recipe, .func (PySem.W.fnOf "machine_from_recipe" "machine_from_recipe" (defArgs (topS 11)) (defBody (topS 11)) (defScope (topS 11)) .none kV_machine_from_recipe dc_machine_from_recipe pm_machine_from_recipe an_machine_from_recipe cd_machine_from_recipe ct_machine_from_recipe), sl_machine_from_recipe⟩)
    (d_machine_from_recipe : PySem.W.codeIn K cd_machine_from_recipe "machine_from_recipe" = true)
    (k_machine_from_recipe : PySem.W.keepIn K (.ref f_machine_from_recipe) = true)
    (a_is_integer : PySem.W.nsIn K mainGlobals "is_integer" = some (some (.ref f_is_integer)))
    (l_is_integer : K.lookup f_is_integer = some ⟨oc_is_integer, od_is_integer, .func (PySem.W.fnOf "is_integer" "is_integer" (defArgs (topS 16)) (defBody (topS 16)) (defScope (topS 16)) .none kV_is_integer dc_is_integer pm_is_integer an_is_integer cd_is_integer ct_is_integer), sl_is_integer⟩)
    (d_is_integer : PySem.W.codeIn K cd_is_integer "is_integer" = true)
    (k_is_integer : PySem.W.keepIn K (.ref f_is_integer) = true)
    (a_state_error : PySem.W.nsIn K mainGlobals "state_error" = some (some (.ref f_state_error)))
    (l_state_error : K.lookup f_state_error = some ⟨oc_state_error, od_state_error, .func (PySem.W.fnOf "state_error" "state_error" (defArgs (topS 17)) (defBody (topS 17)) (defScope (topS 17)) .none kV_state_error dc_state_error pm_state_error an_state_error cd_state_error ct_state_error), sl_state_error⟩)
    (d_state_error : PySem.W.codeIn K cd_state_error "state_error" = true)
    (k_state_error : PySem.W.keepIn K (.ref f_state_error) = true)
    (a_machine_error : PySem.W.nsIn K mainGlobals "machine_error" = some (some (.ref f_machine_error)))
    (l_machine_error : K.lookup f_machine_error = some ⟨oc_machine_error, od_machine_error, .func (PySem.W.fnOf "machine_error" "machine_error" (defArgs (topS 18)) (defBody (topS 18)) (defScope (topS 18)) .none kV_machine_error dc_machine_error pm_machine_error an_machine_error cd_machine_error ct_machine_error), sl_machine_error⟩)
    (d_machine_error : PySem.W.codeIn K cd_machine_error "machine_error" = true)
    (k_machine_error : PySem.W.keepIn K (.ref f_machine_error) = true)
    (a__law_pen : PySem.W.nsIn K mainGlobals "_law_pen" = some (some (.ref f__law_pen)))
    (l__law_pen : K.lookup f__law_pen = some ⟨oc__law_pen, od__law_pen, .func (PySem.W.fnOf "_law_pen" "_law_pen" (defArgs (topS 20)) (defBody (topS 20)) (defScope (topS 20)) .none kV__law_pen dc__law_pen pm__law_pen an__law_pen cd__law_pen ct__law_pen), sl__law_pen⟩)
    (d__law_pen : PySem.W.codeIn K cd__law_pen "_law_pen" = true)
    (k__law_pen : PySem.W.keepIn K (.ref f__law_pen) = true)
    (a__law_fresh : PySem.W.nsIn K mainGlobals "_law_fresh" = some (some (.ref f__law_fresh)))
    (l__law_fresh : K.lookup f__law_fresh = some ⟨oc__law_fresh, od__law_fresh, .func (PySem.W.fnOf "_law_fresh" "_law_fresh" (defArgs (topS 21)) (defBody (topS 21)) (defScope (topS 21)) .none kV__law_fresh dc__law_fresh pm__law_fresh an__law_fresh cd__law_fresh ct__law_fresh), sl__law_fresh⟩)
    (d__law_fresh : PySem.W.codeIn K cd__law_fresh "_law_fresh" = true)
    (k__law_fresh : PySem.W.keepIn K (.ref f__law_fresh) = true)
    (a__law_draw : PySem.W.nsIn K mainGlobals "_law_draw" = some (some (.ref f__law_draw)))
    (l__law_draw : K.lookup f__law_draw = some ⟨oc__law_draw, od__law_draw, .func (PySem.W.fnOf "_law_draw" "_law_draw" (defArgs (topS 22)) (defBody (topS 22)) (defScope (topS 22)) .none kV__law_draw dc__law_draw pm__law_draw an__law_draw cd__law_draw ct__law_draw), sl__law_draw⟩)
    (d__law_draw : PySem.W.codeIn K cd__law_draw "_law_draw" = true)
    (k__law_draw : PySem.W.keepIn K (.ref f__law_draw) = true)
    (a__law_run : PySem.W.nsIn K mainGlobals "_law_run" = some (some (.ref f__law_run)))
    (l__law_run : K.lookup f__law_run = some ⟨oc__law_run, od__law_run, .func (PySem.W.fnOf "_law_run" "_law_run" (defArgs (topS 23)) (defBody (topS 23)) (defScope (topS 23)) .none kV__law_run dc__law_run pm__law_run an__law_run cd__law_run ct__law_run), sl__law_run⟩)
    (d__law_run : PySem.W.codeIn K cd__law_run "_law_run" = true)
    (k__law_run : PySem.W.keepIn K (.ref f__law_run) = true)
    (a__law_tape : PySem.W.nsIn K mainGlobals "_law_tape" = some (some (.ref f__law_tape)))
    (l__law_tape : K.lookup f__law_tape = some ⟨oc__law_tape, od__law_tape, .func (PySem.W.fnOf "_law_tape" "_law_tape" (defArgs (topS 24)) (defBody (topS 24)) (defScope (topS 24)) .none kV__law_tape dc__law_tape pm__law_tape an__law_tape cd__law_tape ct__law_tape), sl__law_tape⟩)
    (d__law_tape : PySem.W.codeIn K cd__law_tape "_law_tape" = true)
    (k__law_tape : PySem.W.keepIn K (.ref f__law_tape) = true)
    (a__law_tapes : PySem.W.nsIn K mainGlobals "_law_tapes" = some (some (.ref f__law_tapes)))
    (l__law_tapes : K.lookup f__law_tapes = some ⟨oc__law_tapes, od__law_tapes, .func (PySem.W.fnOf "_law_tapes" "_law_tapes" (defArgs (topS 25)) (defBody (topS 25)) (defScope (topS 25)) .none kV__law_tapes dc__law_tapes pm__law_tapes an__law_tapes cd__law_tapes ct__law_tapes), sl__law_tapes⟩)
    (d__law_tapes : PySem.W.codeIn K cd__law_tapes "_law_tapes" = true)
    (k__law_tapes : PySem.W.keepIn K (.ref f__law_tapes) = true)
    (a__law_binomials : PySem.W.nsIn K mainGlobals "_law_binomials" = some (some (.ref f__law_binomials)))
    (l__law_binomials : K.lookup f__law_binomials = some ⟨oc__law_binomials, od__law_binomials, .func (PySem.W.fnOf "_law_binomials" "_law_binomials" (defArgs (topS 26)) (defBody (topS 26)) (defScope (topS 26)) .none kV__law_binomials dc__law_binomials pm__law_binomials an__law_binomials cd__law_binomials ct__law_binomials), sl__law_binomials⟩)
    (d__law_binomials : PySem.W.codeIn K cd__law_binomials "_law_binomials" = true)
    (k__law_binomials : PySem.W.keepIn K (.ref f__law_binomials) = true)
    (a__law_recipe : PySem.W.nsIn K mainGlobals "_law_recipe" = some (some (.ref f__law_recipe)))
    (l__law_recipe : K.lookup f__law_recipe = some ⟨oc__law_recipe, od__law_recipe, .func (PySem.W.fnOf "_law_recipe" "_law_recipe" (defArgs (topS 27)) (defBody (topS 27)) (defScope (topS 27)) .none kV__law_recipe dc__law_recipe pm__law_recipe an__law_recipe cd__law_recipe ct__law_recipe), sl__law_recipe⟩)
    (d__law_recipe : PySem.W.codeIn K cd__law_recipe "_law_recipe" = true)
    (k__law_recipe : PySem.W.keepIn K (.ref f__law_recipe) = true)
    (a__law_compiled : PySem.W.nsIn K mainGlobals "_law_compiled" = some (some (.ref f__law_compiled)))
    (l__law_compiled : K.lookup f__law_compiled = some ⟨oc__law_compiled, od__law_compiled, .func (PySem.W.fnOf "_law_compiled" "_law_compiled" (defArgs (topS 28)) (defBody (topS 28)) (defScope (topS 28)) .none kV__law_compiled dc__law_compiled pm__law_compiled an__law_compiled cd__law_compiled ct__law_compiled), sl__law_compiled⟩)
    (d__law_compiled : PySem.W.codeIn K cd__law_compiled "_law_compiled" = true)
    (k__law_compiled : PySem.W.keepIn K (.ref f__law_compiled) = true)
    (a__law_tape_agrees : PySem.W.nsIn K mainGlobals "_law_tape_agrees" = some (some (.ref f__law_tape_agrees)))
    (l__law_tape_agrees : K.lookup f__law_tape_agrees = some ⟨oc__law_tape_agrees, od__law_tape_agrees, .func (PySem.W.fnOf "_law_tape_agrees" "_law_tape_agrees" (defArgs (topS 29)) (defBody (topS 29)) (defScope (topS 29)) .none kV__law_tape_agrees dc__law_tape_agrees pm__law_tape_agrees an__law_tape_agrees cd__law_tape_agrees ct__law_tape_agrees), sl__law_tape_agrees⟩)
    (d__law_tape_agrees : PySem.W.codeIn K cd__law_tape_agrees "_law_tape_agrees" = true)
    (k__law_tape_agrees : PySem.W.keepIn K (.ref f__law_tape_agrees) = true)
    (a_law : PySem.W.nsIn K mainGlobals "law" = some (some (.ref f_law)))
    (l_law : K.lookup f_law = some ⟨oc_law, od_law, .func (PySem.W.fnOf "law" "law" (defArgs (topS 30)) (defBody (topS 30)) (defScope (topS 30)) .none kV_law dc_law pm_law an_law cd_law ct_law), sl_law⟩)
    (d_law : PySem.W.codeIn K cd_law "law" = true)
    (k_law : PySem.W.keepIn K (.ref f_law) = true) : Bt K mg w C_LimitExceeded C_StepLimitExceeded :=
  { b_OverflowError := PySem.W.mg_none_of X Gm z_OverflowError
    b_all := PySem.W.mg_none_of X Gm z_all
    b_bool := PySem.W.mg_none_of X Gm z_bool
    b_enumerate := PySem.W.mg_none_of X Gm z_enumerate
    b_int := PySem.W.mg_none_of X Gm z_int
    b_isinstance := PySem.W.mg_none_of X Gm z_isinstance
    b_len := PySem.W.mg_none_of X Gm z_len
    b_list := PySem.W.mg_none_of X Gm z_list
    b_range := PySem.W.mg_none_of X Gm z_range
    b_str := PySem.W.mg_none_of X Gm z_str
    b_sum := PySem.W.mg_none_of X Gm z_sum
    b_tuple := PySem.W.mg_none_of X Gm z_tuple
    b_zip := PySem.W.mg_none_of X Gm z_zip
    c_MAX_COMPILED_TOSSES := ⟨t_MAX_COMPILED_TOSSES, PySem.W.mg_of X Gm c_MAX_COMPILED_TOSSES⟩
    c_MOST_ANSWER := ⟨t_MOST_ANSWER, PySem.W.mg_of X Gm c_MOST_ANSWER⟩
    c_MOST_PLACES := ⟨t_MOST_PLACES, PySem.W.mg_of X Gm c_MOST_PLACES⟩
    vv_OverflowError := vv_OverflowError
    g_LimitExceeded := PySem.W.mg_of X Gm g_LimitExceeded
    xf_LimitExceeded := ⟨ga_LimitExceeded, gg_LimitExceeded, eC_LimitExceeded, hC_LimitExceeded⟩
    xn_LimitExceeded := xn_LimitExceeded
    xi_LimitExceeded := ⟨OxC.some ⟨⟨_, _, _, _, _, _, _, _, _, _, _, _, _, _, xL_LimitExceeded⟩, sa_LimitExceeded, eC_LimitExceeded, tC_LimitExceeded, kC_LimitExceeded⟩, ga_LimitExceeded, gg_LimitExceeded, eC_LimitExceeded, ca_LimitExceeded, cg, ct, cm_LimitExceeded⟩
    ox_LimitExceeded := ⟨⟨_, _, _, _, _, _, _, _, _, _, _, _, _, _, xL_LimitExceeded⟩, sa_LimitExceeded, eC_LimitExceeded, tC_LimitExceeded, kC_LimitExceeded⟩
    in_LimitExceeded := ⟨f_iLimitExceeded, _, iC_LimitExceeded, ti_LimitExceeded, fun_mk l_iLimitExceeded d_iLimitExceeded k_iLimitExceeded⟩
    g_StepLimitExceeded := PySem.W.mg_of X Gm g_StepLimitExceeded
    xf_StepLimitExceeded := ⟨ga_StepLimitExceeded, gg_StepLimitExceeded, eC_StepLimitExceeded, hC_StepLimitExceeded⟩
    xn_StepLimitExceeded := xn_StepLimitExceeded
    xi_StepLimitExceeded := ⟨OxC.some ⟨⟨_, _, _, _, _, _, _, _, _, _, _, _, _, _, xL_StepLimitExceeded⟩, sa_StepLimitExceeded, eC_StepLimitExceeded, tC_StepLimitExceeded, kC_StepLimitExceeded⟩, ga_StepLimitExceeded, gg_StepLimitExceeded, eC_StepLimitExceeded, ca_StepLimitExceeded, cg, ct, cm_StepLimitExceeded⟩
    ox_StepLimitExceeded := ⟨⟨_, _, _, _, _, _, _, _, _, _, _, _, _, _, xL_StepLimitExceeded⟩, sa_StepLimitExceeded, eC_StepLimitExceeded, tC_StepLimitExceeded, kC_StepLimitExceeded⟩
    in_StepLimitExceeded := ⟨f_iStepLimitExceeded, _, iC_StepLimitExceeded, ti_StepLimitExceeded, fun_mk l_iStepLimitExceeded d_iStepLimitExceeded k_iStepLimitExceeded⟩
    k_WIDTHS := ktab_mk (PySem.W.mg_of X Gm dk_WIDTHS) dl_WIDTHS dh_WIDTHS ds_WIDTHS dr_WIDTHS dt_WIDTHS di_WIDTHS
    a_raise_degree := ⟨⟨f_raise_degree, _, PySem.W.mg_of X Gm a_raise_degree, fun_mk l_raise_degree d_raise_degree k_raise_degree⟩, fun f fd F => F.binds fun _ _ _ _ _ _ us hl => match us, hl with | [_], _ => rfl⟩
    a_binomial_row := ⟨⟨f_binomial_row, _, PySem.W.mg_of X Gm a_binomial_row, fun_mk l_binomial_row d_binomial_row k_binomial_row⟩, fun f fd F => F.binds fun _ _ _ _ _ _ us hl => match us, hl with | [_], _ => rfl⟩
    a_rank_in_row := ⟨⟨f_rank_in_row, _, PySem.W.mg_of X Gm a_rank_in_row, fun_mk l_rank_in_row d_rank_in_row k_rank_in_row⟩, fun f fd F => F.binds fun _ _ _ _ _ _ us hl => match us, hl with | [_], _ => rfl⟩
    a_classify_round := ⟨⟨f_classify_round, _, PySem.W.mg_of X Gm a_classify_round, fun_mk l_classify_round d_classify_round k_classify_round⟩, fun f fd F => F.binds fun _ _ _ _ _ _ us hl => match us, hl with | [_, _], _ => rfl⟩
    a_run_recipe := ⟨⟨f_run_recipe, _, PySem.W.mg_of X Gm a_run_recipe, fun_mk l_run_recipe d_run_recipe k_run_recipe⟩, fun f fd F => F.binds fun _ _ _ _ _ _ us hl => match us, hl with | [_, _], _ => rfl⟩
    a_machine_from_recipe := ⟨⟨f_machine_from_recipe, _, PySem.W.mg_of X Gm a_machine_from_recipe, fun_mk l_machine_from_recipe d_machine_from_recipe k_machine_from_recipe⟩, fun f fd F => F.binds fun _ _ _ _ _ _ us hl => match us, hl with | [_], _ => rfl⟩
    ak_machine_from_recipe := ⟨⟨f_machine_from_recipe, _, PySem.W.mg_of X Gm a_machine_from_recipe, fun_mk l_machine_from_recipe d_machine_from_recipe k_machine_from_recipe⟩, fun f fd F s ws hl => by
        obtain ⟨oc, od, kV, doc, pm, an, cdv, ct, osl, rfl, lk, hcd⟩ := F.ex
        exact match ws, hl with | [_], _ => BindsTo.of_eq rfl⟩
    a_is_integer := ⟨⟨f_is_integer, _, PySem.W.mg_of X Gm a_is_integer, fun_mk l_is_integer d_is_integer k_is_integer⟩, fun f fd F => F.binds fun _ _ _ _ _ _ us hl => match us, hl with | [_], _ => rfl⟩
    a_state_error := ⟨⟨f_state_error, _, PySem.W.mg_of X Gm a_state_error, fun_mk l_state_error d_state_error k_state_error⟩, fun f fd F => F.binds fun _ _ _ _ _ _ us hl => match us, hl with | [_, _], _ => rfl⟩
    a_machine_error := ⟨⟨f_machine_error, _, PySem.W.mg_of X Gm a_machine_error, fun_mk l_machine_error d_machine_error k_machine_error⟩, fun f fd F => F.binds fun _ _ _ _ _ _ us hl => match us, hl with | [_], _ => rfl⟩
    a__law_pen := ⟨⟨f__law_pen, _, PySem.W.mg_of X Gm a__law_pen, fun_mk l__law_pen d__law_pen k__law_pen⟩, fun f fd F => F.binds fun _ _ _ _ _ _ us hl => match us, hl with | [_], _ => rfl⟩
    a__law_fresh := ⟨⟨f__law_fresh, _, PySem.W.mg_of X Gm a__law_fresh, fun_mk l__law_fresh d__law_fresh k__law_fresh⟩, fun f fd F => F.binds fun _ _ _ _ _ _ us hl => match us, hl with | [_], _ => rfl⟩
    a__law_draw := ⟨⟨f__law_draw, _, PySem.W.mg_of X Gm a__law_draw, fun_mk l__law_draw d__law_draw k__law_draw⟩, fun f fd F => F.binds fun _ _ _ _ _ _ us hl => match us, hl with | [_, _], _ => rfl⟩
    a__law_run := ⟨⟨f__law_run, _, PySem.W.mg_of X Gm a__law_run, fun_mk l__law_run d__law_run k__law_run⟩, fun f fd F => F.binds fun _ _ _ _ _ _ us hl => match us, hl with | [_, _], _ => rfl⟩
    a__law_tape := ⟨⟨f__law_tape, _, PySem.W.mg_of X Gm a__law_tape, fun_mk l__law_tape d__law_tape k__law_tape⟩, fun f fd F => F.binds fun _ _ _ _ _ _ us hl => match us, hl with | [_, _], _ => rfl⟩
    a__law_tapes := ⟨⟨f__law_tapes, _, PySem.W.mg_of X Gm a__law_tapes, fun_mk l__law_tapes d__law_tapes k__law_tapes⟩, fun f fd F => F.binds fun _ _ _ _ _ _ us hl => match us, hl with | [_], _ => rfl⟩
    a__law_binomials := ⟨⟨f__law_binomials, _, PySem.W.mg_of X Gm a__law_binomials, fun_mk l__law_binomials d__law_binomials k__law_binomials⟩, fun f fd F => F.binds fun _ _ _ _ _ _ us hl => match us, hl with | [_], _ => rfl⟩
    a__law_recipe := ⟨⟨f__law_recipe, _, PySem.W.mg_of X Gm a__law_recipe, fun_mk l__law_recipe d__law_recipe k__law_recipe⟩, fun f fd F => F.binds fun _ _ _ _ _ _ us hl => match us, hl with | [_, _], _ => rfl⟩
    a__law_compiled := ⟨⟨f__law_compiled, _, PySem.W.mg_of X Gm a__law_compiled, fun_mk l__law_compiled d__law_compiled k__law_compiled⟩, fun f fd F => F.binds fun _ _ _ _ _ _ us hl => match us, hl with | [_], _ => rfl⟩
    a__law_tape_agrees := ⟨⟨f__law_tape_agrees, _, PySem.W.mg_of X Gm a__law_tape_agrees, fun_mk l__law_tape_agrees d__law_tape_agrees k__law_tape_agrees⟩, fun f fd F => F.binds fun _ _ _ _ _ _ us hl => match us, hl with | [_, _, _], _ => rfl⟩
    a_law := ⟨⟨f_law, _, PySem.W.mg_of X Gm a_law, fun_mk l_law d_law k_law⟩, fun f fd F => F.binds fun _ _ _ _ _ _ us hl => match us, hl with | [_], _ => rfl⟩ }
end G
/- fills ["z_OverflowError", "z_all", "z_bool", "z_enumerate", "z_int", "z_isinstance", "z_len", "z_list", "z_range", "z_str", "z_sum", "z_tuple", "z_zip", "c_MAX_COMPILED_TOSSES", "c_MOST_ANSWER", "c_MOST_PLACES", "g_LimitExceeded", "xL_LimitExceeded", "sa_LimitExceeded", "eC_LimitExceeded", "tC_LimitExceeded", "kC_LimitExceeded", "ga_LimitExceeded", "gg_LimitExceeded", "hC_LimitExceeded", "xn_LimitExceeded", "ca_LimitExceeded", "cm_LimitExceeded", "iC_LimitExceeded", "ti_LimitExceeded", "l_iLimitExceeded", "d_iLimitExceeded", "k_iLimitExceeded", "vv_OverflowError", "cg", "ct", "g_StepLimitExceeded", "xL_StepLimitExceeded", "sa_StepLimitExceeded", "eC_StepLimitExceeded", "tC_StepLimitExceeded", "kC_StepLimitExceeded", "ga_StepLimitExceeded", "gg_StepLimitExceeded", "hC_StepLimitExceeded", "xn_StepLimitExceeded", "ca_StepLimitExceeded", "cm_StepLimitExceeded", "iC_StepLimitExceeded", "ti_StepLimitExceeded", "l_iStepLimitExceeded", "d_iStepLimitExceeded", "k_iStepLimitExceeded", "dk_WIDTHS", "dl_WIDTHS", "dh_WIDTHS", "ds_WIDTHS", "dr_WIDTHS", "dt_WIDTHS", "di_WIDTHS", "a_raise_degree", "l_raise_degree", "d_raise_degree", "k_raise_degree", "a_binomial_row", "l_binomial_row", "d_binomial_row", "k_binomial_row", "a_rank_in_row", "l_rank_in_row", "d_rank_in_row", "k_rank_in_row", "a_classify_round", "l_classify_round", "d_classify_round", "k_classify_round", "a_run_recipe", "l_run_recipe", "d_run_recipe", "k_run_recipe", "a_machine_from_recipe", "l_machine_from_recipe", "d_machine_from_recipe", "k_machine_from_recipe", "a_is_integer", "l_is_integer", "d_is_integer", "k_is_integer", "a_state_error", "l_state_error", "d_state_error", "k_state_error", "a_machine_error", "l_machine_error", "d_machine_error", "k_machine_error", "a__law_pen", "l__law_pen", "d__law_pen", "k__law_pen", "a__law_fresh", "l__law_fresh", "d__law_fresh", "k__law_fresh", "a__law_draw", "l__law_draw", "d__law_draw", "k__law_draw", "a__law_run", "l__law_run", "d__law_run", "k__law_run", "a__law_tape", "l__law_tape", "d__law_tape", "k__law_tape", "a__law_tapes", "l__law_tapes", "d__law_tapes", "k__law_tapes", "a__law_binomials", "l__law_binomials", "d__law_binomials", "k__law_binomials", "a__law_recipe", "l__law_recipe", "d__law_recipe", "k__law_recipe", "a__law_compiled", "l__law_compiled", "d__law_compiled", "k__law_compiled", "a__law_tape_agrees", "l__law_tape_agrees", "d__law_tape_agrees", "k__law_tape_agrees", "a_law", "l_law", "d_law", "k_law"] -/
end
section
namespace G
open PySem Bc
/-- the pen at n: cells at m -/
structure Pen (S : Sto) (n m : Nat) (cs : List Int) (a c : Int) : Prop where
  pen : S[n]? = some (.lst [.ref m, .int a, .int c])
  cells : S[m]? = some (.lst (cs.map D.int))
  ne : n ≠ m
  lo : 0 ≤ a
  len : cs.length ≤ 63
theorem Pen.n_lt {S : Sto} {n m : Nat} {cs : List Int} {a c : Int} (P : Pen S n m cs a c) : n < S.length := (List.getElem?_eq_some_iff.mp P.pen).1
theorem Pen.m_lt {S : Sto} {n m : Nat} {cs : List Int} {a c : Int} (P : Pen S n m cs a c) : m < S.length := (List.getElem?_eq_some_iff.mp P.cells).1
theorem Pen.set {S : Sto} {n m : Nat} {cs : List Int} {a c a' c' : Int} (P : Pen S n m cs a c) (h : 0 ≤ a') : Pen (S.set n (.lst [.ref m, .int a', .int c'])) n m cs a' c' :=
  ⟨by rw [List.getElem?_set_self P.n_lt], by rw [List.getElem?_set_ne P.ne]; exact P.cells, P.ne, h, P.len⟩
theorem Pen.more {S : Sto} {n m : Nat} {cs : List Int} {a c : Int} (P : Pen S n m cs a c) (T : Sto) : Pen (S ++ T) n m cs a c :=
  ⟨by rw [List.getElem?_append_left P.n_lt]; exact P.pen, by rw [List.getElem?_append_left P.m_lt]; exact P.cells, P.ne, P.lo, P.len⟩
/-- no cell names a cell that is not there -/
def Closed (S : Sto) : Prop := ∀ e ∈ S, Cell.bel S.length e = true
theorem Closed.set {S : Sto} (h : Closed S) (n : Nat) {e : Cell} (he : e.bel S.length = true) : Closed (S.set n e) := fun x hx => by
  rw [List.length_set]
  rcases List.mem_or_eq_of_mem_set hx with hx | rfl
  · exact h x hx
  · exact he
theorem Pen.bel {S : Sto} {n m : Nat} {cs : List Int} {a c a' c' : Int} (P : Pen S n m cs a c) : Cell.bel S.length (.lst [.ref m, .int a', .int c']) = true := by
  simp [Cell.bel, belL, D.bel, P.m_lt]
theorem ret_int {S T : Sto} {v : Int} {Q : Kv} {k : Nat} (hk : k = S.length) (hc : Closed S) (h : Q (.int v) S) : RetD k Q (.int v) (S ++ T) := by
  subst hk
  refine .inl ⟨?_, .inl ⟨rfl, ?_⟩⟩
  · rw [List.take_left]
    exact hc
  · rw [List.take_left]
    exact h
def q_fresh : FSpec := fun ds S Q X => ∃ n m cs a c, ds = [.ref n] ∧ Pen S n m cs a c ∧ a < 2 ^ 60 ∧ Closed S ∧ ∀ v : Int, Q (.int v) (S.set n (.lst [.ref m, .int (a + 1), .int c]))
theorem keeps_fresh : Keeps n_law_fresh den_law_fresh q_fresh := by
  rintro ds S Q X ⟨n, m, cs, a, c, rfl, P, ha, hb, k⟩
  refine ⟨by simp, ?_⟩
  have P1 := P.set (a' := a + 1) (c' := c) (by have := P.lo; omega)
  have hb1 := hb.set n (P.bel (a' := a + 1) (c' := c))
  simp [den_law_fresh_0, den_law_fresh_1, den_law_fresh_2, startD, ix_ref P.pen, P.pen]
  generalize hS1 : S.set n (.lst [.ref m, .int (a + 1), .int c]) = S1 at *
  have hl : S.length = S1.length := by rw [← hS1, List.length_set]
  have P2 := P1.more [.lst []]
  rw [den_law_fresh_3]
  simp [ix_ref P1.pen]
  refine ne_nil P2.cells (by simp) ?_
  have tail : ∀ x : Int, den_law_fresh_4 [some (.ref n), some (.int a), some (.int x), none, none, none, none] (S1 ++ [.lst []]) ⟨fun _ S' => RetD S.length Q .non S', fun d S' => RetD S.length Q d S', fun _ _ => False, fun _ _ => False⟩ fun _ => RetX S.length X := by
    intro x
    have tl : den_law_fresh_5 [some (.ref n), some (.int a), some (.int x), none, none, none, none] (S1 ++ [.lst []]) ⟨fun _ S' => RetD S.length Q .non S', fun d S' => RetD S.length Q d S', fun _ _ => False, fun _ _ => False⟩ fun _ => RetX S.length X := by
      simp [den_law_fresh_5, den_law_fresh_6, den_law_fresh_7, den_law_fresh_8]
      refine ⟨mulR (by decide) (by decide), mulL (by decide) (by decide), ⟨by decide, by decide⟩, ?_⟩
      refine loop_inv (fun _ ρ S' => S' = S1 ++ [.lst []] ∧ ∃ (o f : Int) (u : Option D), 0 ≤ o ∧ o < 2305843009213693951 ∧ ρ = [some (.ref n), some (.int a), some (.int x), some (.int 2305843009213693951), some (.int o), some (.int f), u]) _ 0 ⟨rfl, _, _, _, ?_, ?_, rfl⟩ (fun _ _ _ _ _ => trivial) ?_ ?_
      · exact Int.fmod_nonneg_of_pos _ (by decide)
      · exact Int.fmod_lt_of_pos _ (by decide)
      · rintro j d ρ S' hj ⟨rfl, o, f, u, h1, h2, rfl⟩ N hN
        obtain ⟨hj6, rfl⟩ := rngD_get hj
        simp [den_law_fresh_12, den_law_fresh_13]
        have lo := P.lo
        refine ⟨mulR (by omega) (by omega), mulL (by decide) (by decide), mulL (by omega) (by omega), mulR (by decide) (by decide), hN _ _ ⟨rfl, _, _, _, ?_, ?_, rfl⟩⟩
        · exact Int.fmod_nonneg_of_pos _ (by decide)
        · exact Int.fmod_lt_of_pos _ (by decide)
      · rintro ρ S' ⟨rfl, o, f, u, h1, h2, rfl⟩
        simp [den_law_fresh_9]
        exact ret_int hl hb1 (k _)
    simp [den_law_fresh_4, ix_ref P2.pen, len_ref P2.cells]
    by_cases h1 : (cs.length : Int) ≤ a
    · exact .inl ⟨h1, tl⟩
    · refine .inr ⟨by omega, ?_⟩
      by_cases h2 : x < 1000000000000000000
      · exact .inl ⟨h2, tl⟩
      · refine .inr ⟨by omega, ?_⟩
        simp [den_law_fresh_11]
        exact ret_int hl hb1 (k _)
  cases hc : cs.isEmpty with
  | true => simpa [hc] using tail 0
  | false =>
    have hne : cs ≠ [] := by simpa using hc
    have hpos : 0 < cs.length := List.length_pos_iff.mpr hne
    simp [hc, hne, den_law_fresh_10, ix_ref P2.pen, len_ref P2.cells, ix_ref P2.cells]
    have h0 : 0 ≤ a.fmod cs.length := Int.fmod_nonneg_of_pos _ (by omega)
    have h1 : a.fmod cs.length < cs.length := Int.fmod_lt_of_pos _ (by omega)
    obtain ⟨d, e1, e2⟩ := atN (l := cs.map D.int) h0 (by simpa using h1)
    rw [List.getElem?_map] at e2
    cases e3 : cs[(a.fmod cs.length).toNat]? with
    | none =>
      rw [e3] at e2
      cases e2
    | some x =>
      rw [e3] at e2
      cases e2
      exact ⟨_, e1, tail x⟩
def q_draw : FSpec := fun ds S Q X => ∃ n m cs a c, ∃ many : Int, ds = [.ref n, .int many] ∧ 1 ≤ many ∧ many < 2 ^ 60 ∧ Pen S n m cs a c ∧ a < 2 ^ 60 ∧ Closed S ∧ ∀ d a' c' : Int, 0 ≤ d → d < many → a ≤ a' → a' ≤ a + 1 → Q (.int d) (S.set n (.lst [.ref m, .int a', .int c']))
theorem log_small {j : Int} (h1 : 1 ≤ j) (h2 : j < 2 ^ 60) : j.natAbs.log2 < 9000 := by
  have : j.natAbs < 2 ^ 60 := by omega
  have := (Nat.log2_lt (by omega)).mpr this
  omega
theorem keeps_draw : Keeps n_law_draw (den_law_draw q_fresh) q_draw := by
  rintro ds S Q X ⟨n, m, cs, a, c, many, rfl, hm1, hm2, P, ha, hb, k⟩
  refine ⟨by simp, ?_⟩
  have tail : ∀ a' c' : Int, a ≤ a' → a' ≤ a + 1 → den_law_draw_1 q_fresh [some (.ref n), some (.int many), none] (S.set n (.lst [.ref m, .int a', .int c'])) ⟨fun _ S' => RetD S.length Q .non S', fun d S' => RetD S.length Q d S', fun _ _ => False, fun _ _ => False⟩ fun _ => RetX S.length X := by
    intro a' c' h1 h2
    have P1 := P.set (a' := a') (c' := c') (by have := P.lo; omega)
    simp [den_law_draw_1, den_law_draw_2, den_law_draw_3, ix_ref P1.pen, P1.pen]
    refine ⟨by omega, log_small hm1 hm2, ?_⟩
    exact ret_same (k _ _ _ (Int.fmod_nonneg_of_pos _ (by omega)) (Int.fmod_lt_of_pos _ (by omega)) h1 h2)
  simp [den_law_draw_0, startD, ix_ref P.pen]
  by_cases h : many ≤ c
  · refine .inl ⟨h, ?_⟩
    have := tail a c (by omega) (by omega)
    have e : S.set n (.lst [.ref m, .int a, .int c]) = S := by
      refine List.ext_getElem? fun i => ?_
      by_cases hi : i = n
      · subst hi
        rw [List.getElem?_set_self P.n_lt, P.pen]
      · rw [List.getElem?_set_ne (Ne.symm hi)]
    rwa [e] at this
  · refine .inr ⟨by omega, ?_⟩
    simp [den_law_draw_4]
    refine ⟨n, m, cs, a, c, rfl, P, ha, hb, fun v => ?_⟩
    have P1 := P.set (a' := a + 1) (c' := c) (by have := P.lo; omega)
    simp [P1.pen]
    exact tail (a + 1) v (by omega) (by omega)
end G
end
section
namespace G
open PySem Bc
def chN (b : Bool) : Nat := if b then 72 else 84
def tp (l : List Bool) : Str := ⟨(l.map chN).toArray⟩
theorem tp_len (l : List Bool) : (tp l).length = l.length := by simp [tp, Str.length]
theorem tp_app (l r : List Bool) : tp l ++ tp r = tp (l ++ r) := by
  show (⟨(l.map chN).toArray ++ (r.map chN).toArray⟩ : Str) = ⟨((l ++ r).map chN).toArray⟩
  simp
theorem tp_cps (l : List Bool) : (tp l).cps.toList = l.map chN := by simp [tp]
theorem tp_H : (Str.ofString "H") = tp [true] := by decide +kernel
theorem tp_T : (Str.ofString "T") = tp [false] := by decide +kernel
theorem tp_0 : (Str.ofString "") = tp [] := by decide +kernel
theorem tp_HT : (Str.ofString "HT") = tp [true, false] := by decide +kernel
theorem tp_one (b : Bool) : (⟨#[chN b]⟩ : Str) = tp [b] := rfl
theorem tp_chars (l : List Bool) : charsD (tp l) = l.map fun b => D.str (tp [b]) := by
  unfold charsD
  rw [tp_cps, List.map_map]
  rfl
theorem chN_inj {a b : Bool} : chN a = chN b ↔ a = b := by cases a <;> cases b <;> decide
theorem tp_inj {l r : List Bool} : tp l = tp r ↔ l = r := by
  constructor
  · intro h
    have h2 : (tp l).cps.toList = (tp r).cps.toList := by rw [h]
    rw [tp_cps, tp_cps] at h2
    exact List.map_inj_right (fun a b h => chN_inj.mp h) |>.mp h2
  · rintro rfl
    rfl
theorem tp_ok (l : List Bool) : PyData.strOk (tp l) = true := by
  unfold PyData.strOk
  rw [Array.all_eq_true']
  intro x hx
  have : x ∈ (tp l).cps.toList := by simpa using hx
  rw [tp_cps] at this
  obtain ⟨b, _, rfl⟩ := List.mem_map.mp this
  cases b <;> decide
@[simp] theorem tp_sm (l : List Bool) : (D.str (tp l)).sm = true := sm_str (tp_ok l)
def cntT : List Bool → Nat
  | [] => 0
  | b :: r => (if b then 1 else 0) + cntT r
theorem tp_count (l : List Bool) : Txt.count (tp l) (Str.ofString "H") = (cntT l : Nat) := by
  have e : (Str.ofString "H") = (⟨#[72]⟩ : Str) := by decide +kernel
  rw [e, PyProof.Rows.count_cnt, tp_cps]
  induction l with
  | nil => rfl
  | cons b r ih =>
    rw [List.map_cons, PyProof.Rows.cnt_cons, ih]
    cases b <;> simp [chN, cntT]
theorem tp_join (l : List Bool) : Txt.join (Str.ofString "") (l.map fun b => tp [b]) = tp l := by
  have e : (Str.ofString "") = (⟨#[]⟩ : Str) := by decide +kernel
  rw [e]
  have := PyProof.Rows.join_ones (l.map chN)
  rw [List.map_map] at this
  exact (eq_of_beq (PyProof.Rows.join_closes rfl)).trans this
theorem tp_cut (l : List Bool) (i j : Nat) : L2.cutS (tp l) (some (i : Int)) (some (j : Int)) = tp ((l.drop (min i l.length)).take (min j l.length - min i l.length)) := by
  unfold L2.cutS
  rw [HT.sIx_nat, HT.sIx_nat, tp_len, tp_cps]
  unfold tp
  rw [List.map_take, List.map_drop]
def q_pen : FSpec := fun ds S Q _ => ∃ (d : D) (ns : List Int), ds = [d] ∧ ns.length ≤ 63 ∧ ((∃ n, d = .ref n ∧ lstOf S n (ns.map D.int)) ∨ d = .lit (ns.map D.int)) ∧ Q (.ref (S.length + 2)) (S ++ [.lst (ns.map D.int), .lst (ns.map D.int), .lst [.ref (S.length + 1), .int 0, .int 0]])
theorem cut63 {ds : List D} (h : ds.length ≤ 63) : cutD ds none (some 63) = ds := by
  unfold cutD
  have e : HT.sIx ds.length ds.length (some ((63 : Nat) : Int)) = ds.length := by
    rw [HT.sIx_nat]
    omega
  have e2 : HT.sIx ds.length ds.length (some 63) = ds.length := e
  rw [e2, HT.sIx_none]
  simp
theorem keeps_pen : Keeps n_law_pen den_law_pen q_pen := by
  rintro ds S Q X ⟨d, ns, rfl, hl, hd, hq⟩
  refine ⟨by simp, ?_⟩
  have hl' : (ns.map D.int).length ≤ 63 := by simpa using hl
  simp only [den_law_pen, den_law_pen_0, startD, ss_ret, sp_lst, sp_cons, sp_fN, sp_sl, sp_var, sp_noP, sp_part, sp_c, sp_nil]
  refine ⟨d, by simp, 63, rfl, ?_⟩
  have fin : ∀ S1, S1 = S ++ [.lst (ns.map D.int)] → opBi .list [.ref S.length] S1 (fun x S1 => [x, D.int 0, D.int 0].length ≤ sizeLine ∧ RetD S.length Q (.ref S1.length) (S1 ++ [Cell.lst [x, .int 0, .int 0]])) := by
    rintro S1 rfl
    refine ⟨.ref S.length, ns.map D.int, rfl, .inr ⟨_, rfl, .inl (by simp)⟩, by show 3 ≤ sizeLine; decide, .inr ?_⟩
    simpa using hq
  rcases hd with ⟨n, rfl, h⟩ | rfl
  · refine .inl ⟨n, _, rfl, h, ?_⟩
    rw [cut63 hl']
    exact fin _ rfl
  · refine .inr (.inr (.inr ⟨_, rfl, ?_⟩))
    rw [cut63 hl']
    exact fin _ rfl
end G
end
section
namespace G
open PySem Bc
/-- the pen has moved on -/
def Moved (S : Sto) (n m : Nat) (S' : Sto) (a : Int) (j : Nat) : Prop := ∃ a' c', S' = S.set n (.lst [.ref m, .int a', .int c']) ∧ a ≤ a' ∧ a' ≤ a + j
theorem Moved.refl {S : Sto} {n m : Nat} {cs : List Int} {a c : Int} (P : Pen S n m cs a c) : Moved S n m S a 0 := by
  refine ⟨a, c, ?_, by omega, by omega⟩
  refine List.ext_getElem? fun i => ?_
  by_cases hi : i = n
  · subst hi
    rw [List.getElem?_set_self P.n_lt, P.pen]
  · rw [List.getElem?_set_ne (Ne.symm hi)]
theorem Closed.snoc {S : Sto} (h : Closed S) {e : Cell} (he : e.bel (S.length + 1) = true) (hm : ∀ x ∈ S, Cell.bel (S.length + 1) x = true) : Closed (S ++ [e]) := fun x hx => by
  rw [List.length_append]
  rcases List.mem_append.mp hx with hx | hx
  · exact hm x hx
  · rw [List.mem_singleton.mp hx]
    exact he
mutual
theorem D.bel_mono {n m : Nat} (h : n ≤ m) : ∀ d : D, d.bel n = true → d.bel m = true
  | .non, _ => rfl
  | .bl _, _ => rfl
  | .int _, _ => rfl
  | .str _, _ => rfl
  | .tup ds, b => by
    simp only [D.bel] at b ⊢
    exact belL_mono h ds b
  | .ref k, b => by
    simp only [D.bel, decide_eq_true_eq] at b ⊢
    omega
  | .exc _ k _, b => by
    simp only [D.bel, decide_eq_true_eq] at b ⊢
    omega
  | .lit ds, b => by
    simp only [D.bel] at b ⊢
    exact belL_mono h ds b
theorem belL_mono {n m : Nat} (h : n ≤ m) : ∀ ds : List D, belL n ds = true → belL m ds = true
  | [], _ => rfl
  | d :: ds, b => by
    simp only [belL, Bool.and_eq_true] at b ⊢
    exact ⟨D.bel_mono h d b.1, belL_mono h ds b.2⟩
end
theorem Cell.bel_mono {n m : Nat} (h : n ≤ m) (c : Cell) (b : c.bel n = true) : c.bel m = true := by
  cases c with
  | lst ds => exact belL_mono h ds b
  | ro ds => exact belL_mono h ds b
  | dct kvs => exact belL_mono h _ b
  | dctT kvs => exact belL_mono h _ b
  | set M k => rfl
  | xd f v => exact D.bel_mono h v b
theorem Closed.app {S : Sto} (h : Closed S) {T : Sto} (hT : ∀ e ∈ T, Cell.bel (S.length + T.length) e = true) : Closed (S ++ T) := fun x hx => by
  rw [List.length_append]
  rcases List.mem_append.mp hx with hx | hx
  · exact Cell.bel_mono (by omega) x (h x hx)
  · exact hT x hx
theorem belL_map {α : Type} {f : α → D} {n : Nat} (h : ∀ x, (f x).bel n = true) : ∀ l : List α, belL n (l.map f) = true
  | [] => rfl
  | x :: l => by simp [belL, h x, belL_map h l]
theorem belL_int {n : Nat} (l : List Int) : belL n (l.map D.int) = true := belL_map (fun _ => rfl) l
theorem belL_str {n : Nat} (l : List Str) : belL n (l.map D.str) = true := belL_map (fun _ => rfl) l
/-- one draw while a new list stands last -/
theorem draw_in {S S' : Sto} {n m : Nat} {cs : List Int} {a c : Int} {j : Nat} {acc : List D} {many : Int} {Q : Kv} {X : Xk} (P : Pen S n m cs a c) (hb : Closed S) (hM : Moved S n m S' a j) (ha : a + j < 2 ^ 60) (hacc : belL (S.length + 1) acc = true) (h1 : 1 ≤ many) (h2 : many < 2 ^ 60)
    (h : ∀ d S2, 0 ≤ d → d < many → Moved S n m S2 a (j + 1) → Q (.int d) (S2 ++ [.lst acc])) : q_draw [.ref n, .int many] (S' ++ [.lst acc]) Q X := by
  obtain ⟨a', c', rfl, k1, k2⟩ := hM
  have P1 := P.set (a' := a') (c' := c') (by have := P.lo; omega)
  have hb1 := hb.set n (P.bel (a' := a') (c' := c'))
  refine ⟨n, m, cs, a', c', many, rfl, h1, h2, P1.more _, by omega, hb1.app fun e he => ?_, fun d a2 c2 d1 d2 e1 e2 => ?_⟩
  · rw [List.mem_singleton.mp he, List.length_set]
    exact hacc
  · have e : (S.set n (.lst [.ref m, .int a', .int c']) ++ [Cell.lst acc]).set n (.lst [.ref m, .int a2, .int c2]) = S.set n (.lst [.ref m, .int a2, .int c2]) ++ [.lst acc] := by
      rw [List.set_append_left _ _ (by rw [List.length_set]; exact P.n_lt), List.set_set]
    rw [e]
    exact h d _ d1 d2 ⟨a2, c2, rfl, by omega, by omega⟩
theorem Moved.len {S S' : Sto} {n m : Nat} {a : Int} {j : Nat} (h : Moved S n m S' a j) : S'.length = S.length := by
  obtain ⟨a', c', rfl, _⟩ := h
  exact List.length_set
theorem Moved.closed {S S' : Sto} {n m : Nat} {cs : List Int} {a c : Int} {j : Nat} (P : Pen S n m cs a c) (hb : Closed S) (h : Moved S n m S' a j) : Closed S' := by
  obtain ⟨a', c', rfl, _⟩ := h
  exact hb.set n P.bel
/-- [_law_draw(pen, ..) for k in ..]: the numbers asked for are ks -/
theorem draws {S S0 : Sto} {n m : Nat} {cs : List Int} {a c : Int} {i : Nat} {gd : Sto → Prop} {g : FG} {fe : FE} {ρ : Bc.Env} {Q : Sto → Prop} (P : Pen S n m cs a c) (hb : Closed S) (hM : Moved S n m S0 a i) (items : List D) (ks : List Int) (hk : ks.length = items.length) (hz : items.length ≤ 1000) (ha : a + (i + items.length : Nat) < 2 ^ 60) (f : Int → D) (hf : ∀ d, (f d).bel (S.length + 1) = true)
    (hks : ∀ z ∈ ks, 1 ≤ z ∧ z < 2 ^ 60) (hgd : ∀ S' acc j, Moved S n m S' a j → gd (S' ++ [.lst acc]))
    (hs : ∀ (j : Nat) d z S' acc (N : D → Sto → Prop), items[j]? = some d → ks[j]? = some z → (∀ x S2, 0 ≤ x → x < z → Moved S n m S2 a (i + j + 1) → N (f x) (S2 ++ [.lst acc])) → Moved S n m S' a (i + j) → belL (S.length + 1) acc = true → g d ρ (S' ++ [.lst acc]) fun ρ' => fe ρ' (S' ++ [.lst acc]) N noX)
    (hq : ∀ (ds : List Int) S2, ds.length = ks.length → (∀ (j : Nat) d z, ds[j]? = some d → ks[j]? = some z → 0 ≤ d ∧ d < z) → Moved S n m S2 a (i + items.length) → Q (S2 ++ [.lst (ds.map f)])) : compD gd g fYes fe S.length ρ items (S0 ++ [.lst []]) Q := by
  refine comp_inv (fun j S' => ∃ (S1 : Sto) (ds : List Int), S' = S1 ++ [.lst (ds.map f)] ∧ Moved S n m S1 a (i + j) ∧ ds.length = j ∧ ∀ (l : Nat) d z, ds[l]? = some d → ks[l]? = some z → 0 ≤ d ∧ d < z) items 0 ⟨S0, [], rfl, hM, rfl, fun l d z h => by simp at h⟩ ?_ ?_ ?_
  · rintro j _ ⟨S1, ds, rfl, h1, h2, h3⟩
    exact hgd _ _ _ h1
  · rintro j d _ hj ⟨S1, ds, rfl, h1, h2, h3⟩ N hN
    rw [Nat.zero_add] at h1 h2 hN
    have hlt : j < items.length := (List.getElem?_eq_some_iff.mp hj).1
    have hz' : ks[j]? = some ks[j] := List.getElem?_eq_getElem (by omega)
    simp only [sp_yes, if_true]
    refine hs j d _ S1 (ds.map f) _ hj hz' (fun x S2 x1 x2 hM2 => ?_) h1 (belL_map hf ds)
    have hl2 : S2.length = S.length := hM2.len
    refine ⟨ds.map f, by rw [← hl2]; simp, by rw [List.length_map]; exact Nat.lt_of_le_of_lt (show ds.length ≤ 1000 by omega) (by decide), hN _ ⟨S2, ds ++ [x], ?_, hM2, by simp [h2], fun l d z hd hz => ?_⟩⟩
    · rw [← hl2]
      simp
    · by_cases hl : l < ds.length
      · rw [List.getElem?_append_left hl] at hd
        exact h3 l d z hd hz
      · rw [List.getElem?_append_right (by omega)] at hd
        have e : l - ds.length = 0 := by
          have := (List.getElem?_eq_some_iff.mp hd).1
          simp at this
          omega
        have e2 : l = j := by omega
        subst e2
        rw [e] at hd
        cases hd
        rw [hz'] at hz
        cases hz
        exact ⟨x1, x2⟩
  · rintro _ ⟨S1, ds, rfl, h1, h2, h3⟩
    rw [Nat.zero_add] at h1 h2
    exact hq ds S1 (by omega) h3 h1
def q_tape : FSpec := fun ds S Q X => ∃ n m cs a c, ∃ many : Nat, ds = [.ref n, .int many] ∧ many ≤ 1000 ∧ Pen S n m cs a c ∧ a + many < 2 ^ 60 ∧ Closed S ∧ ∀ (l : List Bool) S', l.length = many → Moved S n m S' a many → Q (.str (tp l)) S'
theorem keeps_tape : Keeps n_law_tape (den_law_tape q_draw) q_tape := by
  rintro ds S Q X ⟨n, m, cs, a, c, many, rfl, hm, P, ha, hb, hq⟩
  refine ⟨by simp, ?_⟩
  simp only [den_law_tape, den_law_tape_0, startD, ss_ret, sp_me, sp_c, sp_cons, sp_lc, sp_var, sp_nil]
  refine ⟨me_onS rfl, .int many, by simp, many, rfl, ⟨by omega, by omega⟩, ?_⟩
  have hl : (rngD 0 1 ((many : Nat) : Int).toNat).length = many := by simp [rngD]
  refine draws (i := 0) P hb (Moved.refl P) (rngD 0 1 ((many : Nat) : Int).toNat) (List.replicate many 2) (by rw [hl]; simp) (by omega) (by rw [hl]; omega) (fun d => .str (tp [d == 0])) (fun _ => rfl) (fun z hz => by rw [(List.mem_replicate.mp hz).2]; decide) (fun _ _ _ _ => trivial) ?_ ?_
  · intro j d z S' acc N hd hz hN hM hacc
    have hz2 : z = 2 := by
      have := List.mem_of_getElem? hz
      exact (List.mem_replicate.mp this).2
    subst hz2
    have hj : j < many := by
      have := (List.getElem?_eq_some_iff.mp hd).1
      omega
    simp only [sp_f2, sp_c, sp_call, sp_cons, sp_var, sp_nil, gn]
    refine ⟨.ref n, by simp, draw_in P hb hM (by omega) hacc (by decide) (by decide) fun x S2 x1 x2 hM2 => ?_⟩
    rw [tp_HT]
    have hx : x = 0 ∨ x = 1 := by omega
    rcases hx with rfl | rfl
    · simp only [ix_str, tp_len, tp_cps]
      exact ⟨by show 2 ≤ sizeLine; decide, 72, L2.atI_nat (j := 0) rfl, hN 0 S2 (by decide) (by decide) hM2⟩
    · simp only [ix_str, tp_len, tp_cps]
      exact ⟨by show 2 ≤ sizeLine; decide, 84, L2.atI_nat (j := 1) rfl, hN 1 S2 (by decide) (by decide) hM2⟩
  · intro xs S2 h1 h2 hM
    have e : xs.map (fun d : Int => D.str (tp [d == 0])) = (((xs.map (· == 0)).map fun b => tp [b])).map D.str := by simp
    have hxl : xs.length = many := by rw [h1]; simp
    have hl2 := hM.len
    refine ⟨_, .ref S.length, (xs.map (· == 0)).map (fun b => tp [b]), rfl, rfl, .inr ⟨_, rfl, .inl ?_⟩, ?_, ?_⟩
    · rw [← hl2, e]
      simp
    · have s1 : (((xs.map (· == 0)).map (fun b => tp [b])).map (·.length)).sum = many := by
        have : ∀ ys : List Bool, ((ys.map (fun b => tp [b])).map (·.length)).sum = ys.length := by
          intro ys
          induction ys with
          | nil => rfl
          | cons y ys ih =>
            simp only [List.map_cons, List.sum_cons, ih, List.length_cons]
            rw [show (tp [y]).length = 1 from tp_len [y]]
            omega
        rw [this]
        simpa using hxl
      rw [s1, show (Str.ofString "").length = 0 by decide +kernel]
      omega
    · rw [tp_join]
      refine .inl ⟨?_, .inl ⟨rfl, ?_⟩⟩
      · rw [← hl2, List.take_left]
        intro e he
        exact hM.closed P hb e he
      · rw [← hl2, List.take_left]
        refine hq _ S2 (by simpa using hxl) ?_
        rw [hl, Nat.zero_add] at hM
        exact hM
end G
end
section
namespace G
open PySem Bc
theorem get_pre {S J : Sto} {k : Nat} {c : Cell} (T : Sto) (h : (S ++ J)[k]? = some c) : (S ++ (J ++ T))[k]? = some c := by
  rw [← List.append_assoc, List.getElem?_append_left (List.getElem?_eq_some_iff.mp h).1]
  exact h
theorem get_last {A : Sto} {c : Cell} {k : Nat} (h : k = A.length) : (A ++ [c])[k]? = some c := by
  subst h
  simp
theorem get_app {A : Sto} {k : Nat} {c : Cell} (T : Sto) (h : A[k]? = some c) : (A ++ T)[k]? = some c := by
  rw [List.getElem?_append_left (List.getElem?_eq_some_iff.mp h).1]
  exact h
def sDs (ls : List (List Bool)) : List D := ls.map fun l => D.str (tp l)
theorem belL_strs (n : Nat) (ls : List (List Bool)) : belL n (sDs ls) = true := belL_map (fun _ => rfl) ls
/-- a new list is given back, all else that was made is forgotten -/
theorem ret_list {S J : Sto} {k : Nat} {ds : List D} {Q : Kv} (hb : Closed S) (hk : S.length ≤ k) (h : (S ++ J)[k]? = some (.lst ds)) (hd : belL S.length ds = true) (hq : Q (.ref S.length) (S ++ [.lst ds])) : RetD S.length Q (.ref k) (S ++ J) := by
  refine .inl ⟨?_, .inr ⟨k, ds, rfl, hk, h, hd, ?_⟩⟩
  · rw [List.take_left]
    exact hb
  · rw [List.take_left]
    exact hq
theorem ret_flat {S J : Sto} {d : D} {Q : Kv} (hb : Closed S) (hd : d.bel S.length = true) (hq : Q d S) : RetD S.length Q d (S ++ J) := by
  refine .inl ⟨?_, .inl ⟨hd, ?_⟩⟩
  · rw [List.take_left]
    exact hb
  · rw [List.take_left]
    exact hq
theorem small {n : Nat} (h : n ≤ 16777216) : n ≤ sizeLine := h
def q_tapes : FSpec := fun ds S Q X => ∃ many : Nat, ds = [.int many] ∧ many ≤ 7 ∧ Closed S ∧ ∀ ls : List (List Bool), (∀ l ∈ ls, l.length = many) → ls.length = 2 ^ many → Q (.ref S.length) (S ++ [.lst (sDs ls)])
theorem keeps_tapes : Keeps n_law_tapes den_law_tapes q_tapes := by
  rintro ds S Q X ⟨many, rfl, hm, hb, hq⟩
  refine ⟨by simp, ?_⟩
  simp [den_law_tapes, den_law_tapes_0, den_law_tapes_1, startD]
  refine ⟨by decide, ⟨by omega, by omega⟩, ?_⟩
  have hl : (rngD 0 1 many).length = many := by simp [rngD]
  refine loop_inv (fun j ρ S' => ∃ J k ls v2 v3 v4, S' = S ++ J ∧ ρ = [some (.int many), some (.ref k), v2, v3, v4] ∧ S.length ≤ k ∧ S'[k]? = some (.lst (sDs ls)) ∧ (∀ l ∈ ls, l.length = j) ∧ ls.length = 2 ^ j) (rngD 0 1 many) 0 ?_ (fun _ _ _ _ _ => trivial) ?_ ?_
  · refine ⟨[.lst [.str (tp [])]], S.length, [[]], none, none, none, by rw [tp_0], rfl, Nat.le_refl _, by simp [sDs, tp_0], by simp, rfl⟩
  · rintro j d ρ S' hj ⟨J, k, ls, v2, v3, v4, rfl, rfl, hk, hS, h1, h2⟩ N hN
    rw [Nat.zero_add] at h1 h2 hN
    have hjm : j < many := by
      have := (List.getElem?_eq_some_iff.mp hj).1
      omega
    have hpow : 2 ^ j ≤ 64 := by
      have := Nat.pow_le_pow_right (show 0 < 2 by decide) (show j ≤ 6 by omega)
      simpa using this
    simp [den_law_tapes_3, den_law_tapes_4]
    refine ⟨sDs ls, ?_, ?_⟩
    · have := get_pre [.lst []] hS
      simpa using .inl this
    refine loop_inv (fun i ρ S' => ∃ J2 k2 ls2 w4, S' = S ++ J2 ∧ ρ = [some (.int many), some (.ref k), some d, some (.ref k2), w4] ∧ (S ++ J2)[k]? = some (.lst (sDs ls)) ∧ S.length ≤ k2 ∧ (S ++ J2)[k2]? = some (.lst (sDs ls2)) ∧ (∀ l ∈ ls2, l.length = j + 1) ∧ ls2.length = 2 * i) (sDs ls) 0 ?_ ?_ ?_ ?_
    · refine ⟨J ++ [.lst []], S.length + J.length, [], v4, by simp, by simp, get_pre _ hS, by omega, ?_, by simp, rfl⟩
      rw [← List.append_assoc, List.getElem?_append_right (by simp)]
      simp [sDs]
    · rintro i ρ S' _ ⟨J2, k2, ls2, w4, rfl, rfl, g1, g2, g3, g4, g5⟩
      exact .inl g1
    · rintro i e ρ S' he ⟨J2, k2, ls2, w4, rfl, rfl, g1, g2, g3, g4, g5⟩ N2 hN2
      rw [Nat.zero_add] at hN2 g5
      obtain ⟨l, hl0, rfl⟩ : ∃ l, ls[i]? = some l ∧ e = .str (tp l) := by
        simp only [sDs, List.getElem?_map] at he
        cases hx : ls[i]? with
        | none => rw [hx] at he; cases he
        | some l => rw [hx] at he; exact ⟨l, rfl, (Option.some.inj he).symm⟩
      have hli : i < ls.length := (List.getElem?_eq_some_iff.mp hl0).1
      have hll := h1 l (List.mem_of_getElem? hl0)
      simp only [den_law_tapes_6, gn, ss_set, sp_f2, sp_var, sp_lst, sp_cons, sp_c, sp_nil, tp_H, tp_T]
      refine ⟨.ref k2, by simp, .str (tp l), by simp, ?_⟩
      simp only [o_addS, tp_len, tp_app]
      refine ⟨small (by simp; omega), .str (tp l), by simp, ?_⟩
      simp only [o_addS, tp_len, tp_app]
      refine ⟨small (by simp; omega), (by show 2 ≤ sizeLine; decide), ?_⟩
      rw [o_addL]
      refine ⟨sDs ls2, [.str (tp (l ++ [true])), .str (tp (l ++ [false]))], ?_, ?_, ?_, ?_⟩
      · have := get_pre [.lst [.str (tp (l ++ [true])), .str (tp (l ++ [false]))]] g3
        simpa using this
      · rw [List.getElem?_append_right (Nat.le_refl _)]
        simp
      · refine small ?_
        simp [sDs]
        omega
      · refine hN2 _ _ ⟨J2 ++ [.lst [.str (tp (l ++ [true])), .str (tp (l ++ [false]))]] ++ [.lst (sDs ls2 ++ [.str (tp (l ++ [true])), .str (tp (l ++ [false]))])], S.length + J2.length + 1, ls2 ++ [l ++ [true], l ++ [false]], some (.str (tp l)), by simp, by simp; omega, ?_, by omega, ?_, ?_, by simp; omega⟩
        · rw [List.append_assoc]
          exact get_pre _ g1
        · rw [← List.append_assoc, ← List.append_assoc]
          refine (get_last (by simp; omega)).trans ?_
          simp [sDs]
        · intro x hx
          simp at hx
          rcases hx with hx | rfl | rfl
          · exact g4 x hx
          · simp [hll]
          · simp [hll]
    · rintro ρ S' ⟨J2, k2, ls2, w4, rfl, rfl, g1, g2, g3, g4, g5⟩
      simp [den_law_tapes_5]
      refine hN _ _ ⟨J2, k2, ls2, some d, some (.ref k2), w4, rfl, rfl, g2, g3, g4, ?_⟩
      rw [g5]
      simp [sDs, h2]
      rw [Nat.pow_succ]
      omega
  · rintro ρ S' ⟨J, k, ls, v2, v3, v4, rfl, rfl, hk, hS, h1, h2⟩
    rw [Nat.zero_add, hl] at h1 h2
    simp [den_law_tapes_2]
    exact ret_list hb hk hS (belL_strs _ _) (hq ls h1 h2)
def q_binomials : FSpec := fun ds S Q X => ∃ many : Nat, ds = [.int many] ∧ many ≤ 7 ∧ Closed S ∧ ∀ caps : List Int, caps.length = many + 1 → (∀ z ∈ caps, 0 ≤ z ∧ z ≤ 2 ^ many) → (many = 0 → caps = [1]) → Q (.ref S.length) (S ++ [.lst (caps.map D.int)])
theorem keeps_binomials : Keeps n_law_binomials den_law_binomials q_binomials := by
  rintro ds S Q X ⟨many, rfl, hm, hb, hq⟩
  refine ⟨by simp, ?_⟩
  simp [den_law_binomials, den_law_binomials_0, den_law_binomials_1, startD]
  refine ⟨by decide, ⟨by omega, by omega⟩, ?_⟩
  have hl : (rngD 0 1 many).length = many := by simp [rngD]
  refine loop_inv (fun j ρ S' => ∃ J k caps v2 v3 v4, S' = S ++ J ∧ ρ = [some (.int many), some (.ref k), v2, v3, v4] ∧ S.length ≤ k ∧ S'[k]? = some (.lst (caps.map D.int)) ∧ caps.length = j + 1 ∧ (∀ z ∈ caps, (0 : Int) ≤ z ∧ z ≤ 2 ^ j) ∧ (j = 0 → caps = [1])) (rngD 0 1 many) 0 ?_ (fun _ _ _ _ _ => trivial) ?_ ?_
  · exact ⟨[.lst [.int 1]], S.length, [1], none, none, none, rfl, rfl, Nat.le_refl _, by simp, rfl, by simp, fun _ => rfl⟩
  · rintro j d ρ S' hj ⟨J, k, caps, v2, v3, v4, rfl, rfl, hk, hS, h1, h2, h3⟩ N hN
    rw [Nat.zero_add] at h1 h2 hN
    have hjm : j < many := by
      have := (List.getElem?_eq_some_iff.mp hj).1
      omega
    simp only [gn, den_law_binomials_3, ss_set, sp_lc, si_z, sp_cons, sp_f2, sp_var, sp_lst, sp_c, sp_nil]
    refine ⟨.ref k, by simp, by decide, ?_⟩
    rw [o_addL]
    have e1 := get_app [.lst [.int 0]] hS
    refine ⟨_, [.int 0], e1, get_last rfl, small (by simp; omega), by decide, .ref k, by simp, ?_⟩
    rw [o_addL]
    generalize hA : S ++ J ++ [Cell.lst [.int 0]] = A at *
    have e2 := get_app [.lst (caps.map D.int ++ [.int 0])] e1
    have e3 := get_app [.lst [.int 0]] e2
    refine ⟨[.int 0], _, get_last rfl, e3, small (by simp; omega), ?_⟩
    refine ⟨_, _, caps.map D.int ++ [.int 0], [.int 0] ++ caps.map D.int, rfl, .inl ?_, .inl (get_last rfl), fun z => (by cases z), ?_⟩
    · exact get_app _ (get_app _ (get_last rfl))
    generalize hB : A ++ [Cell.lst (caps.map D.int ++ [.int 0])] ++ [Cell.lst [.int 0]] ++ [Cell.lst ([.int 0] ++ caps.map D.int)] = B
    have hB1 : B[A.length]? = some (.lst (caps.map D.int ++ [.int 0])) := by
      rw [← hB]
      exact get_app _ (get_app _ (get_last rfl))
    have hB2 : B[(A ++ [Cell.lst (caps.map D.int ++ [.int 0])] ++ [Cell.lst [.int 0]]).length]? = some (.lst ([.int 0] ++ caps.map D.int)) := by
      rw [← hB]
      exact get_last rfl
    let nx : List Int := List.zipWith (· + ·) (caps ++ [0]) (0 :: caps)
    have hz : zipD (caps.map D.int ++ [.int 0]) ([.int 0] ++ caps.map D.int) = (List.zip (caps ++ [0]) (0 :: caps)).map fun p => D.tup [.int p.1, .int p.2] := by
      have : ∀ as bs : List Int, zipD (as.map D.int) (bs.map D.int) = (List.zip as bs).map fun p => D.tup [.int p.1, .int p.2] := by
        intro as
        induction as with
        | nil => intro bs; rfl
        | cons a as ih =>
          intro bs
          cases bs with
          | nil => rfl
          | cons b bs =>
            have := ih bs
            simp only [zipD] at this ⊢
            simp [this]
      have t := this (caps ++ [0]) (0 :: caps)
      simpa using t
    have hn : (zipD (caps.map D.int ++ [.int 0]) ([.int 0] ++ caps.map D.int)).filterMap (fun d => match d with | .tup [.int x, .int y] => some (.int (x + y)) | _ => none) = nx.map D.int := by
      rw [hz, List.filterMap_map]
      show _ = (List.zipWith (· + ·) (caps ++ [0]) (0 :: caps)).map D.int
      have g : ∀ as bs : List Int, (List.zip as bs).filterMap (fun p => (match D.tup [.int p.1, .int p.2] with | .tup [.int x, .int y] => some (D.int (x + y)) | _ => none)) = (List.zipWith (· + ·) as bs).map D.int := by
        intro as
        induction as with
        | nil => intro bs; rfl
        | cons a as ih =>
          intro bs
          cases bs with
          | nil => rfl
          | cons b bs => simp [ih bs]
      exact g _ _
    refine comp_map B (fun d => match d with | .tup [.int x, .int y] => some (.int (x + y)) | _ => none) _ [] (fun acc => ⟨.inl (get_app _ hB1), .inl (get_app _ hB2)⟩) ?_ ?_ ?_
    · rw [hz]
      refine Nat.lt_of_le_of_lt (show _ ≤ 100 from ?_) (by decide)
      simp
      omega
    · intro d hd acc C hacc c1 c2
      rw [hz] at hd
      obtain ⟨p, hp, rfl⟩ := List.mem_map.mp hd
      simp only [gt, gmo, gn, gno, sp_yes, if_true, sp_f2, sp_var]
      refine ⟨rfl, trivial, .int p.1, by simp, .int p.2, by simp, ?_⟩
      rw [o_addI]
      exact put_acc hacc (c1 _ rfl)
    · rw [List.nil_append, hn]
      have hlen : nx.length = j + 2 := by
        show (List.zipWith _ _ _).length = _
        simp
        omega
      refine hN _ _ ⟨J ++ [Cell.lst [.int 0]] ++ [Cell.lst (caps.map D.int ++ [.int 0])] ++ [Cell.lst [.int 0]] ++ [Cell.lst ([.int 0] ++ caps.map D.int)] ++ [.lst (nx.map D.int)], B.length, nx, some d, v3, v4, ?_, by simp, ?_, get_last rfl, by omega, ?_, fun z => by omega⟩
      · rw [← hB, ← hA]
        simp
      · rw [← hB, ← hA]
        simp
      · intro z hz2
        obtain ⟨i, hi⟩ := List.getElem?_of_mem hz2
        have hi2 : (List.zipWith (· + ·) (caps ++ [0]) (0 :: caps))[i]? = some z := hi
        rw [List.getElem?_zipWith] at hi2
        have b1 : ∀ x ∈ caps ++ [0], (0 : Int) ≤ x ∧ x ≤ 2 ^ j := by
          intro x hx
          rcases List.mem_append.mp hx with hx | hx
          · exact h2 x hx
          · rw [List.mem_singleton.mp hx]
            exact ⟨by decide, Int.le_of_lt (Int.pow_pos (by decide))⟩
        have b2 : ∀ x ∈ (0 : Int) :: caps, (0 : Int) ≤ x ∧ x ≤ 2 ^ j := by
          intro x hx
          rcases List.mem_cons.mp hx with hx | hx
          · rw [hx]
            exact ⟨by decide, Int.le_of_lt (Int.pow_pos (by decide))⟩
          · exact h2 x hx
        cases q1 : (caps ++ [0])[i]? with
        | none => rw [q1] at hi2; cases hi2
        | some x =>
          cases q2 : ((0 : Int) :: caps)[i]? with
          | none => rw [q1, q2] at hi2; cases hi2
          | some y =>
            rw [q1, q2] at hi2
            have e : x + y = z := Option.some.inj hi2
            have := b1 x (List.mem_of_getElem? q1)
            have := b2 y (List.mem_of_getElem? q2)
            have e3 : (2 : Int) ^ (j + 1) = 2 * 2 ^ j := by
              rw [Int.pow_succ]
              omega
            omega
  · rintro ρ S' ⟨J, k, caps, v2, v3, v4, rfl, rfl, hk, hS, h1, h2, h3⟩
    rw [Nat.zero_add, hl] at h1 h2 h3
    simp [den_law_binomials_2]
    exact ret_list hb hk hS (belL_int _) (hq caps h1 h2 h3)
end G
end
section
namespace G
open PySem Bc
theorem Moved.split {S T S' : Sto} {n m : Nat} {a : Int} {j : Nat} (hn : n < S.length) (h : Moved (S ++ T) n m S' a j) : ∃ S0, S' = S0 ++ T ∧ Moved S n m S0 a j := by
  obtain ⟨a', c', rfl, h1, h2⟩ := h
  exact ⟨S.set n (.lst [.ref m, .int a', .int c']), by rw [List.set_append_left _ _ hn], a', c', rfl, h1, h2⟩
theorem Moved.trans {S S1 S2 : Sto} {n m : Nat} {a b : Int} {i j : Nat} (h : Moved S n m S1 a i) (g : Moved S1 n m S2 b j) (hb : ∀ a' c', S1 = S.set n (.lst [.ref m, .int a', .int c']) → b = a') (hn : n < S.length) : Moved S n m S2 a (i + j) := by
  obtain ⟨a', c', rfl, h1, h2⟩ := h
  obtain ⟨b', d', rfl, g1, g2⟩ := g
  have := hb a' c' rfl
  subst this
  exact ⟨b', d', by rw [List.set_set], by omega, by omega⟩
theorem Moved.more {S S' T : Sto} {n m : Nat} {a : Int} {j : Nat} (hn : n < S.length) (h : Moved S n m S' a j) : Moved (S ++ T) n m (S' ++ T) a j := by
  obtain ⟨a', c', rfl, h1, h2⟩ := h
  exact ⟨a', c', by rw [List.set_append_left _ _ hn], h1, h2⟩
theorem Moved.mono {S S' : Sto} {n m : Nat} {a : Int} {i j : Nat} (h : Moved S n m S' a i) (hij : i ≤ j) : Moved S n m S' a j := by
  obtain ⟨a', c', e, h1, h2⟩ := h
  exact ⟨a', c', e, h1, by omega⟩
theorem ret_flat' {S S0 J : Sto} {d : D} {Q : Kv} (hl : S0.length = S.length) (hb : Closed S0) (hd : d.bel S.length = true) (hq : Q d S0) : RetD S.length Q d (S0 ++ J) := by
  rw [← hl] at hd ⊢
  exact ret_flat hb hd hq
structure IsRec (m : Nat) (ys es : List Int) : Prop where
  ly : ys.length = m + 1
  le : es.length = m + 1
  in_ : ∀ (j : Nat) y e, ys[j]? = some y → es[j]? = some e → 0 ≤ y ∧ y ≤ e
  zero : m = 0 → es = [1]
def recD (m : Nat) (ys es : List Int) : D := .tup [.int m, .tup (ys.map D.int), .tup (es.map D.int)]
def q_recipe : FSpec := fun ds S Q X => ∃ n mm cs a c, ds = [.ref n, .int 7] ∧ Pen S n mm cs a c ∧ a + 100 < 2 ^ 60 ∧ Closed S ∧ ∀ m ys es S', m ≤ 7 → IsRec m ys es → Moved S n mm S' a 20 → Q (recD m ys es) S'
theorem keeps_recipe : Keeps n_law_recipe (den_law_recipe q_draw q_binomials) q_recipe := by
  rintro ds S Q X ⟨n, mm, cs, a, c, rfl, P, ha, hb, hq⟩
  refine ⟨by simp, ?_⟩
  simp only [den_law_recipe, den_law_recipe_0, startD, ss_sq, ss_set, sp_call, sp_cons, sp_f2, sp_var, sp_c, sp_nil]
  refine ⟨.ref n, by simp, .int 7, by simp, ?_⟩
  rw [o_addI]
  refine ⟨n, mm, cs, a, c, 8, rfl, by decide, by decide, P, by omega, hb, fun z a1 c1 z1 z2 e1 e2 => ?_⟩
  obtain ⟨m, rfl⟩ : ∃ m : Nat, z = m := ⟨z.toNat, by omega⟩
  have hm : m ≤ 7 := by omega
  have M1 : Moved S n mm (S.set n (.lst [.ref mm, .int a1, .int c1])) a 1 := ⟨a1, c1, rfl, e1, by omega⟩
  generalize hS1 : S.set n (.lst [.ref mm, .int a1, .int c1]) = S1 at *
  have l1 : S1.length = S.length := M1.len
  have P1 : Pen S1 n mm cs a1 c1 := by
    rw [← hS1]
    exact P.set (by have := P.lo; omega)
  have b1 : Closed S1 := M1.closed P hb
  simp only [den_law_recipe_1, ss_sq, ss_set, sp_call, sp_cons, sp_var, sp_nil]
  refine ⟨.int m, by simp, m, rfl, hm, b1, fun caps hc1 hc2 hc3 => ?_⟩
  simp only [den_law_recipe_2, ss_sq, ss_set, sp_lc, si_seq, sp_var]
  refine ⟨.ref S1.length, by simp, caps.map D.int, .inl (get_last rfl), ?_⟩
  have P2 : Pen (S1 ++ [.lst (caps.map D.int)]) n mm cs a1 c1 := P1.more _
  have b2 : Closed (S1 ++ [.lst (caps.map D.int)]) := b1.app fun e he => by
    rw [List.mem_singleton.mp he]
    exact belL_int caps
  have pow : (2 : Int) ^ m ≤ 128 := by
    have := Nat.pow_le_pow_right (show 0 < 2 by decide) hm
    have h2 : ((2 ^ m : Nat) : Int) ≤ ((2 ^ 7 : Nat) : Int) := by exact_mod_cast this
    simpa using h2
  have hn1 : n < S1.length := P1.n_lt
  refine draws (i := 0) P2 b2 (Moved.refl P2) (caps.map D.int) (caps.map (· + 1)) (by simp) (by simp; omega) (by simp; omega) (fun d => .int d) (fun _ => rfl) (fun z hz => ?_) (fun S' acc j hM => ?_) ?_ ?_
  · obtain ⟨y, hy, rfl⟩ := List.mem_map.mp hz
    have := hc2 y hy
    omega
  · obtain ⟨S0, rfl, hM0⟩ := hM.split hn1
    refine .inl ?_
    rw [← hM0.len, List.append_assoc, List.getElem?_append_right (Nat.le_refl _)]
    simp
  · intro j d z S' acc N hd hz hN hM hacc
    rw [List.getElem?_map] at hd hz
    cases hx : caps[j]? with
    | none => rw [hx] at hd; cases hd
    | some x =>
      have hj : j < caps.length := (List.getElem?_eq_some_iff.mp hx).1
      rw [hx] at hd hz
      cases hd
      cases hz
      have := hc2 x (List.mem_of_getElem? hx)
      simp only [gn, sp_call, sp_cons, sp_var, sp_f2, sp_c, sp_nil]
      refine ⟨.ref n, by simp, .int x, by simp, ?_⟩
      rw [o_addI]
      exact draw_in P2 b2 hM (by omega) hacc (by omega) (by omega) fun y S2 y1 y2 hM2 => hN y S2 y1 y2 hM2
  intro ends S2 hel her hM2
  simp only [List.length_map, Nat.zero_add] at hel hM2
  obtain ⟨S3, rfl, hM3⟩ := hM2.split hn1
  have l3 : S3.length = S1.length := hM3.len
  -- if sum(ends) == 0
  have fin : ∀ (k : Nat) (es : List Int), (S3 ++ [Cell.lst (caps.map D.int)] ++ [Cell.lst (ends.map D.int)])[k]? = some (.lst (es.map D.int)) → es.length = m + 1 → (∀ z ∈ es, 0 ≤ z ∧ z ≤ 128) → (m = 0 → es = [1]) →
      den_law_recipe_4 q_draw q_binomials [some (.ref n), some (.int 7), some (.int m), some (.ref S1.length), some (.ref k), none, none] (S3 ++ [Cell.lst (caps.map D.int)] ++ [Cell.lst (ends.map D.int)]) ⟨fun _ S' => RetD S.length Q .non S', fun d S' => RetD S.length Q d S', fun _ _ => False, fun _ _ => False⟩ fun _ => RetX S.length X := by
    intro k es hk he1 he2 he3
    obtain ⟨a3, c3, e3, k1, k2⟩ := hM3
    have P3 : Pen S3 n mm cs a3 c3 := by
      rw [e3]
      exact P1.set (by have := P1.lo; omega)
    have b3 : Closed S3 := by
      rw [e3]
      exact b1.set n P1.bel
    have Pb : Pen (S3 ++ [Cell.lst (caps.map D.int)] ++ [Cell.lst (ends.map D.int)]) n mm cs a3 c3 := (P3.more _).more _
    have bb : Closed (S3 ++ [Cell.lst (caps.map D.int)] ++ [Cell.lst (ends.map D.int)]) := (b3.app fun e he => by
      rw [List.mem_singleton.mp he]
      exact belL_int caps).app fun e he => by
      rw [List.mem_singleton.mp he]
      exact belL_int ends
    simp only [den_law_recipe_4, ss_ret, sp_tup, sp_cons, sp_var, sp_fN, sp_lc, si_seq, sp_nil]
    refine ⟨.int m, by simp, .ref k, by simp, es.map D.int, .inl hk, ?_⟩
    have hn3 : n < S3.length := P3.n_lt
    have hkb : k < (S3 ++ [Cell.lst (caps.map D.int)] ++ [Cell.lst (ends.map D.int)]).length := (List.getElem?_eq_some_iff.mp hk).1
    refine draws (i := 0) Pb bb (Moved.refl Pb) (es.map D.int) (es.map (· + 1)) (by simp) (by simp; omega) (by simp; omega) (fun d => .int d) (fun _ => rfl) (fun z hz => ?_) (fun S' acc j hM => ?_) ?_ ?_
    · obtain ⟨y, hy, rfl⟩ := List.mem_map.mp hz
      have := he2 y hy
      omega
    · refine .inl (get_app _ ?_)
      obtain ⟨a', c', rfl, _⟩ := hM
      by_cases hkn : n = k
      · subst hkn
        rw [Pb.pen] at hk
        have := List.map_eq_cons_iff.mp (Cell.lst.inj (Option.some.inj hk)).symm
        obtain ⟨x, _, _, h, _⟩ := this
        cases h
      · rw [List.getElem?_set_ne hkn]
        exact hk
    · intro j d z S' acc N hd hz hN hM hacc
      rw [List.getElem?_map] at hd hz
      cases hx : es[j]? with
      | none => rw [hx] at hd; cases hd
      | some x =>
        have hj : j < es.length := (List.getElem?_eq_some_iff.mp hx).1
        rw [hx] at hd hz
        cases hd
        cases hz
        have := he2 x (List.mem_of_getElem? hx)
        simp only [gn, sp_call, sp_cons, sp_var, sp_f2, sp_c, sp_nil]
        refine ⟨.ref n, by simp, .int x, by simp, ?_⟩
        rw [o_addI]
        exact draw_in Pb bb hM (by omega) hacc (by omega) (by omega) fun y S2 y1 y2 hM2 => hN y S2 y1 y2 hM2
    · intro ys S4 hy1 hy2 hM4
      simp only [List.length_map, Nat.zero_add] at hy1 hM4
      rw [List.append_assoc] at hM4
      obtain ⟨S5, rfl, hM5⟩ := hM4.split hn3
      have l5 : S5.length = S3.length := hM5.len
      have hkg : (S5 ++ ([Cell.lst (caps.map D.int)] ++ [Cell.lst (ends.map D.int)]))[k]? = some (.lst (es.map D.int)) := by
        have hkn : n ≠ k := fun z => by
          subst z
          rw [Pb.pen] at hk
          have := List.map_eq_cons_iff.mp (Cell.lst.inj (Option.some.inj hk)).symm
          obtain ⟨x, _, _, h, _⟩ := this
          cases h
        obtain ⟨a', c', rfl, _⟩ := hM5
        rw [← List.set_append_left _ _ hn3, List.getElem?_set_ne hkn, ← List.append_assoc]
        exact hk
      refine ⟨_, ys.map D.int, rfl, .inr ⟨_, rfl, .inl (get_last (by simp; omega))⟩, .ref k, by simp, _, es.map D.int, rfl, .inr ⟨k, rfl, .inl (get_app _ hkg)⟩, by show 3 ≤ sizeLine; decide, ?_⟩
      rw [List.append_assoc]
      refine ret_flat' (by omega) (hM5.closed P3 b3) ?_ (hq m ys es S5 hm ⟨by omega, he1, fun j y e hy he => ?_, he3⟩ ?_)
      · simp [D.bel, belL, belL_int]
      · have := hy2 j y (e + 1) hy (by rw [List.getElem?_map, he]; rfl)
        omega
      · obtain ⟨a5, c5, rfl, q1, q2⟩ := hM5
        refine ⟨a5, c5, ?_, by omega, by omega⟩
        rw [e3, ← hS1, List.set_set, List.set_set]
  simp only [den_law_recipe_3, ss_sq, ss_if, sp_tst, sp_f2, sp_fN, sp_cons, sp_var, sp_c, sp_nil]
  refine ⟨.ref (S3 ++ [Cell.lst (caps.map D.int)]).length, by simp [l3], _, ends, rfl, .inl (get_last rfl), ?_⟩
  show opCmp .Eq (.int ends.sum) (.int 0) _ _
  rw [eq_ii]
  refine ⟨_, rfl, ?_⟩
  have hends : ∀ z ∈ ends, (0 : Int) ≤ z ∧ z ≤ 128 := by
    intro z hz
    obtain ⟨j, hj⟩ := List.getElem?_of_mem hz
    have hjl := (List.getElem?_eq_some_iff.mp hj).1
    have hx : caps[j]? = some caps[j] := List.getElem?_eq_getElem (by omega)
    have := her j z (caps[j] + 1) hj (by rw [List.getElem?_map, hx]; rfl)
    have := hc2 caps[j] (List.mem_of_getElem? hx)
    omega
  have eρ : (((List.map some [D.ref n, D.int 7] ++ List.replicate (n_law_recipe.length - [D.ref n, D.int 7].length) none).set 2 (some (D.int ↑m))).set 3 (some (D.ref S1.length))).set 4 (some (D.ref (S1 ++ [Cell.lst (caps.map D.int)]).length)) =
      [some (.ref n), some (.int 7), some (.int m), some (.ref S1.length), some (.ref (S1 ++ [Cell.lst (caps.map D.int)]).length), none, none] := rfl
  by_cases hz : (ends.sum == 0) = true
  · rw [if_pos hz]
    simp only [den_law_recipe_5, ss_set, sp_var]
    refine ⟨.ref S1.length, by simp, ?_⟩
    refine fin S1.length caps ?_ hc1 (fun z hz => ?_) hc3
    · rw [← l3, List.append_assoc, List.getElem?_append_right (Nat.le_refl _)]
      simp
    · have := hc2 z hz
      omega
  · rw [if_neg hz, ss_next]
    have := fin (S1 ++ [Cell.lst (caps.map D.int)]).length ends (get_last (by simp; omega)) (by omega) hends (fun h0 => ?_)
    · exact this
    · -- one entry, 0 or 1, not 0
      have hc := hc3 h0
      have hl1 : ends.length = 1 := by rw [hel, hc]; rfl
      match ends, hl1 with
      | [e], _ =>
        have := her 0 e 2 rfl (by rw [hc]; rfl)
        have h1 : e ≠ 0 := by
          intro h
          subst h
          exact hz (by decide)
        have : e = 1 := by omega
        rw [this]
end G
end
section
namespace G
open PySem Bc
def raiseI (ns : List Int) : List Int := List.zipWith (· + ·) (ns ++ [0]) (0 :: ns)
def rowI : Nat → List Int
  | 0 => [1]
  | n + 1 => raiseI (rowI n)
theorem raiseI_len (ns : List Int) : (raiseI ns).length = ns.length + 1 := by simp [raiseI]
theorem rowI_len : ∀ n, (rowI n).length = n + 1
  | 0 => rfl
  | n + 1 => by rw [rowI, raiseI_len, rowI_len n]
theorem zip_ints : ∀ as bs : List Int, zipD (as.map D.int) (bs.map D.int) = (List.zip as bs).map fun p => D.tup [.int p.1, .int p.2] := by
  intro as
  induction as with
  | nil => intro bs; rfl
  | cons a as ih =>
    intro bs
    cases bs with
    | nil => rfl
    | cons b bs =>
      have := ih bs
      simp only [zipD] at this ⊢
      simp [this]
def addP : D → Option D := fun d => match d with | .tup [.int x, .int y] => some (.int (x + y)) | _ => none
theorem zip_add (as bs : List Int) : (zipD (as.map D.int) (bs.map D.int)).filterMap addP = (List.zipWith (· + ·) as bs).map D.int := by
  rw [zip_ints, List.filterMap_map]
  have g : ∀ as bs : List Int, (List.zip as bs).filterMap (addP ∘ fun p => D.tup [.int p.1, .int p.2]) = (List.zipWith (· + ·) as bs).map D.int := by
    intro as
    induction as with
    | nil => intro bs; rfl
    | cons a as ih =>
      intro bs
      cases bs with
      | nil => rfl
      | cons b bs =>
        rw [List.zip_cons_cons, List.filterMap_cons, ih bs]
        rfl
  exact g as bs
def q_raise : FSpec := fun ds S Q X => ∃ ns : List Int, ds = [.tup (ns.map D.int)] ∧ ns ≠ [] ∧ ns.length ≤ 1000 ∧ Closed S ∧ Q (.tup ((raiseI ns).map D.int)) S
theorem keeps_raise : Keeps nraise_degree denraise_degree q_raise := by
  rintro ds S Q X ⟨ns, rfl, hne, hl, hb, hq⟩
  refine ⟨by simp, ?_⟩
  simp only [denraise_degree, denraise_degree_0, startD, ss_ret, sp_fN, sp_cons, sp_lc, si_z, sp_f2, sp_var, sp_tup, sp_c, sp_nil]
  refine ⟨.tup (ns.map D.int), by simp, by decide, ?_⟩
  rw [o_addT]
  refine ⟨by simpa using hne, small (by simp; omega), by decide, .tup (ns.map D.int), by simp, ?_⟩
  rw [o_addT]
  refine ⟨by simp, small (by simp; omega), _, _, _, _, rfl, rfl, rfl, fun _ => by simp, ?_⟩
  have e1 : ns.map D.int ++ [.int 0] = (ns ++ [0]).map D.int := by simp
  have e2 : [D.int 0] ++ ns.map D.int = (0 :: ns).map D.int := by simp
  rw [e1, e2]
  refine comp_map S addP _ [] (fun acc => ⟨rfl, rfl⟩) ?_ ?_ ?_
  · rw [zip_ints]
    refine Nat.lt_of_le_of_lt (show _ ≤ 2000 from ?_) (by decide)
    simp
    omega
  · intro d hd acc C hacc c1 c2
    rw [zip_ints] at hd
    obtain ⟨p, hp, rfl⟩ := List.mem_map.mp hd
    simp only [gt, gmo, gn, gno, sp_yes, if_true, sp_f2, sp_var]
    refine ⟨rfl, trivial, .int p.1, by simp, .int p.2, by simp, ?_⟩
    rw [o_addI]
    exact put_acc hacc (c1 _ rfl)
  · rw [List.nil_append, zip_add]
    refine ⟨.ref S.length, _, rfl, .inr ⟨_, rfl, .inl (get_last rfl)⟩, ?_⟩
    exact ret_flat hb (show belL S.length ((raiseI ns).map D.int) = true from belL_int _) hq
def q_row : FSpec := fun ds S Q X => ∃ n : Nat, ds = [.int n] ∧ n ≤ 900 ∧ Closed S ∧ Q (.tup ((rowI n).map D.int)) S
theorem keeps_row : Keeps nbinomial_row (denbinomial_row q_raise) q_row := by
  rintro ds S Q X ⟨n, rfl, hn, hb, hq⟩
  refine ⟨by simp, ?_⟩
  simp [denbinomial_row, denbinomial_row_0, denbinomial_row_1, startD]
  refine ⟨by decide, ⟨by omega, by omega⟩, ?_⟩
  have hl : (rngD 0 1 n).length = n := by simp [rngD]
  refine loop_inv (fun j ρ S' => S' = S ∧ ∃ v, ρ = [some (.int n), some (.tup ((rowI j).map D.int)), v]) (rngD 0 1 n) 0 ⟨rfl, none, rfl⟩ (fun _ _ _ _ _ => trivial) ?_ ?_
  · rintro j d ρ S' hj ⟨rfl, v, rfl⟩ N hN
    rw [Nat.zero_add] at *
    have hjm : j < n := by
      have := (List.getElem?_eq_some_iff.mp hj).1
      omega
    simp [denbinomial_row_3]
    refine ⟨rowI j, rfl, ?_, ?_, hb, hN _ _ ⟨rfl, some d, rfl⟩⟩
    · intro h
      have := rowI_len j
      rw [h] at this
      simp at this
    · rw [rowI_len]
      omega
  · rintro ρ S' ⟨rfl, v, rfl⟩
    rw [Nat.zero_add, hl]
    simp [denbinomial_row_2]
    exact ret_same hq
def rankF : List Bool → Int
  | [] => 0
  | b :: r => (if b = true then 0 else if 0 < cntT r then (rowI r.length).getD (cntT r - 1) 0 else 0) + rankF r
theorem rankF_cons (b : Bool) (r : List Bool) : rankF (b :: r) = (if b = true then 0 else if 0 < cntT r then (rowI r.length).getD (cntT r - 1) 0 else 0) + rankF r := rfl
theorem cntT_le : ∀ l : List Bool, cntT l ≤ l.length
  | [] => Nat.le_refl _
  | b :: r => by
    have := cntT_le r
    cases b <;> simp [cntT] <;> omega
theorem enum_chars (l : List Bool) : enumD (charsD (tp l)) = l.zipIdx.map fun p => D.tup [.int (p.2 : Nat), .str (tp [p.1])] := by
  rw [tp_chars]
  simp [enumD, List.zipIdx_map]
def q_rank : FSpec := fun ds S Q X => ∃ l : List Bool, ds = [.str (tp l)] ∧ l.length ≤ 900 ∧ Closed S ∧ Q (.int (rankF l)) S
theorem keeps_rank : Keeps nrank_in_row (denrank_in_row q_row) q_rank := by
  rintro ds S Q X ⟨l, rfl, hl, hb, hq⟩
  refine ⟨by simp, ?_⟩
  simp only [denrank_in_row, denrank_in_row_0, startD, ss_sq, ss_set, sp_me, sp_var, sp_cons, sp_c, sp_nil]
  refine ⟨.str (tp l), by simp, me_onS rfl, ?_⟩
  show ∃ a b, _
  refine ⟨tp l, Str.ofString "H", rfl, rfl, ?_⟩
  rw [tp_count]
  simp only [denrank_in_row_1, denrank_in_row_2, ss_sq, ss_set, sp_c, ss_for, si_en, sp_cons, sp_var, sp_nil]
  refine ⟨.str (tp l), by simp, _, _, rfl, rfl, ?_⟩
  rw [enum_chars]
  refine loop_inv (fun j ρ S' => S' = S ∧ ∃ (r : Int) (v3 v4 v5 : Option D), r + rankF (l.drop j) = rankF l ∧ ρ = [some (.str (tp l)), some (.int (cntT (l.drop j) : Nat)), some (.int r), v3, v4, v5]) _ 0 ⟨rfl, 0, none, none, none, by simp, by simp⟩ (fun _ _ _ _ _ => rfl) ?_ ?_
  · rintro j d ρ S' hj ⟨rfl, r, v3, v4, v5, hr, rfl⟩ N hN
    rw [Nat.zero_add] at hr hN
    rw [List.getElem?_map] at hj
    cases hz : l.zipIdx[j]? with
    | none => rw [hz] at hj; cases hj
    | some p =>
      rw [hz] at hj
      cases hj
      rw [List.getElem?_zipIdx] at hz
      cases hx : l[j]? with
      | none => rw [hx] at hz; cases hz
      | some b =>
        rw [hx] at hz
        obtain rfl : (b, 0 + j) = p := by simpa using hz
        have hjl := (List.getElem?_eq_some_iff.mp hx).1
        have hd : l.drop j = b :: l.drop (j + 1) := by
          rw [List.drop_eq_getElem_cons hjl, (List.getElem?_eq_some_iff.mp hx).2]
        rw [Nat.zero_add]
        simp only [gt, gmo, gn, gno, denrank_in_row_4, denrank_in_row_5, ss_sq, ss_set, sp_f2, sp_fN, sp_cons, sp_var, sp_nil, sp_c, ss_if, sp_tst]
        refine ⟨rfl, trivial, .str (tp l), by simp, ?_⟩
        rw [len_str]
        refine ⟨by rw [tp_len]; exact small (by omega), .int j, by simp, ?_⟩
        rw [o_sub, o_sub]
        refine ⟨.str (tp [b]), by simp, ?_⟩
        rw [tp_H, eq_ss]
        refine ⟨tp_sm _, tp_sm _, _, rfl, ?_⟩
        rw [tp_len]
        cases b with
        | true =>
          rw [if_pos (by simp)]
          simp [denrank_in_row_6]
          refine hN _ _ ⟨rfl, r, some (.int j), some (.str (tp [true])), some (.int ((l.length : Int) - j - 1)), ?_, ?_⟩
          · rw [hd] at hr
            simpa [rankF] using hr
          · rw [hd]
            simp [cntT]
            omega
        | false =>
          rw [if_neg (by simp [tp_inj])]
          simp only [denrank_in_row_7, ss_if, sp_tst, sp_f2, sp_var, sp_c]
          refine ⟨.int (cntT (l.drop j) : Nat), by simp, ?_⟩
          rw [o_gt]
          refine ⟨_, rfl, ?_⟩
          have hc : cntT (l.drop j) = cntT (l.drop (j + 1)) := by rw [hd]; simp [cntT]
          by_cases h0 : 0 < cntT (l.drop (j + 1))
          · rw [if_pos (by simpa [hc] using h0)]
            simp only [denrank_in_row_8, ss_aug, sp_f2, sp_call, sp_cons, sp_var, sp_nil, sp_c]
            have hrl : (l.drop (j + 1)).length = l.length - j - 1 := by simp; omega
            refine ⟨r, by simp, .int ((l.length : Int) - j - 1), by simp, l.length - j - 1, by congr 1; congr 1; omega, by omega, hb, .int (cntT (l.drop j) : Nat), by simp, ?_⟩
            rw [o_sub, ix_tup]
            have hle := cntT_le (l.drop (j + 1))
            have hlen := rowI_len (l.length - j - 1)
            obtain ⟨y, hy⟩ : ∃ y, (rowI (l.length - j - 1))[cntT (l.drop (j + 1)) - 1]? = some y := ⟨_, List.getElem?_eq_getElem (by omega)⟩
            refine ⟨.int y, ?_, y, rfl, ?_⟩
            · have e : ((cntT (l.drop j) : Nat) : Int) - 1 = ((cntT (l.drop (j + 1)) - 1 : Nat) : Int) := by omega
              rw [e]
              exact L2.atI_nat (by rw [List.getElem?_map, hy]; rfl)
            · rw [ao_add]
              refine hN _ _ ⟨rfl, r + y, some (.int j), some (.str (tp [false])), some (.int ((l.length : Int) - j - 1)), ?_, ?_⟩
              · rw [hd] at hr
                have : rankF (false :: l.drop (j + 1)) = y + rankF (l.drop (j + 1)) := by
                  rw [rankF_cons, if_neg (by decide), if_pos h0, hrl, List.getD_eq_getElem?_getD, hy]
                  rfl
                rw [this] at hr
                omega
              · rw [hc]
                simp
          · rw [if_neg (by simpa [hc] using h0), ss_next]
            refine hN _ _ ⟨rfl, r, some (.int j), some (.str (tp [false])), some (.int ((l.length : Int) - j - 1)), ?_, ?_⟩
            · rw [hd] at hr
              have : rankF (false :: l.drop (j + 1)) = rankF (l.drop (j + 1)) := by
                rw [rankF_cons, if_neg (by decide), if_neg h0]
                simp
              rwa [this] at hr
            · rw [hc]
              simp
  · rintro ρ S' ⟨rfl, r, v3, v4, v5, hr, rfl⟩
    have : l.drop (0 + (l.zipIdx.map fun p => D.tup [.int (p.2 : Nat), .str (tp [p.1])]).length) = [] := by simp
    rw [this] at hr
    simp [denrank_in_row_3]
    have e : r = rankF l := by simpa [rankF] using hr
    rw [e]
    exact ret_same hq
end G
end
section
namespace G
open PySem Bc
def clsF (ys es : List Int) (l : List Bool) : Nat := if rankF l < ys.getD (cntT l) 0 then 1 else if rankF l < es.getD (cntT l) 0 then 2 else 0
def clsN : Nat → Str
  | 0 => "again"
  | 1 => "yes"
  | _ => "no"
theorem clsF_le (ys es : List Int) (l : List Bool) : clsF ys es l ≤ 2 := by
  unfold clsF
  split
  · decide
  · split <;> decide
def q_class : FSpec := fun ds S Q X => ∃ m ys es l, ds = [recD m ys es, .str (tp l)] ∧ l.length = m ∧ m ≤ 900 ∧ ys.length = m + 1 ∧ es.length = m + 1 ∧ Closed S ∧ Q (.str (clsN (clsF ys es l))) S
theorem keeps_class : Keeps nclassify_round (denclassify_round q_rank) q_class := by
  rintro ds S Q X ⟨m, ys, es, l, rfl, hl, hm, hy, he, hb, hq⟩
  refine ⟨by simp, ?_⟩
  simp only [denclassify_round, denclassify_round_0, startD, ss_sq, ss_par, sp_cons, sp_me, sp_var, sp_c, sp_nil, sp_call]
  refine ⟨.str (tp l), by simp, me_onS rfl, ?_⟩
  show ∃ a b, _
  refine ⟨tp l, Str.ofString "H", rfl, rfl, .str (tp l), by simp, l, rfl, by omega, hb, _, _, rfl, ?_⟩
  rw [tp_count]
  simp only [denclassify_round_1, ss_sq, ss_if, sp_tst, sp_f2, sp_var, sp_c]
  have hc := cntT_le l
  obtain ⟨y, hy1⟩ : ∃ y, ys[cntT l]? = some y := ⟨_, List.getElem?_eq_getElem (by omega)⟩
  obtain ⟨e, he1⟩ : ∃ e, es[cntT l]? = some e := ⟨_, List.getElem?_eq_getElem (by omega)⟩
  refine ⟨.int (rankF l), by simp, recD m ys es, by simp, ?_⟩
  rw [recD, ix_tup]
  refine ⟨_, at_1, .int (cntT l : Nat), by simp, ?_⟩
  rw [ix_tup]
  refine ⟨.int y, L2.atI_nat (by rw [List.getElem?_map, hy1]; rfl), ?_⟩
  rw [o_lt]
  refine ⟨_, rfl, ?_⟩
  have c1 : clsF ys es l = if rankF l < y then 1 else if rankF l < e then 2 else 0 := by
    unfold clsF
    rw [List.getD_eq_getElem?_getD, List.getD_eq_getElem?_getD, hy1, he1]
    rfl
  rw [c1] at hq
  by_cases h1 : rankF l < y
  · rw [if_pos h1] at hq
    rw [if_pos (by simpa using h1)]
    exact ret_same hq
  · rw [if_neg h1] at hq
    rw [if_neg (by simpa using h1), ss_next]
    simp only [denclassify_round_2, ss_ret, sp_if, sp_tst, sp_f2, sp_var, sp_c]
    refine ⟨.int (rankF l), by simp, _, by simp; rfl, ?_⟩
    rw [ix_tup]
    refine ⟨_, at_2, .int (cntT l : Nat), by simp, ?_⟩
    rw [ix_tup]
    refine ⟨.int e, L2.atI_nat (by rw [List.getElem?_map, he1]; rfl), ?_⟩
    rw [o_lt]
    refine ⟨_, rfl, ?_⟩
    by_cases h2 : rankF l < e
    · rw [if_pos h2] at hq
      rw [if_pos (by simpa using h2)]
      exact ret_same hq
    · rw [if_neg h2] at hq
      rw [if_neg (by simpa using h2)]
      exact ret_same hq
def blk (m : Nat) (l : List Bool) (i : Nat) : List Bool := (l.drop (i * m)).take m
/-- v: how it ended (0: it goes on), behind k rounds -/
def RR (c : List Bool → Nat) (m : Nat) (l : List Bool) (v k : Nat) : Prop :=
  (v ≠ 0 ∧ 1 ≤ k ∧ k * m ≤ l.length ∧ c (blk m l (k - 1)) = v ∧ ∀ i, i + 1 < k → c (blk m l i) = 0) ∨ (v = 0 ∧ k * m ≤ l.length ∧ l.length < (k + 1) * m ∧ ∀ i, i < k → c (blk m l i) = 0)
def resN : Nat → Str
  | 0 => "going"
  | 1 => "yes"
  | _ => "no"
def q_run : FSpec := fun ds S Q X => ∃ m ys es l, ds = [recD m ys es, .str (tp l)] ∧ l.length ≤ 900 ∧ m ≤ 7 ∧ ys.length = m + 1 ∧ es.length = m + 1 ∧ (m = 0 → clsF ys es [] ≠ 0) ∧ Closed S ∧ ∀ v k : Nat, v ≤ 2 → k ≤ 1000 → RR (clsF ys es) m l v k → Q (.tup [.str (resN v), .int k]) S
theorem keeps_run : Keeps nrun_recipe (denrun_recipe q_class) q_run := by
  rintro ds S Q X ⟨m, ys, es, l, rfl, hl, hm, hy, he, h0, hb, hq⟩
  refine ⟨by simp, ?_⟩
  simp only [denrun_recipe, denrun_recipe_0, denrun_recipe_1, denrun_recipe_2, startD, ss_sq, ss_set, sp_f2, sp_var, sp_c]
  refine ⟨recD m ys es, by simp, ?_⟩
  rw [recD, ix_tup]
  refine ⟨_, at_0, fun ms ρ S' => S' = S ∧ ∃ (k : Nat) (v : Option D), ms = l.length + 1 - k ∧ k ≤ l.length ∧ k * m ≤ l.length ∧ (∀ i, i < k → clsF ys es (blk m l i) = 0) ∧ ρ = [some (recD m ys es), some (.str (tp l)), some (.int m), some (.int k), v], ⟨_, rfl, 0, none, rfl, by omega, by simp, fun i hi => by omega, rfl⟩, ?_⟩
  rintro ms ρ S' ⟨rfl, k, v, rfl, hk, hkm0, hall, rfl⟩
  simp only [sp_tst, sp_f2, sp_var, sp_c, sp_fN, sp_cons, sp_nil]
  refine ⟨.int k, by simp, ?_⟩
  rw [o_addI]
  refine ⟨.int m, by simp, ?_⟩
  rw [o_mulI]
  refine ⟨mulR (by omega) (by omega), .str (tp l), by simp, ?_⟩
  rw [len_str]
  refine ⟨by rw [tp_len]; exact small (by omega), ?_⟩
  rw [o_le, tp_len]
  refine ⟨_, rfl, ?_⟩
  have ecast : ((k : Int) + 1) * m = (((k + 1) * m : Nat) : Int) := by simp
  by_cases hc : (k + 1) * m ≤ l.length
  · rw [if_pos (by rw [ecast]; exact decide_eq_true (Int.ofNat_le.mpr hc))]
    have hkm : k * m ≤ l.length := Nat.le_trans (Nat.mul_le_mul_right m (Nat.le_succ k)) hc
    have hmul : (k + 1) * m = k * m + m := Nat.succ_mul k m
    simp only [denrun_recipe_4, ss_sq, ss_set, sp_call, sp_cons, sp_var, sp_sl, sp_part, sp_f2, sp_c, sp_nil]
    refine ⟨recD m ys es, by simp, .str (tp l), by simp, .int k, by simp, .int m, by simp, ?_⟩
    rw [o_mulI]
    refine ⟨mulR (by omega) (by omega), _, rfl, .int k, by simp, ?_⟩
    rw [o_addI]
    refine ⟨.int m, by simp, ?_⟩
    rw [o_mulI]
    refine ⟨mulR (by omega) (by omega), _, rfl, ?_⟩
    refine .inr (.inr (.inl ⟨tp l, rfl, by rw [tp_len]; exact small (by omega), ?_⟩))
    have ec2 : (k : Int) * m = ((k * m : Nat) : Int) := by simp
    rw [ecast, ec2, tp_cut]
    have eb : (l.drop (min (k * m) l.length)).take (min ((k + 1) * m) l.length - min (k * m) l.length) = blk m l k := by
      rw [Nat.min_eq_left hkm, Nat.min_eq_left hc, hmul, Nat.add_sub_cancel_left]
      rfl
    rw [eb]
    have lb : (blk m l k).length = m := by
      unfold blk
      rw [List.length_take, List.length_drop]
      omega
    refine ⟨m, ys, es, _, rfl, lb, by omega, hy, he, hb, ?_⟩
    simp only [denrun_recipe_5, denrun_recipe_6, ss_sq, ss_aug, ss_if, sp_c, sp_tst, sp_f2, sp_var]
    refine ⟨k, by simp, 1, rfl, ?_⟩
    rw [ao_add]
    refine ⟨.str (clsN (clsF ys es (blk m l k))), by simp, ?_⟩
    rw [ne_ss]
    have hcl := clsF_le ys es (blk m l k)
    have smc : ∀ v, v ≤ 2 → (D.str (clsN v)).sm = true := fun v hv => by
      match v, hv with
      | 0, _ => decide +kernel
      | 1, _ => decide +kernel
      | 2, _ => decide +kernel
    refine ⟨smc _ hcl, by decide +kernel, _, rfl, ?_⟩
    by_cases hz : clsF ys es (blk m l k) = 0
    · rw [hz, if_neg (by decide), ss_next]
      have hm0 : m ≠ 0 := fun z => by
        subst z
        refine h0 rfl ?_
        have : blk 0 l k = [] := by simp [blk]
        rwa [this] at hz
      have hk1 : k + 1 ≤ l.length := by
        have : k + 1 ≤ (k + 1) * m := Nat.le_mul_of_pos_right _ (by omega)
        omega
      refine ⟨l.length + 1 - (k + 1), by omega, rfl, k + 1, some (.str (clsN 0)), rfl, hk1, hc, fun i hi => ?_, by simp⟩
      by_cases h : i = k
      · subst h
        exact hz
      · exact hall i (by omega)
    · have hne : (clsN (clsF ys es (blk m l k)) == Str.ofString "again") = false := by
        match h : clsF ys es (blk m l k), hcl with
        | 0, _ => exact absurd h hz
        | 1, _ => decide
        | 2, _ => decide
      rw [hne, if_pos (by decide)]
      simp only [denrun_recipe_7, ss_ret, sp_tup, sp_cons, sp_var, sp_nil]
      refine ⟨.str (clsN (clsF ys es (blk m l k))), by simp, .int ((k : Int) + 1), by simp, by show 2 ≤ sizeLine; decide, ret_same ?_⟩
      have e1 : clsN (clsF ys es (blk m l k)) = resN (clsF ys es (blk m l k)) := by
        match h : clsF ys es (blk m l k), hcl with
        | 0, _ => exact absurd h hz
        | 1, _ => rfl
        | 2, _ => rfl
      rw [e1]
      exact hq _ (k + 1) hcl (by omega) (.inl ⟨hz, by omega, hc, by simp, fun i hi => hall i (by omega)⟩)
  · rw [if_neg (by rw [ecast]; exact fun h => hc (Int.ofNat_le.mp (of_decide_eq_true h)))]
    simp only [denrun_recipe_3, ss_ret, sp_tup, sp_cons, sp_c, sp_var, sp_nil]
    refine ⟨.int k, by simp, by show 2 ≤ sizeLine; decide, ret_same ?_⟩
    exact hq 0 k (by decide) (by omega) (.inr ⟨rfl, hkm0, by omega, hall⟩)
end G
end
section
namespace G
open PySem Bc
inductive Mst where
  | toss (a b : Int)
  | fin (v : Int)
def Mst.d : Mst → D
  | .toss a b => .tup [.str "toss", .int a, .int b]
  | .fin v => .tup [.str "end", .int v]
def lvl : Nat → List (List Bool)
  | 0 => [[]]
  | k + 1 => (lvl k).flatMap fun p => [p ++ [true], p ++ [false]]
def pre : Nat → List (List Bool)
  | 0 => [[]]
  | k + 1 => pre k ++ lvl (k + 1)
/-- where a round's end leads: N toss states -/
def tgt (N : Nat) : Nat → Int
  | 0 => 0
  | 1 => N
  | _ => N + 1
def stOf (m : Nat) (c : List Bool → Nat) (p : List Bool) (i : Nat) : Mst :=
  if p.length < m - 1 then .toss (2 * (i : Nat) + 1) (2 * (i : Nat) + 2) else .toss (tgt (pre (m - 1)).length (c (p ++ [true]))) (tgt (pre (m - 1)).length (c (p ++ [false])))
def mach (m : Nat) (ys es : List Int) : List Mst :=
  if m = 0 then [.fin (ys.getD 0 0)] else (pre (m - 1)).zipIdx.map (fun p => stOf m (clsF ys es) p.1 p.2) ++ [.fin 1, .fin 0]
def q_mach : FSpec := fun ds S Q X => ∃ m ys es, ds = [recD m ys es] ∧ m ≤ 7 ∧ ys.length = m + 1 ∧ es.length = m + 1 ∧ Closed S ∧ (m ≤ 5 → Q (.tup ((mach m ys es).map Mst.d)) S) ∧ (5 < m → X 0 S.length (S ++ [.xd "limit" (.int 5)]))
theorem comp2_map {gd : Sto → Prop} {g g1 : FG} {own1 : List Nat} {fi1 : FI} {fe : FE} {ρ : Bc.Env} (S0 : Sto) (h : D → List D) : ∀ (items acc : List D) {Q : Sto → Prop}, (∀ acc, gd (S0 ++ [.lst acc])) → acc.length + 2 * items.length < 10000 → (∀ d ∈ items, (h d).length = 2) →
    (∀ d ∈ items, ∀ acc (C : Sto → Prop), acc.length < 10000 → C (S0 ++ [.lst (acc ++ h d)]) → g d ρ (S0 ++ [.lst acc]) fun ρ' => fi1 ρ' (S0 ++ [.lst acc]) (fun it S3 => compD it.guard g1 fYes fe S0.length (wipeD ρ' own1) it.items S3 C) noX) →
    Q (S0 ++ [.lst (acc ++ items.flatMap h)]) → compD2 gd g fYes own1 fi1 g1 fYes fe S0.length ρ items (S0 ++ [.lst acc]) Q
  | [], acc, Q, hg, hz, h2, hs, hq => ⟨hg _, by simpa using hq⟩
  | d :: r, acc, Q, hg, hz, h2, hs, hq => by
    simp only [List.length_cons] at hz
    refine ⟨hg _, ?_⟩
    have e : ∀ ρ', (fYes ρ' (S0 ++ [.lst acc]) (fun b S2 => if b = true then fi1 ρ' S2 (fun it S3 => compD it.guard g1 fYes fe S0.length (wipeD ρ' own1) it.items S3 fun S4 => compD2 gd g fYes own1 fi1 g1 fYes fe S0.length ρ r S4 Q) noX else compD2 gd g fYes own1 fi1 g1 fYes fe S0.length ρ r S2 Q) noX) =
      fi1 ρ' (S0 ++ [.lst acc]) (fun it S3 => compD it.guard g1 fYes fe S0.length (wipeD ρ' own1) it.items S3 fun S4 => compD2 gd g fYes own1 fi1 g1 fYes fe S0.length ρ r S4 Q) noX := fun ρ' => by
      unfold fYes
      simp only [if_true]
    simp only [e]
    refine hs d List.mem_cons_self acc _ (by omega) ?_
    refine comp2_map S0 h r _ hg ?_ (fun d hd => h2 d (List.mem_cons_of_mem _ hd)) (fun d hd => hs d (List.mem_cons_of_mem _ hd)) ?_
    · have := h2 d List.mem_cons_self
      simp
      omega
    · simpa using hq
@[simp] theorem sp_lc2 {own own1 : List Nat} {fi fi1 : FI} {g g1 : FG} {ft ft1 : FT} {fe : FE} {ρ : Bc.Env} {S : Sto} {Q : Kv} {X : Xk} : fLc2 own fi g ft own1 fi1 g1 ft1 fe ρ S Q X ↔ fi ρ S (fun it S1 => compD2 it.guard g ft own1 fi1 g1 ft1 fe S1.length (wipeD ρ own) it.items (S1 ++ [.lst []]) fun S2 => Q (.ref S1.length) S2) X := Iff.rfl
theorem lvl_len : ∀ k, (lvl k).length = 2 ^ k
  | 0 => rfl
  | k + 1 => by
    have : ∀ l : List (List Bool), (l.flatMap fun p => [p ++ [true], p ++ [false]]).length = 2 * l.length := by
      intro l
      induction l with
      | nil => rfl
      | cons p r ih => simp [ih]; omega
    rw [lvl, this, lvl_len k, Nat.pow_succ]
    omega
theorem lvl_mem : ∀ k, ∀ p ∈ lvl k, p.length = k
  | 0, p, h => by
    rw [List.mem_singleton.mp h]
    rfl
  | k + 1, p, h => by
    rw [lvl, List.mem_flatMap] at h
    obtain ⟨a, ha, hp⟩ := h
    have := lvl_mem k a ha
    simp at hp
    rcases hp with rfl | rfl <;> simp [this]
theorem pre_len : ∀ k, (pre k).length + 1 = 2 ^ (k + 1)
  | 0 => rfl
  | k + 1 => by
    have := pre_len k
    rw [pre, List.length_append, lvl_len, Nat.pow_succ 2 (k + 1)]
    omega
theorem pre_mem : ∀ k, ∀ p ∈ pre k, p.length ≤ k
  | 0, p, h => by
    rw [List.mem_singleton.mp h]
    exact Nat.le_refl _
  | k + 1, p, h => by
    rw [pre, List.mem_append] at h
    rcases h with h | h
    · exact Nat.le_succ_of_le (pre_mem k p h)
    · rw [lvl_mem _ p h]
      exact Nat.le_refl _
theorem pow_le {k : Nat} (h : k ≤ 5) : 2 ^ k ≤ 32 := by
  have := Nat.pow_le_pow_right (show 0 < 2 by decide) h
  simpa using this
theorem set_app {S J : Sto} {k : Nat} {c : Cell} (h : S.length ≤ k) : (S ++ J).set k c = S ++ J.set (k - S.length) c := by
  rw [List.set_append_right _ _ h]
/-- the targets' dict -/
def tgD (N : Nat) : List (L2.Key × D) := [(Sum.inr (Str.ofString "again"), .int 0), (Sum.inr (Str.ofString "yes"), .int N), (Sum.inr (Str.ofString "no"), .int (N + 1))]
theorem tgD_val (N v : Nat) (hv : v ≤ 2) : valD (tgD N) (Sum.inr (clsN v)) = some (.int (tgt N v)) := by
  match v, hv with
  | 0, _ => rfl
  | 1, _ => rfl
  | 2, _ => rfl
theorem tgD_mk (N : Nat) : mergeD [] (tgD N) = tgD N := rfl
theorem comp_cons {gd : Sto → Prop} {g : FG} {fe : FE} {n : Nat} {ρ : Bc.Env} {d : D} {ds : List D} {S : Sto} {Q : Sto → Prop} (h0 : gd S)
    (h : ∀ C : Sto → Prop, (∀ S4, compD gd g fYes fe n ρ ds S4 Q → C S4) → g d ρ S fun ρ' => fe ρ' S (fun y S3 => ∃ acc, S3[n]? = some (.lst acc) ∧ acc.length < sizeLine ∧ C (S3.set n (.lst (acc ++ [y])))) noX) : compD gd g fYes fe n ρ (d :: ds) S Q := by
  refine ⟨h0, ?_⟩
  unfold fYes
  simp only [if_true]
  exact h _ fun _ z => z
theorem belL_app (n : Nat) : ∀ a b : List D, belL n (a ++ b) = (belL n a && belL n b)
  | [], b => rfl
  | x :: a, b => by simp [belL, belL_app n a b, Bool.and_assoc]
theorem bel_mst (n : Nat) (x : Mst) : x.d.bel n = true := by cases x <;> rfl
theorem idx_chars (l : List (List Bool)) : enumD (sDs l) = l.zipIdx.map fun p => D.tup [.int (p.2 : Nat), .str (tp p.1)] := by
  simp [enumD, sDs, List.zipIdx_map]
/-- the last loop and what follows -/
theorem mach_tail {S S1 : Sto} {Q : Kv} {X : Xk} {m : Nat} {ys es : List Int} {J : Sto} {kp kl kd : Nat} {v4 v5 v6 v9 v10 v11 : Option D} (hb : Closed S) (hm : 1 ≤ m) (hm5 : m ≤ 5) (hy : ys.length = m + 1) (he : es.length = m + 1) (h1 : S.length ≤ kp) (h2 : S.length ≤ kd) (hS : S1 = S ++ J)
    (hp : S1[kp]? = some (.lst (sDs (pre (m - 1))))) (hd : S1[kd]? = some (.dct (tgD (pre (m - 1)).length))) (hb1 : Closed S1) (hq : Q (.tup ((mach m ys es).map Mst.d)) S) :
    denmachine_from_recipe_6 q_class [some (recD m ys es), some (.int m), some (.ref kp), some (.ref kl), v4, v5, v6, some (.ref kd), none, v9, v10, v11] S1 ⟨fun _ S' => RetD S.length Q .non S', fun d S' => RetD S.length Q d S', fun _ _ => False, fun _ _ => False⟩ fun _ => RetX S.length X := by
  simp only [denmachine_from_recipe_6, denmachine_from_recipe_7, ss_sq, ss_set, sp_lst, sp_nil, ss_for, si_en, sp_cons, sp_var]
  have hpl := pre_len (m - 1)
  have hpw := pow_le (show m - 1 + 1 ≤ 5 by omega)
  refine ⟨by decide, .ref kp, by simp, _, _, rfl, .inl (get_app _ hp), ?_⟩
  rw [idx_chars]
  refine loop_inv (fun j ρ S' => ∃ J2 w5 w6 w9 w10 w11, S' = S ++ J2 ∧ S'[kp]? = some (.lst (sDs (pre (m - 1)))) ∧ S'[kd]? = some (.dct (tgD (pre (m - 1)).length)) ∧ S'[S1.length]? = some (.lst ((((pre (m - 1)).zipIdx.take j).map (fun p => stOf m (clsF ys es) p.1 p.2)).map Mst.d)) ∧ Closed S' ∧
    ρ = [some (recD m ys es), some (.int m), some (.ref kp), some (.ref kl), v4, w5, w6, some (.ref kd), some (.ref S1.length), w9, w10, w11]) _ 0 ?_ ?_ ?_ ?_
  · refine ⟨J ++ [.lst []], v5, v6, v9, v10, v11, by rw [hS]; simp, get_app _ hp, get_app _ hd, get_last rfl, ?_, by simp⟩
    exact hb1.app fun e he => by
      rw [List.mem_singleton.mp he]
      rfl
  · rintro j ρ _ _ ⟨J2, w5, w6, w9, w10, w11, rfl, g1, g2, g3, g4, rfl⟩
    exact .inl g1
  · rintro j d ρ _ hj ⟨J2, w5, w6, w9, w10, w11, rfl, g1, g2, g3, g4, rfl⟩ N hN
    rw [Nat.zero_add] at g3 hN
    rw [List.getElem?_map] at hj
    cases hz : (pre (m - 1)).zipIdx[j]? with
    | none => rw [hz] at hj; cases hj
    | some pp =>
    rw [hz] at hj
    cases hj
    have hz0 := hz
    rw [List.getElem?_zipIdx] at hz
    cases hx : (pre (m - 1))[j]? with
    | none => rw [hx] at hz; cases hz
    | some p =>
    rw [hx] at hz
    obtain rfl : (p, 0 + j) = pp := by simpa using hz
    rw [Nat.zero_add] at hz0 ⊢
    have hjl := (List.getElem?_eq_some_iff.mp hx).1
    have hpm := pre_mem _ p (List.mem_of_getElem? hx)
    have htake : (pre (m - 1)).zipIdx.take (j + 1) = (pre (m - 1)).zipIdx.take j ++ [(p, j)] := by
      rw [List.take_add_one, hz0]
      rfl
    have kpl : kp < S1.length := (List.getElem?_eq_some_iff.mp hp).1
    have kdl : kd < S1.length := (List.getElem?_eq_some_iff.mp hd).1
    have sl : S.length ≤ S1.length := by rw [hS]; simp
    have s1l : S1.length < (S ++ J2).length := (List.getElem?_eq_some_iff.mp g3).1
    -- behind the append
    have done : ∀ (T : Sto) (w10 w11 : Option D), Closed (S ++ J2 ++ T) → N [some (recD m ys es), some (.int m), some (.ref kp), some (.ref kl), v4, some (.str (tp p)), w6, some (.ref kd), some (.ref S1.length), some (.int j), w10, w11]
        ((S ++ J2 ++ T).set S1.length (.lst ((((pre (m - 1)).zipIdx.take j).map (fun p => stOf m (clsF ys es) p.1 p.2)).map Mst.d ++ [(stOf m (clsF ys es) p j).d]))) := by
      intro T w10 w11 hT
      refine hN _ _ ⟨(J2 ++ T).set (S1.length - S.length) _, some (.str (tp p)), w6, some (.int j), w10, w11, by rw [List.append_assoc, set_app sl], ?_, ?_, ?_, ?_, rfl⟩
      · rw [List.getElem?_set_ne (by omega)]
        exact get_app _ g1
      · rw [List.getElem?_set_ne (by omega)]
        exact get_app _ g2
      · rw [List.getElem?_set_self (by simp at s1l ⊢; omega), htake]
        simp
      · refine hT.set _ ?_
        show belL _ (_ ++ [_]) = true
        rw [belL_app, belL_map (bel_mst _)]
        simp [belL, bel_mst]
    simp only [gt, gmo, gn, gno, denmachine_from_recipe_13, ss_if, sp_tst, sp_f2, sp_fN, sp_cons, sp_var, sp_nil, sp_c]
    refine ⟨rfl, trivial, .str (tp p), by simp, ?_⟩
    rw [len_str]
    refine ⟨by rw [tp_len]; exact small (by omega), .int m, by simp, ?_⟩
    rw [o_sub, o_lt, tp_len]
    refine ⟨_, rfl, ?_⟩
    have hlen : (((pre (m - 1)).zipIdx.take j).map (fun p => stOf m (clsF ys es) p.1 p.2)).length ≤ 64 := by
      simp
      omega
    by_cases hlt : p.length < m - 1
    · rw [if_pos (decide_eq_true (by omega))]
      simp only [denmachine_from_recipe_14, ss_xp, sp_me, sp_var, sp_cons, sp_tup, sp_c, sp_f2, sp_nil]
      refine ⟨.ref S1.length, by simp, me_on rfl g3, .int j, by simp, ?_⟩
      rw [o_mulI]
      refine ⟨mulL (by decide) (by decide), ?_⟩
      rw [o_addI]
      refine ⟨.int j, by simp, ?_⟩
      rw [o_mulI]
      refine ⟨mulL (by decide) (by decide), ?_⟩
      rw [o_addI]
      refine ⟨by show 3 ≤ sizeLine; decide, ?_⟩
      rw [me_app]
      refine ⟨_, g3, Nat.lt_of_le_of_lt (show _ ≤ 64 by simpa using hlen) (by decide), ?_⟩
      have := done [] w10 w11 (by simpa using g4)
      simp only [List.append_nil] at this
      have e : (stOf m (clsF ys es) p j).d = .tup [.str "toss", .int (2 * j + 1), .int (2 * j + 2)] := by
        unfold stOf
        rw [if_pos hlt]
        rfl
      rw [e] at this
      exact this
    · rw [if_neg (fun h => hlt (by have := of_decide_eq_true h; omega))]
      have hpl2 : p.length = m - 1 := by omega
      simp only [denmachine_from_recipe_15, ss_sq, ss_asg, sp_lc, si_seq, sp_c, sg_str]
      refine ⟨_, rfl, ?_⟩
      rw [tp_HT, tp_chars]
      have one : ∀ (ρ0 : Bc.Env) (b : Bool) (acc : List D) (C : Sto → Prop), ρ0[0]? = some (some (recD m ys es)) → ρ0[5]? = some (some (.str (tp p))) → ρ0[6]? = some (some (.str (tp [b]))) → ρ0[7]? = some (some (.ref kd)) → belL (S ++ J2).length acc = true → acc.length ≤ 5 → C (S ++ J2 ++ [.lst (acc ++ [.int (tgt (pre (m - 1)).length (clsF ys es (p ++ [b])))])]) →
          fDg (fVar 7) (fCall q_class (fCons (fVar 0) (fCons (f2 (opBin .Add) (fVar 5) (fVar 6)) fNil))) ρ0 (S ++ J2 ++ [.lst acc])
            (fun y S3 => ∃ acc, S3[(S ++ J2).length]? = some (.lst acc) ∧ acc.length < sizeLine ∧ C (S3.set (S ++ J2).length (.lst (acc ++ [y])))) noX := by
        intro ρ0 b acc C r0 r5 r6 r7 ha hal hC
        simp only [sp_dg, sp_var, sp_call, sp_cons, sp_f2, sp_nil]
        refine ⟨.ref kd, r7, recD m ys es, r0, .str (tp p), r5, .str (tp [b]), r6, ?_⟩
        rw [o_addS, tp_app, tp_len, tp_len]
        refine ⟨small (by simp; omega), m, ys, es, p ++ [b], rfl, by simp; omega, by omega, hy, he, g4.app fun e hme => ?_, ?_⟩
        · rw [List.mem_singleton.mp hme]
          exact belL_mono (by simp) acc ha
        · exact ⟨kd, _, _, _, rfl, get_app _ g2, rfl, tgD_val _ _ (clsF_le ys es _), put_acc (Nat.lt_of_le_of_lt hal (by decide)) hC⟩
      refine comp_cons rfl fun C hC => one _ true [] C rfl rfl rfl rfl rfl (by decide) (hC _ ?_)
      refine comp_cons rfl fun C hC => one _ false _ C rfl rfl rfl rfl rfl (by show 1 ≤ 5; decide) (hC _ ?_)
      refine ⟨rfl, ?_⟩
      refine ⟨(S ++ J2).length, _, rfl, .inl (get_last rfl), rfl, ?_⟩
      simp only [List.nil_append, List.cons_append, gmo, gn, gno]
      refine ⟨trivial, ?_⟩
      simp only [denmachine_from_recipe_16, ss_xp, sp_me, sp_var, sp_cons, sp_tup, sp_c, sp_nil]
      refine ⟨.ref S1.length, by simp, me_on rfl (get_app _ g3), .int (tgt (pre (m - 1)).length (clsF ys es (p ++ [true]))), by simp, .int (tgt (pre (m - 1)).length (clsF ys es (p ++ [false]))), by simp, by show 3 ≤ sizeLine; decide, ?_⟩
      rw [me_app]
      refine ⟨_, get_app _ g3, Nat.lt_of_le_of_lt (show _ ≤ 64 by simpa using hlen) (by decide), ?_⟩
      have e : (stOf m (clsF ys es) p j).d = .tup [.str "toss", .int (tgt (pre (m - 1)).length (clsF ys es (p ++ [true]))), .int (tgt (pre (m - 1)).length (clsF ys es (p ++ [false])))] := by
        unfold stOf
        rw [if_neg hlt]
        rfl
      have := done [.lst [.int (tgt (pre (m - 1)).length (clsF ys es (p ++ [true]))), .int (tgt (pre (m - 1)).length (clsF ys es (p ++ [false])))]] (some (.int (tgt (pre (m - 1)).length (clsF ys es (p ++ [true]))))) (some (.int (tgt (pre (m - 1)).length (clsF ys es (p ++ [false]))))) (g4.app fun e hme => by
        rw [List.mem_singleton.mp hme]
        rfl)
      rw [e] at this
      exact this
  · rintro ρ _ ⟨J2, w5, w6, w9, w10, w11, rfl, g1, g2, g3, g4, rfl⟩
    have hl : (0 + ((pre (m - 1)).zipIdx.map fun p => D.tup [.int (p.2 : Nat), .str (tp p.1)]).length) = (pre (m - 1)).zipIdx.length := by simp
    rw [hl, List.take_length] at g3
    simp only [denmachine_from_recipe_8, ss_ret, sp_f2, sp_fN, sp_cons, sp_var, sp_nil, sp_tup, sp_c]
    refine ⟨.ref S1.length, by simp, .ref S1.length, _, rfl, .inr ⟨_, rfl, .inl g3⟩, by show 2 ≤ sizeLine; decide, by show 2 ≤ sizeLine; decide, by show 2 ≤ sizeLine; decide, ?_⟩
    show opBin .Add (.tup _) (.tup _) _ _
    rw [o_addT]
    refine ⟨?_, small (by simp; omega), ?_⟩
    · intro h
      have := congrArg List.length h
      simp at this
      rw [this] at hpl
      have : 2 ≤ 2 ^ (m - 1 + 1) := by
        have := Nat.pow_le_pow_right (show 0 < 2 by decide) (show 1 ≤ m - 1 + 1 by omega)
        simpa using this
      simp at hpl
      omega
    · refine ret_flat hb ?_ ?_
      · show belL S.length (_ ++ _) = true
        rw [belL_app, belL_map (bel_mst _)]
        rfl
      · have e : mach m ys es = (pre (m - 1)).zipIdx.map (fun p => stOf m (clsF ys es) p.1 p.2) ++ [.fin 1, .fin 0] := by
          unfold mach
          rw [if_neg (by omega)]
        rw [e] at hq
        simpa [Mst.d] using hq
end G
end
section
namespace G
open PySem Bc
theorem keeps_mach : Keeps nmachine_from_recipe (denmachine_from_recipe q_class) q_mach := by
  rintro ds S Q X ⟨m, ys, es, rfl, hm, hy, he, hb, hq, hx⟩
  refine ⟨by simp, ?_⟩
  simp only [denmachine_from_recipe, denmachine_from_recipe_0, startD, ss_sq, ss_set, sp_f2, sp_var, sp_c]
  refine ⟨recD m ys es, by simp, ?_⟩
  rw [recD, ix_tup]
  refine ⟨_, at_0, ?_⟩
  simp only [denmachine_from_recipe_1, ss_sq, ss_if, sp_tst, sp_f2, sp_var, sp_c]
  refine ⟨.int m, by simp, ?_⟩
  rw [o_gt]
  refine ⟨_, rfl, ?_⟩
  by_cases h5 : 5 < m
  · rw [if_pos (decide_eq_true (by omega))]
    simp only [denmachine_from_recipe_9]
    refine ⟨.int 5, rfl, .inr (hx h5)⟩
  rw [if_neg (fun h => h5 (by have := of_decide_eq_true h; omega)), ss_next]
  simp only [denmachine_from_recipe_2, ss_sq, ss_if, sp_tst, sp_f2, sp_var, sp_c]
  refine ⟨.int m, by simp, ?_⟩
  rw [eq_ii]
  refine ⟨_, rfl, ?_⟩
  by_cases h0 : m = 0
  · subst h0
    rw [if_pos (by decide)]
    simp only [denmachine_from_recipe_10, ss_ret, sp_tup, sp_cons, sp_c, sp_f2, sp_var, sp_nil]
    refine ⟨recD 0 ys es, by simp [recD], ?_⟩
    rw [recD, ix_tup]
    refine ⟨_, at_1, ?_⟩
    rw [ix_tup]
    obtain ⟨y, hy1⟩ : ∃ y, ys[0]? = some y := ⟨_, List.getElem?_eq_getElem (by omega)⟩
    refine ⟨.int y, L2.atI_nat (j := 0) (by rw [List.getElem?_map, hy1]; rfl), by show 2 ≤ sizeLine; decide, by show 1 ≤ sizeLine; decide, ret_same ?_⟩
    have := hq (by decide)
    have e : mach 0 ys es = [.fin y] := by
      unfold mach
      rw [if_pos rfl, List.getD_eq_getElem?_getD, hy1]
      rfl
    rw [e] at this
    exact this
  rw [if_neg (by simpa using h0), ss_next]
  have hm1 : 1 ≤ m := by omega
  have hm5 : m ≤ 5 := by omega
  simp only [denmachine_from_recipe_3, ss_sq, ss_par, sp_cons, sp_lst, sp_c, sp_nil]
  refine ⟨by decide, by decide, _, _, rfl, ?_⟩
  simp only [denmachine_from_recipe_4, ss_sq, ss_for, si_r1, sp_cons, sp_f2, sp_var, sp_c, sp_nil]
  refine ⟨.int m, by simp, ?_⟩
  rw [o_sub]
  refine ⟨_, rfl, ⟨by omega, by omega⟩, ?_⟩
  have em : ((m : Int) - 1).toNat = m - 1 := by omega
  rw [em]
  have hl : (rngD 0 1 (m - 1)).length = m - 1 := by simp [rngD]
  refine loop_inv (fun j ρ S' => ∃ J kp kl v4 v5 v6, S' = S ++ J ∧ S.length ≤ kp ∧ kp < S'.length ∧ S'[kp]? = some (.lst (sDs (pre j))) ∧ S'[kl]? = some (.lst (sDs (lvl j))) ∧ Closed S' ∧ ρ = [some (recD m ys es), some (.int m), some (.ref kp), some (.ref kl), v4, v5, v6, none, none, none, none, none]) (rngD 0 1 (m - 1)) 0 ?_ (fun _ _ _ _ _ => trivial) ?_ ?_
  · refine ⟨[.lst [.str (tp [])], .lst [.str (tp [])]], S.length, S.length + 1, none, none, none, ?_, Nat.le_refl _, ?_, ?_, ?_, ?_, ?_⟩
    · rw [tp_0]
      simp
    · simp
    · rw [tp_0]
      simp [sDs, pre]
    · rw [tp_0]
      simp [sDs, lvl]
    · rw [List.append_assoc]
      refine hb.app fun e he => ?_
      simp at he
      rcases he with rfl | rfl <;> rfl
    · simp [recD]
  · rintro j d ρ _ hj ⟨J, kp, kl, v4, v5, v6, rfl, hk, hkl, g1, g2, g3, rfl⟩ N hN
    rw [Nat.zero_add] at g1 g2 hN
    have hjm : j < m - 1 := by
      have := (List.getElem?_eq_some_iff.mp hj).1
      omega
    have hll := lvl_len j
    have hpw := pow_le (show j ≤ 5 by omega)
    simp only [gn, denmachine_from_recipe_11, denmachine_from_recipe_12, ss_sq, ss_set, sp_lc2, si_seq, sp_var]
    refine ⟨.ref kl, by simp, sDs (lvl j), .inl g2, ?_⟩
    have hflat : (sDs (lvl j)).flatMap (fun d => match d with | .str z => [D.str (z ++ tp [true]), .str (z ++ tp [false])] | _ => []) = sDs (lvl (j + 1)) := by
      have : ∀ l : List (List Bool), (sDs l).flatMap (fun d => match d with | .str z => [D.str (z ++ tp [true]), .str (z ++ tp [false])] | _ => []) = sDs (l.flatMap fun p => [p ++ [true], p ++ [false]]) := by
        intro l
        induction l with
        | nil => rfl
        | cons p r ih =>
          simp only [sDs, List.map_cons, List.flatMap_cons, List.map_append, List.map_nil] at ih ⊢
          rw [ih, tp_app, tp_app]
      exact this _
    refine comp2_map (S ++ J) (fun d => match d with | .str z => [D.str (z ++ tp [true]), .str (z ++ tp [false])] | _ => []) _ [] (fun acc => .inl (get_app _ g2)) (by simp [sDs]; omega) ?_ ?_ ?_
    · intro d hd
      obtain ⟨p, hp, rfl⟩ := List.mem_map.mp hd
      rfl
    · intro d hd acc C ha hC
      obtain ⟨p, hp, rfl⟩ := List.mem_map.mp hd
      have hpl := lvl_mem j p hp
      simp only [gn, si_seq, sp_c, sg_str]
      refine ⟨_, rfl, ?_⟩
      rw [tp_HT, tp_chars]
      have one : ∀ (ρ0 : Bc.Env) (b : Bool) (acc : List D) (C : Sto → Prop), ρ0[5]? = some (some (.str (tp p))) → ρ0[6]? = some (some (.str (tp [b]))) → acc.length ≤ 10001 → C (S ++ J ++ [.lst (acc ++ [.str (tp p ++ tp [b])])]) →
          f2 (opBin .Add) (fVar 5) (fVar 6) ρ0 (S ++ J ++ [.lst acc]) (fun y S3 => ∃ acc, S3[(S ++ J).length]? = some (.lst acc) ∧ acc.length < sizeLine ∧ C (S3.set (S ++ J).length (.lst (acc ++ [y])))) noX := by
        intro ρ0 b acc C r5 r6 hal hC
        simp only [sp_f2, sp_var]
        refine ⟨_, r5, _, r6, ?_⟩
        rw [o_addS, tp_len, tp_len]
        exact ⟨small (by simp; omega), put_acc (Nat.lt_of_le_of_lt hal (by decide)) hC⟩
      refine comp_cons rfl fun C1 hC1 => one _ true acc C1 rfl rfl (by omega) (hC1 _ ?_)
      refine comp_cons rfl fun C2 hC2 => one _ false _ C2 rfl rfl (by simp; omega) (hC2 _ ?_)
      refine ⟨rfl, ?_⟩
      simpa using hC
    · rw [List.nil_append, hflat]
      simp only [ss_xp, sp_me, sp_var, sp_cons, sp_nil]
      refine ⟨.ref kp, by simp, me_on rfl (get_app _ g1), .ref (S ++ J).length, by simp, ?_⟩
      have h2 := lvl_len (j + 1)
      have h3 := pre_len j
      have hpw2 := pow_le (show j + 1 ≤ 5 by omega)
      refine ⟨kp, (S ++ J).length, sDs (pre j), sDs (lvl (j + 1)), rfl, rfl, get_app _ g1, get_last rfl, small (by simp [sDs]; omega), ?_⟩
      refine hN _ _ ⟨(J ++ [Cell.lst (sDs (lvl (j + 1)))]).set (kp - S.length) (Cell.lst (sDs (pre j) ++ sDs (lvl (j + 1)))), kp, (S ++ J).length, some d, v5, v6, by rw [List.append_assoc, set_app hk], hk, by simp at hkl ⊢; omega, ?_, ?_, ?_, rfl⟩
      · rw [List.getElem?_set_self (by simp at hkl ⊢; omega)]
        simp [pre, sDs]
      · rw [List.getElem?_set_ne (by omega)]
        exact get_last rfl
      · refine Closed.set (g3.app fun e he => ?_) _ ?_
        · rw [List.mem_singleton.mp he]
          exact belL_strs _ _
        · show belL _ (_ ++ _) = true
          rw [belL_app, belL_strs, belL_strs]
          rfl
  · rintro ρ _ ⟨J, kp, kl, v4, v5, v6, rfl, hk, hkl, g1, g2, g3, rfl⟩
    rw [Nat.zero_add, hl] at g1 g2
    simp only [denmachine_from_recipe_5, ss_sq, ss_set, fDs, fPrs, sp_c, sp_fN, sp_cons, sp_var, sp_nil, sp_f2]
    have gL : ∀ T : Sto, (S ++ J ++ T)[kp]? = some (.lst (sDs (pre (m - 1)))) := fun T => get_app T g1
    have hlen : ((sDs (pre (m - 1))).length : Int) = (pre (m - 1)).length := by simp [sDs]
    refine ⟨.ref kp, by simp, ?_⟩
    rw [len_ref (gL _), hlen]
    refine ⟨.ref kp, by simp, ?_⟩
    rw [len_ref (gL _), hlen, o_addI]
    refine ⟨tgD (pre (m - 1)).length, rfl, get_last rfl, by show 3 ≤ 15; decide, ?_⟩
    rw [tgD_mk]
    have e : (S ++ J ++ [Cell.dct []]).set (S ++ J).length (.dct (tgD (pre (m - 1)).length)) = S ++ (J ++ [Cell.dct (tgD (pre (m - 1)).length)]) := by
      rw [List.set_append_right _ _ (Nat.le_refl _)]
      simp
    rw [e]
    refine mach_tail (J := J ++ [Cell.dct (tgD (pre (m - 1)).length)]) (kp := kp) (kl := kl) (kd := (S ++ J).length) hb hm1 hm5 hy he hk (by simp) rfl ?_ ?_ ?_ (hq hm5)
    · rw [← List.append_assoc]
      exact gL _
    · rw [← List.append_assoc]
      exact get_last rfl
    · rw [← List.append_assoc]
      refine g3.app fun e he => ?_
      rw [List.mem_singleton.mp he]
      rfl
end G
end
section
namespace G
open PySem Bc
@[simp] theorem isi_i {t : Ty} {i : Int} {S : Sto} {Q : Kv} : opIsi t (.int i) S Q ↔ Q (.bl ((D.int i).isA t)) S := by simp [opIsi]
@[simp] theorem isi_s {t : Ty} {i : Str} {S : Sto} {Q : Kv} : opIsi t (.str i) S Q ↔ Q (.bl ((D.str i).isA t)) S := by simp [opIsi]
@[simp] theorem isi_t {t : Ty} {i : List D} {S : Sto} {Q : Kv} : opIsi t (.tup i) S Q ↔ Q (.bl ((D.tup i).isA t)) S := by simp [opIsi]
def q_isint : FSpec := fun ds S Q X => ∃ i, ds = [.int i] ∧ Q (.bl true) S
theorem keeps_isint : Keeps nis_integer denis_integer q_isint := by
  rintro ds S Q X ⟨i, rfl, hq⟩
  refine ⟨by simp, ?_⟩
  simp [denis_integer, denis_integer_0, startD, D.isA]
  exact ret_same hq
def StOk (N : Nat) : Mst → Prop
  | .toss a b => (0 ≤ a ∧ a < N) ∧ 0 ≤ b ∧ b < N
  | .fin v => 0 ≤ v ∧ v ≤ 99
def q_sterr : FSpec := fun ds S Q X => ∃ (st : Mst) (N : Nat), ds = [st.d, .int N] ∧ StOk N st ∧ Closed S ∧ Q .non S
theorem sl_t {xs : List D} {S : Sto} {Q : Kv} (h : 1 ≤ xs.length) (hq : Q (.tup xs.tail) S) : opSl (.tup xs) (some 1) none S Q := by
  refine .inr (.inl ⟨xs, rfl, ?_, ?_⟩)
  · rintro ⟨h1, _⟩
    have : HT.sIx xs.length 0 (some ((1 : Nat) : Int)) = min 1 xs.length := HT.sIx_nat _ _ _
    have h2 : HT.sIx xs.length 0 (some ((1 : Nat) : Int)) = 0 := h1
    omega
  · have e : cutD xs (some 1) none = xs.tail := by
      unfold cutD
      have e1 : HT.sIx xs.length 0 (some 1) = 1 := by
        have : HT.sIx xs.length 0 (some ((1 : Nat) : Int)) = min 1 xs.length := HT.sIx_nat _ _ _
        have h2 : HT.sIx xs.length 0 (some (1 : Int)) = min 1 xs.length := this
        omega
      rw [e1, HT.sIx_none, List.drop_one]
      exact List.take_of_length_le (by simp)
    rw [e]
    exact hq
theorem sm_toss : (D.str "toss").sm = true := by decide +kernel
theorem sm_end : (D.str "end").sm = true := by decide +kernel
theorem sm_never : (D.str "never").sm = true := by decide +kernel
theorem all_comp {B : Sto} {ρ : Bc.Env} {fe : FE} {k : Nat} {vs : List Int} {d : D} (hd : d = .tup (vs.map D.int)) {C : Sto → Prop} (hv : vs.length ≤ 100) (h : ∀ v ∈ vs, ∀ (acc : List D) (R : Kv), R (.bl true) (B ++ [.lst acc]) → fe (ρ.set k (some (.int v))) (B ++ [.lst acc]) R noX)
    (hC : C (B ++ [.lst (vs.map fun _ => D.bl true)])) : compD (srcG d (vs.map D.int)) (gN k) fYes fe B.length ρ (vs.map D.int) (B ++ [.lst []]) C := by
  subst hd
  refine comp_map B (fun _ => some (.bl true)) _ [] (fun acc => rfl) (Nat.lt_of_le_of_lt (show _ ≤ 100 by simpa using hv) (by decide)) ?_ ?_
  · intro d hd acc C hacc c1 c2
    obtain ⟨v, hv, rfl⟩ := List.mem_map.mp hd
    simp only [gn, sp_yes, if_true]
    exact h v hv acc _ (put_acc hacc (c1 _ rfl))
  · have e : (vs.map D.int).filterMap (fun _ => some (D.bl true)) = vs.map fun _ => D.bl true := by
      have g : ∀ vs : List Int, (vs.map D.int).filterMap (fun _ => some (D.bl true)) = vs.map fun _ => D.bl true := by
        intro vs
        induction vs with
        | nil => rfl
        | cons v vs ih => rw [List.map_cons, List.filterMap_cons, ih, List.map_cons]
      exact g vs
    rw [e]
    exact hC
theorem all_true {B S' : Sto} {vs : List Int} {Q : Kv} (h : S'[B.length]? = some (.lst (vs.map fun _ => D.bl true))) (hq : Q (.bl true) S') : opBi .all [.ref B.length] S' Q := by
  refine ⟨B.length, vs.map fun _ => true, rfl, .inl (by rw [h]; simp), ?_⟩
  have : (vs.map fun _ => true).all id = true := by simp
  rw [this]
  exact hq
theorem keeps_sterr : Keeps nstate_error (denstate_error q_isint) q_sterr := by
  rintro ds S Q X ⟨st, N, rfl, hok, hb, hq⟩
  refine ⟨by simp, ?_⟩
  cases st with
  | toss a b =>
    obtain ⟨⟨a1, a2⟩, b1, b2⟩ := hok
    simp [denstate_error, denstate_error_0, startD, Mst.d, D.isA]
    simp only [denstate_error_1, ss_sq, ss_if, sp_or, sp_not, sp_tst, sp_tru, sp_f2, sp_fN, sp_cons, sp_var, sp_nil, sp_kg, sp_c, sp_lc, si_seq, sp_sl, sp_part, sp_noP]
    refine ⟨_, rfl, ?_⟩
    rw [len_tup]
    refine ⟨_, rfl, ?_⟩
    rw [ix_tup]
    refine ⟨_, at_0, _, rfl, ?_⟩
    show opCmp .NotEq (.int 3) (.int 3) _ _
    rw [ne_ii]
    refine ⟨_, rfl, ?_⟩
    rw [if_neg (by decide)]
    refine ⟨_, rfl, 1, rfl, sl_t (by simp) ⟨[a, b].map D.int, rfl, ?_⟩⟩
    refine all_comp (vs := [a, b]) rfl (by simp) (fun v _ acc R hR => ?_) ?_
    · simp only [sp_call, sp_cons, sp_var, sp_nil]
      exact ⟨.int v, rfl, v, rfl, hR⟩
    refine all_true (vs := [a, b]) (get_last rfl) ?_
    rw [tr_bl, if_neg (by decide), ss_next]
    simp only [denstate_error_2, ss_sq, ss_if, sp_and, sp_not, sp_tst, sp_tru, sp_f2, sp_fN, sp_cons, sp_var, sp_nil, sp_c, sp_lc, si_seq, sp_sl, sp_part, sp_noP]
    refine ⟨_, rfl, ?_⟩
    rw [ix_tup]
    refine ⟨_, at_0, ?_⟩
    rw [eq_ss]
    refine ⟨sm_toss, sm_toss, _, rfl, ?_⟩
    rw [if_pos (by decide)]
    refine ⟨_, rfl, 1, rfl, sl_t (by simp) ⟨[a, b].map D.int, rfl, ?_⟩⟩
    refine all_comp (vs := [a, b]) rfl (by simp) (fun v hv acc R hR => ?_) ?_
    · have hv' : 0 ≤ v ∧ v < N := by
        simp at hv
        rcases hv with rfl | rfl
        · exact ⟨a1, a2⟩
        · exact ⟨b1, b2⟩
      simp only [sp_chn, sp_c, sp_var]
      refine ⟨.int v, rfl, ?_⟩
      rw [o_le]
      refine ⟨_, rfl, ?_⟩
      rw [if_pos (decide_eq_true hv'.1)]
      refine ⟨.int N, rfl, ?_⟩
      rw [o_lt, decide_eq_true hv'.2]
      exact hR
    refine all_true (vs := [a, b]) (get_last rfl) ?_
    rw [tr_bl, if_neg (by decide), ss_next]
    simp only [denstate_error_3, denstate_error_4, ss_sq, ss_if, sp_and, sp_not, sp_tst, sp_f2, sp_var, sp_c, ss_ret]
    refine ⟨_, rfl, ?_⟩
    rw [ix_tup]
    refine ⟨_, at_0, ?_⟩
    rw [eq_ss]
    refine ⟨sm_toss, sm_end, _, rfl, ?_⟩
    rw [if_neg (by decide), if_neg (by decide), ss_next]
    simp only [denstate_error_4, ss_ret, sp_c]
    rw [List.append_assoc]
    exact ret_flat hb rfl hq
  | fin v =>
    obtain ⟨v1, v2⟩ := hok
    simp [denstate_error, denstate_error_0, startD, Mst.d, D.isA]
    simp only [denstate_error_1, ss_sq, ss_if, sp_or, sp_not, sp_tst, sp_tru, sp_f2, sp_fN, sp_cons, sp_var, sp_nil, sp_kg, sp_c, sp_lc, si_seq, sp_sl, sp_part, sp_noP]
    refine ⟨_, rfl, ?_⟩
    rw [len_tup]
    refine ⟨_, rfl, ?_⟩
    rw [ix_tup]
    refine ⟨_, at_0, _, rfl, ?_⟩
    show opCmp .NotEq (.int 2) (.int 2) _ _
    rw [ne_ii]
    refine ⟨_, rfl, ?_⟩
    rw [if_neg (by decide)]
    refine ⟨_, rfl, 1, rfl, sl_t (by simp) ⟨[v].map D.int, rfl, ?_⟩⟩
    refine all_comp (vs := [v]) rfl (by simp) (fun v _ acc R hR => ?_) ?_
    · simp only [sp_call, sp_cons, sp_var, sp_nil]
      exact ⟨.int v, rfl, v, rfl, hR⟩
    refine all_true (vs := [v]) (get_last rfl) ?_
    rw [tr_bl, if_neg (by decide), ss_next]
    simp only [denstate_error_2, ss_sq, ss_if, sp_and, sp_not, sp_tst, sp_f2, sp_var, sp_c]
    refine ⟨_, rfl, ?_⟩
    rw [ix_tup]
    refine ⟨_, at_0, ?_⟩
    rw [eq_ss]
    refine ⟨sm_end, sm_toss, _, rfl, ?_⟩
    rw [if_neg (by decide), if_neg (by decide), ss_next]
    simp only [denstate_error_3, ss_sq, ss_if, sp_and, sp_not, sp_tst, sp_f2, sp_var, sp_c, sp_chn]
    refine ⟨_, rfl, ?_⟩
    rw [ix_tup]
    refine ⟨_, at_0, ?_⟩
    rw [eq_ss]
    refine ⟨sm_end, sm_end, _, rfl, ?_⟩
    rw [if_pos (by decide)]
    refine ⟨_, rfl, ?_⟩
    rw [ix_tup]
    refine ⟨_, at_1, ?_⟩
    rw [o_le]
    refine ⟨_, rfl, ?_⟩
    rw [if_pos (decide_eq_true v1), o_le]
    refine ⟨_, rfl, ?_⟩
    rw [decide_eq_true v2, if_neg (by decide), ss_next]
    simp only [denstate_error_4, ss_ret, sp_c]
    exact ret_flat hb rfl hq
def q_merr : FSpec := fun ds S Q X => ∃ (ms : List Mst), ds = [.tup (ms.map Mst.d)] ∧ 1 ≤ ms.length ∧ ms.length ≤ 60 ∧ (∀ st ∈ ms, StOk ms.length st) ∧ Closed S ∧ Q .non S
theorem keeps_merr : Keeps nmachine_error (denmachine_error q_sterr) q_merr := by
  rintro ds S Q X ⟨ms, rfl, h1, h2, hok, hb, hq⟩
  refine ⟨by simp, ?_⟩
  simp only [denmachine_error, denmachine_error_0, startD, ss_sq, ss_if, sp_or, sp_not, sp_tru, sp_tst, sp_f1, sp_var, sp_chn, sp_c, sp_fN, sp_cons, sp_nil]
  refine ⟨_, rfl, ?_⟩
  rw [isi_t, tr_bl, if_neg (by simp [D.isA])]
  refine ⟨_, rfl, ?_⟩
  rw [len_tup, List.length_map, o_le]
  refine ⟨_, rfl, ?_⟩
  rw [if_pos (decide_eq_true (by omega)), o_le]
  refine ⟨_, rfl, ?_⟩
  rw [decide_eq_true (show (ms.length : Int) ≤ 60 by omega), if_neg (by decide), ss_next]
  simp only [denmachine_error_1, ss_sq, ss_for, si_en, sp_cons, sp_var, sp_nil]
  refine ⟨_, rfl, _, _, rfl, rfl, ?_⟩
  have e : enumD (ms.map Mst.d) = ms.zipIdx.map fun p => D.tup [.int (p.2 : Nat), p.1.d] := by simp [enumD, List.zipIdx_map]
  rw [e]
  refine loop_inv (fun j ρ S' => S' = S ∧ ∃ v1 v2 v3, ρ = [some (.tup (ms.map Mst.d)), v1, v2, v3]) _ 0 ⟨rfl, none, none, none, rfl⟩ (fun _ _ _ _ _ => rfl) ?_ ?_
  · rintro j d ρ _ hj ⟨rfl, v1, v2, v3, rfl⟩ N hN
    rw [List.getElem?_map] at hj
    cases hz : ms.zipIdx[j]? with
    | none => rw [hz] at hj; cases hj
    | some p =>
      rw [hz] at hj
      cases hj
      have hmem : p.1 ∈ ms := by
        rw [List.getElem?_zipIdx] at hz
        cases hx : ms[j]? with
        | none => rw [hx] at hz; cases hz
        | some x =>
          rw [hx] at hz
          have : (x, 0 + j) = p := by simpa using hz
          rw [← this]
          exact List.mem_of_getElem? hx
      simp only [gt, gmo, gn, gno, denmachine_error_4, denmachine_error_5, ss_sq, ss_set, sp_call, sp_cons, sp_var, sp_fN, sp_nil, ss_if, sp_tst, sp_f2, sp_c]
      refine ⟨rfl, trivial, _, rfl, _, rfl, ?_⟩
      rw [len_tup, List.length_map]
      refine ⟨p.1, ms.length, rfl, hok _ hmem, hb, _, rfl, ?_⟩
      rw [o_isnot]
      refine ⟨_, rfl, ?_⟩
      rw [if_neg (by decide), ss_next]
      exact hN _ _ ⟨rfl, _, _, _, rfl⟩
  · rintro ρ _ ⟨rfl, v1, v2, v3, rfl⟩
    simp only [denmachine_error_2, ss_ret, sp_c]
    exact ret_same hq
end G
end
section
namespace G
open PySem Bc
/-- how the machine ends on l from the place at, some symbols used; none: a place that is not there -/
inductive Wk where
  | ended (v : Int) (used : Nat)
  | going (at_ : Int)
def Wk.d : Wk → D
  | .ended v u => .tup [.str "ended", .int v, .int u]
  | .going a => .tup [.str "going", .int a]
/-- the machine walks l from the place at to the end w, u symbols used ahead -/
inductive Walks (ms : List Mst) : Nat → Nat → List Bool → Wk → Prop
  | fin {at_ u l v} : ms[at_]? = some (.fin v) → Walks ms at_ u l (.ended v u)
  | stop {at_ u a b} : ms[at_]? = some (.toss a b) → Walks ms at_ u [] (.going at_)
  | step {at_ u a b c l w} {nx : Nat} : ms[at_]? = some (.toss a b) → (nx : Int) = (if c = true then a else b) → Walks ms nx (u + 1) l w → Walks ms at_ u (c :: l) w
def q_lrun : FSpec := fun ds S Q X => ∃ (ms : List Mst) (l : List Bool) (w : Wk), ds = [.tup (ms.map Mst.d), .str (tp l)] ∧ l.length ≤ 900 ∧ Walks ms 0 0 l w ∧ Q w.d S
theorem keeps_lrun : Keeps n_law_run den_law_run q_lrun := by
  rintro ds S Q X ⟨ms, l, w, rfl, hl, hw, hq⟩
  refine ⟨by simp, ?_⟩
  simp only [den_law_run, den_law_run_0, den_law_run_1, startD, ss_sq, ss_set, sp_c, ss_for, si_r1, sp_cons, sp_f2, sp_fN, sp_var, sp_nil]
  refine ⟨_, rfl, ?_⟩
  rw [len_str, tp_len, o_addI]
  refine ⟨small (by omega), _, rfl, ⟨by omega, by omega⟩, ?_⟩
  have hN : (rngD 0 1 ((l.length : Int) + 1).toNat).length = l.length + 1 := by simp [rngD]
  -- at turn j the place is at_, with l.drop j to come; at the last turn's end l is used up
  refine loop_inv (fun j ρ S' => S' = S ∧ ∃ (at_ : Nat) (v3 v4 : Option D), ρ = [some (.tup (ms.map Mst.d)), some (.str (tp l)), some (.int at_), v3, v4] ∧ ((j ≤ l.length ∧ Walks ms at_ j (l.drop j) w) ∨ (j = l.length + 1 ∧ w = .going at_))) (rngD 0 1 ((l.length : Int) + 1).toNat) 0 ⟨rfl, 0, none, none, rfl, .inl ⟨Nat.zero_le _, by simpa using hw⟩⟩ (fun _ _ _ _ _ => trivial) ?_ ?_
  · rintro j d ρ _ hj ⟨rfl, at_, v3, v4, rfl, hI⟩ N hNx
    rw [Nat.zero_add] at hI hNx
    have hjl : j < l.length + 1 := by
      have := (List.getElem?_eq_some_iff.mp hj).1
      omega
    obtain ⟨_, rfl⟩ := rngD_get hj
    obtain ⟨_, hW⟩ := hI.resolve_right (fun h => by have := h.1; omega)
    simp only [gn, den_law_run_3, den_law_run_4, ss_sq, ss_set, sp_f2, sp_var, ss_if, sp_tst, sp_c]
    refine ⟨_, rfl, _, rfl, ?_⟩
    rw [ix_tup]
    have e0 : (0 : Int) + (j : Int) * 1 = j := by omega
    rw [e0]
    generalize hdr : l.drop j = r at hW
    cases hW with
    | @fin _ _ _ v h =>
      refine ⟨(Mst.fin v).d, L2.atI_nat (by rw [List.getElem?_map, h]; rfl), _, rfl, ?_⟩
      simp only [Mst.d]
      rw [ix_tup]
      refine ⟨_, at_0, ?_⟩
      rw [eq_ss]
      refine ⟨sm_end, sm_end, _, rfl, ?_⟩
      rw [if_pos (by decide)]
      simp only [den_law_run_7, ss_ret, sp_tup, sp_cons, sp_c, sp_f2, sp_var, sp_nil]
      refine ⟨_, rfl, ?_⟩
      rw [ix_tup]
      exact ⟨_, at_1, _, rfl, by show 3 ≤ sizeLine; decide, ret_same hq⟩
    | @stop _ _ a b h =>
      have hj2 : j = l.length := by
        have := congrArg List.length hdr
        simp at this
        omega
      refine ⟨(Mst.toss a b).d, L2.atI_nat (by rw [List.getElem?_map, h]; rfl), _, rfl, ?_⟩
      simp only [Mst.d]
      rw [ix_tup]
      refine ⟨_, at_0, ?_⟩
      rw [eq_ss]
      refine ⟨sm_toss, sm_end, _, rfl, ?_⟩
      rw [if_neg (by decide), ss_next]
      simp only [den_law_run_5, ss_sq, ss_if, sp_tst, sp_f2, sp_var, sp_c]
      refine ⟨_, rfl, ?_⟩
      rw [ix_tup]
      refine ⟨_, at_0, ?_⟩
      rw [eq_ss]
      refine ⟨sm_toss, sm_never, _, rfl, ?_⟩
      rw [if_neg (by decide), ss_next]
      simp only [den_law_run_6, ss_if, sp_tst, sp_f2, sp_fN, sp_cons, sp_var, sp_nil]
      refine ⟨_, rfl, _, rfl, ?_⟩
      rw [len_str, tp_len, o_lt]
      refine ⟨small (by omega), _, rfl, ?_⟩
      rw [if_neg (fun h => by have := of_decide_eq_true h; omega), ss_next]
      exact hNx _ _ ⟨rfl, at_, _, _, rfl, .inr ⟨by omega, rfl⟩⟩
    | @step _ _ a b c r' _ nx h hnx hW' =>
      have hjl2 : j < l.length := by
        have := congrArg List.length hdr
        simp at this
        omega
      refine ⟨(Mst.toss a b).d, L2.atI_nat (by rw [List.getElem?_map, h]; rfl), _, rfl, ?_⟩
      simp only [Mst.d]
      rw [ix_tup]
      refine ⟨_, at_0, ?_⟩
      rw [eq_ss]
      refine ⟨sm_toss, sm_end, _, rfl, ?_⟩
      rw [if_neg (by decide), ss_next]
      simp only [den_law_run_5, ss_sq, ss_if, sp_tst, sp_f2, sp_var, sp_c]
      refine ⟨_, rfl, ?_⟩
      rw [ix_tup]
      refine ⟨_, at_0, ?_⟩
      rw [eq_ss]
      refine ⟨sm_toss, sm_never, _, rfl, ?_⟩
      rw [if_neg (by decide), ss_next]
      simp only [den_law_run_6, den_law_run_9, ss_if, ss_set, sp_tst, sp_f2, sp_fN, sp_cons, sp_var, sp_nil, sp_c]
      refine ⟨_, rfl, _, rfl, ?_⟩
      rw [len_str, tp_len, o_lt]
      refine ⟨small (by omega), _, rfl, ?_⟩
      rw [if_pos (decide_eq_true (by omega))]
      refine ⟨_, rfl, _, rfl, _, rfl, ?_⟩
      rw [ix_str, tp_len, tp_cps]
      have hc : l[j]? = some c ∧ l.drop (j + 1) = r' := by
        have h2 := drop_cons hdr
        exact ⟨h2.1, h2.2.1⟩
      refine ⟨small (by omega), chN c, L2.atI_nat (by rw [List.getElem?_map, hc.1]; rfl), ?_⟩
      rw [tp_one, tp_H, eq_ss]
      refine ⟨tp_sm _, tp_sm _, ?_⟩
      rw [int_b, o_sub, ix_tup]
      have hW2 : Walks ms nx (j + 1) (l.drop (j + 1)) w := by rw [hc.2]; exact hW'
      cases c with
      | true =>
        rw [if_pos rfl] at hnx
        subst hnx
        rw [if_pos (by simp)]
        exact ⟨_, at_1, hNx _ _ ⟨rfl, nx, _, _, rfl, .inl ⟨by omega, hW2⟩⟩⟩
      | false =>
        rw [if_neg (by decide)] at hnx
        subst hnx
        rw [if_neg (by simp [tp_inj])]
        exact ⟨_, at_2, hNx _ _ ⟨rfl, nx, _, _, rfl, .inl ⟨by omega, hW2⟩⟩⟩
  · rintro ρ _ ⟨rfl, at_, v3, v4, rfl, hI⟩
    rw [Nat.zero_add, hN] at hI
    rcases hI with ⟨h, _⟩ | ⟨_, rfl⟩
    · omega
    simp only [den_law_run_2, ss_ret, sp_tup, sp_cons, sp_c, sp_var, sp_nil]
    exact ⟨_, rfl, by show 2 ≤ sizeLine; decide, ret_same hq⟩
def q_comp : FSpec := fun ds S Q X => ∃ m ys es, ds = [recD m ys es] ∧ m ≤ 7 ∧ ys.length = m + 1 ∧ es.length = m + 1 ∧ Closed S ∧ (m ≤ 5 → Q (.tup ((mach m ys es).map Mst.d)) S) ∧ (5 < m → Q (.int 5) S)
theorem keeps_comp {K : PySem.W.Frag} {C1 C2 : Addr} (hm : PySem.W.exmOne K (.ref C1) (.ref C1) = some true) (hx : XiC K C1) (k1 : PySem.W.kitOne K (.ref C1) (.type "OverflowError") = some true) (k2 : PySem.W.kitOne K (.ref C1) (.ref C2) = some false) :
    Keeps n_law_compiled (den_law_compiled K (tabX C1 C2) C1 C2 q_mach) q_comp := by
  rintro ds S Q X ⟨m, ys, es, rfl, hm7, hy, he, hb, hq, hq5⟩
  refine ⟨by simp, ?_⟩
  show fTryAs _ _ _ _ _ _ _ _ _ _
  unfold fTryAs
  simp only [den_law_compiled_1, startD, ss_ret, sp_call, sp_cons, sp_var, sp_nil]
  refine ⟨_, rfl, m, ys, es, rfl, hm7, hy, he, hb, fun h => ret_same (hq h), fun h5 => ?_⟩
  refine ⟨C1, "limit", true, rfl, hm, fun _ a dd => ?_, fun h => (by cases h)⟩
  simp only [den_law_compiled_2, ss_ret, sp_if, sp_and, sp_not, sp_tru, fXi, fXf, sp_var, sp_c]
  refine ⟨_, rfl, C1, _, _, _, _, true, rfl, hx, rfl, rfl, get_last rfl, k1, ?_⟩
  rw [tr_bl, if_pos rfl]
  refine ⟨_, rfl, C1, _, _, _, _, false, rfl, hx, rfl, rfl, get_last rfl, k2, ?_⟩
  rw [tr_bl, if_pos (by decide)]
  refine ⟨_, rfl, trivial, _, _, _, rfl, rfl, get_last rfl, ?_⟩
  exact ret_flat hb rfl (hq5 h5)
end G
end
section
namespace G
open PySem Bc
def val (p : List Bool) : Nat := p.foldl (fun i b => 2 * i + if b = true then 0 else 1) 0
def idx (p : List Bool) : Nat := 2 ^ p.length - 1 + val p
theorem val_snoc (p : List Bool) (b : Bool) : val (p ++ [b]) = 2 * val p + if b = true then 0 else 1 := by simp [val]
theorem val_lt (p : List Bool) : val p < 2 ^ p.length := by
  have key : ∀ (q : List Bool) (i n : Nat), i < 2 ^ n → q.foldl (fun i b => 2 * i + if b = true then 0 else 1) i < 2 ^ (n + q.length) := by
    intro q
    induction q with
    | nil => intro i n h; exact h
    | cons b q ih =>
      intro i n h
      have := ih (2 * i + if b = true then 0 else 1) (n + 1) (by
        rw [Nat.pow_succ]
        split <;> omega)
      simpa [Nat.add_assoc, Nat.add_comm 1] using this
  have := key p 0 0 (by decide)
  simpa [val] using this
theorem idx_snoc (p : List Bool) (b : Bool) : idx (p ++ [b]) = 2 * idx p + if b = true then 1 else 2 := by
  unfold idx
  rw [val_snoc, List.length_append]
  have h : 0 < 2 ^ p.length := Nat.pow_pos (by decide)
  have e : 2 ^ (p.length + [b].length) = 2 * 2 ^ p.length := by
    rw [show [b].length = 1 from rfl, Nat.pow_succ]
    omega
  rw [e]
  cases b <;> simp <;> omega
theorem pairs_get {α β : Type} (f g : α → β) : ∀ (l : List α) (i : Nat), (l.flatMap fun p => [f p, g p])[2 * i]? = (l[i]?).map f ∧ (l.flatMap fun p => [f p, g p])[2 * i + 1]? = (l[i]?).map g
  | [], i => by simp
  | x :: l, 0 => by simp
  | x :: l, i + 1 => by
    have := pairs_get f g l i
    have e1 : 2 * (i + 1) = 2 * i + 2 := by omega
    rw [e1]
    simpa using this
theorem lvl_get : ∀ (k : Nat) (p : List Bool), p.length = k → (lvl k)[val p]? = some p
  | 0, p, h => by
    rw [List.length_eq_zero_iff.mp h]
    rfl
  | k + 1, p, h => by
    have hne : p ≠ [] := fun z => by rw [z] at h; cases h
    obtain ⟨q, b, rfl⟩ : ∃ q b, p = q ++ [b] := ⟨p.dropLast, p.getLast hne, (List.dropLast_concat_getLast hne).symm⟩
    have hq : q.length = k := by simpa using h
    have ih := lvl_get k q hq
    have := pairs_get (fun p : List Bool => p ++ [true]) (fun p => p ++ [false]) (lvl k) (val q)
    rw [val_snoc, lvl]
    cases b with
    | true =>
      rw [if_pos rfl, Nat.add_zero, this.1, ih]
      rfl
    | false =>
      rw [if_neg (by decide), this.2, ih]
      rfl
theorem pre_get : ∀ (K : Nat) (p : List Bool), p.length ≤ K → (pre K)[idx p]? = some p
  | 0, p, h => by
    rw [List.length_eq_zero_iff.mp (Nat.le_zero.mp h)]
    rfl
  | K + 1, p, h => by
    have hl := pre_len K
    have hv := val_lt p
    by_cases hp : p.length ≤ K
    · have ih := pre_get K p hp
      rw [pre, List.getElem?_append_left (List.getElem?_eq_some_iff.mp ih).1]
      exact ih
    · have e : p.length = K + 1 := by omega
      have hi : idx p = (pre K).length + val p := by
        unfold idx
        rw [e]
        omega
      rw [pre, hi, List.getElem?_append_right (by omega), Nat.add_sub_cancel_left]
      exact lvl_get (K + 1) p e
section
variable {m : Nat} {ys es : List Int}
theorem mach_get (hm : 1 ≤ m) (p : List Bool) (hp : p.length < m) : (mach m ys es)[idx p]? = some (stOf m (clsF ys es) p (idx p)) := by
  have h := pre_get (m - 1) p (by omega)
  have hl := (List.getElem?_eq_some_iff.mp h).1
  unfold mach
  rw [if_neg (by omega), List.getElem?_append_left (by simpa using hl), List.getElem?_map, List.getElem?_zipIdx, h]
  simp
theorem mach_end (hm : 1 ≤ m) (v : Nat) (hv : v ≠ 0) (hv2 : v ≤ 2) : ∃ t : Nat, (t : Int) = tgt (pre (m - 1)).length v ∧ (mach m ys es)[t]? = some (.fin (if v = 1 then 1 else 0)) := by
  have key : ∀ i x, [Mst.fin 1, .fin 0][i]? = some x → (mach m ys es)[(pre (m - 1)).length + i]? = some x := by
    intro i x h
    unfold mach
    rw [if_neg (by omega), List.getElem?_append_right (by simp)]
    simpa using h
  match v, hv, hv2 with
  | 1, _, _ => exact ⟨_, rfl, key 0 _ rfl⟩
  | 2, _, _ => exact ⟨(pre (m - 1)).length + 1, by simp [tgt], key 1 _ rfl⟩
/-- behind a whole block -/
theorem walk_blk (hm : 1 ≤ m) {w : Wk} : ∀ (n : Nat) (p r : List Bool) (u t : Nat), n + p.length = m → 1 ≤ n → n ≤ r.length → (t : Int) = tgt (pre (m - 1)).length (clsF ys es (p ++ r.take n)) → Walks (mach m ys es) t (u + n) (r.drop n) w → Walks (mach m ys es) (idx p) u r w
  | 0, p, r, u, t, h, h1, _, _, _ => by omega
  | n + 1, p, [], u, t, h, h1, hr, _, _ => by simp at hr
  | n + 1, p, b :: r, u, t, h, h1, hr, ht, hw => by
    have hg := mach_get (ys := ys) (es := es) hm p (by omega)
    by_cases hn : n = 0
    · subst hn
      have e : stOf m (clsF ys es) p (idx p) = .toss (tgt (pre (m - 1)).length (clsF ys es (p ++ [true]))) (tgt (pre (m - 1)).length (clsF ys es (p ++ [false]))) := by
        unfold stOf
        rw [if_neg (by omega)]
      rw [e] at hg
      refine .step (nx := t) hg ?_ hw
      rw [ht]
      cases b <;> rfl
    · have e : stOf m (clsF ys es) p (idx p) = .toss (2 * (idx p : Nat) + 1) (2 * (idx p : Nat) + 2) := by
        unfold stOf
        rw [if_pos (by omega)]
      rw [e] at hg
      refine .step (nx := idx (p ++ [b])) hg ?_ (walk_blk hm n (p ++ [b]) r (u + 1) t (by simp; omega) (by omega) (by simpa using hr) ?_ ?_)
      · rw [idx_snoc]
        cases b <;> simp
      · rw [ht]
        simp
      · have : u + 1 + n = u + (n + 1) := by omega
        rw [this]
        exact hw
/-- within a block the tape ends -/
theorem walk_part (hm : 1 ≤ m) : ∀ (r p : List Bool) (u : Nat), r.length + p.length < m → ∃ a : Nat, Walks (mach m ys es) (idx p) u r (.going a)
  | [], p, u, h => by
    have hg := mach_get (ys := ys) (es := es) hm p (by simpa using h)
    refine ⟨idx p, ?_⟩
    unfold stOf at hg
    split at hg
    · exact .stop hg
    · exact .stop hg
  | b :: r, p, u, h => by
    have hg := mach_get (ys := ys) (es := es) hm p (by simp at h; omega)
    have e : stOf m (clsF ys es) p (idx p) = .toss (2 * (idx p : Nat) + 1) (2 * (idx p : Nat) + 2) := by
      unfold stOf
      rw [if_pos (by simp at h; omega)]
    rw [e] at hg
    obtain ⟨a, ha⟩ := walk_part hm r (p ++ [b]) (u + 1) (by simp at h ⊢; omega)
    refine ⟨a, .step (nx := idx (p ++ [b])) hg ?_ ha⟩
    rw [idx_snoc]
    cases b <;> simp
theorem agree1 (hm : 1 ≤ m) {l : List Bool} {v k : Nat} (hv : v ≤ 2) (h : RR (clsF ys es) m l v k) : ∃ w, Walks (mach m ys es) 0 0 l w ∧ (v = 0 → ∃ a : Nat, w = .going a) ∧ (v ≠ 0 → w = .ended (if v = 1 then 1 else 0) (k * m)) := by
  have i0 : idx [] = 0 := rfl
  -- i blocks that lead back
  have back : ∀ (i : Nat) (w : Wk), i * m ≤ l.length → (∀ j, j < i → clsF ys es (blk m l j) = 0) → Walks (mach m ys es) 0 (i * m) (l.drop (i * m)) w → Walks (mach m ys es) 0 0 l w := by
    intro i
    induction i with
    | zero =>
      intro w _ _ hw
      simpa using hw
    | succ i ih =>
      intro w hl hc hw
      have hmul : (i + 1) * m = i * m + m := Nat.succ_mul i m
      refine ih w (by omega) (fun j hj => hc j (by omega)) ?_
      have := walk_blk (ys := ys) (es := es) hm (w := w) m [] (l.drop (i * m)) (i * m) 0 (by simp) hm (by simp; omega) ?_ ?_
      · rw [i0] at this
        exact this
      · have e : clsF ys es ([] ++ (l.drop (i * m)).take m) = 0 := hc i (by omega)
        rw [e]
        rfl
      · rw [List.drop_drop, ← hmul]
        exact hw
  rcases h with ⟨h0, h1, h2, h3, h4⟩ | ⟨rfl, hle, h2, h3⟩
  · obtain ⟨t, ht, hf⟩ := mach_end (ys := ys) (es := es) hm v h0 hv
    refine ⟨.ended (if v = 1 then 1 else 0) (k * m), ?_, fun z => absurd z h0, fun _ => rfl⟩
    have hk : (k - 1) * m + m = k * m := by
      rw [← Nat.succ_mul]
      congr 1
      omega
    refine back (k - 1) _ (by omega) (fun j hj => h4 j (by omega)) ?_
    have := walk_blk (ys := ys) (es := es) hm (w := .ended (if v = 1 then 1 else 0) (k * m)) m [] (l.drop ((k - 1) * m)) ((k - 1) * m) t (by simp) hm (by simp; omega) ?_ ?_
    · rw [i0] at this
      exact this
    · have e : clsF ys es ([] ++ (l.drop ((k - 1) * m)).take m) = v := h3
      rw [e]
      exact ht
    · rw [hk]
      exact .fin hf
  · have hmul : (k + 1) * m = k * m + m := Nat.succ_mul k m
    obtain ⟨a, ha⟩ := walk_part (ys := ys) (es := es) hm (l.drop (k * m)) [] (k * m) (by simp; omega)
    rw [i0] at ha
    exact ⟨_, back k _ hle h3 ha, fun _ => ⟨a, rfl⟩, fun z => absurd rfl z⟩
end
end G
end
section
namespace G
open PySem Bc
theorem agree0 {ys es : List Int} (h : IsRec 0 ys es) {l : List Bool} {v k : Nat} (hr : RR (clsF ys es) 0 l v k) : v ≠ 0 ∧ Walks (mach 0 ys es) 0 0 l (.ended (if v = 1 then 1 else 0) (k * 0)) := by
  have he := h.zero rfl
  obtain ⟨y, hy⟩ : ∃ y, ys = [y] := by
    have := h.ly
    match ys, this with
    | [y], _ => exact ⟨y, rfl⟩
  subst he hy
  have hb := h.in_ 0 y 1 rfl rfl
  have hm : mach 0 [y] [1] = [.fin y] := rfl
  have hc : clsF [y] [1] [] = if 0 < y then 1 else 2 := by
    unfold clsF
    show (if (0 : Int) < y then 1 else if (0 : Int) < 1 then 2 else 0) = _
    rfl
  have bl : ∀ i, blk 0 l i = [] := fun i => by simp [blk]
  rw [hm]
  rcases hr with ⟨h0, _, _, h3, _⟩ | ⟨_, _, h, _⟩
  · refine ⟨h0, ?_⟩
    rw [bl, hc] at h3
    have e : (if v = 1 then (1 : Int) else 0) = y := by
      by_cases hy : 0 < y
      · rw [if_pos hy] at h3
        rw [if_pos h3.symm]
        omega
      · rw [if_neg hy] at h3
        rw [if_neg (by omega)]
        omega
    rw [e]
    exact .fin rfl
  · simp at h
def q_agree : FSpec := fun ds S Q X => ∃ m ys es l, ds = [recD m ys es, .tup ((mach m ys es).map Mst.d), .str (tp l)] ∧ m ≤ 5 ∧ IsRec m ys es ∧ l.length ≤ 900 ∧ Closed S ∧ Q (.bl true) S
theorem sm_res : ∀ v, v ≤ 2 → (D.str (resN v)).sm = true := fun v hv => by
  match v, hv with
  | 0, _ => decide +kernel
  | 1, _ => decide +kernel
  | 2, _ => decide +kernel
theorem keeps_agree : Keeps n_law_tape_agrees (den_law_tape_agrees q_run q_lrun) q_agree := by
  rintro ds S Q X ⟨m, ys, es, l, rfl, hm, hR, hl, hb, hq⟩
  refine ⟨by simp, ?_⟩
  simp only [den_law_tape_agrees, den_law_tape_agrees_0, den_law_tape_agrees_1, startD, ss_sq, ss_set, sp_call, sp_cons, sp_var, sp_nil]
  refine ⟨_, rfl, _, rfl, m, ys, es, l, rfl, hl, by omega, hR.ly, hR.le, fun h0 => ?_, hb, fun v k hv hk hr => ?_⟩
  · subst h0
    have he := hR.zero rfl
    subst he
    unfold clsF
    show (if (0 : Int) < ys.getD 0 0 then 1 else if (0 : Int) < 1 then 2 else 0) ≠ 0
    split <;> decide
  obtain ⟨w, hw, w0, w1⟩ : ∃ w, Walks (mach m ys es) 0 0 l w ∧ (v = 0 → ∃ a : Nat, w = .going a) ∧ (v ≠ 0 → w = .ended (if v = 1 then 1 else 0) (k * m)) := by
    by_cases h0 : m = 0
    · subst h0
      obtain ⟨g1, g2⟩ := agree0 hR hr
      exact ⟨_, g2, fun z => absurd z g1, fun _ => rfl⟩
    · exact agree1 (by omega) hv hr
  refine ⟨_, rfl, _, rfl, mach m ys es, l, w, rfl, hl, hw, ?_⟩
  simp only [den_law_tape_agrees_2, ss_sq, ss_if, sp_tst, sp_f2, sp_var, sp_c]
  refine ⟨_, rfl, ?_⟩
  rw [ix_tup]
  refine ⟨_, at_0, ?_⟩
  rw [eq_ss]
  refine ⟨sm_res v hv, by decide +kernel, _, rfl, ?_⟩
  by_cases h0 : v = 0
  · subst h0
    obtain ⟨a, rfl⟩ := w0 rfl
    rw [if_pos (by decide)]
    simp only [den_law_tape_agrees_4, ss_ret, sp_f2, sp_var, sp_c]
    refine ⟨_, rfl, ?_⟩
    simp only [Wk.d]
    rw [ix_tup]
    refine ⟨_, at_0, ?_⟩
    rw [eq_ss]
    exact ⟨by decide +kernel, by decide +kernel, ret_same hq⟩
  · have hw2 := w1 h0
    subst hw2
    have hne : (resN v == Str.ofString "going") = false := by
      match v, hv, h0 with
      | 1, _, _ => decide
      | 2, _, _ => decide
    rw [hne, if_neg (by decide), ss_next]
    simp only [den_law_tape_agrees_3, ss_ret, sp_f2, sp_var, sp_c, sp_tup, sp_cons, sp_fN, sp_nil]
    refine ⟨_, rfl, _, rfl, ?_⟩
    rw [ix_tup]
    refine ⟨_, at_0, ?_⟩
    rw [eq_ss]
    refine ⟨sm_res v hv, by decide +kernel, ?_⟩
    rw [int_b]
    refine ⟨_, rfl, ?_⟩
    rw [ix_tup]
    refine ⟨_, at_1, _, rfl, ?_⟩
    simp only [recD]
    rw [ix_tup]
    refine ⟨_, at_0, ?_⟩
    rw [o_mulI]
    refine ⟨mulR (by omega) (by omega), by show 3 ≤ sizeLine; decide, ?_⟩
    have e1 : (if (resN v == Str.ofString "yes") = true then (1 : Int) else 0) = if v = 1 then 1 else 0 := by
      match v, hv, h0 with
      | 1, _, _ => rfl
      | 2, _, _ => rfl
    have e2 : (k : Int) * m = ((k * m : Nat) : Int) := by simp
    rw [e1, e2]
    show opEq false _ _ _ _
    rw [opEq_nr rfl rfl]
    have sm3 : ∀ (x y : Int), (D.tup [.str "ended", .int x, .int y]).sm = true := fun x y => by
      unfold D.sm
      refine shaped_tup ?_ (by simp [pydL, D.pyd, PyData.depthAll, PyData.depth])
      show (PyData.strOk (Str.ofString "ended") && true) = true
      decide +kernel
    refine ⟨sm3 _ _, sm3 _ _, ?_⟩
    have : PyData.eqv (D.tup [.str "ended", .int (if v = 1 then 1 else 0), .int ((k * m : Nat) : Int)]).pyd (D.tup [.str "ended", .int (if v = 1 then 1 else 0), .int ((k * m : Nat) : Int)]).pyd = true := by
      simp [D.pyd, pydL, PyData.eqv, PyData.eqvAll]
    show RetD _ Q (.bl (if false = true then _ else _)) S
    rw [if_neg (by decide)]
    simp only [Wk.d]
    rw [this]
    exact ret_same hq
end G
end
section
namespace G
open PySem Bc
section
variable {m : Nat} {ys es : List Int}
theorem mach_len (hm : m ≤ 5) : 1 ≤ (mach m ys es).length ∧ (mach m ys es).length ≤ 60 := by
  unfold mach
  split
  · exact ⟨Nat.le_refl _, by show 1 ≤ 60; decide⟩
  · have := pre_len (m - 1)
    have := pow_le (show m - 1 + 1 ≤ 5 by omega)
    simp
    omega
theorem idx_lt {p : List Bool} {k : Nat} (h : p.length ≤ k) : idx p < (pre k).length := (List.getElem?_eq_some_iff.mp (pre_get k p h)).1
theorem tgt_ok (N v : Nat) (hv : v ≤ 2) : 0 ≤ tgt N v ∧ tgt N v < N + 2 := by
  match v, hv with
  | 0, _ => simp [tgt]; omega
  | 1, _ => simp [tgt]; omega
  | 2, _ => simp [tgt]; omega
/-- where a prefix stands in the list is its number -/
theorem pre_idx : ∀ (k : Nat) (i : Nat) (p : List Bool), (pre k)[i]? = some p → idx p = i
  | 0, i, p, h => by
    match i, h with
    | 0, h =>
      have : [] = p := by simpa [pre] using h
      rw [← this]
      rfl
  | k + 1, i, p, h => by
    rw [pre] at h
    by_cases hi : i < (pre k).length
    · rw [List.getElem?_append_left hi] at h
      exact pre_idx k i p h
    · rw [List.getElem?_append_right (by omega)] at h
      have hl := pre_len k
      have hp : p.length = k + 1 := lvl_mem (k + 1) p (List.mem_of_getElem? h)
      have key : ∀ (k i : Nat) (p : List Bool), (lvl k)[i]? = some p → val p = i := by
        intro k
        induction k with
        | zero =>
          intro i p h
          match i, h with
          | 0, h =>
            have : [] = p := by simpa [lvl] using h
            rw [← this]
            rfl
        | succ k ih =>
          intro i p h
          have pg := pairs_get (fun p : List Bool => p ++ [true]) (fun p => p ++ [false]) (lvl k) (i / 2)
          rw [lvl] at h
          rcases Nat.mod_two_eq_zero_or_one i with h2 | h2
          · have e : i = 2 * (i / 2) := by omega
            rw [e, pg.1] at h
            cases hx : (lvl k)[i / 2]? with
            | none => rw [hx] at h; cases h
            | some q =>
              rw [hx] at h
              cases h
              rw [val_snoc, ih _ _ hx, if_pos rfl]
              omega
          · have e : i = 2 * (i / 2) + 1 := by omega
            rw [e, pg.2] at h
            cases hx : (lvl k)[i / 2]? with
            | none => rw [hx] at h; cases h
            | some q =>
              rw [hx] at h
              cases h
              rw [val_snoc, ih _ _ hx, if_neg (by decide)]
              omega
      have := key (k + 1) _ p h
      unfold idx
      rw [this, hp]
      omega
theorem mach_ok (hm : m ≤ 5) (hR : IsRec m ys es) : ∀ st ∈ mach m ys es, StOk (mach m ys es).length st := by
  by_cases h0 : m = 0
  · subst h0
    intro st hst
    have he := hR.zero rfl
    have hl := hR.ly
    match ys, hl with
    | [y], _ =>
      subst he
      have hb := hR.in_ 0 y 1 rfl rfl
      have e : mach 0 [y] [1] = [.fin y] := rfl
      rw [e] at hst
      rw [List.mem_singleton.mp hst]
      exact ⟨hb.1, by omega⟩
  · intro st hst
    have hl : (mach m ys es).length = (pre (m - 1)).length + 2 := by
      unfold mach
      rw [if_neg h0]
      simp
    rw [hl]
    unfold mach at hst
    rw [if_neg h0, List.mem_append] at hst
    rcases hst with hst | hst
    · obtain ⟨⟨p, i⟩, hp, rfl⟩ := List.mem_map.mp hst
      obtain ⟨j, hj⟩ := List.getElem?_of_mem hp
      rw [List.getElem?_zipIdx] at hj
      cases hx : (pre (m - 1))[j]? with
      | none => rw [hx] at hj; cases hj
      | some q =>
        rw [hx] at hj
        obtain ⟨rfl, rfl⟩ : q = p ∧ 0 + j = i := by simpa using hj
        have hi := pre_idx _ _ _ hx
        simp only [Nat.zero_add]
        unfold stOf
        split
        · rename_i hlt
          have g1 := idx_lt (p := q ++ [true]) (k := m - 1) (by simp; omega)
          have g2 := idx_lt (p := q ++ [false]) (k := m - 1) (by simp; omega)
          rw [idx_snoc, hi] at g1 g2
          simp at g1 g2
          refine ⟨⟨by omega, ?_⟩, by omega, ?_⟩
          · show (2 * (j : Int) + 1) < (((pre (m - 1)).length + 2 : Nat) : Int)
            omega
          · show (2 * (j : Int) + 2) < (((pre (m - 1)).length + 2 : Nat) : Int)
            omega
        · have t1 := tgt_ok (pre (m - 1)).length _ (clsF_le ys es (q ++ [true]))
          have t2 := tgt_ok (pre (m - 1)).length _ (clsF_le ys es (q ++ [false]))
          refine ⟨⟨t1.1, ?_⟩, t2.1, ?_⟩
          · have := t1.2
            omega
          · have := t2.2
            omega
    · simp at hst
      rcases hst with rfl | rfl
      · exact ⟨by decide, by decide⟩
      · exact ⟨by decide, by decide⟩
end
theorem msts_nr : ∀ l : List Mst, nrL (l.map Mst.d) = true
  | [] => rfl
  | x :: l => by cases x <;> simp [nrL, Mst.d, D.nr, msts_nr l]
theorem msts_lay : ∀ l : List Mst, PyData.canLayAll0 (pydL (l.map Mst.d)) = true ∧ PyData.depthAll (pydL (l.map Mst.d)) ≤ 1
  | [] => ⟨rfl, by decide⟩
  | x :: l => by
    obtain ⟨h1, h2⟩ := msts_lay l
    have o1 : PyData.strOk (Str.ofString "toss") = true := by decide +kernel
    have o2 : PyData.strOk (Str.ofString "end") = true := by decide +kernel
    cases x <;> simp [pydL, Mst.d, D.pyd, PyData.canLayAll0, PyData.canLay0, PyData.depthAll, PyData.depth, h1, h2, o1, o2]
theorem msts_eq : ∀ l : List Mst, PyData.eqvAll (pydL (l.map Mst.d)) (pydL (l.map Mst.d)) = true
  | [] => rfl
  | x :: l => by
    have := msts_eq l
    cases x <;> simp [pydL, Mst.d, D.pyd, PyData.eqvAll, PyData.eqv, this]
def isToss : D → Option D := fun d => match d with
  | .tup (.str z :: r) => if z = Str.ofString "toss" then some (.tup (.str z :: r)) else none
  | _ => none
theorem toss_some (a b : Int) : isToss (Mst.toss a b).d = some (Mst.toss a b).d := by
  show (if Str.ofString "toss" = Str.ofString "toss" then some _ else none) = _
  rw [if_pos rfl]
  rfl
theorem toss_none (v : Int) : isToss (Mst.fin v).d = none := by
  show (if Str.ofString "end" = Str.ofString "toss" then some (D.tup [.str "end", .int v]) else none) = none
  rw [if_neg (by decide +kernel)]
theorem toss_count {m : Nat} {ys es : List Int} (hm : m ≤ 5) : (((mach m ys es).map Mst.d).filterMap isToss).length + 1 ≤ 2 ^ m := by
  by_cases h0 : m = 0
  · subst h0
    unfold mach
    rw [if_pos rfl]
    simp [toss_none]
  · have hl := pre_len (m - 1)
    have e : m - 1 + 1 = m := by omega
    rw [e] at hl
    unfold mach
    rw [if_neg h0, List.map_append, List.filterMap_append]
    have h2 : ([Mst.fin 1, Mst.fin 0].map Mst.d).filterMap isToss = [] := by simp [toss_none]
    rw [h2, List.append_nil]
    have := List.length_filterMap_le isToss (((pre (m - 1)).zipIdx.map fun p => stOf m (clsF ys es) p.1 p.2).map Mst.d)
    simp only [List.length_map, List.length_zipIdx] at this
    omega
end G
end
section
namespace G
open PySem Bc
/-- the law's promise -/
def q_law : FSpec := fun ds S Q _ => ∃ (d : D) (ns : List Int), ds = [d] ∧ ns.length ≤ 63 ∧ ((∃ n, d = .ref n ∧ lstOf S n (ns.map D.int)) ∨ d = .lit (ns.map D.int)) ∧ (∀ e ∈ S, Cell.bel S.length e = true) ∧ ∀ S', Q (.bl true) S'
theorem Moved.pen {S S' : Sto} {n mm : Nat} {cs : List Int} {a c : Int} {j : Nat} (P : Pen S n mm cs a c) (h : Moved S n mm S' a j) : ∃ a' c', Pen S' n mm cs a' c' ∧ a' ≤ a + j ∧ a ≤ a' := by
  obtain ⟨a', c', rfl, h1, h2⟩ := h
  exact ⟨a', c', P.set (by have := P.lo; omega), h2, h1⟩
theorem ne_nr {x y : D} {S : Sto} {Q : Kv} (hx : x.nr = true) (hy : y.nr = true) : opCmp .NotEq x y S Q ↔ x.sm = true ∧ y.sm = true ∧ Q (.bl (!PyData.eqv x.pyd y.pyd)) S := by
  show opEq true x y S Q ↔ _
  rw [opEq_nr hx hy]
  simp
theorem belL_toss (n : Nat) : ∀ l : List Mst, belL n ((l.map Mst.d).filterMap isToss) = true
  | [] => rfl
  | .toss a b :: l => by
    rw [List.map_cons, List.filterMap_cons, toss_some]
    show ((Mst.d (.toss a b)).bel n && belL n ((l.map Mst.d).filterMap isToss)) = true
    rw [bel_mst, belL_toss n l]
    rfl
  | .fin v :: l => by
    rw [List.map_cons, List.filterMap_cons, toss_none]
    exact belL_toss n l
theorem sDs_app (a b : List (List Bool)) : sDs a ++ sDs b = sDs (a ++ b) := by simp [sDs]
theorem tab_get : ∀ {m : Nat}, m ≤ 5 → ∃ x : Int, L2.atI [D.int 0, .int 1, .int 3, .int 7, .int 15, .int 31] (m : Int) = some (.int x) ∧ x + 1 = 2 ^ m
  | 0, _ => ⟨0, rfl, rfl⟩
  | 1, _ => ⟨1, rfl, rfl⟩
  | 2, _ => ⟨3, rfl, rfl⟩
  | 3, _ => ⟨7, rfl, rfl⟩
  | 4, _ => ⟨15, rfl, rfl⟩
  | 5, _ => ⟨31, rfl, rfl⟩
  | _ + 6, h => by omega
theorem law_tail {S2 : Sto} {n mm m : Nat} {ns ys es : List Int} {a1 c1 : Int} {d e : D} {v5 v6 v7 : Option D} {N : Bc.Env → Sto → Prop} {rt : D → Sto → Prop} {bk ct : Bc.Env → Sto → Prop} {XE : Bc.Env → Xk} (P2 : Pen S2 n mm ns a1 c1) (ha1 : a1 < 2 ^ 50) (bb2 : Closed S2) (h5 : m ≤ 5) (hR : IsRec m ys es)
    (hN : ∀ S' a c v6, Pen S' n mm ns a c → a ≤ a1 + 600 → Closed S' → N [some d, some (.ref n), some e, some (recD m ys es), some (.tup ((mach m ys es).map Mst.d)), v5, v6, v7] S') :
    denlaw_8 q_pen q_recipe q_comp q_merr q_mach q_tapes q_draw q_tape q_agree [some d, some (.ref n), some e, some (recD m ys es), some (.tup ((mach m ys es).map Mst.d)), v5, v6, v7] S2 ⟨N, rt, bk, ct⟩ XE := by
  have hlo := P2.lo
  simp only [denlaw_8, ss_for, si_seq, sp_f2, sp_call, sp_cons, sp_var, sp_c, sp_nil, sp_lc, si_r1]
  refine ⟨_, rfl, ?_⟩
  show opIx (.tup [.int m, .tup (ys.map D.int), .tup (es.map D.int)]) (.int 0) _ _
  rw [ix_tup]
  refine ⟨_, at_0, m, rfl, by omega, bb2, fun ls hls hlen => ?_⟩
  refine ⟨6, rfl, ⟨by decide, by decide⟩, ?_⟩
  have P3 := P2.more [.lst (sDs ls)]
  have bb3 : Closed (S2 ++ [.lst (sDs ls)]) := bb2.app fun e he => by
    rw [List.mem_singleton.mp he]
    exact belL_strs _ _
  have g3 : (S2 ++ [Cell.lst (sDs ls)])[S2.length]? = some (.lst (sDs ls)) := get_last rfl
  have hne : n ≠ S2.length := fun z => by
    have := P2.n_lt
    omega
  generalize hS3 : S2 ++ [Cell.lst (sDs ls)] = S3 at P3 bb3 g3 ⊢
  have g2l : S2.length < S3.length := by rw [← hS3]; simp
  refine comp_inv (fun i S' => ∃ (S4 : Sto) (a4 c4 : Int) (tl : List (List Bool)), S' = S4 ++ [.lst (sDs tl)] ∧ Pen S4 (n) (mm) ns a4 c4 ∧ Closed S4 ∧ S4.length = S3.length ∧ S4[S2.length]? = some (.lst (sDs ls)) ∧ tl.length = i ∧ (∀ t ∈ tl, t.length ≤ 40) ∧ a4 ≤ a1 + 100 * i) (rngD 0 1 (6 : Int).toNat) 0 ⟨S3, a1, c1, [], rfl, P3, bb3, rfl, g3, rfl, by simp, by simp⟩ (fun _ _ _ => trivial) ?_ ?_
  · rintro i x _ hi ⟨S4, a4, c4, tl, rfl, P4, b4, l4, g4, k1, k2, k3⟩ N2 hN2
    rw [Nat.zero_add] at k1 k3 hN2
    have hi6 : i < 6 := (rngD_get hi).1
    simp only [gn, sp_yes, if_true, sp_call, sp_cons, sp_var, sp_c, sp_nil]
    refine ⟨_, rfl, _, rfl, draw_in P4 b4 (Moved.refl P4) (by omega) (belL_strs _ _) (by decide) (by decide) fun y S5 y1 y2 hM5 => ?_⟩
    obtain ⟨a5, c5, P5, ha5, _⟩ := hM5.pen P4
    have b5 := hM5.closed P4 b4
    have l5 := hM5.len
    have g5 : S5[S2.length]? = some (.lst (sDs ls)) := by
      obtain ⟨_, _, rfl, _⟩ := hM5
      rw [List.getElem?_set_ne hne]
      exact g4
    refine ⟨n, mm, ns, a5, c5, y.toNat, by rw [Int.toNat_of_nonneg y1], by omega, P5.more _, by omega, b5.app fun e he => ?_, fun t S' ht hM6 => ?_⟩
    · rw [List.mem_singleton.mp he]
      exact belL_strs _ _
    obtain ⟨S6, rfl, hM7⟩ := hM6.split P5.n_lt
    obtain ⟨a6, c6, P6, ha6, _⟩ := hM7.pen P5
    have b6 := hM7.closed P5 b5
    have l6 := hM7.len
    have g6 : S6[S2.length]? = some (.lst (sDs ls)) := by
      obtain ⟨_, _, rfl, _⟩ := hM7
      rw [List.getElem?_set_ne hne]
      exact g5
    have e63 : S6.length = S3.length := by omega
    refine ⟨sDs tl, by rw [← e63]; exact get_last rfl, Nat.lt_of_le_of_lt (show _ ≤ 6 by simp [sDs]; omega) (by decide), hN2 _ ⟨S6, a6, c6, tl ++ [t], ?_, P6, b6, e63, g6, by simp [k1], fun z hz => ?_, by omega⟩⟩
    · rw [← e63]
      simp [sDs]
    · rcases List.mem_append.mp hz with hz | hz
      · exact k2 z hz
      · rw [List.mem_singleton.mp hz, ht]
        omega
  · rintro _ ⟨S4, a4, c4, tl, rfl, P4, b4, l4, g4, k1, k2, k3⟩
    have k1' : tl.length = 6 := by simpa [rngD] using k1
    have k3' : a4 ≤ a1 + 600 := by
      have : (0 + (rngD 0 1 (6 : Int).toNat).length) = 6 := by simp [rngD]
      rw [this] at k3
      omega
    rw [o_addL]
    refine ⟨sDs ls, sDs tl, get_app _ g4, by rw [← l4]; exact get_last rfl, ?_, ?_⟩
    · have := pow_le h5
      refine small ?_
      simp [sDs]
      omega
    rw [sDs_app]
    refine ⟨sDs (ls ++ tl), .inl (get_last rfl), ?_⟩
    generalize hS7 : S4 ++ [Cell.lst (sDs tl)] ++ [Cell.lst (sDs (ls ++ tl))] = S7
    have P7 : Pen S7 (n) (mm) ns a4 c4 := by
      rw [← hS7]
      exact (P4.more _).more _
    have b7 : Closed S7 := by
      rw [← hS7]
      refine (b4.app fun e he => ?_).app fun e he => ?_
      · rw [List.mem_singleton.mp he]
        exact belL_strs _ _
      · rw [List.mem_singleton.mp he]
        exact belL_strs _ _
    have g7 : S7[(S4 ++ [Cell.lst (sDs tl)]).length]? = some (.lst (sDs (ls ++ tl))) := by
      rw [← hS7]
      exact get_last rfl
    refine loop_inv (fun i ρ S' => S' = S7 ∧ ∃ v6, ρ = [some d, some (.ref (n)), some e, some (recD m ys es), some (.tup ((mach m ys es).map Mst.d)), v5, v6, v7]) (sDs (ls ++ tl)) 0 ⟨rfl, v6, rfl⟩ (fun _ _ _ _ h => by rw [h.1]; exact .inl g7) ?_ ?_
    · rintro i x ρ _ hx ⟨rfl, v6, rfl⟩ N2 hN2
      obtain ⟨t, ht, rfl⟩ := List.mem_map.mp (List.mem_of_getElem? hx)
      have htl : t.length ≤ 40 := by
        rcases List.mem_append.mp ht with h | h
        · have := hls t h
          omega
        · exact k2 t h
      simp only [gn, denlaw_14, ss_if, sp_not, sp_tru, sp_call, sp_cons, sp_var, sp_nil]
      refine ⟨_, rfl, _, rfl, _, rfl, m, ys, es, t, rfl, h5, hR, by omega, b7, ?_⟩
      show tru _ (.bl true) _
      rw [tr_bl, if_neg (by decide), ss_next]
      exact hN2 _ _ ⟨rfl, _, rfl⟩
    · rintro ρ _ ⟨rfl, v6, rfl⟩
      exact hN _ a4 c4 _ P7 (by omega) b7
theorem keeps_law : Keeps nlaw (denlaw q_pen q_recipe q_comp q_merr q_mach q_tapes q_draw q_tape q_agree) q_law := by
  rintro ds S Q X ⟨d, ns, rfl, hns, hd, hb, hq⟩
  refine ⟨by simp, ?_⟩
  simp only [denlaw, denlaw_0, startD, ss_sq, ss_set, sp_call, sp_cons, sp_var, sp_nil]
  refine ⟨d, rfl, d, ns, rfl, hns, hd, ?_⟩
  simp only [denlaw_1, ss_sq, ss_for, si_r1, sp_cons, sp_c, sp_nil]
  refine ⟨3, rfl, ⟨by decide, by decide⟩, ?_⟩
  have P0 : Pen (S ++ [.lst (ns.map D.int), .lst (ns.map D.int), .lst [.ref (S.length + 1), .int 0, .int 0]]) (S.length + 2) (S.length + 1) ns 0 0 :=
    ⟨by rw [List.getElem?_append_right (by omega)]; simp, by rw [List.getElem?_append_right (by omega)]; simp, by omega, by decide, hns⟩
  have b0 : Closed (S ++ [.lst (ns.map D.int), .lst (ns.map D.int), .lst [.ref (S.length + 1), .int 0, .int 0]]) := Closed.app hb fun e he => by
    simp at he
    rcases he with rfl | rfl
    · exact belL_int ns
    · simp [Cell.bel, belL, D.bel]
  refine loop_inv (fun j ρ S' => ∃ (a c : Int) (v2 v3 v4 v5 v6 v7 : Option D), Pen S' (S.length + 2) (S.length + 1) ns a c ∧ a ≤ 1000 * j ∧ Closed S' ∧ ρ = [some d, some (.ref (S.length + 2)), v2, v3, v4, v5, v6, v7]) (rngD 0 1 (3 : Int).toNat) 0 ⟨0, 0, none, none, none, none, none, none, P0, by simp, b0, rfl⟩ (fun _ _ _ _ _ => trivial) ?_ ?_
  · rintro j e ρ S' hj ⟨a, c, v2, v3, v4, v5, v6, v7, P, ha, b1, rfl⟩ N hN
    rw [Nat.zero_add] at ha hN
    have hj3 : j < 3 := (rngD_get hj).1
    have lo := P.lo
    simp only [gn, denlaw_3, ss_sq, ss_set, sp_call, sp_cons, sp_var, sp_c, sp_nil]
    refine ⟨_, rfl, S.length + 2, S.length + 1, ns, a, c, rfl, P, by omega, b1, fun m ys es S1 hm hR hM => ?_⟩
    obtain ⟨a1, c1, P1, ha1, _⟩ := hM.pen P
    have bb1 := hM.closed P b1
    simp only [denlaw_4, ss_sq, ss_set, sp_call, sp_cons, sp_var, sp_nil]
    refine ⟨_, rfl, m, ys, es, rfl, hm, hR.ly, hR.le, bb1, fun h5 => ?_, fun h5 => ?_⟩
    rotate_left
    · -- more than five tosses
      simp only [denlaw_5, ss_sq, ss_if, sp_tst, sp_f2, sp_var, sp_c]
      refine ⟨_, rfl, ?_⟩
      simp only [recD]
      rw [ix_tup]
      refine ⟨_, at_0, ?_⟩
      rw [o_gt]
      refine ⟨_, rfl, ?_⟩
      rw [if_pos (decide_eq_true (by omega))]
      simp only [denlaw_9, denlaw_10, ss_sq, ss_if, sp_or, sp_tst, sp_tru, sp_f1, sp_f2, sp_var, sp_c]
      refine ⟨_, rfl, ?_⟩
      rw [ne_ii]
      refine ⟨_, rfl, ?_⟩
      rw [if_neg (by decide)]
      refine ⟨_, rfl, ?_⟩
      rw [isi_i, tr_bl, if_neg (by decide), ss_next]
      exact hN _ _ ⟨a1, c1, _, _, _, _, _, _, P1, by omega, bb1, rfl⟩
    · simp only [denlaw_5, ss_sq, ss_if, sp_tst, sp_f2, sp_var, sp_c]
      refine ⟨_, rfl, ?_⟩
      simp only [recD]
      rw [ix_tup]
      refine ⟨_, at_0, ?_⟩
      rw [o_gt]
      refine ⟨_, rfl, ?_⟩
      rw [if_neg (fun h => by have := of_decide_eq_true h; omega), ss_next]
      simp only [denlaw_6, ss_sq, ss_if, sp_or, sp_tst, sp_f2, sp_call, sp_cons, sp_var, sp_c, sp_nil]
      have ml := mach_len (ys := ys) (es := es) h5
      refine ⟨_, rfl, mach m ys es, rfl, ml.1, ml.2, mach_ok h5 hR, bb1, ?_⟩
      show opCmp .IsNot .non .non _ _
      rw [o_isnot]
      refine ⟨_, rfl, ?_⟩
      rw [if_neg (by decide)]
      refine ⟨_, rfl, m, ys, es, rfl, hm, hR.ly, hR.le, bb1, fun _ => ?_, fun h => by omega⟩
      refine ⟨_, rfl, ?_⟩
      have hnr : (D.tup ((mach m ys es).map Mst.d)).nr = true := msts_nr _
      rw [ne_nr hnr hnr]
      obtain ⟨l1, l2⟩ := msts_lay (mach m ys es)
      have hsm : (D.tup ((mach m ys es).map Mst.d)).sm = true := shaped_tup l1 (by omega)
      refine ⟨hsm, hsm, ?_⟩
      have heq : PyData.eqv (D.tup ((mach m ys es).map Mst.d)).pyd (D.tup ((mach m ys es).map Mst.d)).pyd = true := by
        show PyData.eqv (.tuple _) (.tuple _) = true
        simp only [PyData.eqv]
        exact msts_eq _
      rw [heq]
      refine ⟨_, rfl, ?_⟩
      rw [if_neg (by decide), ss_next]
      -- the number of toss states
      simp only [denlaw_7, ss_sq, ss_if, sp_tst, sp_f2, sp_fN, sp_cons, sp_lc, si_seq, sp_var, sp_c, sp_nil, sp_lst]
      refine ⟨_, rfl, _, rfl, ?_⟩
      have hl1 : ((mach m ys es).map Mst.d).length ≤ 60 := by simpa using ml.2
      refine comp_map S1 isToss _ [] (fun acc => rfl) (Nat.lt_of_le_of_lt (show _ ≤ 60 by simpa using hl1) (by decide)) ?_ ?_
      · intro x hx acc C hacc k1 k2
        obtain ⟨st, _, rfl⟩ := List.mem_map.mp hx
        cases st with
        | toss p q =>
          simp only [gn, sp_tst, sp_f2, sp_var, sp_c, Mst.d]
          refine ⟨_, rfl, ?_⟩
          rw [ix_tup]
          refine ⟨_, at_0, ?_⟩
          rw [eq_ss]
          refine ⟨sm_toss, sm_toss, _, rfl, ?_⟩
          rw [if_pos (by decide)]
          exact ⟨_, rfl, put_acc hacc (k1 _ (toss_some p q))⟩
        | fin v =>
          simp only [gn, sp_tst, sp_f2, sp_var, sp_c, Mst.d]
          refine ⟨_, rfl, ?_⟩
          rw [ix_tup]
          refine ⟨_, at_0, ?_⟩
          rw [eq_ss]
          refine ⟨sm_end, sm_toss, _, rfl, ?_⟩
          rw [if_neg (by decide)]
          exact k2 (toss_none v)
      rw [len_ref (get_last rfl)]
      have htc := toss_count (ys := ys) (es := es) h5
      refine ⟨by decide, _, rfl, ?_⟩
      rw [ix_tup]
      refine ⟨_, at_0, ?_⟩
      rw [ix_ref (get_last rfl)]
      obtain ⟨x, hx1, hx2⟩ := tab_get h5
      refine ⟨_, hx1, ?_⟩
      rw [o_gt]
      refine ⟨_, rfl, ?_⟩
      have hcmp : ¬ (x < ((([] ++ ((mach m ys es).map Mst.d).filterMap isToss).length : Nat) : Int)) := by
        have h3 : (((2 : Nat) ^ m : Nat) : Int) = (2 : Int) ^ m := by simp
        rw [List.nil_append]
        omega
      rw [if_neg (fun h => hcmp (of_decide_eq_true h)), ss_next]
      generalize hS2 : S1 ++ [Cell.lst ([] ++ ((mach m ys es).map Mst.d).filterMap isToss)] ++ [Cell.lst [D.int 0, .int 1, .int 3, .int 7, .int 15, .int 31]] = S2
      have P2 : Pen S2 (S.length + 2) (S.length + 1) ns a1 c1 := by
        rw [← hS2]
        exact (P1.more _).more _
      have bb2 : Closed S2 := by
        rw [← hS2]
        refine (bb1.app fun e he => ?_).app fun e he => ?_
        · rw [List.mem_singleton.mp he]
          exact belL_toss _ _
        · rw [List.mem_singleton.mp he]
          rfl
      refine law_tail P2 (by omega) bb2 h5 hR fun S' a c v6 P' ha' b' => ?_
      exact hN _ _ ⟨a, c, _, _, _, _, _, _, P', by omega, b', rfl⟩
  · rintro ρ S' _
    simp only [denlaw_2, ss_ret, sp_c]
    exact ret_same (hq _)
end G
end
section
namespace G
open PySem PySem.Spec PyProof.Rows L2 Bc BcO BcZ
theorem bel_ints : ∀ (ns : List Int) (n : Nat), belL n (ns.map D.int) = true
  | [], _ => rfl
  | _ :: ns, n => by simp [belL, D.bel, bel_ints ns n]
theorem q_law_of {ns : List Int} {d : D} {S : Sto} {X : Xk} (hl : ns.length ≤ 63) (h : (∃ n, d = .ref n ∧ lstOf S n (ns.map D.int)) ∨ d = .lit (ns.map D.int)) (hb : ∀ e ∈ S, Cell.bel S.length e = true) : q_law [d] S (fun d _ => d = .bl true) X := ⟨d, ns, rfl, hl, h, hb, fun _ => rfl⟩
section
variable {P : Program} {w : World} {K : PySem.W.Frag} {mg : Str → Option Value} {base : Heap} {C1 C2 : Addr}
theorem fn_law (B : Bt K mg w C1 C2) (hm : PySem.W.exmOne K (.ref C1) (.ref C1) = some true) (k1 : PySem.W.kitOne K (.ref C1) (.type "OverflowError") = some true) (k2 : PySem.W.kitOne K (.ref C1) (.ref C2) = some false) {f : Addr} {fd : FuncData} (F : Fun K "law" "law" (topS 30) f fd) :
    FnOk P w K mg base (L2.CX P w) 7 f fd ["script"] (spI K (tabX C1 C2) q_law) := by
  have d1 := def_mk (P := P) (w := w) (base := base) (T := tabX C1 C2) B.a_raise_degree scraise_degree _ (fun ds S Q X h => by obtain ⟨_, rfl, _⟩ := h; rfl) keeps_raise (bdraise_degree B)
  have d2 := def_mk (P := P) (w := w) (base := base) (T := tabX C1 C2) B.a_binomial_row scbinomial_row _ (fun ds S Q X h => by obtain ⟨_, rfl, _⟩ := h; rfl) keeps_row (bdbinomial_row B d1)
  have d3 := def_mk (P := P) (w := w) (base := base) (T := tabX C1 C2) B.a_rank_in_row scrank_in_row _ (fun ds S Q X h => by obtain ⟨_, rfl, _⟩ := h; rfl) keeps_rank (bdrank_in_row B d2)
  have d4 := def_mk (P := P) (w := w) (base := base) (T := tabX C1 C2) B.a_classify_round scclassify_round _ (fun ds S Q X h => by obtain ⟨_, _, _, _, rfl, _⟩ := h; rfl) keeps_class (bdclassify_round B d3)
  have d5 := def_mk (P := P) (w := w) (base := base) (T := tabX C1 C2) B.a_run_recipe scrun_recipe _ (fun ds S Q X h => by obtain ⟨_, _, _, _, rfl, _⟩ := h; rfl) keeps_run (bdrun_recipe B d4)
  have d6 := def_mk (P := P) (w := w) (base := base) (T := tabX C1 C2) B.a_machine_from_recipe scmachine_from_recipe _ (fun ds S Q X h => by obtain ⟨_, _, _, rfl, _⟩ := h; rfl) keeps_mach (bdmachine_from_recipe B d4)
  have k6 := def_mkK (P := P) (w := w) (base := base) (T := tabX C1 C2) B.ak_machine_from_recipe scmachine_from_recipe _ (fun ds S Q X h => by obtain ⟨_, _, _, rfl, _⟩ := h; rfl) keeps_mach (bdmachine_from_recipe B d4)
  have d7 := def_mk (P := P) (w := w) (base := base) (T := tabX C1 C2) B.a_is_integer scis_integer _ (fun ds S Q X h => by obtain ⟨_, rfl, _⟩ := h; rfl) keeps_isint (bdis_integer B)
  have d8 := def_mk (P := P) (w := w) (base := base) (T := tabX C1 C2) B.a_state_error scstate_error _ (fun ds S Q X h => by obtain ⟨_, _, rfl, _⟩ := h; rfl) keeps_sterr (bdstate_error B d7)
  have d9 := def_mk (P := P) (w := w) (base := base) (T := tabX C1 C2) B.a_machine_error scmachine_error _ (fun ds S Q X h => by obtain ⟨_, rfl, _⟩ := h; rfl) keeps_merr (bdmachine_error B d8)
  have e1 := def_mk (P := P) (w := w) (base := base) (T := tabX C1 C2) B.a__law_pen sc_law_pen _ (fun ds S Q X h => by obtain ⟨_, _, rfl, _⟩ := h; rfl) keeps_pen (bd_law_pen B)
  have e2 := def_mk (P := P) (w := w) (base := base) (T := tabX C1 C2) B.a__law_fresh sc_law_fresh _ (fun ds S Q X h => by obtain ⟨_, _, _, _, _, rfl, _⟩ := h; rfl) keeps_fresh (bd_law_fresh B)
  have e3 := def_mk (P := P) (w := w) (base := base) (T := tabX C1 C2) B.a__law_draw sc_law_draw _ (fun ds S Q X h => by obtain ⟨_, _, _, _, _, _, rfl, _⟩ := h; rfl) keeps_draw (bd_law_draw B e2)
  have e4 := def_mk (P := P) (w := w) (base := base) (T := tabX C1 C2) B.a__law_run sc_law_run _ (fun ds S Q X h => by obtain ⟨_, _, _, rfl, _⟩ := h; rfl) keeps_lrun (bd_law_run B)
  have e5 := def_mk (P := P) (w := w) (base := base) (T := tabX C1 C2) B.a__law_tape sc_law_tape _ (fun ds S Q X h => by obtain ⟨_, _, _, _, _, _, rfl, _⟩ := h; rfl) keeps_tape (bd_law_tape B e3)
  have e6 := def_mk (P := P) (w := w) (base := base) (T := tabX C1 C2) B.a__law_tapes sc_law_tapes _ (fun ds S Q X h => by obtain ⟨_, rfl, _⟩ := h; rfl) keeps_tapes (bd_law_tapes B)
  have e7 := def_mk (P := P) (w := w) (base := base) (T := tabX C1 C2) B.a__law_binomials sc_law_binomials _ (fun ds S Q X h => by obtain ⟨_, rfl, _⟩ := h; rfl) keeps_binomials (bd_law_binomials B)
  have e8 := def_mk (P := P) (w := w) (base := base) (T := tabX C1 C2) B.a__law_recipe sc_law_recipe _ (fun ds S Q X h => by obtain ⟨_, _, _, _, _, rfl, _⟩ := h; rfl) keeps_recipe (bd_law_recipe B e3 e7)
  have e9 := def_mk (P := P) (w := w) (base := base) (T := tabX C1 C2) B.a__law_compiled sc_law_compiled _ (fun ds S Q X h => by obtain ⟨_, _, _, rfl, _⟩ := h; rfl) (keeps_comp hm B.xi_LimitExceeded k1 k2) (bd_law_compiled B d6)
  have f1 := def_mk (P := P) (w := w) (base := base) (T := tabX C1 C2) B.a__law_tape_agrees sc_law_tape_agrees _ (fun ds S Q X h => by obtain ⟨_, _, _, _, rfl, _⟩ := h; rfl) keeps_agree (bd_law_tape_agrees B d5 e4)
  exact fn_ok F sclaw _ (fun ds S Q X h => by obtain ⟨_, _, rfl, _⟩ := h; rfl) keeps_law (bdlaw B e1 e8 e9 d9 e6 e3 e5 f1 k6 f)
end
end G
end
namespace G
open PySem PySem.Spec PyProof.Rows L2 Bc BcO BcZ
theorem law_sp {K : PySem.W.Frag} {T : XTab} {vs : List V} {H : Hp} {Q : VK} {E : XK} (h : spI K [] q_law vs H Q E) : spI K T q_law vs H Q E := by
  obtain ⟨α, S, ds, Q', X', st, r, hq, kv, kx⟩ := h
  obtain ⟨d, ns, hq⟩ := hq
  exact ⟨α, S, ds, Q', noX, st, r, ⟨d, ns, hq⟩, kv, fun _ _ _ _ _ _ _ _ _ z => z.elim⟩
theorem all_mk {w : World} {K : PySem.W.Frag} {h : Heap} {mg : Str → Option Value} {fa : Addr} {C_LimitExceeded C_StepLimitExceeded D_WIDTHS f_iLimitExceeded f_iStepLimitExceeded f_raise_degree f_binomial_row f_rank_in_row f_classify_round f_run_recipe f_machine_from_recipe f_is_integer f_state_error f_machine_error f__law_pen f__law_fresh f__law_draw f__law_run f__law_tape f__law_tapes f__law_binomials f__law_recipe f__law_compiled f__law_tape_agrees f_law : Addr} {od_iLimitExceeded an_iLimitExceeded : Option Addr} {sl_iLimitExceeded : Array (Option Value)} {oc_iLimitExceeded kV_iLimitExceeded dc_iLimitExceeded pm_iLimitExceeded cd_iLimitExceeded ct_iLimitExceeded : Value} {od_iStepLimitExceeded an_iStepLimitExceeded : Option Addr} {sl_iStepLimitExceeded : Array (Option Value)} {oc_iStepLimitExceeded kV_iStepLimitExceeded dc_iStepLimitExceeded pm_iStepLimitExceeded cd_iStepLimitExceeded ct_iStepLimitExceeded : Value} {od_raise_degree an_raise_degree : Option Addr} {sl_raise_degree : Array (Option Value)} {oc_raise_degree kV_raise_degree dc_raise_degree pm_raise_degree cd_raise_degree ct_raise_degree : Value} {od_binomial_row an_binomial_row : Option Addr} {sl_binomial_row : Array (Option Value)} {oc_binomial_row kV_binomial_row dc_binomial_row pm_binomial_row cd_binomial_row ct_binomial_row : Value} {od_rank_in_row an_rank_in_row : Option Addr} {sl_rank_in_row : Array (Option Value)} {oc_rank_in_row kV_rank_in_row dc_rank_in_row pm_rank_in_row cd_rank_in_row ct_rank_in_row : Value} {od_classify_round an_classify_round : Option Addr} {sl_classify_round : Array (Option Value)} {oc_classify_round kV_classify_round dc_classify_round pm_classify_round cd_classify_round ct_classify_round : Value} {od_run_recipe an_run_recipe : Option Addr} {sl_run_recipe : Array (Option Value)} {oc_run_recipe kV_run_recipe dc_run_recipe pm_run_recipe cd_run_recipe ct_run_recipe : Value} {od_machine_from_recipe an_machine_from_recipe : Option Addr} {sl_machine_from_recipe : Array (Option Value)} {oc_machine_from_recipe kV_machine_from_recipe dc_machine_from_recipe pm_machine_from_recipe cd_machine_from_recipe ct_machine_from_recipe : Value} {od_is_integer an_is_integer : Option Addr} {sl_is_integer : Array (Option Value)} {oc_is_integer kV_is_integer dc_is_integer pm_is_integer cd_is_integer ct_is_integer : Value} {od_state_error an_state_error : Option Addr} {sl_state_error : Array (Option Value)} {oc_state_error kV_state_error dc_state_error pm_state_error cd_state_error ct_state_error : Value} {od_machine_error an_machine_error : Option Addr} {sl_machine_error : Array (Option Value)} {oc_machine_error kV_machine_error dc_machine_error pm_machine_error cd_machine_error ct_machine_error : Value} {od__law_pen an__law_pen : Option Addr} {sl__law_pen : Array (Option Value)} {oc__law_pen kV__law_pen dc__law_pen pm__law_pen cd__law_pen ct__law_pen : Value} {od__law_fresh an__law_fresh : Option Addr} {sl__law_fresh : Array (Option Value)} {oc__law_fresh kV__law_fresh dc__law_fresh pm__law_fresh cd__law_fresh ct__law_fresh : Value} {od__law_draw an__law_draw : Option Addr} {sl__law_draw : Array (Option Value)} {oc__law_draw kV__law_draw dc__law_draw pm__law_draw cd__law_draw ct__law_draw : Value} {od__law_run an__law_run : Option Addr} {sl__law_run : Array (Option Value)} {oc__law_run kV__law_run dc__law_run pm__law_run cd__law_run ct__law_run : Value} {od__law_tape an__law_tape : Option Addr} {sl__law_tape : Array (Option Value)} {oc__law_tape kV__law_tape dc__law_tape pm__law_tape cd__law_tape ct__law_tape : Value} {od__law_tapes an__law_tapes : Option Addr} {sl__law_tapes : Array (Option Value)} {oc__law_tapes kV__law_tapes dc__law_tapes pm__law_tapes cd__law_tapes ct__law_tapes : Value} {od__law_binomials an__law_binomials : Option Addr} {sl__law_binomials : Array (Option Value)} {oc__law_binomials kV__law_binomials dc__law_binomials pm__law_binomials cd__law_binomials ct__law_binomials : Value} {od__law_recipe an__law_recipe : Option Addr} {sl__law_recipe : Array (Option Value)} {oc__law_recipe kV__law_recipe dc__law_recipe pm__law_recipe cd__law_recipe ct__law_recipe : Value} {od__law_compiled an__law_compiled : Option Addr} {sl__law_compiled : Array (Option Value)} {oc__law_compiled kV__law_compiled dc__law_compiled pm__law_compiled cd__law_compiled ct__law_compiled : Value} {od__law_tape_agrees an__law_tape_agrees : Option Addr} {sl__law_tape_agrees : Array (Option Value)} {oc__law_tape_agrees kV__law_tape_agrees dc__law_tape_agrees pm__law_tape_agrees cd__law_tape_agrees ct__law_tape_agrees : Value} {od_law an_law : Option Addr} {sl_law : Array (Option Value)} {oc_law kV_law dc_law pm_law cd_law ct_law : Value} {nm_LimitExceeded q_LimitExceeded : Str} {N_LimitExceeded : Addr} {bs_LimitExceeded : List Value} {sn_LimitExceeded : List Str} {sub_LimitExceeded : List Value} {ab_LimitExceeded : Bool} {col_LimitExceeded : Option Bool} {dd_LimitExceeded : Option Addr} {m0_LimitExceeded m1_LimitExceeded m2_LimitExceeded m3_LimitExceeded m5_LimitExceeded : Option Value} {nm_StepLimitExceeded q_StepLimitExceeded : Str} {N_StepLimitExceeded : Addr} {bs_StepLimitExceeded : List Value} {sn_StepLimitExceeded : List Str} {sub_StepLimitExceeded : List Value} {ab_StepLimitExceeded : Bool} {col_StepLimitExceeded : Option Bool} {dd_StepLimitExceeded : Option Addr} {m0_StepLimitExceeded m1_StepLimitExceeded m2_StepLimitExceeded m3_StepLimitExceeded m5_StepLimitExceeded : Option Value} {es_WIDTHS : Array DictEntry} {n_WIDTHS : Nat} {t_MAX_COMPILED_TOSSES t_MOST_ANSWER t_MOST_PLACES : Tok} (X : K.In h) (Gm : h.Ns mainGlobals mg) (hfa : mg "law" = some (.ref fa))
    (z_OverflowError : PySem.W.nsIn K mainGlobals "OverflowError" = some none)
    (z_all : PySem.W.nsIn K mainGlobals "all" = some none)
    (z_bool : PySem.W.nsIn K mainGlobals "bool" = some none)
    (z_enumerate : PySem.W.nsIn K mainGlobals "enumerate" = some none)
    (z_int : PySem.W.nsIn K mainGlobals "int" = some none)
    (z_isinstance : PySem.W.nsIn K mainGlobals "isinstance" = some none)
    (z_len : PySem.W.nsIn K mainGlobals "len" = some none)
    (z_list : PySem.W.nsIn K mainGlobals "list" = some none)
    (z_range : PySem.W.nsIn K mainGlobals "range" = some none)
    (z_str : PySem.W.nsIn K mainGlobals "str" = some none)
    (z_sum : PySem.W.nsIn K mainGlobals "sum" = some none)
    (z_tuple : PySem.W.nsIn K mainGlobals "tuple" = some none)
    (z_zip : PySem.W.nsIn K mainGlobals "zip" = some none)
    (c_MAX_COMPILED_TOSSES : PySem.W.nsIn K mainGlobals "MAX_COMPILED_TOSSES" = some (some (.int 5 t_MAX_COMPILED_TOSSES)))
    (c_MOST_ANSWER : PySem.W.nsIn K mainGlobals "MOST_ANSWER" = some (some (.int 99 t_MOST_ANSWER)))
    (c_MOST_PLACES : PySem.W.nsIn K mainGlobals "MOST_PLACES" = some (some (.int 60 t_MOST_PLACES)))
    (g_LimitExceeded : PySem.W.nsIn K mainGlobals "LimitExceeded" = some (some (.ref C_LimitExceeded)))
    (xL_LimitExceeded : K.lookup C_LimitExceeded = some (excClassObj nm_LimitExceeded q_LimitExceeded C_LimitExceeded N_LimitExceeded bs_LimitExceeded [.type "OverflowError", .type "ArithmeticError", .type "Exception", .type "BaseException", .type "object"] true sn_LimitExceeded sub_LimitExceeded ab_LimitExceeded col_LimitExceeded dd_LimitExceeded m0_LimitExceeded m1_LimitExceeded m2_LimitExceeded m3_LimitExceeded m5_LimitExceeded "OverflowError.__new__"))
    (sa_LimitExceeded : PySem.W.findIn K (.ref C_LimitExceeded) "__setattr__" = some (some (.builtin "object.__setattr__")))
    (eC_LimitExceeded : PySem.W.subIn K (.ref C_LimitExceeded) (.type "BaseException") = some true)
    (tC_LimitExceeded : PySem.W.typeIn K (.ref C_LimitExceeded) = some (.type "type"))
    (kC_LimitExceeded : PySem.W.keepIn K (.ref C_LimitExceeded) = true)
    (ga_LimitExceeded : PySem.W.findIn K (.ref C_LimitExceeded) "__getattribute__" = some (some (.builtin "BaseException.__getattribute__")))
    (gg_LimitExceeded : PySem.W.findIn K (.ref C_LimitExceeded) "__getattr__" = some none)
    (hC_LimitExceeded : PySem.W.hasDictIn K C_LimitExceeded = true)
    (xn_LimitExceeded : PySem.W.findIn K (.ref C_LimitExceeded) "limit" = some none)
    (ca_LimitExceeded : PySem.W.findIn K (.ref C_LimitExceeded) "__class__" = some (some (.builtin "object.__class__")))
    (cm_LimitExceeded : PySem.W.mroIn K C_LimitExceeded (.type "object") = some true)
    (iC_LimitExceeded : PySem.W.findIn K (.ref C_LimitExceeded) "__init__" = some (some (.ref f_iLimitExceeded)))
    (ti_LimitExceeded : PySem.W.typeIn K (.ref f_iLimitExceeded) = some (.type "function"))
    (l_iLimitExceeded : K.lookup f_iLimitExceeded = some ⟨oc_iLimitExceeded, od_iLimitExceeded, .func (PySem.W.fnOf "__init__" "LimitExceeded.__init__" (defArgs (initS 1)) (defBody (initS 1)) (defScope (initS 1)) .none kV_iLimitExceeded dc_iLimitExceeded pm_iLimitExceeded an_iLimitExceeded cd_iLimitExceeded ct_iLimitExceeded), sl_iLimitExceeded⟩)
    (d_iLimitExceeded : PySem.W.codeIn K cd_iLimitExceeded "LimitExceeded.__init__" = true)
    (k_iLimitExceeded : PySem.W.keepIn K (.ref f_iLimitExceeded) = true)
    (vv_OverflowError : PySem.W.findCls K (.type "OverflowError") (.type "type") "__init__" = some (.val (.builtin "OverflowError.__init__")))
    (cg : PySem.W.specialIn K (.builtin "object.__class__") "__get__" = some (some (.builtin "getset_descriptor.__get__")))
    (ct : PySem.W.takesIn K (.builtin "object.__class__") = some true)
    (g_StepLimitExceeded : PySem.W.nsIn K mainGlobals "StepLimitExceeded" = some (some (.ref C_StepLimitExceeded)))
    (xL_StepLimitExceeded : K.lookup C_StepLimitExceeded = some (excClassObj nm_StepLimitExceeded q_StepLimitExceeded C_StepLimitExceeded N_StepLimitExceeded bs_StepLimitExceeded [.type "OverflowError", .type "ArithmeticError", .type "Exception", .type "BaseException", .type "object"] true sn_StepLimitExceeded sub_StepLimitExceeded ab_StepLimitExceeded col_StepLimitExceeded dd_StepLimitExceeded m0_StepLimitExceeded m1_StepLimitExceeded m2_StepLimitExceeded m3_StepLimitExceeded m5_StepLimitExceeded "OverflowError.__new__"))
    (sa_StepLimitExceeded : PySem.W.findIn K (.ref C_StepLimitExceeded) "__setattr__" = some (some (.builtin "object.__setattr__")))
    (eC_StepLimitExceeded : PySem.W.subIn K (.ref C_StepLimitExceeded) (.type "BaseException") = some true)
    (tC_StepLimitExceeded : PySem.W.typeIn K (.ref C_StepLimitExceeded) = some (.type "type"))
    (kC_StepLimitExceeded : PySem.W.keepIn K (.ref C_StepLimitExceeded) = true)
    (ga_StepLimitExceeded : PySem.W.findIn K (.ref C_StepLimitExceeded) "__getattribute__" = some (some (.builtin "BaseException.__getattribute__")))
    (gg_StepLimitExceeded : PySem.W.findIn K (.ref C_StepLimitExceeded) "__getattr__" = some none)
    (hC_StepLimitExceeded : PySem.W.hasDictIn K C_StepLimitExceeded = true)
    (xn_StepLimitExceeded : PySem.W.findIn K (.ref C_StepLimitExceeded) "limit" = some none)
    (ca_StepLimitExceeded : PySem.W.findIn K (.ref C_StepLimitExceeded) "__class__" = some (some (.builtin "object.__class__")))
    (cm_StepLimitExceeded : PySem.W.mroIn K C_StepLimitExceeded (.type "object") = some true)
    (iC_StepLimitExceeded : PySem.W.findIn K (.ref C_StepLimitExceeded) "__init__" = some (some (.ref f_iStepLimitExceeded)))
    (ti_StepLimitExceeded : PySem.W.typeIn K (.ref f_iStepLimitExceeded) = some (.type "function"))
    (l_iStepLimitExceeded : K.lookup f_iStepLimitExceeded = some ⟨oc_iStepLimitExceeded, od_iStepLimitExceeded, .func (PySem.W.fnOf "__init__" "StepLimitExceeded.__init__" (defArgs (initS 2)) (defBody (initS 2)) (defScope (initS 2)) .none kV_iStepLimitExceeded dc_iStepLimitExceeded pm_iStepLimitExceeded an_iStepLimitExceeded cd_iStepLimitExceeded ct_iStepLimitExceeded), sl_iStepLimitExceeded⟩)
    (d_iStepLimitExceeded : PySem.W.codeIn K cd_iStepLimitExceeded "StepLimitExceeded.__init__" = true)
    (k_iStepLimitExceeded : PySem.W.keepIn K (.ref f_iStepLimitExceeded) = true)
    (dk_WIDTHS : PySem.W.nsIn K mainGlobals "WIDTHS" = some (some (.ref D_WIDTHS)))
    (dl_WIDTHS : K.lookup D_WIDTHS = some ⟨.type "dict", none, .dict es_WIDTHS n_WIDTHS, #[]⟩)
    (dh_WIDTHS : PySem.W.KeysLit w.params es_WIDTHS.toList)
    (ds_WIDTHS : (D_WIDTHS == sysModules) = false)
    (dr_WIDTHS : es_WIDTHS.toList.any (·.refKey) = false)
    (dt_WIDTHS : es_WIDTHS.toList.map entOf = ([("toss", 3), ("end", 2), ("never", 1)] : List (Str × Int)))
    (di_WIDTHS : ∀ e ∈ es_WIDTHS.toList, ∃ i t, e.val = .int i t)
    (a_raise_degree : PySem.W.nsIn K mainGlobals "raise_degree" = some (some (.ref f_raise_degree)))
    (l_raise_degree : K.lookup f_raise_degree = some ⟨oc_raise_degree, od_raise_degree, .func (PySem.W.fnOf "raise_degree" "raise_degree" (defArgs (topS 4)) (defBody (topS 4)) (defScope (topS 4)) .none kV_raise_degree dc_raise_degree pm_raise_degree an_raise_degree cd_raise_degree ct_raise_degree), sl_raise_degree⟩)
    (d_raise_degree : PySem.W.codeIn K cd_raise_degree "raise_degree" = true)
    (k_raise_degree : PySem.W.keepIn K (.ref f_raise_degree) = true)
    (a_binomial_row : PySem.W.nsIn K mainGlobals "binomial_row" = some (some (.ref f_binomial_row)))
    (l_binomial_row : K.lookup f_binomial_row = some ⟨oc_binomial_row, od_binomial_row, .func (PySem.W.fnOf "binomial_row" "binomial_row" (defArgs (topS 7)) (defBody (topS 7)) (defScope (topS 7)) .none kV_binomial_row dc_binomial_row pm_binomial_row an_binomial_row cd_binomial_row ct_binomial_row), sl_binomial_row⟩)
    (d_binomial_row : PySem.W.codeIn K cd_binomial_row "binomial_row" = true)
    (k_binomial_row : PySem.W.keepIn K (.ref f_binomial_row) = true)
    (a_rank_in_row : PySem.W.nsIn K mainGlobals "rank_in_row" = some (some (.ref f_rank_in_row)))
    (l_rank_in_row : K.lookup f_rank_in_row = some ⟨oc_rank_in_row, od_rank_in_row, .func (PySem.W.fnOf "rank_in_row" "rank_in_row" (defArgs (topS 8)) (defBody (topS 8)) (defScope (topS 8)) .none kV_rank_in_row dc_rank_in_row pm_rank_in_row an_rank_in_row cd_rank_in_row ct_rank_in_row), sl_rank_in_row⟩)
    (d_rank_in_row : PySem.W.codeIn K cd_rank_in_row "rank_in_row" = true)
    (k_rank_in_row : PySem.W.keepIn K (.ref f_rank_in_row) = true)
    (a_classify_round : PySem.W.nsIn K mainGlobals "classify_round" = some (some (.ref f_classify_round)))
    (l_classify_round : K.lookup f_classify_round = some ⟨oc_classify_round, od_classify_round, .func (PySem.W.fnOf "classify_round" "classify_round" (defArgs (topS 9)) (defBody (topS 9)) (defScope (topS 9)) .none kV_classify_round dc_classify_round pm_classify_round an_classify_round cd_classify_round ct_classify_round), sl_classify_round⟩)
    (d_classify_round : PySem.W.codeIn K cd_classify_round "classify_round" = true)
    (k_classify_round : PySem.W.keepIn K (.ref f_classify_round) = true)
    (a_run_recipe : PySem.W.nsIn K mainGlobals "run_recipe" = some (some (.ref f_run_recipe)))
    (l_run_recipe : K.lookup f_run_recipe = some ⟨oc_run_recipe, od_run_recipe, .func (PySem.W.fnOf "run_recipe" "run_recipe" (defArgs (topS 10)) (defBody (topS 10)) (defScope (topS 10)) .none kV_run_recipe dc_run_recipe pm_run_recipe an_run_recipe cd_run_recipe ct_run_recipe), sl_run_recipe⟩)
    (d_run_recipe : PySem.W.codeIn K cd_run_recipe "run_recipe" = true)
    (k_run_recipe : PySem.W.keepIn K (.ref f_run_recipe) = true)
    (a_machine_from_recipe : PySem.W.nsIn K mainGlobals "machine_from_recipe" = some (some (.ref f_machine_from_recipe)))
    (l_machine_from_recipe : K.lookup f_machine_from_recipe = some ⟨oc_machine_from_recipe, od_machine_from_recipe, .func (PySem.W.fnOf "machine_from_recipe" "machine_from_recipe" (defArgs (topS 11)) (defBody (topS 11)) (defScope (topS 11)) .none kV_machine_from_recipe dc_machine_from_recipe pm_machine_from_recipe an_machine_from_recipe cd_machine_from_recipe ct_machine_from_recipe), sl_machine_from_recipe⟩)
    (d_machine_from_recipe : PySem.W.codeIn K cd_machine_from_recipe "machine_from_recipe" = true)
    (k_machine_from_recipe : PySem.W.keepIn K (.ref f_machine_from_recipe) = true)
    (a_is_integer : PySem.W.nsIn K mainGlobals "is_integer" = some (some (.ref f_is_integer)))
    (l_is_integer : K.lookup f_is_integer = some ⟨oc_is_integer, od_is_integer, .func (PySem.W.fnOf "is_integer" "is_integer" (defArgs (topS 16)) (defBody (topS 16)) (defScope (topS 16)) .none kV_is_integer dc_is_integer pm_is_integer an_is_integer cd_is_integer ct_is_integer), sl_is_integer⟩)
    (d_is_integer : PySem.W.codeIn K cd_is_integer "is_integer" = true)
    (k_is_integer : PySem.W.keepIn K (.ref f_is_integer) = true)
    (a_state_error : PySem.W.nsIn K mainGlobals "state_error" = some (some (.ref f_state_error)))
    (l_state_error : K.lookup f_state_error = some ⟨oc_state_error, od_state_error, .func (PySem.W.fnOf "state_error" "state_error" (defArgs (topS 17)) (defBody (topS 17)) (defScope (topS 17)) .none kV_state_error dc_state_error pm_state_error an_state_error cd_state_error ct_state_error), sl_state_error⟩)
    (d_state_error : PySem.W.codeIn K cd_state_error "state_error" = true)
    (k_state_error : PySem.W.keepIn K (.ref f_state_error) = true)
    (a_machine_error : PySem.W.nsIn K mainGlobals "machine_error" = some (some (.ref f_machine_error)))
    (l_machine_error : K.lookup f_machine_error = some ⟨oc_machine_error, od_machine_error, .func (PySem.W.fnOf "machine_error" "machine_error" (defArgs (topS 18)) (defBody (topS 18)) (defScope (topS 18)) .none kV_machine_error dc_machine_error pm_machine_error an_machine_error cd_machine_error ct_machine_error), sl_machine_error⟩)
    (d_machine_error : PySem.W.codeIn K cd_machine_error "machine_error" = true)
    (k_machine_error : PySem.W.keepIn K (.ref f_machine_error) = true)
    (a__law_pen : PySem.W.nsIn K mainGlobals "_law_pen" = some (some (.ref f__law_pen)))
    (l__law_pen : K.lookup f__law_pen = some ⟨oc__law_pen, od__law_pen, .func (PySem.W.fnOf "_law_pen" "_law_pen" (defArgs (topS 20)) (defBody (topS 20)) (defScope (topS 20)) .none kV__law_pen dc__law_pen pm__law_pen an__law_pen cd__law_pen ct__law_pen), sl__law_pen⟩)
    (d__law_pen : PySem.W.codeIn K cd__law_pen "_law_pen" = true)
    (k__law_pen : PySem.W.keepIn K (.ref f__law_pen) = true)
    (a__law_fresh : PySem.W.nsIn K mainGlobals "_law_fresh" = some (some (.ref f__law_fresh)))
    (l__law_fresh : K.lookup f__law_fresh = some ⟨oc__law_fresh, od__law_fresh, .func (PySem.W.fnOf "_law_fresh" "_law_fresh" (defArgs (topS 21)) (defBody (topS 21)) (defScope (topS 21)) .none kV__law_fresh dc__law_fresh pm__law_fresh an__law_fresh cd__law_fresh ct__law_fresh), sl__law_fresh⟩)
    (d__law_fresh : PySem.W.codeIn K cd__law_fresh "_law_fresh" = true)
    (k__law_fresh : PySem.W.keepIn K (.ref f__law_fresh) = true)
    (a__law_draw : PySem.W.nsIn K mainGlobals "_law_draw" = some (some (.ref f__law_draw)))
    (l__law_draw : K.lookup f__law_draw = some ⟨oc__law_draw, od__law_draw, .func (PySem.W.fnOf "_law_draw" "_law_draw" (defArgs (topS 22)) (defBody (topS 22)) (defScope (topS 22)) .none kV__law_draw dc__law_draw pm__law_draw an__law_draw cd__law_draw ct__law_draw), sl__law_draw⟩)
    (d__law_draw : PySem.W.codeIn K cd__law_draw "_law_draw" = true)
    (k__law_draw : PySem.W.keepIn K (.ref f__law_draw) = true)
    (a__law_run : PySem.W.nsIn K mainGlobals "_law_run" = some (some (.ref f__law_run)))
    (l__law_run : K.lookup f__law_run = some ⟨oc__law_run, od__law_run, .func (PySem.W.fnOf "_law_run" "_law_run" (defArgs (topS 23)) (defBody (topS 23)) (defScope (topS 23)) .none kV__law_run dc__law_run pm__law_run an__law_run cd__law_run ct__law_run), sl__law_run⟩)
    (d__law_run : PySem.W.codeIn K cd__law_run "_law_run" = true)
    (k__law_run : PySem.W.keepIn K (.ref f__law_run) = true)
    (a__law_tape : PySem.W.nsIn K mainGlobals "_law_tape" = some (some (.ref f__law_tape)))
    (l__law_tape : K.lookup f__law_tape = some ⟨oc__law_tape, od__law_tape, .func (PySem.W.fnOf "_law_tape" "_law_tape" (defArgs (topS 24)) (defBody (topS 24)) (defScope (topS 24)) .none kV__law_tape dc__law_tape pm__law_tape an__law_tape cd__law_tape ct__law_tape), sl__law_tape⟩)
    (d__law_tape : PySem.W.codeIn K cd__law_tape "_law_tape" = true)
    (k__law_tape : PySem.W.keepIn K (.ref f__law_tape) = true)
    (a__law_tapes : PySem.W.nsIn K mainGlobals "_law_tapes" = some (some (.ref f__law_tapes)))
    (l__law_tapes : K.lookup f__law_tapes = some ⟨oc__law_tapes, od__law_tapes, .func (PySem.W.fnOf "_law_tapes" "_law_tapes" (defArgs (topS 25)) (defBody (topS 25)) (defScope (topS 25)) .none kV__law_tapes dc__law_tapes pm__law_tapes an__law_tapes cd__law_tapes ct__law_tapes), sl__law_tapes⟩)
    (d__law_tapes : PySem.W.codeIn K cd__law_tapes "_law_tapes" = true)
    (k__law_tapes : PySem.W.keepIn K (.ref f__law_tapes) = true)
    (a__law_binomials : PySem.W.nsIn K mainGlobals "_law_binomials" = some (some (.ref f__law_binomials)))
    (l__law_binomials : K.lookup f__law_binomials = some ⟨oc__law_binomials, od__law_binomials, .func (PySem.W.fnOf "_law_binomials" "_law_binomials" (defArgs (topS 26)) (defBody (topS 26)) (defScope (topS 26)) .none kV__law_binomials dc__law_binomials pm__law_binomials an__law_binomials cd__law_binomials ct__law_binomials), sl__law_binomials⟩)
    (d__law_binomials : PySem.W.codeIn K cd__law_binomials "_law_binomials" = true)
    (k__law_binomials : PySem.W.keepIn K (.ref f__law_binomials) = true)
    (a__law_recipe : PySem.W.nsIn K mainGlobals "_law_recipe" = some (some (.ref f__law_recipe)))
    (l__law_recipe : K.lookup f__law_recipe = some ⟨oc__law_recipe, od__law_recipe, .func (PySem.W.fnOf "_law_recipe" "_law_recipe" (defArgs (topS 27)) (defBody (topS 27)) (defScope (topS 27)) .none kV__law_recipe dc__law_recipe pm__law_recipe an__law_recipe cd__law_recipe ct__law_recipe), sl__law_recipe⟩)
    (d__law_recipe : PySem.W.codeIn K cd__law_recipe "_law_recipe" = true)
    (k__law_recipe : PySem.W.keepIn K (.ref f__law_recipe) = true)
    (a__law_compiled : PySem.W.nsIn K mainGlobals "_law_compiled" = some (some (.ref f__law_compiled)))
    (l__law_compiled : K.lookup f__law_compiled = some ⟨oc__law_compiled, od__law_compiled, .func (PySem.W.fnOf "_law_compiled" "_law_compiled" (defArgs (topS 28)) (defBody (topS 28)) (defScope (topS 28)) .none kV__law_compiled dc__law_compiled pm__law_compiled an__law_compiled cd__law_compiled ct__law_compiled), sl__law_compiled⟩)
    (d__law_compiled : PySem.W.codeIn K cd__law_compiled "_law_compiled" = true)
    (k__law_compiled : PySem.W.keepIn K (.ref f__law_compiled) = true)
    (a__law_tape_agrees : PySem.W.nsIn K mainGlobals "_law_tape_agrees" = some (some (.ref f__law_tape_agrees)))
    (l__law_tape_agrees : K.lookup f__law_tape_agrees = some ⟨oc__law_tape_agrees, od__law_tape_agrees, .func (PySem.W.fnOf "_law_tape_agrees" "_law_tape_agrees" (defArgs (topS 29)) (defBody (topS 29)) (defScope (topS 29)) .none kV__law_tape_agrees dc__law_tape_agrees pm__law_tape_agrees an__law_tape_agrees cd__law_tape_agrees ct__law_tape_agrees), sl__law_tape_agrees⟩)
    (d__law_tape_agrees : PySem.W.codeIn K cd__law_tape_agrees "_law_tape_agrees" = true)
    (k__law_tape_agrees : PySem.W.keepIn K (.ref f__law_tape_agrees) = true)
    (a_law : PySem.W.nsIn K mainGlobals "law" = some (some (.ref f_law)))
    (l_law : K.lookup f_law = some ⟨oc_law, od_law, .func (PySem.W.fnOf "law" "law" (defArgs (topS 30)) (defBody (topS 30)) (defScope (topS 30)) .none kV_law dc_law pm_law an_law cd_law ct_law), sl_law⟩)
    (d_law : PySem.W.codeIn K cd_law "law" = true)
    (k_law : PySem.W.keepIn K (.ref f_law) = true)
    (h4 : PySem.W.subIn K (.ref C_LimitExceeded) (.ref C_LimitExceeded) = some true) (k1 : PySem.W.kitOne K (.ref C_LimitExceeded) (.type "OverflowError") = some true) (k2 : PySem.W.kitOne K (.ref C_LimitExceeded) (.ref C_StepLimitExceeded) = some false) :
    ∃ fd : FuncData, (∀ (s : Shared) (u : Value), BindsTo s fd ⟨[u], []⟩ [("script", u)]) ∧ ∀ base : Heap, K.In base → base.Ns mainGlobals mg → FnOk PySem.Challenge.pw_bentcoin_k46_recipes_as_machines w K mg base (L2.CX PySem.Challenge.pw_bentcoin_k46_recipes_as_machines w) 7 fa fd ["script"] (spI K [] q_law) := by
  have B := bt_mk (w := w) X Gm z_OverflowError z_all z_bool z_enumerate z_int z_isinstance z_len z_list z_range z_str z_sum z_tuple z_zip c_MAX_COMPILED_TOSSES c_MOST_ANSWER c_MOST_PLACES g_LimitExceeded xL_LimitExceeded sa_LimitExceeded eC_LimitExceeded tC_LimitExceeded kC_LimitExceeded ga_LimitExceeded gg_LimitExceeded hC_LimitExceeded xn_LimitExceeded ca_LimitExceeded cm_LimitExceeded iC_LimitExceeded ti_LimitExceeded l_iLimitExceeded d_iLimitExceeded k_iLimitExceeded vv_OverflowError cg ct g_StepLimitExceeded xL_StepLimitExceeded sa_StepLimitExceeded eC_StepLimitExceeded tC_StepLimitExceeded kC_StepLimitExceeded ga_StepLimitExceeded gg_StepLimitExceeded hC_StepLimitExceeded xn_StepLimitExceeded ca_StepLimitExceeded cm_StepLimitExceeded iC_StepLimitExceeded ti_StepLimitExceeded l_iStepLimitExceeded d_iStepLimitExceeded k_iStepLimitExceeded dk_WIDTHS dl_WIDTHS dh_WIDTHS ds_WIDTHS dr_WIDTHS dt_WIDTHS di_WIDTHS a_raise_degree l_raise_degree d_raise_degree k_raise_degree a_binomial_row l_binomial_row d_binomial_row k_binomial_row a_rank_in_row l_rank_in_row d_rank_in_row k_rank_in_row a_classify_round l_classify_round d_classify_round k_classify_round a_run_recipe l_run_recipe d_run_recipe k_run_recipe a_machine_from_recipe l_machine_from_recipe d_machine_from_recipe k_machine_from_recipe a_is_integer l_is_integer d_is_integer k_is_integer a_state_error l_state_error d_state_error k_state_error a_machine_error l_machine_error d_machine_error k_machine_error a__law_pen l__law_pen d__law_pen k__law_pen a__law_fresh l__law_fresh d__law_fresh k__law_fresh a__law_draw l__law_draw d__law_draw k__law_draw a__law_run l__law_run d__law_run k__law_run a__law_tape l__law_tape d__law_tape k__law_tape a__law_tapes l__law_tapes d__law_tapes k__law_tapes a__law_binomials l__law_binomials d__law_binomials k__law_binomials a__law_recipe l__law_recipe d__law_recipe k__law_recipe a__law_compiled l__law_compiled d__law_compiled k__law_compiled a__law_tape_agrees l__law_tape_agrees d__law_tape_agrees k__law_tape_agrees a_law l_law d_law k_law
  have e := hfa.symm.trans (PySem.W.mg_of X Gm a_law)
  cases e
  exact ⟨_, fun s v => .of_eq rfl, fun base _ _ => (fn_law B (PySem.W.exm_ref eC_LimitExceeded hC_LimitExceeded tC_LimitExceeded h4) k1 k2 (fun_mk l_law d_law k_law)).imp fun _ _ _ _ z => law_sp z⟩
theorem law_start {K : PySem.W.Frag} {H : Hp} {a : Addr} {ns : List Int} (hl : ns.length ≤ 63) (h : SqL K H a (ns.map V.int)) : spI K [] q_law [.ref a] H (fun v _ => v = .bl true) fun _ _ _ => False := by
  have key : ∀ (d : D) (α : List Addr) (S : Sto), StR K α H S → Rel K α H (.ref a) d → q_law [d] S (fun d _ => d = .bl true) noX → spI K [] q_law [.ref a] H (fun v _ => v = .bl true) fun _ _ _ => False := fun d α S st r hq =>
    ⟨α, S, [d], _, noX, st, .cons r .nil, hq, fun e S' α' H' v p rr z => by subst z; cases rr; rfl, fun _ _ _ _ _ _ _ _ _ z => z.elim⟩
  rcases h with (h | ⟨o, h⟩) | h
  · refine key (.ref 0) [a] [.lst (ns.map D.int)] ⟨rfl, by simp, fun n c b h1 h2 => ?_⟩ (.ref rfl) (q_law_of hl (.inl ⟨0, rfl, .inl rfl⟩) ?_)
    · match n, h1, h2 with
      | 0, h1, h2 =>
        cases h1
        cases h2
        exact ⟨_, h, ints_relL ns⟩
    · intro e he
      cases List.mem_singleton.mp he
      exact bel_ints ns _
  · refine key (.ref 0) [a] [.ro (ns.map D.int)] ⟨rfl, by simp, fun n c b h1 h2 => ?_⟩ (.ref rfl) (q_law_of hl (.inl ⟨0, rfl, .inr rfl⟩) ?_)
    · match n, h1, h2 with
      | 0, h1, h2 =>
        cases h1
        cases h2
        exact ⟨_, _, h, ints_relL ns⟩
    · intro e he
      cases List.mem_singleton.mp he
      exact bel_ints ns _
  · exact key (.lit (ns.map D.int)) [] [] ⟨rfl, by simp, fun n c b h1 _ => by simp at h1⟩ (.lit h (ints_relL ns)) (q_law_of hl (.inr rfl) (fun e he => by cases he))
theorem law_noX {P : Program} {w : World} {H : Hp} {s s' : Shared} {e : Value} (h : L2.CX P w [] H s (fun _ _ _ => False) e s') : False := by
  obtain ⟨_, _, _, _, _, _, _, _, _, _, _, _, z⟩ := h
  exact z
end G

open PySem PySem.W PyProof.Rows
set_option maxRecDepth 100000 in
set_option maxHeartbeats 0 in
theorem PySem.Challenge.cw_bentcoin_k46_recipes_as_machines_holds : PySem.Challenge.rw_bentcoin_k46_recipes_as_machines.Holds := by
  w_on; o_law; k_head; (case hw => w_witness2)
  k_fill
  refine L2.walk_of (l := PySem.Challenge.rw_bentcoin_k46_recipes_as_machines) (n := 63) (k := 7) (x := "script") (CX := fun w => L2.CX PySem.Challenge.pw_bentcoin_k46_recipes_as_machines w) (sp := fun w => Bc.spI _ [] G.q_law) rfl (by decide) rfl ⟨rfl, by decide, by decide⟩ (fun w h Y => PySem.W.kIn_of Y) ?F (fun _ _ a ns hl _ hS => G.law_start hl hS) (fun _ _ _ _ _ h => G.law_noX h)
  case F =>
    intro w mg fa h KX Gm hmg
    refine' G.all_mk KX Gm hmg ?z_OverflowError ?z_all ?z_bool ?z_enumerate ?z_int ?z_isinstance ?z_len ?z_list ?z_range ?z_str ?z_sum ?z_tuple ?z_zip ?c_MAX_COMPILED_TOSSES ?c_MOST_ANSWER ?c_MOST_PLACES ?g_LimitExceeded ?xL_LimitExceeded ?sa_LimitExceeded ?eC_LimitExceeded ?tC_LimitExceeded ?kC_LimitExceeded ?ga_LimitExceeded ?gg_LimitExceeded ?hC_LimitExceeded ?xn_LimitExceeded ?ca_LimitExceeded ?cm_LimitExceeded ?iC_LimitExceeded ?ti_LimitExceeded ?l_iLimitExceeded ?d_iLimitExceeded ?k_iLimitExceeded ?vv_OverflowError ?cg ?ct ?g_StepLimitExceeded ?xL_StepLimitExceeded ?sa_StepLimitExceeded ?eC_StepLimitExceeded ?tC_StepLimitExceeded ?kC_StepLimitExceeded ?ga_StepLimitExceeded ?gg_StepLimitExceeded ?hC_StepLimitExceeded ?xn_StepLimitExceeded ?ca_StepLimitExceeded ?cm_StepLimitExceeded ?iC_StepLimitExceeded ?ti_StepLimitExceeded ?l_iStepLimitExceeded ?d_iStepLimitExceeded ?k_iStepLimitExceeded ?dk_WIDTHS ?dl_WIDTHS ?dh_WIDTHS ?ds_WIDTHS ?dr_WIDTHS ?dt_WIDTHS ?di_WIDTHS ?a_raise_degree ?l_raise_degree ?d_raise_degree ?k_raise_degree ?a_binomial_row ?l_binomial_row ?d_binomial_row ?k_binomial_row ?a_rank_in_row ?l_rank_in_row ?d_rank_in_row ?k_rank_in_row ?a_classify_round ?l_classify_round ?d_classify_round ?k_classify_round ?a_run_recipe ?l_run_recipe ?d_run_recipe ?k_run_recipe ?a_machine_from_recipe ?l_machine_from_recipe ?d_machine_from_recipe ?k_machine_from_recipe ?a_is_integer ?l_is_integer ?d_is_integer ?k_is_integer ?a_state_error ?l_state_error ?d_state_error ?k_state_error ?a_machine_error ?l_machine_error ?d_machine_error ?k_machine_error ?a__law_pen ?l__law_pen ?d__law_pen ?k__law_pen ?a__law_fresh ?l__law_fresh ?d__law_fresh ?k__law_fresh ?a__law_draw ?l__law_draw ?d__law_draw ?k__law_draw ?a__law_run ?l__law_run ?d__law_run ?k__law_run ?a__law_tape ?l__law_tape ?d__law_tape ?k__law_tape ?a__law_tapes ?l__law_tapes ?d__law_tapes ?k__law_tapes ?a__law_binomials ?l__law_binomials ?d__law_binomials ?k__law_binomials ?a__law_recipe ?l__law_recipe ?d__law_recipe ?k__law_recipe ?a__law_compiled ?l__law_compiled ?d__law_compiled ?k__law_compiled ?a__law_tape_agrees ?l__law_tape_agrees ?d__law_tape_agrees ?k__law_tape_agrees ?a_law ?l_law ?d_law ?k_law ?h4 ?k1 ?k2
    (case z_OverflowError => k_is)
    (case z_all => k_is)
    (case z_bool => k_is)
    (case z_enumerate => k_is)
    (case z_int => k_is)
    (case z_isinstance => k_is)
    (case z_len => k_is)
    (case z_list => k_is)
    (case z_range => k_is)
    (case z_str => k_is)
    (case z_sum => k_is)
    (case z_tuple => k_is)
    (case z_zip => k_is)
    (case c_MAX_COMPILED_TOSSES => k_is)
    (case c_MOST_ANSWER => k_is)
    (case c_MOST_PLACES => k_is)
    (case g_LimitExceeded => k_is)
    (case xL_LimitExceeded => k_is)
    (case sa_LimitExceeded => k_is)
    (case eC_LimitExceeded => k_is)
    (case tC_LimitExceeded => k_is)
    (case kC_LimitExceeded => k_is)
    (case ga_LimitExceeded => k_is)
    (case gg_LimitExceeded => k_is)
    (case hC_LimitExceeded => k_is)
    (case xn_LimitExceeded => k_is)
    (case ca_LimitExceeded => k_is)
    (case cm_LimitExceeded => k_is)
    (case iC_LimitExceeded => k_is)
    (case ti_LimitExceeded => k_is)
    (case l_iLimitExceeded => k_is)
    (case d_iLimitExceeded => k_is)
    (case k_iLimitExceeded => k_is)
    (case vv_OverflowError => k_is)
    (case cg => k_is)
    (case ct => k_is)
    (case g_StepLimitExceeded => k_is)
    (case xL_StepLimitExceeded => k_is)
    (case sa_StepLimitExceeded => k_is)
    (case eC_StepLimitExceeded => k_is)
    (case tC_StepLimitExceeded => k_is)
    (case kC_StepLimitExceeded => k_is)
    (case ga_StepLimitExceeded => k_is)
    (case gg_StepLimitExceeded => k_is)
    (case hC_StepLimitExceeded => k_is)
    (case xn_StepLimitExceeded => k_is)
    (case ca_StepLimitExceeded => k_is)
    (case cm_StepLimitExceeded => k_is)
    (case iC_StepLimitExceeded => k_is)
    (case ti_StepLimitExceeded => k_is)
    (case l_iStepLimitExceeded => k_is)
    (case d_iStepLimitExceeded => k_is)
    (case k_iStepLimitExceeded => k_is)
    (case dk_WIDTHS => k_is)
    (case dl_WIDTHS => k_is)
    (case dh_WIDTHS => exact ⟨⟨_, _, rfl, rfl⟩, ⟨_, _, rfl, rfl⟩, ⟨_, _, rfl, rfl⟩, trivial⟩)
    (case ds_WIDTHS => rfl)
    (case dr_WIDTHS => rfl)
    (case dt_WIDTHS => rfl)
    (case di_WIDTHS => exact List.forall_mem_cons.mpr ⟨⟨_, _, rfl⟩, List.forall_mem_cons.mpr ⟨⟨_, _, rfl⟩, List.forall_mem_cons.mpr ⟨⟨_, _, rfl⟩, fun _ h => nomatch h⟩⟩⟩)
    (case a_raise_degree => k_is)
    (case l_raise_degree => k_is)
    (case d_raise_degree => k_is)
    (case k_raise_degree => k_is)
    (case a_binomial_row => k_is)
    (case l_binomial_row => k_is)
    (case d_binomial_row => k_is)
    (case k_binomial_row => k_is)
    (case a_rank_in_row => k_is)
    (case l_rank_in_row => k_is)
    (case d_rank_in_row => k_is)
    (case k_rank_in_row => k_is)
    (case a_classify_round => k_is)
    (case l_classify_round => k_is)
    (case d_classify_round => k_is)
    (case k_classify_round => k_is)
    (case a_run_recipe => k_is)
    (case l_run_recipe => k_is)
    (case d_run_recipe => k_is)
    (case k_run_recipe => k_is)
    (case a_machine_from_recipe => k_is)
    (case l_machine_from_recipe => k_is)
    (case d_machine_from_recipe => k_is)
    (case k_machine_from_recipe => k_is)
    (case a_is_integer => k_is)
    (case l_is_integer => k_is)
    (case d_is_integer => k_is)
    (case k_is_integer => k_is)
    (case a_state_error => k_is)
    (case l_state_error => k_is)
    (case d_state_error => k_is)
    (case k_state_error => k_is)
    (case a_machine_error => k_is)
    (case l_machine_error => k_is)
    (case d_machine_error => k_is)
    (case k_machine_error => k_is)
    (case a__law_pen => k_is)
    (case l__law_pen => k_is)
    (case d__law_pen => k_is)
    (case k__law_pen => k_is)
    (case a__law_fresh => k_is)
    (case l__law_fresh => k_is)
    (case d__law_fresh => k_is)
    (case k__law_fresh => k_is)
    (case a__law_draw => k_is)
    (case l__law_draw => k_is)
    (case d__law_draw => k_is)
    (case k__law_draw => k_is)
    (case a__law_run => k_is)
    (case l__law_run => k_is)
    (case d__law_run => k_is)
    (case k__law_run => k_is)
    (case a__law_tape => k_is)
    (case l__law_tape => k_is)
    (case d__law_tape => k_is)
    (case k__law_tape => k_is)
    (case a__law_tapes => k_is)
    (case l__law_tapes => k_is)
    (case d__law_tapes => k_is)
    (case k__law_tapes => k_is)
    (case a__law_binomials => k_is)
    (case l__law_binomials => k_is)
    (case d__law_binomials => k_is)
    (case k__law_binomials => k_is)
    (case a__law_recipe => k_is)
    (case l__law_recipe => k_is)
    (case d__law_recipe => k_is)
    (case k__law_recipe => k_is)
    (case a__law_compiled => k_is)
    (case l__law_compiled => k_is)
    (case d__law_compiled => k_is)
    (case k__law_compiled => k_is)
    (case a__law_tape_agrees => k_is)
    (case l__law_tape_agrees => k_is)
    (case d__law_tape_agrees => k_is)
    (case k__law_tape_agrees => k_is)
    (case a_law => k_is)
    (case l_law => k_is)
    (case d_law => k_is)
    (case k_law => k_is)
    (case h4 => first | rfl | k_is)
    (case k1 => kit_is)
    (case k2 => kit_is)
