import PyProof.Rows.All
import Wide.All
import OpenK.AllK
import Wide.FinOn
import HandS.ForMost
import HandS.Walk
import HandS.Deep
import HandS.IsInst
import HandS.SortInts
import HandS.TupAny
import HandS.Text
import HandS.Wide
import HandS.TupLe
import HandS.More
import HandS.Conv
import HandS.TupLen
import HandS.SetFor
import PySem.Challenge.RW_boxwright_k06_what_is_reached
set_option Elab.async false
set_option linter.all false
set_option maxRecDepth 100000
set_option maxHeartbeats 4000000
namespace VL
open PySem PySem.Spec PyProof.Rows L2

/-! ### data without addresses -/
inductive D where
  | non
  | bl (b : Bool)
  | int (i : Int)
  | str (x : Str)
  | tup (xs : List D)
  | lst (xs : List D)
  | dk (kvs : List (Key × D))
  | dt (kvs : List (List Key × D))
  /-- the script -/
  | scr (ns : List Int)
  /-- a written tuple of the module -/
  | ktup (xs : List D)

def Ex (H H' : Hp) : Prop := ∀ a o, H a = some o → H' a = some o
theorem Ex.refl (H : Hp) : Ex H H := fun _ _ h => h
theorem Ex.trans {H H1 H2 : Hp} (a : Ex H H1) (b : Ex H1 H2) : Ex H H2 := fun x o h => b x o (a x o h)
theorem Ex.new {H : Hp} {p : Addr} {o : HO} (h : H p = none) : Ex H (upd H p o) := fun a u e => by
  rw [upd_ne (ne_of_none e h)]
  exact e
theorem ex_rd {H H' : Hp} {a : Addr} {u : HO} (e : Ex H H') (h : Rd H a u) : Rd H' a u := by
  rcases h with h | ⟨o, h⟩
  · exact Or.inl (e a _ h)
  · exact Or.inr ⟨o, e a _ h⟩
theorem ex_l {K : PySem.W.Frag} {H H' : Hp} {a : Addr} {xs : List V} (e : Ex H H') (h : SqL K H a xs) : SqL K H' a xs := by
  rcases h with h | h
  · exact Or.inl (ex_rd e h)
  · exact Or.inr h
theorem ex_t {K : PySem.W.Frag} {H H' : Hp} {a : Addr} {xs : List V} (e : Ex H H') (h : SqT K H a xs) : SqT K H' a xs := by
  rcases h with h | h
  · exact Or.inl (ex_rd e h)
  · exact Or.inr h

mutual
inductive Den (K : PySem.W.Frag) (F : Hp) : V → D → Prop
  | non : Den K F .non .non
  | bl (b : Bool) : Den K F (.bl b) (.bl b)
  | int (i : Int) : Den K F (.int i) (.int i)
  | str (x : Str) : Den K F (.str x) (.str x)
  | lst {a : Addr} {xs : List V} {ds : List D} : F a = some (.lst xs) → Dens K F xs ds → Den K F (.ref a) (.lst ds)
  | tup {a : Addr} {xs : List V} {ds : List D} : F a = some (.tup xs) → Dens K F xs ds → Den K F (.ref a) (.tup ds)
  | dk {a : Addr} {kxs : List (Key × V)} {kvs : List (Key × D)} : Rd F a (.dK kxs) → kxs.map (·.1) = kvs.map (·.1) → Dens K F (kxs.map (·.2)) (kvs.map (·.2)) → Den K F (.ref a) (.dk kvs)
  | dt {a : Addr} {kxs : List (List Key × V)} {kvs : List (List Key × D)} : Rd F a (.dT kxs) → kxs.map (·.1) = kvs.map (·.1) → Dens K F (kxs.map (·.2)) (kvs.map (·.2)) → Den K F (.ref a) (.dt kvs)
  | scr {a : Addr} {ns : List Int} : SqL K F a (ns.map V.int) → Den K F (.ref a) (.scr ns)
  | ktup {a : Addr} {xs : List V} {ds : List D} : SqT K F a xs → Dens K F xs ds → Den K F (.ref a) (.ktup ds)
inductive Dens (K : PySem.W.Frag) (F : Hp) : List V → List D → Prop
  | nil : Dens K F [] []
  | cons {v : V} {vs : List V} {d : D} {ds : List D} : Den K F v d → Dens K F vs ds → Dens K F (v :: vs) (d :: ds)
end

section
variable {K : PySem.W.Frag} {F F' H H' : Hp}
mutual
theorem Den.mono (e : Ex F F') : ∀ {v : V} {d : D}, Den K F v d → Den K F' v d
  | _, _, .non => .non
  | _, _, .bl b => .bl b
  | _, _, .int i => .int i
  | _, _, .str x => .str x
  | _, _, .lst h r => .lst (e _ _ h) (Dens.mono e r)
  | _, _, .tup h r => .tup (e _ _ h) (Dens.mono e r)
  | _, _, .dk h k r => .dk (ex_rd e h) k (Dens.mono e r)
  | _, _, .dt h k r => .dt (ex_rd e h) k (Dens.mono e r)
  | _, _, .scr h => .scr (ex_l e h)
  | _, _, .ktup h r => .ktup (ex_t e h) (Dens.mono e r)
theorem Dens.mono (e : Ex F F') : ∀ {vs : List V} {ds : List D}, Dens K F vs ds → Dens K F' vs ds
  | _, _, .nil => .nil
  | _, _, .cons h r => .cons (Den.mono e h) (Dens.mono e r)
end
theorem Dens.length : ∀ {vs : List V} {ds : List D}, Dens K F vs ds → vs.length = ds.length
  | _, _, .nil => rfl
  | _, _, .cons _ r => congrArg (· + 1) (Dens.length r)
theorem Dens.get : ∀ {vs : List V} {ds : List D} {i : Nat} {d : D}, Dens K F vs ds → ds[i]? = some d → ∃ v, vs[i]? = some v ∧ Den K F v d
  | _, _, _, _, .nil, e => by simp at e
  | _, _, 0, _, .cons h _, e => by simp at e; subst e; exact ⟨_, rfl, h⟩
  | _, _, i + 1, d, .cons _ r, e => by
    obtain ⟨v, h1, h2⟩ := Dens.get (i := i) (d := d) r (by simpa using e)
    exact ⟨v, by simpa using h1, h2⟩
theorem Dens.get' : ∀ {vs : List V} {ds : List D} {i : Nat} {v : V}, Dens K F vs ds → vs[i]? = some v → ∃ d, ds[i]? = some d ∧ Den K F v d
  | _, _, _, _, .nil, e => by simp at e
  | _, _, 0, _, .cons h _, e => by simp at e; subst e; exact ⟨_, rfl, h⟩
  | _, _, i + 1, d, .cons _ r, e => by
    obtain ⟨v, h1, h2⟩ := Dens.get' (i := i) r (by simpa using e)
    exact ⟨v, by simpa using h1, h2⟩
theorem Dens.append : ∀ {vs ws : List V} {ds es : List D}, Dens K F vs ds → Dens K F ws es → Dens K F (vs ++ ws) (ds ++ es)
  | _, _, _, _, .nil, r => r
  | _, _, _, _, .cons h t, r => .cons h (Dens.append t r)
theorem Dens.take (n : Nat) : ∀ {vs : List V} {ds : List D}, Dens K F vs ds → Dens K F (vs.take n) (ds.take n) := by
  induction n with
  | zero => intro vs ds _; simpa using Dens.nil
  | succ n ih =>
    intro vs ds h
    cases h with
    | nil => exact .nil
    | cons h t => exact .cons h (ih t)
theorem Dens.drop (n : Nat) : ∀ {vs : List V} {ds : List D}, Dens K F vs ds → Dens K F (vs.drop n) (ds.drop n) := by
  induction n with
  | zero => intro vs ds h; exact h
  | succ n ih =>
    intro vs ds h
    cases h with
    | nil => exact .nil
    | cons h t => exact ih t
theorem Dens.set {v : V} {d : D} (h : Den K F v d) : ∀ {vs : List V} {ds : List D} (i : Nat), Dens K F vs ds → Dens K F (vs.set i v) (ds.set i d)
  | _, _, _, .nil => .nil
  | _, _, 0, .cons _ t => .cons h t
  | _, _, i + 1, .cons q t => .cons q (Dens.set h i t)
theorem Dens.ints : ∀ {vs : List V} {ns : List Int}, Dens K F vs (ns.map D.int) → vs = ns.map V.int
  | _, [], .nil => rfl
  | _, n :: ns, .cons h t => by
    cases h
    rw [Dens.ints t]
    rfl
theorem Dens.of_ints (ns : List Int) : Dens K F (ns.map V.int) (ns.map D.int) := by
  induction ns with
  | nil => exact .nil
  | cons n ns ih => exact .cons (.int n) ih

/-! ### what is owned, some levels deep -/
inductive LO (R : V → D → List Addr → Prop) : List V → List D → List Addr → Prop
  | nil : LO R [] [] []
  | cons {v : V} {vs : List V} {d : D} {ds : List D} {f g : List Addr} : R v d f → LO R vs ds g → LO R (v :: vs) (d :: ds) (f ++ g)
def Own (K : PySem.W.Frag) (F H : Hp) : Nat → V → D → List Addr → Prop
  | 0, v, d, fp => Den K F v d ∧ fp = []
  | n + 1, v, .lst ds, fp => ∃ a xs g, v = .ref a ∧ H a = some (.lst xs) ∧ F a = none ∧ LO (Own K F H n) xs ds g ∧ fp = a :: g
  | n + 1, v, .tup ds, fp => ∃ a xs g, v = .ref a ∧ H a = some (.tup xs) ∧ F a = none ∧ LO (Own K F H n) xs ds g ∧ fp = a :: g
  | n + 1, v, .dk kvs, fp => ∃ a kxs g, v = .ref a ∧ H a = some (.dK kxs) ∧ F a = none ∧ kxs.map (·.1) = kvs.map (·.1) ∧ LO (Own K F H n) (kxs.map (·.2)) (kvs.map (·.2)) g ∧ fp = a :: g
  | n + 1, v, .dt kvs, fp => ∃ a kxs g, v = .ref a ∧ H a = some (.dT kxs) ∧ F a = none ∧ kxs.map (·.1) = kvs.map (·.1) ∧ LO (Own K F H n) (kxs.map (·.2)) (kvs.map (·.2)) g ∧ fp = a :: g
  | _ + 1, v, d, fp => Den K F v d ∧ fp = []

theorem LO.map {R R' : V → D → List Addr → Prop} : ∀ {vs : List V} {ds : List D} {g : List Addr}, LO R vs ds g → (∀ v d f, R v d f → (∀ a ∈ f, a ∈ g) → R' v d f) → LO R' vs ds g
  | _, _, _, .nil, _ => .nil
  | _, _, _, .cons h t, k => .cons (k _ _ _ h fun a ha => List.mem_append_left _ ha) (LO.map t fun v d f r q => k v d f r fun a ha => List.mem_append_right _ (q a ha))
theorem LO.length {R : V → D → List Addr → Prop} : ∀ {vs : List V} {ds : List D} {g : List Addr}, LO R vs ds g → vs.length = ds.length
  | _, _, _, .nil => rfl
  | _, _, _, .cons _ t => congrArg (· + 1) (LO.length t)
/-- its addresses are in the heap, not in the frozen part -/
theorem LO.mem {R : V → D → List Addr → Prop} {P : Addr → Prop} (k : ∀ v d f, R v d f → ∀ a ∈ f, P a) : ∀ {vs : List V} {ds : List D} {g : List Addr}, LO R vs ds g → ∀ a ∈ g, P a
  | _, _, _, .nil, a, h => by simp at h
  | _, _, _, .cons h t, a, ha => by
    rcases List.mem_append.mp ha with z | z
    · exact k _ _ _ h a z
    · exact LO.mem k t a z
theorem Own.mem : ∀ (n : Nat) {v : V} {d : D} {fp : List Addr}, Own K F H n v d fp → ∀ a ∈ fp, F a = none ∧ ∃ o, H a = some o
  | 0, v, d, fp, h, a, ha => by obtain ⟨_, rfl⟩ := h; simp at ha
  | n + 1, v, d, fp, h, a, ha => by
    have ih : ∀ v d f, Own K F H n v d f → ∀ a ∈ f, F a = none ∧ ∃ o, H a = some o := fun v d f h => Own.mem n h
    cases d with
    | lst ds =>
      obtain ⟨b, xs, g, rfl, hb, fb, r, rfl⟩ := h
      rcases List.mem_cons.mp ha with rfl | z
      · exact ⟨fb, _, hb⟩
      · exact LO.mem ih r a z
    | tup ds =>
      obtain ⟨b, xs, g, rfl, hb, fb, r, rfl⟩ := h
      rcases List.mem_cons.mp ha with rfl | z
      · exact ⟨fb, _, hb⟩
      · exact LO.mem ih r a z
    | dk ds =>
      obtain ⟨b, xs, g, rfl, hb, fb, _, r, rfl⟩ := h
      rcases List.mem_cons.mp ha with rfl | z
      · exact ⟨fb, _, hb⟩
      · exact LO.mem ih r a z
    | dt ds =>
      obtain ⟨b, xs, g, rfl, hb, fb, _, r, rfl⟩ := h
      rcases List.mem_cons.mp ha with rfl | z
      · exact ⟨fb, _, hb⟩
      · exact LO.mem ih r a z
    | _ => obtain ⟨_, rfl⟩ := h; simp at ha
/-- carried to another frozen part and heap that keep it -/
theorem Own.frame (e : Ex F F') : ∀ (n : Nat) {v : V} {d : D} {fp : List Addr}, Own K F H n v d fp → (∀ a ∈ fp, F' a = none ∧ H' a = H a) → Own K F' H' n v d fp
  | 0, v, d, fp, h, k => ⟨h.1.mono e, h.2⟩
  | n + 1, v, d, fp, h, k => by
    have ih : ∀ {g : List Addr}, (∀ a ∈ g, F' a = none ∧ H' a = H a) → ∀ v d f, Own K F H n v d f → (∀ a ∈ f, a ∈ g) → Own K F' H' n v d f := fun kg v d f h s => Own.frame e n h fun a ha => kg a (s a ha)
    cases d with
    | lst ds =>
      obtain ⟨b, xs, g, rfl, hb, fb, r, rfl⟩ := h
      have kb := k b List.mem_cons_self
      exact ⟨b, xs, g, rfl, kb.2.trans hb, kb.1, r.map (ih fun a ha => k a (List.mem_cons_of_mem _ ha)), rfl⟩
    | tup ds =>
      obtain ⟨b, xs, g, rfl, hb, fb, r, rfl⟩ := h
      have kb := k b List.mem_cons_self
      exact ⟨b, xs, g, rfl, kb.2.trans hb, kb.1, r.map (ih fun a ha => k a (List.mem_cons_of_mem _ ha)), rfl⟩
    | dk ds =>
      obtain ⟨b, xs, g, rfl, hb, fb, q, r, rfl⟩ := h
      have kb := k b List.mem_cons_self
      exact ⟨b, xs, g, rfl, kb.2.trans hb, kb.1, q, r.map (ih fun a ha => k a (List.mem_cons_of_mem _ ha)), rfl⟩
    | dt ds =>
      obtain ⟨b, xs, g, rfl, hb, fb, q, r, rfl⟩ := h
      have kb := k b List.mem_cons_self
      exact ⟨b, xs, g, rfl, kb.2.trans hb, kb.1, q, r.map (ih fun a ha => k a (List.mem_cons_of_mem _ ha)), rfl⟩
    | _ => exact ⟨h.1.mono e, h.2⟩
theorem LO.dens {R : V → D → List Addr → Prop} (k : ∀ v d f, R v d f → Den K F v d) : ∀ {vs : List V} {ds : List D} {g : List Addr}, LO R vs ds g → Dens K F vs ds
  | _, _, _, .nil => .nil
  | _, _, _, .cons h t => .cons (k _ _ _ h) (LO.dens k t)
/-- what is owned may be read off the whole -/
theorem Own.den (e : Ex F F') : ∀ (n : Nat) {v : V} {d : D} {fp : List Addr}, Own K F H n v d fp → (∀ a ∈ fp, ∀ o, H a = some o → F' a = some o) → Den K F' v d
  | 0, v, d, fp, h, k => h.1.mono e
  | n + 1, v, d, fp, h, k => by
    cases d with
    | lst ds =>
      obtain ⟨b, xs, g, rfl, hb, fb, r, rfl⟩ := h
      exact .lst (k b List.mem_cons_self _ hb) ((r.map (R' := fun v d _ => Den K F' v d) fun v d f h s => Own.den e n h fun a ha => k a (List.mem_cons_of_mem _ (s a ha))).dens fun _ _ _ q => q)
    | tup ds =>
      obtain ⟨b, xs, g, rfl, hb, fb, r, rfl⟩ := h
      exact .tup (k b List.mem_cons_self _ hb) ((r.map (R' := fun v d _ => Den K F' v d) fun v d f h s => Own.den e n h fun a ha => k a (List.mem_cons_of_mem _ (s a ha))).dens fun _ _ _ q => q)
    | dk ds =>
      obtain ⟨b, xs, g, rfl, hb, fb, q, r, rfl⟩ := h
      exact .dk (.inl (k b List.mem_cons_self _ hb)) q ((r.map (R' := fun v d _ => Den K F' v d) fun v d f h s => Own.den e n h fun a ha => k a (List.mem_cons_of_mem _ (s a ha))).dens fun _ _ _ q => q)
    | dt ds =>
      obtain ⟨b, xs, g, rfl, hb, fb, q, r, rfl⟩ := h
      exact .dt (.inl (k b List.mem_cons_self _ hb)) q ((r.map (R' := fun v d _ => Den K F' v d) fun v d f h s => Own.den e n h fun a ha => k a (List.mem_cons_of_mem _ (s a ha))).dens fun _ _ _ q => q)
    | _ => exact h.1.mono e
end

/-! ### a step: the frozen part and the heap grow; what stood outside the frozen part stays outside -/
structure Stp (F H F' H' : Hp) : Prop where
  ff : Ex F F'
  hh : Ex H H'
  fh : Ex F' H'
  nw : ∀ a o, H a = some o → F a = none → F' a = none
section
variable {K : PySem.W.Frag} {F F' F1 F2 H H' H1 H2 : Hp}
theorem Stp.refl (h : Ex F H) : Stp F H F H := ⟨Ex.refl _, Ex.refl _, h, fun _ _ _ q => q⟩
theorem Stp.trans (a : Stp F H F1 H1) (b : Stp F1 H1 F2 H2) : Stp F H F2 H2 :=
  ⟨a.ff.trans b.ff, a.hh.trans b.hh, b.fh, fun x o h n => b.nw x o (a.hh x o h) (a.nw x o h n)⟩
theorem Own.step {n : Nat} {v : V} {d : D} {fp : List Addr} (s : Stp F H F' H') (h : Own K F H n v d fp) : Own K F' H' n v d fp :=
  h.frame s.ff n fun a ha => by
    obtain ⟨z, o, q⟩ := h.mem n a ha
    exact ⟨s.nw a o q z, (s.hh a o q).trans q.symm⟩
theorem Own.here {n : Nat} {v : V} {d : D} {fp : List Addr} (e : Ex F H) (h : Own K F H n v d fp) : Den K H v d := h.den e n fun _ _ _ q => q
/-- a new object outside the frozen part -/
theorem Stp.alloc {p : Addr} {o : HO} (e : Ex F H) (h : H p = none) : Stp F H F (upd H p o) := ⟨Ex.refl _, Ex.new h, e.trans (Ex.new h), fun _ _ _ q => q⟩
theorem none_back (e : Ex F H) {p : Addr} (h : H p = none) : F p = none := by
  cases q : F p with
  | none => rfl
  | some o => rw [e p o q] at h; cases h
/-- a new object in the frozen part -/
theorem Stp.allocF {p : Addr} {o : HO} (e : Ex F H) (h : H p = none) : Stp F H (upd F p o) (upd H p o) := by
  have hf := none_back e h
  refine ⟨Ex.new hf, Ex.new h, fun a u q => ?_, fun a u q n => ?_⟩
  · by_cases ha : a = p
    · subst ha
      rw [upd_same] at q ⊢
      exact q
    · rw [upd_ne ha] at q ⊢
      exact e a u q
  · rw [upd_ne (ne_of_none q h)]
    exact n
/-- the frozen part takes in what stands at fp -/
def frzAt (F H : Hp) (fp : List Addr) : Hp := fun a => if a ∈ fp then H a else F a
theorem frzAt_ex {fp : List Addr} (h : ∀ a ∈ fp, F a = none) : Ex F (frzAt F H fp) := fun a o q => by
  unfold frzAt
  by_cases ha : a ∈ fp
  · rw [h a ha] at q; cases q
  · rw [if_neg ha]; exact q
theorem frzAt_sub {fp : List Addr} (e : Ex F H) : Ex (frzAt F H fp) H := fun a o q => by
  unfold frzAt at q
  by_cases ha : a ∈ fp
  · rw [if_pos ha] at q; exact q
  · rw [if_neg ha] at q; exact e a o q
theorem frzAt_out {fp : List Addr} {a : Addr} (ha : a ∉ fp) : frzAt F H fp a = F a := by unfold frzAt; rw [if_neg ha]
theorem frzAt_in {fp : List Addr} {a : Addr} (ha : a ∈ fp) : frzAt F H fp a = H a := by unfold frzAt; rw [if_pos ha]
theorem Own.frz {n : Nat} {v : V} {d : D} {fp : List Addr} (h : Own K F H n v d fp) : Den K (frzAt F H fp) v d :=
  h.den (frzAt_ex fun a ha => (h.mem n a ha).1) n fun a ha o q => by rw [frzAt_in ha]; exact q
end
end VL
namespace VL
open PySem PySem.Spec PyProof.Rows L2

/-! ### slots -/
structure Sl where
  n : Nat
  d : D
abbrev Ev := List (Option Sl)
inductive Tg where
  | fz | fr (n : Nat) | pk (n : Nat)
abbrev R := Option (Tg × D)

def SlotOk (K : PySem.W.Frag) (F H : Hp) (sv : Option V) (s : Option Sl) (fp : List Addr) : Prop :=
  match s with
  | none => fp = []
  | some s => ∃ v, sv = some v ∧ Own K F H s.n v s.d fp
inductive EnvL (K : PySem.W.Frag) (F H : Hp) : List (Option V) → Ev → List Addr → Prop
  | nil : EnvL K F H [] [] []
  | cons {sv : Option V} {σ : List (Option V)} {s : Option Sl} {env : Ev} {f g : List Addr} : SlotOk K F H sv s f → EnvL K F H σ env g → EnvL K F H (sv :: σ) (s :: env) (f ++ g)
/-- the value of a tag -/
def VO (K : PySem.W.Frag) (F H : Hp) (t : Tg) (v : V) (d : D) (fp : List Addr) : Prop :=
  match t with
  | .fz => Den K F v d ∧ fp = []
  | .fr n => Own K F H n v d fp
  | .pk n => (∃ g, Own K F H n v d g) ∧ fp = []
section
variable {K : PySem.W.Frag} {F F' H H' : Hp} {σ : List (Option V)} {env : Ev} {fp : List Addr}
theorem EnvL.mem : ∀ {σ : List (Option V)} {env : Ev} {fp : List Addr}, EnvL K F H σ env fp → ∀ a ∈ fp, F a = none ∧ ∃ o, H a = some o
  | _, _, _, .nil, a, h => by simp at h
  | _, _, _, .cons (s := s) h t, a, ha => by
    rcases List.mem_append.mp ha with z | z
    · cases s with
      | none => rw [show _ = [] from h] at z; simp at z
      | some s =>
        obtain ⟨v, _, o⟩ := h
        exact o.mem _ a z
    · exact EnvL.mem t a z
theorem SlotOk.frame {sv : Option V} {s : Option Sl} {f : List Addr} (e : Ex F F') (h : SlotOk K F H sv s f) (k : ∀ a ∈ f, F' a = none ∧ H' a = H a) : SlotOk K F' H' sv s f := by
  cases s with
  | none => exact h
  | some s =>
    obtain ⟨v, e1, o⟩ := h
    exact ⟨v, e1, o.frame e _ k⟩
theorem EnvL.frame (e : Ex F F') : ∀ {σ : List (Option V)} {env : Ev} {fp : List Addr}, EnvL K F H σ env fp → (∀ a ∈ fp, F' a = none ∧ H' a = H a) → EnvL K F' H' σ env fp
  | _, _, _, .nil, _ => .nil
  | _, _, _, .cons h t, k => .cons (h.frame e fun a ha => k a (List.mem_append_left _ ha)) (EnvL.frame e t fun a ha => k a (List.mem_append_right _ ha))
theorem EnvL.step (s : Stp F H F' H') (h : EnvL K F H σ env fp) : EnvL K F' H' σ env fp := h.frame s.ff fun a ha => by
  obtain ⟨z, o, q⟩ := h.mem a ha
  exact ⟨s.nw a o q z, (s.hh a o q).trans q.symm⟩
theorem EnvL.length : ∀ {σ : List (Option V)} {env : Ev} {fp : List Addr}, EnvL K F H σ env fp → σ.length = env.length
  | _, _, _, .nil => rfl
  | _, _, _, .cons _ t => congrArg (· + 1) (EnvL.length t)
/-- one slot taken out, and what is put there -/
theorem EnvL.pick : ∀ {σ : List (Option V)} {env : Ev} {fp : List Addr} {i : Nat} {s : Option Sl}, EnvL K F H σ env fp → env[i]? = some s → ∃ sv f pre post, σ[i]? = some sv ∧ SlotOk K F H sv s f ∧ fp = pre ++ (f ++ post) ∧
    ∀ {F' H' : Hp} {sv' : Option V} {s' : Option Sl} {f' : List Addr}, Ex F F' → (∀ a ∈ pre ++ post, F' a = none ∧ H' a = H a) → SlotOk K F' H' sv' s' f' → EnvL K F' H' (σ.set i sv') (env.set i s') (pre ++ (f' ++ post))
  | _, _, _, _, _, .nil, e => by simp at e
  | _, _, _, 0, s, .cons (sv := sv) (f := f) (g := g) h t, e => by
    simp at e
    subst e
    exact ⟨sv, f, [], g, rfl, h, rfl, fun {F' H' sv' s' f'} ef k h' => show EnvL K F' H' (_ :: _) (_ :: _) (f' ++ g) from EnvL.cons h' (t.frame ef fun a ha => k a (by simpa using ha))⟩
  | _, _, _, i + 1, s, .cons (f := f) (g := g) h t, e => by
    obtain ⟨sv, f1, pre, post, h1, h2, h3, h4⟩ := EnvL.pick (i := i) (s := s) t (by simpa using e)
    refine ⟨sv, f1, f ++ pre, post, by simpa using h1, h2, by rw [h3]; simp, fun {F' H' sv' s' f'} ef k h' => ?_⟩
    have q := h4 ef (fun a ha => k a (by rw [List.append_assoc]; exact List.mem_append_right _ ha)) h'
    have q2 : EnvL K F' H' (_ :: _) (_ :: _) (f ++ _) := .cons (h.frame ef fun a ha => k a (by simp [ha])) q
    simpa using q2
theorem VO.mem {t : Tg} {v : V} {d : D} (h : VO K F H t v d fp) : ∀ a ∈ fp, F a = none ∧ ∃ o, H a = some o := by
  cases t with
  | fz => intro a ha; rw [h.2] at ha; simp at ha
  | fr n => exact Own.mem n h
  | pk n => intro a ha; rw [h.2] at ha; simp at ha
theorem VO.step {t : Tg} {v : V} {d : D} (s : Stp F H F' H') (h : VO K F H t v d fp) : VO K F' H' t v d fp := by
  cases t with
  | fz => exact ⟨h.1.mono s.ff, h.2⟩
  | fr n => exact Own.step s h
  | pk n =>
    obtain ⟨⟨g, o⟩, e⟩ := h
    exact ⟨⟨g, o.step s⟩, e⟩
/-- any value is read in the heap as it stands -/
theorem VO.here {t : Tg} {v : V} {d : D} (e : Ex F H) (h : VO K F H t v d fp) : Den K H v d := by
  cases t with
  | fz => exact h.1.mono e
  | fr n => exact Own.here e h
  | pk n =>
    obtain ⟨⟨g, o⟩, _⟩ := h
    exact o.here e
end

/-! ### an expression's value by the slots -/
def tV (K : PySem.W.Frag) (f : Ev → R) : TE := fun σ H Q => ∃ F env fp t d, Ex F H ∧ EnvL K F H σ env fp ∧ fp.Nodup ∧ f env = some (t, d) ∧
  ∀ F' H' v g, Stp F H F' H' → VO K F' H' t v d g → g.Nodup → (∀ a ∈ g, H a = none) → Q v H'
def tT (K : PySem.W.Frag) (f : Ev → Option Bool) : TT := fun σ H Q => ∃ F env fp b, Ex F H ∧ EnvL K F H σ env fp ∧ fp.Nodup ∧ f env = some b ∧ ∀ F' H', Stp F H F' H' → Q b H'
inductive VAll (K : PySem.W.Frag) (F H : Hp) : List V → List (Tg × D) → List Addr → Prop
  | nil : VAll K F H [] [] []
  | cons {v : V} {vs : List V} {t : Tg} {d : D} {ds : List (Tg × D)} {f g : List Addr} : VO K F H t v d f → VAll K F H vs ds g → VAll K F H (v :: vs) ((t, d) :: ds) (f ++ g)
def tA (K : PySem.W.Frag) (f : Ev → Option (List (Tg × D))) : TA := fun σ H Q => ∃ F env fp ds, Ex F H ∧ EnvL K F H σ env fp ∧ fp.Nodup ∧ f env = some ds ∧
  ∀ F' H' vs g, Stp F H F' H' → VAll K F' H' vs ds g → g.Nodup → (∀ a ∈ g, H a = none) → Q vs H'

section
variable {X : Cx} {e : Expr} {st : Stmt} {sts : List Stmt} {es : List Expr}
theorem pe_mono {t t' : TE} (h : PE X e t) (k : ∀ σ H Q, t' σ H Q → t σ H Q) : PE X e t' := ⟨fun pins s σ H Q I q => h.run pins s σ H Q I (k σ H Q q)⟩
theorem pt_mono {t t' : TT} (h : PT X e t) (k : ∀ σ H Q, t' σ H Q → t σ H Q) : PT X e t' := ⟨fun pins s σ H Q I q => h.run pins s σ H Q I (k σ H Q q)⟩
theorem pa_mono {t t' : TA} (h : PA X es t) (k : ∀ σ H Q, t' σ H Q → t σ H Q) : PA X es t' := ⟨fun pos pins s σ H Q I q => h.run pos pins s σ H Q I (k σ H Q q)⟩
theorem ps_mono {t t' : TS} (h : PS X st t) (k : ∀ D σ H, t' D σ H → t D σ H) : PS X st t' := ⟨fun pins s σ H D I q => h.run pins s σ H D I (k D σ H q)⟩
theorem pss_mono {t t' : TS} (h : PSs X sts t) (k : ∀ D σ H, t' D σ H → t D σ H) : PSs X sts t' := ⟨fun pins s σ H D I q => h.run pins s σ H D I (k D σ H q)⟩
end

/-! ### the semantic words -/
def rvar (n : Nat) (d : D) : R := match n with
  | 0 => some (.fz, d)
  | n + 1 => some (.pk (n + 1), d)
def fVar (i : Nat) : Ev → R := fun env => match env[i]? with
  | some (some s) => rvar s.n s.d
  | _ => none
def fC (d : D) : Ev → R := fun _ => some (.fz, d)
def isSc : D → Bool
  | .non => true | .bl _ => true | .int _ => true | .str _ => true | _ => false
section
variable {K : PySem.W.Frag} {σ : L2.St} {H : Hp} {Q : VK} {X : Cx}
theorem EnvL.var {F : Hp} {env : Ev} {fp : List Addr} {i : Nat} {s : Sl} (h : EnvL K F H σ env fp) (e : env[i]? = some (some s)) : ∃ v f, σ[i]? = some (some v) ∧ Own K F H s.n v s.d f := by
  obtain ⟨sv, f, pre, post, h1, ⟨v, rfl, o⟩, _⟩ := h.pick e
  exact ⟨v, f, h1, o⟩
theorem v_var {i : Nat} (h : tV K (fVar i) σ H Q) : tVar i σ H Q := by
  obtain ⟨F, env, fp, t, d, e, L, nd, hf, k⟩ := h
  unfold fVar at hf
  split at hf
  · rename_i s he
    obtain ⟨v, f, h1, o⟩ := L.var he
    refine ⟨v, h1, k F H v [] (Stp.refl e) ?_ .nil (by simp)⟩
    obtain ⟨n, d'⟩ := s
    cases n with
    | zero =>
      cases hf
      exact ⟨o.1, rfl⟩
    | succ n =>
      cases hf
      exact ⟨⟨f, o⟩, rfl⟩
  · cases hf
theorem v_c {v : V} {d : D} (hd : ∀ F, Den K F v d) (h : tV K (fC d) σ H Q) : tC v σ H Q := by
  obtain ⟨F, env, fp, t, d', e, L, nd, hf, k⟩ := h
  cases hf
  exact k F H v [] (Stp.refl e) ⟨hd F, rfl⟩ .nil (by simp)
theorem av (i : Nat) {x : Str} {pos : Pos} (hN : X.N[i]? = some x := by rfl) (hv : Vis X.env.scope x := by first | exact Or.inl rfl | exact Or.inr (Or.inl rfl) | exact Or.inr (Or.inr rfl)) (hd : (x == ("__debug__" : Str)) = false := by decide)
    (hcd : (x == ("__classdict__" : Str)) = false := by decide) : PE X (.Name x pos) (tV X.K (fVar i)) := pe_mono (pe_var hN hv hd hcd) fun _ _ _ => v_var
theorem a_int {i : Int} {j pos} : PE X (.Constant (.int i) j pos) (tV X.K (fC (.int i))) := pe_mono pe_int fun _ _ _ => v_c fun _ => .int i
theorem a_bl {b : Bool} {j pos} : PE X (.Constant (.bool b) j pos) (tV X.K (fC (.bl b))) := pe_mono pe_bl fun _ _ _ => v_c fun _ => .bl b
theorem a_non {j pos} : PE X (.Constant .none j pos) (tV X.K (fC .non)) := pe_mono pe_non fun _ _ _ => v_c fun _ => .non
theorem a_str {x : Str} {j pos} : PE X (.Constant (.str x) j pos) (tV X.K (fC (.str x))) := pe_mono pe_str fun _ _ _ => v_c fun _ => .str x
end

/-! ### an operation on two values -/
/-- g tells the value of r: a value that needs no object, or a new list, a new tuple of such as the operands hold -/
def O2 (K : PySem.W.Frag) (r : R2) (g : Tg → D → Tg → D → R) : Prop := ∀ {F H : Hp} {t u : Tg} {x y : V} {d e : D} {f f' : List Addr} {tg : Tg} {z : D} {Q : VK}, Ex F H → VO K F H t x d f → VO K F H u y e f' → g t d u e = some (tg, z) →
  (∀ F' H' v h, Stp F H F' H' → VO K F' H' tg v z h → h.Nodup → (∀ a ∈ h, H a = none) → Q v H') → r x y H Q
/-- of operands that are frozen (or read through) -/
def frd : Tg → D → Bool
  | .fz, _ => true
  | _, d => isSc d
def bind2 (f g : Ev → R) (h : Tg → D → Tg → D → R) : Ev → R := fun env => match f env with
  | some (t, d) => match g env with
    | some (u, e) => h t d u e
    | none => none
  | none => none
section
variable {K : PySem.W.Frag} {σ : L2.St} {H : Hp} {X : Cx} {a b : Expr} {pos : Pos} {fa fb : Ev → R} {r : R2} {g : Tg → D → Tg → D → R}
theorem v_two {R' : V → V → Hp → Prop} {Q : VK} (h : tV K (bind2 fa fb g) σ H Q)
    (k : ∀ {F H1 : Hp} {t u : Tg} {x y : V} {d e : D} {f f' : List Addr} {tg : Tg} {z : D}, Ex F H1 → VO K F H1 t x d f → VO K F H1 u y e f' → g t d u e = some (tg, z) →
      (∀ F' H' v h, Stp F H1 F' H' → VO K F' H' tg v z h → h.Nodup → (∀ a ∈ h, H1 a = none) → Q v H') → R' x y H1) : tV K fa σ H fun x H1 => tV K fb σ H1 fun y H2 => R' x y H2 := by
  obtain ⟨F, env, fp, t, z, e, L, nd, hf, kk⟩ := h
  unfold bind2 at hf
  split at hf
  · rename_i ta da ha
    split at hf
    · rename_i tb db hb
      refine ⟨F, env, fp, ta, da, e, L, nd, ha, fun F1 H1 x f1 s1 o1 n1 w1 => ?_⟩
      refine ⟨F1, env, fp, tb, db, s1.fh, L.step s1, nd, hb, fun F2 H2 y f2 s2 o2 n2 w2 => ?_⟩
      refine k s2.fh (o1.step s2) o2 hf fun F3 H3 v h s3 o3 n3 w3 => kk F3 H3 v h ((s1.trans s2).trans s3) o3 n3 fun a ha => ?_
      have z := w3 a ha
      cases q : H a with
      | none => rfl
      | some o => rw [s2.hh a o (s1.hh a o q)] at z; cases z
    · cases hf
  · cases hf
theorem v_op (ho : O2 K r g) {Q : VK} (h : tV K (bind2 fa fb g) σ H Q) : tOp r (tV K fa) (tV K fb) σ H Q :=
  v_two h fun e o1 o2 hg k => ho e o1 o2 hg k
theorem a_op {op : Operator} (ho : OpR X (binaryOp op) r) (h2 : O2 X.K r g) (ha : PE X a (tV X.K fa)) (hb : PE X b (tV X.K fb)) : PE X (.BinOp a op b pos) (tV X.K (bind2 fa fb g)) :=
  pe_mono (pe_op ho ha hb) fun _ _ _ => v_op h2
theorem a_cmp {op : CmpOp} (ho : OpR X (compareOp op) r) (h2 : O2 X.K r g) (ha : PE X a (tV X.K fa)) (hb : PE X b (tV X.K fb)) (hm : behindInMarks op b = false := by first | exact nomark _ | rfl) : PE X (.Compare a [op] [b] pos) (tV X.K (bind2 fa fb g)) :=
  pe_mono (pe_cmpR ho ha hb hm) fun _ _ _ => v_op h2
/-- a scalar outcome -/
theorem O2.sc (h : ∀ {F H : Hp} {t u : Tg} {x y : V} {d e : D} {f f' : List Addr} {tg : Tg} {z : D} {Q : VK}, Ex F H → VO K F H t x d f → VO K F H u y e f' → g t d u e = some (tg, z) → ∃ v, tg = .fz ∧ (∀ F, Den K F v z) ∧ (Q v H → r x y H Q)) : O2 K r g := by
  intro F H t u x y d e f f' tg z Q ex o1 o2 hg k
  obtain ⟨v, rfl, hd, hq⟩ := h (Q := Q) ex o1 o2 hg
  exact hq (k F H v [] (Stp.refl ex) ⟨hd F, rfl⟩ .nil (by simp))
end
/-! ints -/
theorem VO.int {K : PySem.W.Frag} {F H : Hp} {t : Tg} {v : V} {i : Int} {f : List Addr} (e : Ex F H) (h : VO K F H t v (.int i) f) : v = .int i := by
  have q := h.here e
  cases q
  rfl
theorem VO.bl {K : PySem.W.Frag} {F H : Hp} {t : Tg} {v : V} {i : Bool} {f : List Addr} (e : Ex F H) (h : VO K F H t v (.bl i) f) : v = .bl i := by
  have q := h.here e
  cases q
  rfl
theorem VO.str {K : PySem.W.Frag} {F H : Hp} {t : Tg} {v : V} {i : Str} {f : List Addr} (e : Ex F H) (h : VO K F H t v (.str i) f) : v = .str i := by
  have q := h.here e
  cases q
  rfl
def g2i (g : Int → Int → R) : Tg → D → Tg → D → R := fun _ d _ e => match d, e with
  | .int i, .int j => g i j
  | _, _ => none
theorem g2i_inv {g : Int → Int → R} {t u : Tg} {d e : D} {z : Tg × D} (h : g2i g t d u e = some z) : ∃ i j, d = .int i ∧ e = .int j ∧ g i j = some z := by
  unfold g2i at h
  split at h
  · exact ⟨_, _, rfl, rfl, h⟩
  · cases h
section
variable {K : PySem.W.Frag}
theorem O2.i0 {g : Int → Int → V} {g' : Int → Int → D} (h : ∀ i j F, Den K F (g i j) (g' i j)) : O2 K (rI0 g) (g2i fun i j => some (.fz, g' i j)) := by
  refine O2.sc fun ex o1 o2 hg => ?_
  obtain ⟨i, j, rfl, rfl, hz⟩ := g2i_inv hg
  cases hz
  exact ⟨g i j, rfl, h i j, fun q => ⟨i, j, o1.int ex, o2.int ex, q⟩⟩
theorem O2.i {C : Int → Int → Prop} {C' : Int → Int → Bool} {g : Int → Int → V} {g' : Int → Int → D} (hc : ∀ i j, C' i j = true → C i j) (h : ∀ i j F, Den K F (g i j) (g' i j)) : O2 K (rI C g) (g2i fun i j => if C' i j = true then some (.fz, g' i j) else none) := by
  refine O2.sc fun ex o1 o2 hg => ?_
  obtain ⟨i, j, rfl, rfl, hz⟩ := g2i_inv hg
  split at hz
  · rename_i hcc
    cases hz
    exact ⟨g i j, rfl, h i j, fun q => ⟨i, j, o1.int ex, o2.int ex, hc i j hcc, q⟩⟩
  · cases hz
end
end VL
namespace VL
open PySem PySem.Spec PyProof.Rows L2

section
variable {K : PySem.W.Frag} {F F' F1 H H' H1 : Hp}
theorem Den.sc {v : V} {d : D} (s : isSc d = true) (h : Den K F v d) : Den K F' v d := by
  cases h with
  | non => exact .non
  | bl b => exact .bl b
  | int i => exact .int i
  | str x => exact .str x
  | _ => cases s
theorem Own.sc {n : Nat} {v : V} {d : D} {fp : List Addr} (s : isSc d = true) (h : Own K F H n v d fp) : Den K F v d ∧ fp = [] := by
  cases n with
  | zero => exact h
  | succ n => cases d <;> first | exact h | cases s
theorem Own.of_sc (n : Nat) {v : V} {d : D} (s : isSc d = true) (h : Den K F v d) : Own K F H n v d [] := by
  cases n with
  | zero => exact ⟨h, rfl⟩
  | succ n => cases d <;> first | exact ⟨h, rfl⟩ | cases s
theorem LO.get {R : V → D → List Addr → Prop} : ∀ {vs : List V} {ds : List D} {g : List Addr} {i : Nat} {d : D}, LO R vs ds g → ds[i]? = some d → ∃ v f, vs[i]? = some v ∧ R v d f
  | _, _, _, _, _, .nil, e => by simp at e
  | _, _, _, 0, _, .cons h _, e => by simp at e; subst e; exact ⟨_, _, rfl, h⟩
  | _, _, _, i + 1, d, .cons _ r, e => by
    obtain ⟨v, f, h1, h2⟩ := LO.get (i := i) (d := d) r (by simpa using e)
    exact ⟨v, f, by simpa using h1, h2⟩
theorem LO.zero : ∀ {vs : List V} {ds : List D} {g : List Addr}, LO (Own K F H 0) vs ds g → Dens K F vs ds ∧ g = []
  | _, _, _, .nil => ⟨.nil, rfl⟩
  | _, _, _, .cons h t => by
    obtain ⟨h1, h2⟩ := LO.zero t
    exact ⟨.cons h.1 h1, by rw [h.2, h2]; rfl⟩
theorem LO.of_dens : ∀ {vs : List V} {ds : List D}, Dens K F vs ds → LO (Own K F H 0) vs ds []
  | _, _, .nil => .nil
  | _, _, .cons h t => LO.cons (f := []) ⟨h, rfl⟩ (LO.of_dens t)

/-- the level of a tag -/
def lvl : Tg → Nat
  | .fz => 0 | .fr n => n | .pk n => n
/-- a part of a value -/
def low (n : Nat) (d : D) : Tg := match n with
  | 0 => .fz
  | 1 => .fz
  | n + 2 => if isSc d = true then .fz else .pk (n + 1)
theorem VO.own {t : Tg} {v : V} {d : D} {f : List Addr} (h : VO K F H t v d f) : ∃ g, Own K F H (lvl t) v d g := by
  cases t with
  | fz => exact ⟨[], h.1, rfl⟩
  | fr n => exact ⟨f, h⟩
  | pk n => exact h.1
theorem VO.part {n : Nat} {v : V} {d : D} {g : List Addr} (h : Own K F H n v d g) : VO K F H (low (n + 1) d) v d [] := by
  cases n with
  | zero => exact ⟨h.1, rfl⟩
  | succ n =>
    show VO K F H (if isSc d = true then .fz else .pk (n + 1)) v d []
    by_cases s : isSc d = true
    · rw [if_pos s]
      exact ⟨(h.sc s).1, rfl⟩
    · rw [if_neg s]
      exact ⟨⟨g, h⟩, rfl⟩
theorem VO.part0 {v : V} {d : D} (h : Den K F v d) : VO K F H (low 0 d) v d [] := ⟨h, rfl⟩
/-- the items of a list, a tuple -/
theorem VO.lst {t : Tg} {v : V} {ds : List D} {f : List Addr} (e : Ex F H) (h : VO K F H t v (.lst ds) f) : ∃ a xs, v = .ref a ∧ H a = some (.lst xs) ∧ xs.length = ds.length ∧ Dens K H xs ds ∧ (∀ (i : Nat) (d : D), ds[i]? = some d → ∃ x, xs[i]? = some x ∧ VO K F H (low (lvl t) d) x d []) ∧
    (lvl t ≤ 1 → Dens K F xs ds) := by
  have hd := h.here e
  obtain ⟨g, o⟩ := h.own
  cases hl : lvl t with
  | zero =>
    rw [hl] at o
    obtain ⟨o1, _⟩ := o
    cases o1 with
    | lst ha r =>
      refine ⟨_, _, rfl, e _ _ ha, r.length, r.mono e, fun i d hi => ?_, fun _ => r⟩
      obtain ⟨x, h1, h2⟩ := r.get hi
      exact ⟨x, h1, VO.part0 h2⟩
  | succ n =>
    rw [hl] at o
    obtain ⟨a, xs, g', rfl, ha, fa, r, _⟩ := o
    cases hd with
    | lst hb rr =>
      rw [ha] at hb
      cases hb
      refine ⟨a, xs, rfl, ha, r.length, rr, fun i d hi => ?_, fun hn => ?_⟩
      · obtain ⟨x, f', h1, h2⟩ := r.get hi
        exact ⟨x, h1, VO.part h2⟩
      · have : n = 0 := by omega
        subst this
        exact r.zero.1
theorem VO.tup {t : Tg} {v : V} {ds : List D} {f : List Addr} (e : Ex F H) (h : VO K F H t v (.tup ds) f) : ∃ a xs, v = .ref a ∧ H a = some (.tup xs) ∧ xs.length = ds.length ∧ Dens K H xs ds ∧ (∀ (i : Nat) (d : D), ds[i]? = some d → ∃ x, xs[i]? = some x ∧ VO K F H (low (lvl t) d) x d []) ∧
    (lvl t ≤ 1 → Dens K F xs ds) := by
  have hd := h.here e
  obtain ⟨g, o⟩ := h.own
  cases hl : lvl t with
  | zero =>
    rw [hl] at o
    obtain ⟨o1, _⟩ := o
    cases o1 with
    | tup ha r =>
      refine ⟨_, _, rfl, e _ _ ha, r.length, r.mono e, fun i d hi => ?_, fun _ => r⟩
      obtain ⟨x, h1, h2⟩ := r.get hi
      exact ⟨x, h1, VO.part0 h2⟩
  | succ n =>
    rw [hl] at o
    obtain ⟨a, xs, g', rfl, ha, fa, r, _⟩ := o
    cases hd with
    | tup hb rr =>
      rw [ha] at hb
      cases hb
      refine ⟨a, xs, rfl, ha, r.length, rr, fun i d hi => ?_, fun hn => ?_⟩
      · obtain ⟨x, f', h1, h2⟩ := r.get hi
        exact ⟨x, h1, VO.part h2⟩
      · have : n = 0 := by omega
        subst this
        exact r.zero.1
theorem VO.ktup {t : Tg} {v : V} {ds : List D} {f : List Addr} (e : Ex F H) (h : VO K F H t v (.ktup ds) f) : ∃ a xs, v = .ref a ∧ SqT K H a xs ∧ Dens K F xs ds := by
  obtain ⟨g, o⟩ := h.own
  have q : Den K F v (.ktup ds) := by
    cases hl : lvl t with
    | zero => rw [hl] at o; exact o.1
    | succ n => rw [hl] at o; exact o.1
  cases q with
  | ktup ha r => exact ⟨_, _, rfl, ex_t e ha, r⟩
theorem VO.scr {t : Tg} {v : V} {ns : List Int} {f : List Addr} (e : Ex F H) (h : VO K F H t v (.scr ns) f) : ∃ a, v = .ref a ∧ SqL K H a (ns.map V.int) := by
  have q := h.here e
  cases q with
  | scr ha => exact ⟨_, rfl, ha⟩
/-- a new list, a new tuple of frozen items -/
theorem new_lst {Q : VK} {xs : List V} {ds : List D} (e : Ex F H) (r : Dens K F xs ds) (k : ∀ F' H' v h, Stp F H F' H' → VO K F' H' (.fr 1) v (.lst ds) h → h.Nodup → (∀ a ∈ h, H a = none) → Q v H') : ∀ p, H p = none → Q (.ref p) (upd H p (.lst xs)) := fun p hp =>
  k F (upd H p (.lst xs)) (.ref p) [p] (Stp.alloc e hp) ⟨p, xs, [], rfl, upd_same, none_back e hp, LO.of_dens r, rfl⟩ (by simp) (by simpa using hp)
theorem Den.upd {p : Addr} {o : HO} (h : F p = none) {v : V} {d : D} (x : Den K F v d) : Den K (upd F p o) v d := x.mono (Ex.new h)
theorem new_tup {Q : VK} {xs : List V} {ds : List D} (e : Ex F H) (r : Dens K F xs ds) (k : ∀ F' H' v h, Stp F H F' H' → VO K F' H' .fz v (.tup ds) h → h.Nodup → (∀ a ∈ h, H a = none) → Q v H') : ∀ p, H p = none → Q (.ref p) (upd H p (.tup xs)) := fun p hp =>
  k (upd F p (.tup xs)) (upd H p (.tup xs)) (.ref p) [] (Stp.allocF e hp) ⟨.tup upd_same (r.mono (Ex.new (none_back e hp))), rfl⟩ .nil (by simp)
end

/-! ### + - * // % -/
def gAdd : Tg → D → Tg → D → R := fun t d u e => match d, e with
  | .int i, .int j => some (.fz, .int (i + j))
  | .str a, .str b => if a.length + b.length ≤ sizeLine then some (.fz, .str (a ++ b)) else none
  | .lst xs, .lst ys => if lvl t ≤ 1 ∧ lvl u ≤ 1 ∧ xs.length + ys.length ≤ sizeLine then some (.fr 1, .lst (xs ++ ys)) else none
  | .tup xs, .tup ys => if lvl t = 0 ∧ lvl u = 0 ∧ xs.length + ys.length ≤ sizeLine then some (.fz, .tup (xs ++ ys)) else none
  | .int i, .bl b => some (.fz, .int (i + b2i b))
  | _, _ => none
def rAddA (K : PySem.W.Frag) : R2 := fun x y H Q => rI0 (fun i j => .int (i + j)) x y H Q ∨ (∃ i j, x = .str i ∧ y = .str j ∧ i.length + j.length ≤ sizeLine ∧ Q (.str (i ++ j)) H) ∨ rCat x y H Q ∨ rCatA K x y H Q ∨ (∃ i k, x = .int i ∧ y = .bl k ∧ Q (.int (i + b2i k)) H)
section
variable {X : Cx} {K : PySem.W.Frag}
theorem op_addA : OpR X (binaryOp .Add) (rAddA X.K) := op_add.or (op_add_str.or (op_cat.or (op_catA.or op_add_ib)))
theorem o_add : O2 K (rAddA K) gAdd := by
  intro F H t u x y d e f f' tg z Q ex o1 o2 hg k
  unfold gAdd at hg
  split at hg
  · cases hg
    exact .inl ⟨_, _, o1.int ex, o2.int ex, k F H _ [] (Stp.refl ex) ⟨.int _, rfl⟩ .nil (by simp)⟩
  · split at hg
    · rename_i hz
      cases hg
      exact .inr (.inl ⟨_, _, o1.str ex, o2.str ex, hz, k F H _ [] (Stp.refl ex) ⟨.str _, rfl⟩ .nil (by simp)⟩)
    · cases hg
  · split at hg
    · rename_i hz
      cases hg
      obtain ⟨a, xs, rfl, ha, la, _, _, ra⟩ := o1.lst ex
      obtain ⟨b, ys, rfl, hb, lb, _, _, rb⟩ := o2.lst ex
      exact .inr (.inr (.inl ⟨a, b, xs, ys, rfl, rfl, ha, hb, by rw [la, lb]; exact hz.2.2, new_lst ex ((ra hz.1).append (rb hz.2.1)) k⟩))
    · cases hg
  · split at hg
    · rename_i xs' ys' hz
      cases hg
      obtain ⟨a, xs, rfl, ha, la, _, _, ra⟩ := o1.tup ex
      obtain ⟨b, ys, rfl, hb, lb, _, _, rb⟩ := o2.tup ex
      have r1 : Dens K F xs xs' := ra (by omega)
      have r2 : Dens K F ys ys' := rb (by omega)
      have d1 : Den K F (.ref a) (.tup xs') := by
        obtain ⟨g, o⟩ := o1.own
        rw [hz.1] at o
        exact o.1
      have d2 : Den K F (.ref b) (.tup ys') := by
        obtain ⟨g, o⟩ := o2.own
        rw [hz.2.1] at o
        exact o.1
      refine .inr (.inr (.inr (.inl ⟨a, b, xs, ys, rfl, rfl, .of ha, .of hb, by rw [la, lb]; exact hz.2.2, fun e => ?_, fun _ e => ?_, fun _ _ => new_tup ex (r1.append r2) k⟩)))
      · subst e
        cases r1
        exact k F H _ [] (Stp.refl ex) ⟨d2, rfl⟩ .nil (by simp)
      · subst e
        cases r2
        refine k F H _ [] (Stp.refl ex) ⟨?_, rfl⟩ .nil (by simp)
        rw [List.append_nil]
        exact d1
    · cases hg
  · cases hg
    exact .inr (.inr (.inr (.inr ⟨_, _, o1.int ex, o2.bl ex, k F H _ [] (Stp.refl ex) ⟨.int _, rfl⟩ .nil (by simp)⟩)))
  · cases hg
def gSub : Tg → D → Tg → D → R := g2i fun i j => some (.fz, .int (i - j))
theorem o_sub : O2 K (rI0 fun i j => .int (i - j)) gSub := O2.i0 fun _ _ _ => .int _
def okMul (i j : Int) : Bool := (decide (-(2 ^ 64) < i) && decide (i < 2 ^ 64)) || (decide (-(2 ^ 64) < j) && decide (j < 2 ^ 64))
def gMul : Tg → D → Tg → D → R := fun t d u e => match d, e with
  | .int i, .int j => if okMul i j = true then some (.fz, .int (i * j)) else none
  | .lst xs, .int k => if lvl t ≤ 1 ∧ 0 ≤ k ∧ k < 2 ^ 62 ∧ xs.length * k.toNat ≤ sizeLine then some (.fr 1, .lst (List.replicate k.toNat xs).flatten) else none
  | .str a, .int k => none
  | _, _ => none
def rMulA : R2 := fun x y H Q => rI CMul (fun i j => .int (i * j)) x y H Q ∨ rRep x y H Q
theorem op_mulA : OpR X (binaryOp .Mult) rMulA := op_mul.or op_rep
theorem Dens.rep {F : Hp} {xs : List V} {ds : List D} (r : Dens K F xs ds) : ∀ k : Nat, Dens K F (List.replicate k xs).flatten (List.replicate k ds).flatten
  | 0 => .nil
  | k + 1 => by
    rw [List.replicate_succ, List.replicate_succ, List.flatten_cons, List.flatten_cons]
    exact r.append (Dens.rep r k)
theorem o_mul : O2 K rMulA gMul := by
  intro F H t u x y d e f f' tg z Q ex o1 o2 hg k
  unfold gMul at hg
  split at hg
  · split at hg
    · rename_i hz
      cases hg
      refine .inl ⟨_, _, o1.int ex, o2.int ex, ?_, k F H _ [] (Stp.refl ex) ⟨.int _, rfl⟩ .nil (by simp)⟩
      unfold okMul at hz
      simp only [Bool.or_eq_true, Bool.and_eq_true, decide_eq_true_eq] at hz
      exact hz
    · cases hg
  · split at hg
    · rename_i hz
      cases hg
      obtain ⟨a, xs, rfl, ha, la, _, _, ra⟩ := o1.lst ex
      refine .inr ⟨a, _, xs, rfl, o2.int ex, ha, by omega, by omega, by rw [la]; exact hz.2.2.2, ?_⟩
      exact new_lst ex (Dens.rep (ra hz.1) _) k
    · cases hg
  · cases hg
  · cases hg
end
end VL
namespace VL
open PySem PySem.Spec PyProof.Rows L2

/-! ### // and % -/
def okDiv (j : Int) : Bool := decide (j ≠ 0) && decide (j.natAbs < 2 ^ 9000)
def gFdiv : Tg → D → Tg → D → R := g2i fun i j => if okDiv j = true then some (.fz, .int (i.fdiv j)) else none
def CDivA (i j : Int) : Prop := j ≠ 0 ∧ j.natAbs < 2 ^ 9000
section
variable {X : Cx} {K : PySem.W.Frag}
theorem op_fdivA : OpR X (binaryOp .FloorDiv) (rI CDivA fun i j => .int (i.fdiv j)) := opI fun _ _ _ _ _ _ _ hc q =>
  floordiv_int hc.1 q (.inl (PyProof.noPylong_of_log2 (PySem.Flt.log2_lt_of (by omega) hc.2)))
theorem o_fdiv : O2 K (rI CDivA fun i j => .int (i.fdiv j)) gFdiv := O2.i (C' := fun _ j => okDiv j) (fun i j h => by
  unfold okDiv at h
  simp only [Bool.and_eq_true, decide_eq_true_eq] at h
  exact h) fun _ _ _ => .int _
def gMod : Tg → D → Tg → D → R := g2i fun i j => if decide (j ≠ 0) = true then some (.fz, .int (i.fmod j)) else none
theorem o_mod : O2 K (rI (fun _ j => j ≠ 0) fun i j => .int (i.fmod j)) gMod := O2.i (C' := fun _ j => decide (j ≠ 0)) (fun i j h => by simpa using h) fun _ _ _ => .int _
def gPow : Tg → D → Tg → D → R := g2i fun i j => if (decide (0 ≤ j) && decide (j ≤ 1000) && decide (i.natAbs < 2 ^ 64)) = true then some (.fz, .int (i ^ j.toNat)) else none
theorem o_pow : O2 K (rI CPow fun i j => .int (i ^ j.toNat)) gPow := O2.i (C' := fun i j => decide (0 ≤ j) && decide (j ≤ 1000) && decide (i.natAbs < 2 ^ 64)) (fun i j h => by
  simp only [Bool.and_eq_true, decide_eq_true_eq] at h
  exact ⟨h.1.1, by omega, h.2⟩) fun _ _ _ => .int _
/-! ### order of ints -/
def gLt : Tg → D → Tg → D → R := g2i fun i j => some (.fz, .bl (decide (i < j)))
def gLe : Tg → D → Tg → D → R := g2i fun i j => some (.fz, .bl (decide (i ≤ j)))
def gGt : Tg → D → Tg → D → R := g2i fun i j => some (.fz, .bl (decide (j < i)))
def gGe : Tg → D → Tg → D → R := g2i fun i j => some (.fz, .bl (decide (j ≤ i)))
theorem o_lt : O2 K (rI0 fun i j => .bl (decide (i < j))) gLt := O2.i0 fun _ _ _ => .bl _
theorem o_le : O2 K (rI0 fun i j => .bl (decide (i ≤ j))) gLe := O2.i0 fun _ _ _ => .bl _
theorem o_gt : O2 K (rI0 fun i j => .bl (decide (j < i))) gGt := O2.i0 fun _ _ _ => .bl _
theorem o_ge : O2 K (rI0 fun i j => .bl (decide (j ≤ i))) gGe := O2.i0 fun _ _ _ => .bl _
end

/-! ### equality of data -/
mutual
def okD : Nat → D → Bool
  | _, .non => true
  | _, .bl _ => true
  | _, .int _ => true
  | _, .str x => PyData.strOk x
  | 0, _ => false
  | n + 1, .tup xs => okDs n xs
  | n + 1, .lst xs => okDs n xs
  | n + 1, .ktup xs => okDs n xs
  | _ + 1, _ => false
def okDs : Nat → List D → Bool
  | _, [] => true
  | n, x :: xs => okD n x && okDs n xs
end
mutual
def toPy : D → PyData
  | .non => .none
  | .bl b => .bool b
  | .int i => .int i
  | .str x => .str x
  | .tup xs => .tuple (toPys xs)
  | .ktup xs => .tuple (toPys xs)
  | .lst xs => .list (toPys xs)
  | _ => .none
def toPys : List D → List PyData
  | [] => []
  | x :: xs => toPy x :: toPys xs
end
def eqD (d e : D) : Bool := PyData.eqv (toPy d) (toPy e)
def eqDs (d e : List D) : Bool := PyData.eqvAll (toPys d) (toPys e)
mutual
theorem okD_lay : ∀ (n : Nat) (d : D), okD n d = true → (toPy d).canLay0 = true ∧ (toPy d).depth ≤ n
  | n, .non, _ => by simp [toPy, PyData.canLay0, PyData.depth]
  | n, .bl _, _ => by simp [toPy, PyData.canLay0, PyData.depth]
  | n, .int _, _ => by simp [toPy, PyData.canLay0, PyData.depth]
  | n, .str x, h => by
    have q : PyData.strOk x = true := by cases n <;> simpa [okD] using h
    simp [toPy, PyData.canLay0, PyData.depth, q]
  | 0, .tup _, h => by simp [okD] at h
  | 0, .lst _, h => by simp [okD] at h
  | 0, .ktup _, h => by simp [okD] at h
  | 0, .dk _, h => by simp [okD] at h
  | 0, .dt _, h => by simp [okD] at h
  | 0, .scr _, h => by simp [okD] at h
  | n + 1, .tup xs, h => by
    obtain ⟨h1, h2⟩ := okDs_lay n xs (by simpa [okD] using h)
    simp only [toPy, PyData.canLay0, PyData.depth]
    exact ⟨h1, by omega⟩
  | n + 1, .lst xs, h => by
    obtain ⟨h1, h2⟩ := okDs_lay n xs (by simpa [okD] using h)
    simp only [toPy, PyData.canLay0, PyData.depth]
    exact ⟨h1, by omega⟩
  | n + 1, .ktup xs, h => by
    obtain ⟨h1, h2⟩ := okDs_lay n xs (by simpa [okD] using h)
    simp only [toPy, PyData.canLay0, PyData.depth]
    exact ⟨h1, by omega⟩
  | n + 1, .dk _, h => by simp [okD] at h
  | n + 1, .dt _, h => by simp [okD] at h
  | n + 1, .scr _, h => by simp [okD] at h
theorem okDs_lay : ∀ (n : Nat) (ds : List D), okDs n ds = true → PyData.canLayAll0 (toPys ds) = true ∧ PyData.depthAll (toPys ds) ≤ n
  | n, [], _ => by simp [toPys, PyData.canLayAll0, PyData.depthAll]
  | n, d :: ds, h => by
    simp only [okDs, Bool.and_eq_true] at h
    obtain ⟨a1, a2⟩ := okD_lay n d h.1
    obtain ⟨b1, b2⟩ := okDs_lay n ds h.2
    simp only [toPys, PyData.canLayAll0, PyData.depthAll]
    exact ⟨by rw [a1, b1]; rfl, by omega⟩
end
theorem okD_shaped {d : D} (h : okD 60 d = true) : SeqAt.shaped (toPy d) = true := by
  obtain ⟨h1, h2⟩ := okD_lay 60 d h
  show ((toPy d).canLay0 && decide ((toPy d).depth ≤ 64)) = true
  rw [h1, decide_eq_true (by omega)]
  rfl
section
variable {X : Cx} {K : PySem.W.Frag} {F H : Hp}
mutual
theorem okD_dp : ∀ (n : Nat) {v : V} {d : D}, okD n d = true → Den K F v d → Dp K F v (toPy d)
  | _, _, _, _, .non => .non
  | _, _, _, _, .bl b => .bl b
  | _, _, _, _, .int i => .int i
  | _, _, _, _, .str x => .str x
  | 0, _, _, h, .lst _ _ => by simp [okD] at h
  | 0, _, _, h, .tup _ _ => by simp [okD] at h
  | 0, _, _, h, .ktup _ _ => by simp [okD] at h
  | n + 1, _, _, h, .lst a r => .lst (.of a) (okDs_dp n (by simpa [okD] using h) r)
  | n + 1, _, _, h, .tup a r => .tup (.of a) (okDs_dp n (by simpa [okD] using h) r)
  | n + 1, _, _, h, .ktup a r => .tup a (okDs_dp n (by simpa [okD] using h) r)
  | n, _, _, h, .dk _ _ _ => by cases n <;> simp [okD] at h
  | n, _, _, h, .dt _ _ _ => by cases n <;> simp [okD] at h
  | n, _, _, h, .scr _ => by cases n <;> simp [okD] at h
theorem okDs_dp : ∀ (n : Nat) {vs : List V} {ds : List D}, okDs n ds = true → Dens K F vs ds → DpAll K F vs (toPys ds)
  | _, _, _, _, .nil => .nil
  | n, _, _, h, .cons a r => by
    simp only [okDs, Bool.and_eq_true] at h
    exact .cons (okD_dp n h.1 a) (okDs_dp n h.2 r)
end
def gEq : Tg → D → Tg → D → R := fun _ d _ e => match d, e with
  | .str x, .str y => some (.fz, .bl (x == y))
  | .int x, .int y => some (.fz, .bl (x == y))
  | d, e => if (okD 60 d && okD 60 e) = true then some (.fz, .bl (eqD d e)) else none
def gNe : Tg → D → Tg → D → R := fun _ d _ e => match d, e with
  | .str x, .str y => some (.fz, .bl (!(x == y)))
  | .int x, .int y => some (.fz, .bl (!(x == y)))
  | d, e => if (okD 60 d && okD 60 e) = true then some (.fz, .bl (!eqD d e)) else none
def rEqA (K : PySem.W.Frag) : R2 := fun x y H Q => rEq x y H Q ∨ rEqD K x y H Q
def rNeA (K : PySem.W.Frag) : R2 := fun x y H Q => rNe x y H Q ∨ rNeD K x y H Q
theorem op_eqA (hu : X.A.units + 64 < cLine) : OpR X (compareOp .Eq) (rEqA X.K) := op_eq.or (op_eqD hu)
theorem op_neA (hu : X.A.units + 64 < cLine) : OpR X (compareOp .NotEq) (rNeA X.K) := op_ne.or (op_neD hu)
theorem o_eq : O2 K (rEqA K) gEq := by
  refine O2.sc fun {F H t u x y d e f f' tg z Q} ex o1 o2 hg => ?_
  unfold gEq at hg
  split at hg
  · cases hg
    rename_i a b
    refine ⟨.bl (a == b), rfl, fun _ => .bl _, fun q => .inl ?_⟩
    rw [o1.str ex, o2.str ex]
    exact ⟨rfl, by rw [dec_str]; exact q⟩
  · cases hg
    rename_i a b
    refine ⟨.bl (a == b), rfl, fun _ => .bl _, fun q => .inl ?_⟩
    rw [o1.int ex, o2.int ex]
    exact ⟨rfl, by rw [dec_int]; exact q⟩
  · split at hg
    · rename_i hk
      cases hg
      simp only [Bool.and_eq_true] at hk
      exact ⟨.bl _, rfl, fun _ => .bl _, fun q => .inr ⟨_, _, okD_dp 60 hk.1 (o1.here ex), okD_dp 60 hk.2 (o2.here ex), okD_shaped hk.1, okD_shaped hk.2, q⟩⟩
    · cases hg
theorem o_ne : O2 K (rNeA K) gNe := by
  refine O2.sc fun {F H t u x y d e f f' tg z Q} ex o1 o2 hg => ?_
  unfold gNe at hg
  split at hg
  · cases hg
    rename_i a b
    refine ⟨.bl (!(a == b)), rfl, fun _ => .bl _, fun q => .inl ?_⟩
    rw [o1.str ex, o2.str ex]
    exact ⟨rfl, by rw [dec_str]; exact q⟩
  · cases hg
    rename_i a b
    refine ⟨.bl (!(a == b)), rfl, fun _ => .bl _, fun q => .inl ?_⟩
    rw [o1.int ex, o2.int ex]
    exact ⟨rfl, by rw [dec_int]; exact q⟩
  · split at hg
    · rename_i hk
      cases hg
      simp only [Bool.and_eq_true] at hk
      exact ⟨.bl _, rfl, fun _ => .bl _, fun q => .inr ⟨_, _, okD_dp 60 hk.1 (o1.here ex), okD_dp 60 hk.2 (o2.here ex), okD_shaped hk.1, okD_shaped hk.2, q⟩⟩
    · cases hg
/-! ### is, is not: None, truths -/
def isNon : D → Bool
  | .non => true
  | _ => false
def gIs : Tg → D → Tg → D → R := fun _ d _ e => match d, e with
  | .bl a, .bl b => some (.fz, .bl (a == b))
  | d, .non => some (.fz, .bl (isNon d))
  | _, _ => none
def gIsNot : Tg → D → Tg → D → R := fun _ d _ e => match d, e with
  | .bl a, .bl b => some (.fz, .bl (!(a == b)))
  | d, .non => some (.fz, .bl (!(isNon d)))
  | _, _ => none
def rIsA : R2 := fun x y H Q => (∃ a b, x = .bl a ∧ y = .bl b ∧ Q (.bl (decide (a = b))) H) ∨ (y = .non ∧ Q (.bl (decide (x = .non))) H)
def rIsNotA : R2 := fun x y H Q => (∃ a b, x = .bl a ∧ y = .bl b ∧ Q (.bl (!decide (a = b))) H) ∨ (y = .non ∧ Q (.bl (!decide (x = .non))) H)
theorem op_isA : OpR X (compareOp .Is) rIsA := op_is_bl.or op_isN
theorem op_isnotA : OpR X (compareOp .IsNot) rIsNotA := op_isnot_bl.or op_notN
theorem dec_beq {a b : Bool} : decide (a = b) = (a == b) := by cases a <;> cases b <;> rfl
theorem non_iff {v : V} {d : D} (h : Den K F v d) : decide (v = .non) = isNon d := by
  cases h <;> simp [isNon]
theorem o_is : O2 K rIsA gIs := by
  refine O2.sc fun {F H t u x y d e f f' tg z Q} ex o1 o2 hg => ?_
  unfold gIs at hg
  split at hg
  · cases hg
    refine ⟨.bl _, rfl, fun _ => .bl _, fun q => .inl ⟨_, _, o1.bl ex, o2.bl ex, by rw [dec_beq]; exact q⟩⟩
  · cases hg
    refine ⟨.bl _, rfl, fun _ => .bl _, fun q => .inr ⟨?_, by rw [non_iff (o1.here ex)]; exact q⟩⟩
    have q2 := o2.here ex
    cases q2
    rfl
  · cases hg
theorem o_isnot : O2 K rIsNotA gIsNot := by
  refine O2.sc fun {F H t u x y d e f f' tg z Q} ex o1 o2 hg => ?_
  unfold gIsNot at hg
  split at hg
  · cases hg
    refine ⟨.bl _, rfl, fun _ => .bl _, fun q => .inl ⟨_, _, o1.bl ex, o2.bl ex, by rw [dec_beq]; exact q⟩⟩
  · cases hg
    refine ⟨.bl _, rfl, fun _ => .bl _, fun q => .inr ⟨?_, by rw [non_iff (o1.here ex)]; exact q⟩⟩
    have q2 := o2.here ex
    cases q2
    rfl
  · cases hg
end

/-! ### dicts by keys -/
def valD {κ : Type} [DecidableEq κ] (kvs : List (κ × D)) (k : κ) : Option D := (kvs.find? fun kv => decide (kv.1 = k)).map (·.2)
def putD {κ : Type} [DecidableEq κ] (kvs : List (κ × D)) (k : κ) (d : D) : List (κ × D) :=
  if (kvs.any fun kv => decide (kv.1 = k)) = true then kvs.map fun kv => if kv.1 = k then (kv.1, d) else kv else kvs ++ [(k, d)]
def keyD : D → Option Key
  | .int i => some (.inl i)
  | .str x => some (.inr x)
  | _ => none
def keysD : List D → Option (List Key)
  | [] => some []
  | d :: ds => match keyD d, keysD ds with
    | some k, some ks => some (k :: ks)
    | _, _ => none
section
variable {K : PySem.W.Frag} {F H : Hp}
theorem keyD_v {v : V} {d : D} {k : Key} (h : keyD d = some k) (r : Den K F v d) : v = kV k := by
  cases r <;> simp [keyD] at h <;> subst h <;> rfl
theorem keysD_v : ∀ {vs : List V} {ds : List D} {ks : List Key}, keysD ds = some ks → Dens K F vs ds → vs = ks.map kV
  | _, _, _, h, .nil => by simp [keysD] at h; subst h; rfl
  | _, _, _, h, .cons a r => by
    simp only [keysD] at h
    split at h
    · rename_i k ks hk hks
      cases h
      rw [keyD_v hk a, keysD_v hks r]
      rfl
    · cases h
variable {κ : Type} [DecidableEq κ]
theorem val_two {Rl : V → D → Prop} (k : κ) : ∀ {kxs : List (κ × V)} {kvs : List (κ × D)}, kxs.map (·.1) = kvs.map (·.1) → (∀ (i : Nat) (d : D), (kvs.map (·.2))[i]? = some d → ∃ x, (kxs.map (·.2))[i]? = some x ∧ Rl x d) →
    (match valV kxs k, valD kvs k with | some v, some d => Rl v d | none, none => True | _, _ => False)
  | [], [], _, _ => by simp [valV, valD]
  | [], _ :: _, h, _ => by simp at h
  | _ :: _, [], h, _ => by simp at h
  | (a, v) :: kxs, (b, d) :: kvs, h, g => by
    simp only [List.map_cons, List.cons.injEq] at h
    obtain ⟨rfl, h2⟩ := h
    by_cases e : a = k
    · obtain ⟨x, h1, h3⟩ := g 0 d rfl
      simp at h1
      subst h1
      rw [valV_pos e]
      simp [valD, List.find?_cons, e, h3]
    · have ih := val_two k h2 fun i d' hi => g (i + 1) d' (by simpa using hi)
      rw [valV_neg e]
      have : valD ((a, d) :: kvs) k = valD kvs k := by simp [valD, List.find?_cons, e]
      rw [this]
      exact ih
end
end VL
namespace VL
open PySem PySem.Spec PyProof.Rows L2

section
variable {X : Cx} {K : PySem.W.Frag} {F H : Hp}
/-! ### in -/
theorem sc_flat {v : V} {d : D} (s : isSc d = true) (h : Den K F v d) : flatV v = true := by
  cases h <;> first | rfl | cases s
theorem sc_eqV {v w : V} {d e : D} (s : isSc d = true) (s' : isSc e = true) (h : Den K F v d) (h' : Den K F w e) : eqV v w = eqD d e := by
  cases h <;> first | (cases s; done) | (cases h' <;> first | (cases s'; done) | (simp [eqV, eqD, toPy, PyData.eqv]))
theorem sc_inV {x : V} {d : D} (s : isSc d = true) (h : Den K F x d) : ∀ {xs : List V} {ds : List D}, ds.all isSc = true → Dens K F xs ds → xs.all flatV = true ∧ inV x xs = ds.any fun z => eqD z d
  | _, _, _, .nil => ⟨rfl, rfl⟩
  | _, _, a, .cons r t => by
    rw [List.all_cons, Bool.and_eq_true] at a
    obtain ⟨i1, i2⟩ := sc_inV s h a.2 t
    refine ⟨by rw [List.all_cons, sc_flat a.1 r, i1]; rfl, ?_⟩
    unfold inV at i2 ⊢
    rw [List.any_cons, List.any_cons, i2, sc_eqV a.1 s r h]
def inD (d e : D) : Option Bool := match d, e with
  | d, .lst ys => if (okD 60 d && okD 60 (.lst ys)) = true then some (ys.any fun z => eqD z d) else none
  | d, .tup ys => if (isSc d && ys.all isSc) = true then some (ys.any fun z => eqD z d) else none
  | d, .ktup ys => if (isSc d && ys.all isSc) = true then some (ys.any fun z => eqD z d) else none
  | .str a, .str b => if a.cps.size = 1 then some (decide (a.cps.getD 0 0 ∈ b.cps.toList)) else none
  | .int i, .dk kvs => some (valD kvs (Sum.inl i : Key)).isSome
  | .str x, .dk kvs => some (valD kvs (Sum.inr x : Key)).isSome
  | .tup ds, .dt kvs => match keysD ds with
    | some ks => some (valD kvs ks).isSome
    | none => none
  | _, _ => none
def gIn : Tg → D → Tg → D → R := fun _ d _ e => match inD d e with
  | some b => some (.fz, .bl b)
  | none => none
def gNotIn : Tg → D → Tg → D → R := fun _ d _ e => match inD d e with
  | some b => some (.fz, .bl (!b))
  | none => none
def rSign (n : Bool) : R2 := fun x y H Q => ∃ (c : Nat) (z : Str), x = .str ⟨#[c]⟩ ∧ y = .str z ∧ Q (.bl (if n then !decide (c ∈ z.cps.toList) else decide (c ∈ z.cps.toList))) H
def rDict (n : Bool) : R2 := fun x y H Q => ∃ a o, y = .ref a ∧ DGet H a x o ∧ Q (.bl (if n then !o.isSome else o.isSome)) H
def rInA (K : PySem.W.Frag) (n : Bool) : R2 := fun x y H Q => (∃ d ds, Dp K H x d ∧ Dp K H y (.list ds) ∧ SeqAt.shaped d = true ∧ SeqAt.shaped (.list ds) = true ∧ Q (.bl (if n then !(ds.any fun z => PyData.eqv z d) else ds.any fun z => PyData.eqv z d)) H) ∨
  rIn K n x y H Q ∨ rSign n x y H Q ∨ rDict n x y H Q
theorem op_inA (hu : X.A.units + 65 < cLine) : OpR X (compareOp .In) (rInA X.K false) := (op_inD hu).or (op_in_seq.or (op_in_sign.or fun pins s σ H x y v u Q I rx ry h => by
  obtain ⟨a, o, rfl, g, q⟩ := h
  obtain rfl : u = Value.ref a := ry
  exact d_in (by omega) I g rx fun s3 I3 => ⟨.bl o.isSome, H, I3, rfl, q⟩))
theorem op_notInA (hu : X.A.units + 65 < cLine) : OpR X (compareOp .NotIn) (rInA X.K true) := (op_notInD hu).or (op_notIn_seq.or (op_notIn_sign.or fun pins s σ H x y v u Q I rx ry h => by
  obtain ⟨a, o, rfl, g, q⟩ := h
  obtain rfl : u = Value.ref a := ry
  exact d_notIn (by omega) I g rx fun s3 I3 => ⟨.bl (!o.isSome), H, I3, rfl, q⟩))
theorem any_toPys (d : D) : ∀ ys : List D, ((toPys ys).any fun z => PyData.eqv z (toPy d)) = ys.any fun z => eqD z d
  | [] => rfl
  | y :: ys => by
    simp only [toPys, List.any_cons]
    rw [any_toPys d ys]
    rfl
theorem str_one {a : Str} (h : a.cps.size = 1) : a = ⟨#[a.cps.getD 0 0]⟩ := by
  obtain ⟨⟨l⟩⟩ := a
  simp at h
  obtain ⟨c, rfl⟩ := List.length_eq_one_iff.mp h
  rfl
/-- the parts of a dict -/
theorem VO.dk {t : Tg} {v : V} {kvs : List (Key × D)} {f : List Addr} (e : Ex F H) (h : VO K F H t v (.dk kvs) f) : ∃ a kxs, v = .ref a ∧ Rd H a (.dK kxs) ∧ kxs.map (·.1) = kvs.map (·.1) ∧ Dens K H (kxs.map (·.2)) (kvs.map (·.2)) ∧ (∀ (i : Nat) (d : D), (kvs.map (·.2))[i]? = some d → ∃ x, (kxs.map (·.2))[i]? = some x ∧ VO K F H (low (lvl t) d) x d []) ∧
    (lvl t ≤ 1 → Dens K F (kxs.map (·.2)) (kvs.map (·.2))) := by
  obtain ⟨g, o⟩ := h.own
  cases hl : lvl t with
  | zero =>
    rw [hl] at o
    obtain ⟨o1, _⟩ := o
    cases o1 with
    | dk ha hk r =>
      refine ⟨_, _, rfl, ex_rd e ha, hk, r.mono e, fun i d hi => ?_, fun _ => r⟩
      obtain ⟨x, h1, h2⟩ := r.get hi
      exact ⟨x, h1, VO.part0 h2⟩
  | succ n =>
    have hd := h.here e
    rw [hl] at o
    obtain ⟨a, kxs, g', rfl, ha, fa, hk, r, _⟩ := o
    refine ⟨a, kxs, rfl, .inl ha, hk, r.dens (F := H) (fun v d f q => q.here e), fun i d hi => ?_, fun hn => ?_⟩
    · obtain ⟨x, f', h1, h2⟩ := r.get hi
      exact ⟨x, h1, VO.part h2⟩
    · have : n = 0 := by omega
      subst this
      exact r.zero.1
theorem VO.dt {t : Tg} {v : V} {kvs : List (List Key × D)} {f : List Addr} (e : Ex F H) (h : VO K F H t v (.dt kvs) f) : ∃ a kxs, v = .ref a ∧ Rd H a (.dT kxs) ∧ kxs.map (·.1) = kvs.map (·.1) ∧ Dens K H (kxs.map (·.2)) (kvs.map (·.2)) ∧ (∀ (i : Nat) (d : D), (kvs.map (·.2))[i]? = some d → ∃ x, (kxs.map (·.2))[i]? = some x ∧ VO K F H (low (lvl t) d) x d []) ∧
    (lvl t ≤ 1 → Dens K F (kxs.map (·.2)) (kvs.map (·.2))) := by
  obtain ⟨g, o⟩ := h.own
  cases hl : lvl t with
  | zero =>
    rw [hl] at o
    obtain ⟨o1, _⟩ := o
    cases o1 with
    | dt ha hk r =>
      refine ⟨_, _, rfl, ex_rd e ha, hk, r.mono e, fun i d hi => ?_, fun _ => r⟩
      obtain ⟨x, h1, h2⟩ := r.get hi
      exact ⟨x, h1, VO.part0 h2⟩
  | succ n =>
    rw [hl] at o
    obtain ⟨a, kxs, g', rfl, ha, fa, hk, r, _⟩ := o
    refine ⟨a, kxs, rfl, .inl ha, hk, r.dens (F := H) (fun v d f q => q.here e), fun i d hi => ?_, fun hn => ?_⟩
    · obtain ⟨x, f', h1, h2⟩ := r.get hi
      exact ⟨x, h1, VO.part h2⟩
    · have : n = 0 := by omega
      subst this
      exact r.zero.1
/-- what a dict holds at a key -/
theorem VO.dkGet {t : Tg} {v : V} {kvs : List (Key × D)} {f : List Addr} (e : Ex F H) (h : VO K F H t v (.dk kvs) f) (k : Key) : ∃ a o, v = .ref a ∧ DGet H a (kV k) o ∧ (match o, valD kvs k with | some x, some d => VO K F H (low (lvl t) d) x d [] | none, none => True | _, _ => False) := by
  obtain ⟨a, kxs, rfl, ha, hk, _, hp, _⟩ := h.dk e
  exact ⟨a, valV kxs k, rfl, .inl ⟨kxs, k, ha, rfl, rfl⟩, val_two (Rl := fun x d => VO K F H (low (lvl t) d) x d []) k hk hp⟩
theorem VO.dtGet {t u : Tg} {v w : V} {kvs : List (List Key × D)} {ds : List D} {f f' : List Addr} (e : Ex F H) (h : VO K F H t v (.dt kvs) f) (h2 : VO K F H u w (.tup ds) f') {ks : List Key} (hk : keysD ds = some ks) :
    ∃ a o, v = .ref a ∧ DGet H a w o ∧ (match o, valD kvs ks with | some x, some d => VO K F H (low (lvl t) d) x d [] | none, none => True | _, _ => False) := by
  obtain ⟨a, kxs, rfl, ha, hks, _, hp, _⟩ := h.dt e
  obtain ⟨b, xs, rfl, hb, _, hd, _⟩ := h2.tup e
  exact ⟨a, valV kxs ks, rfl, .inr ⟨kxs, ks, b, ha, rfl, by rw [hb, keysD_v hk hd], rfl⟩, val_two (Rl := fun x d => VO K F H (low (lvl t) d) x d []) ks hks hp⟩
theorem isSome_of {o : Option V} {p : Option D} {R : V → D → Prop} (h : match o, p with | some x, some d => R x d | none, none => True | _, _ => False) : o.isSome = p.isSome := by
  cases o <;> cases p <;> first | rfl | exact h.elim
theorem in_rel (n : Bool) {t u : Tg} {x y : V} {d e : D} {f f' : List Addr} {Q : VK} {b : Bool} (ex : Ex F H) (o1 : VO K F H t x d f) (o2 : VO K F H u y e f') (hb : inD d e = some b) (q : Q (.bl (if n then !b else b)) H) : rInA K n x y H Q := by
  unfold inD at hb
  split at hb
  · split at hb
    · rename_i ys hk
      cases hb
      simp only [Bool.and_eq_true] at hk
      refine .inl ⟨toPy d, toPys ys, okD_dp 60 hk.1 (o1.here ex), okD_dp 60 hk.2 (o2.here ex), okD_shaped hk.1, okD_shaped hk.2, ?_⟩
      rw [any_toPys]
      exact q
    · cases hb
  · split at hb
    · rename_i ys hk
      cases hb
      simp only [Bool.and_eq_true] at hk
      obtain ⟨p, xs, rfl, hp, _, hd, _⟩ := o2.tup ex
      obtain ⟨a1, a2⟩ := sc_inV hk.1 (o1.here ex) hk.2 hd
      exact .inr (.inl ⟨p, xs, rfl, .inr (.of hp), sc_flat hk.1 (o1.here ex), a1, by rw [a2]; exact q⟩)
    · cases hb
  · split at hb
    · rename_i ys hk
      cases hb
      simp only [Bool.and_eq_true] at hk
      obtain ⟨p, xs, rfl, hp, hd⟩ := o2.ktup ex
      obtain ⟨a1, a2⟩ := sc_inV hk.1 (o1.here ex) hk.2 (hd.mono ex)
      exact .inr (.inl ⟨p, xs, rfl, .inr hp, sc_flat hk.1 (o1.here ex), a1, by rw [a2]; exact q⟩)
    · cases hb
  · split at hb
    · rename_i a b' hk
      cases hb
      refine .inr (.inr (.inl ⟨a.cps.getD 0 0, b', ?_, o2.str ex, q⟩))
      rw [o1.str ex, ← str_one hk]
    · cases hb
  · cases hb
    obtain ⟨a, o, rfl, g, m⟩ := o2.dkGet ex (Sum.inl _)
    refine .inr (.inr (.inr ⟨a, o, rfl, ?_, ?_⟩))
    · rw [o1.int ex]; exact g
    · rw [isSome_of (R := fun x d => VO K F H (low (lvl u) d) x d []) m]; exact q
  · cases hb
    obtain ⟨a, o, rfl, g, m⟩ := o2.dkGet ex (Sum.inr _)
    refine .inr (.inr (.inr ⟨a, o, rfl, ?_, ?_⟩))
    · rw [o1.str ex]; exact g
    · rw [isSome_of (R := fun x d => VO K F H (low (lvl u) d) x d []) m]; exact q
  · split at hb
    · rename_i ks hk
      cases hb
      obtain ⟨a, o, rfl, g, m⟩ := o2.dtGet ex o1 hk
      refine .inr (.inr (.inr ⟨a, o, rfl, g, ?_⟩))
      rw [isSome_of (R := fun x d => VO K F H (low (lvl u) d) x d []) m]; exact q
    · cases hb
  · cases hb
theorem o_in : O2 K (rInA K false) gIn := by
  refine O2.sc fun {F H t u x y d e f f' tg z Q} ex o1 o2 hg => ?_
  unfold gIn at hg
  split at hg
  · rename_i b hb
    cases hg
    exact ⟨.bl b, rfl, fun _ => .bl _, fun q => in_rel false ex o1 o2 hb q⟩
  · cases hg
theorem o_notIn : O2 K (rInA K true) gNotIn := by
  refine O2.sc fun {F H t u x y d e f f' tg z Q} ex o1 o2 hg => ?_
  unfold gNotIn at hg
  split at hg
  · rename_i b hb
    cases hg
    exact ⟨.bl (!b), rfl, fun _ => .bl _, fun q => in_rel true ex o1 o2 hb q⟩
  · cases hg

/-! ### a part by its index or key -/
def gIx : Tg → D → Tg → D → R := fun t d _ e => match d, e with
  | .lst ds, .int i => match atI ds i with
    | some z => some (low (lvl t) z, z)
    | none => none
  | .tup ds, .int i => match atI ds i with
    | some z => some (low (lvl t) z, z)
    | none => none
  | .ktup ds, .int i => match atI ds i with
    | some z => some (.fz, z)
    | none => none
  | .scr ns, .int i => match atI ns i with
    | some z => some (.fz, .int z)
    | none => none
  | .str x, .int i => if x.length ≤ sizeLine then match atI x.cps.toList i with
    | some c => some (.fz, .str ⟨#[c]⟩)
    | none => none
    else none
  | .dk kvs, .int i => match valD kvs (Sum.inl i : Key) with
    | some z => some (low (lvl t) z, z)
    | none => none
  | .dk kvs, .str x => match valD kvs (Sum.inr x : Key) with
    | some z => some (low (lvl t) z, z)
    | none => none
  | .dt kvs, .tup ds => match keysD ds with
    | some ks => match valD kvs ks with
      | some z => some (low (lvl t) z, z)
      | none => none
    | none => none
  | _, _ => none
def rIxA (K : PySem.W.Frag) : R2 := fun x y H Q => rIx K x y H Q ∨ ∃ a v, x = .ref a ∧ DGet H a y (some v) ∧ Q v H
theorem ix_all (hu : X.A.units + 1 < cLine) : IxR X (rIxA X.K) := ix_seq.or fun value slice pins s σ H x y v u Q I rx ry h hs => by
  obtain ⟨a, w, rfl, g, q⟩ := h
  obtain rfl : v = Value.ref a := rx
  exact tail_any (dict_typeIs I g) PySem.F.slot_dict_getitem.lookup (d_getItem hu I g ry fun w' s3 I3 rw' => ⟨w, H, I3, rw', q⟩) hs
theorem atI_len {α β : Type} {xs : List α} {ys : List β} (hl : xs.length = ys.length) {i : Int} {z : β} (h : atI ys i = some z) : ∃ j : Nat, ixN xs.length i = some j ∧ ys[j]? = some z := by
  unfold atI at h
  rw [Option.bind_eq_some_iff] at h
  obtain ⟨j, h1, h2⟩ := h
  exact ⟨j, by rw [hl]; exact h1, h2⟩
theorem atI_of {α : Type} {xs : List α} {i : Int} {j : Nat} {v : α} (h1 : ixN xs.length i = some j) (h2 : xs[j]? = some v) : atI xs i = some v := by
  unfold atI
  rw [h1]
  exact h2
theorem low_vo {t : Tg} {v : V} {d : D} : VO K F H t v d [] → (∀ (Q : VK), (∀ F' H' v h, Stp F H F' H' → VO K F' H' t v d h → h.Nodup → (∀ a ∈ h, H a = none) → Q v H') → Ex F H → Q v H) := fun h Q k ex => k F H v [] (Stp.refl ex) h .nil (by simp)
theorem o_ix : O2 K (rIxA K) gIx := by
  intro F H t u x y d e f f' tg z Q ex o1 o2 hg k
  unfold gIx at hg
  split at hg
  · split at hg
    · rename_i ds i z' hz
      cases hg
      obtain ⟨a, xs, rfl, ha, hl, _, hp, _⟩ := o1.lst ex
      obtain ⟨j, h1, h2⟩ := atI_len hl hz
      obtain ⟨w, hw, ow⟩ := hp j _ h2
      exact .inl (.inl ⟨a, xs, _, w, rfl, o2.int ex, .of ha, atI_of h1 hw, low_vo ow Q k ex⟩)
    · cases hg
  · split at hg
    · rename_i ds i z' hz
      cases hg
      obtain ⟨a, xs, rfl, ha, hl, _, hp, _⟩ := o1.tup ex
      obtain ⟨j, h1, h2⟩ := atI_len hl hz
      obtain ⟨w, hw, ow⟩ := hp j _ h2
      exact .inl (.inr (.inl ⟨a, xs, _, w, rfl, o2.int ex, .of ha, atI_of h1 hw, low_vo ow Q k ex⟩))
    · cases hg
  · split at hg
    · rename_i ds i z' hz
      cases hg
      obtain ⟨a, xs, rfl, ha, hd⟩ := o1.ktup ex
      obtain ⟨j, h1, h2⟩ := atI_len hd.length hz
      obtain ⟨w, hw, ow⟩ := hd.get h2
      exact .inl (.inr (.inl ⟨a, xs, _, w, rfl, o2.int ex, ha, atI_of h1 hw, k F H w [] (Stp.refl ex) ⟨ow, rfl⟩ .nil (by simp)⟩))
    · cases hg
  · split at hg
    · rename_i ns i _ z' hz
      cases hg
      obtain ⟨a, rfl, ha⟩ := o1.scr ex
      obtain ⟨j, h1, h2⟩ := atI_len (xs := ns.map V.int) (by simp) hz
      exact .inl (.inl ⟨a, _, _, .int z', rfl, o2.int ex, ha, atI_of h1 (by rw [List.getElem?_map, h2]; rfl), k F H _ [] (Stp.refl ex) ⟨.int _, rfl⟩ .nil (by simp)⟩)
    · cases hg
  · split at hg
    · rename_i x' i hlen
      split at hg
      · rename_i c hc
        cases hg
        exact .inl (.inr (.inr ⟨x', _, c, o1.str ex, o2.int ex, hlen, hc, k F H _ [] (Stp.refl ex) ⟨.str _, rfl⟩ .nil (by simp)⟩))
      · cases hg
    · cases hg
  · split at hg
    · rename_i kvs i _ z' hz
      cases hg
      obtain ⟨a, o, rfl, g, m⟩ := o1.dkGet ex (Sum.inl i)
      rw [hz] at m
      cases o with
      | none => exact m.elim
      | some w =>
        refine .inr ⟨a, w, rfl, ?_, low_vo m Q k ex⟩
        rw [o2.int ex]; exact g
    · cases hg
  · split at hg
    · rename_i kvs i _ z' hz
      cases hg
      obtain ⟨a, o, rfl, g, m⟩ := o1.dkGet ex (Sum.inr i)
      rw [hz] at m
      cases o with
      | none => exact m.elim
      | some w =>
        refine .inr ⟨a, w, rfl, ?_, low_vo m Q k ex⟩
        rw [o2.str ex]; exact g
    · cases hg
  · split at hg
    · rename_i ks hk
      split at hg
      · rename_i z' hz
        cases hg
        obtain ⟨a, o, rfl, g, m⟩ := o1.dtGet ex o2 hk
        rw [hz] at m
        cases o with
        | none => exact m.elim
        | some w => exact .inr ⟨a, w, rfl, g, low_vo m Q k ex⟩
      · cases hg
    · cases hg
  · cases hg
variable {a b : Expr} {pos : Pos} {fa fb : Ev → R}
theorem a_ix (hu : X.A.units + 1 < cLine) (ha : PE X a (tV X.K fa)) (hb : PE X b (tV X.K fb)) (hs : PlainIx b := by exact fun _ _ => rfl) : PE X (.Subscript a b pos) (tV X.K (bind2 fa fb gIx)) :=
  pe_mono (pe_ix (ix_all hu) ha hb hs) fun _ _ _ => v_op o_ix
end
end VL
namespace VL
open PySem PySem.Spec PyProof.Rows L2

section
variable {X : Cx} {K : PySem.W.Frag} {F H H1 : Hp} {σ : L2.St} {a b c : Expr} {rest : List Expr} {pos : Pos} {fa fb fc : Ev → R} {t u : Ev → Option Bool}
theorem Stp.fresh {F' H' : Hp} (s : Stp F H F' H') {g : List Addr} (h : ∀ a ∈ g, H' a = none) : ∀ a ∈ g, H a = none := fun a ha => by
  cases q : H a with
  | none => rfl
  | some o =>
    have z := h a ha
    rw [s.hh a o q] at z
    cases z
/-! ### tests -/
def asB (f : Ev → R) : Ev → Option Bool := fun env => match f env with
  | some (_, .bl b) => some b
  | _ => none
theorem asB_some {f : Ev → R} {env : Ev} {k : Bool} (h : asB f env = some k) : ∃ t, f env = some (t, .bl k) := by
  unfold asB at h
  split at h
  · rename_i t b e
    cases h
    exact ⟨t, e⟩
  · cases h
theorem v_asB {Q : Bool → Hp → Prop} (h : tT K (asB fa) σ H Q) : tV K fa σ H fun x H1 => ∃ k, x = .bl k ∧ Q k H1 := by
  obtain ⟨F, env, fp, k, e, L, nd, hf, q⟩ := h
  obtain ⟨t, ht⟩ := asB_some hf
  exact ⟨F, env, fp, t, .bl k, e, L, nd, ht, fun F' H' v g s o _ _ => ⟨k, o.bl s.fh, q F' H' s⟩⟩
theorem at_cmp {op : CmpOp} {r : R2} {g : Tg → D → Tg → D → R} (ho : OpR X (compareOp op) r) (h2 : O2 X.K r g) (ha : PE X a (tV X.K fa)) (hb : PE X b (tV X.K fb)) (hm : behindInMarks op b = false := by first | exact nomark _ | rfl) : PT X (.Compare a [op] [b] pos) (tT X.K (asB (bind2 fa fb g))) :=
  pt_mono (pt_cmpR ho ha hb hm) fun σ H Q h => v_op h2 (v_asB h)
def truD : D → Option Bool
  | .non => some false
  | .bl b => some b
  | .int i => some (i != 0)
  | .str y => if y.length ≤ sizeLine then some ((y.length : Int) != 0) else none
  | .lst xs => some (!xs.isEmpty)
  | .tup xs => some (!xs.isEmpty)
  | .ktup xs => some (!xs.isEmpty)
  | .scr xs => some (!xs.isEmpty)
  | _ => none
def fTru (f : Ev → R) : Ev → Option Bool := fun env => match f env with
  | some (_, d) => truD d
  | none => none
theorem truD_v {v : V} {d : D} {k : Bool} (h : truD d = some k) (r : Den K H v d) : TruV K v H k := by
  cases r with
  | non => cases h; rfl
  | bl b => cases h; rfl
  | int i => cases h; rfl
  | str x =>
    simp only [truD] at h
    split at h
    · rename_i hl
      cases h
      exact ⟨hl, rfl⟩
    · cases h
  | lst ha hd =>
    cases h
    refine .inl ⟨_, .of ha, ?_⟩
    cases hd <;> rfl
  | tup ha hd =>
    cases h
    refine .inr (.inl ⟨_, .of ha, ?_⟩)
    cases hd <;> rfl
  | ktup ha hd =>
    cases h
    refine .inr (.inl ⟨_, ha, ?_⟩)
    cases hd <;> rfl
  | scr ha =>
    cases h
    refine .inl ⟨_, ha, ?_⟩
    rename_i ns
    cases ns <;> rfl
  | _ => cases h
theorem at_tru (ha : PE X a (tV X.K fa)) (he : ∀ whole, isTrue a X.env whole = (do let v ← whole; standAt a.pos; holding [v] (truthy v)) := by intro _; rfl) : PT X a (tT X.K (fTru fa)) :=
  pt_mono (pt_truth ha he) fun σ H Q h => by
    obtain ⟨F, env, fp, k, e, L, nd, hf, q⟩ := h
    unfold fTru at hf
    split at hf
    · rename_i t d ht
      exact ⟨F, env, fp, t, d, e, L, nd, ht, fun F' H' v g s o _ _ => ⟨k, truD_v hf (o.here s.fh), q F' H' s⟩⟩
    · cases hf
def fAnd (t u : Ev → Option Bool) : Ev → Option Bool := fun env => match t env with
  | some true => u env
  | some false => some false
  | none => none
def fOr (t u : Ev → Option Bool) : Ev → Option Bool := fun env => match t env with
  | some true => some true
  | some false => u env
  | none => none
def fNot (t : Ev → Option Bool) : Ev → Option Bool := fun env => match t env with
  | some b => some (!b)
  | none => none
theorem tT_next {Q R : Bool → Hp → Prop} {t : Ev → Option Bool} {F H1 : Hp} {env : Ev} {fp : List Addr} {k : Bool} {F0 H0 : Hp} (s : Stp F0 H0 F H1) (L : EnvL K F H1 σ env fp) (nd : fp.Nodup) (h : t env = some k) (q : ∀ F' H', Stp F0 H0 F' H' → Q k H') : tT K t σ H1 Q :=
  ⟨F, env, fp, k, s.fh, L, nd, h, fun F' H' s' => q F' H' (s.trans s')⟩
theorem v_and {Q : Bool → Hp → Prop} (h : tT K (fAnd t u) σ H Q) : tAnd (tT K t) (tT K u) σ H Q := by
  obtain ⟨F, env, fp, k, e, L, nd, hf, q⟩ := h
  unfold fAnd at hf
  split at hf
  · rename_i ht
    refine ⟨F, env, fp, true, e, L, nd, ht, fun F' H' s => ?_⟩
    exact iteT (tT_next (R := Q) s (L.step s) nd hf q)
  · rename_i ht
    cases hf
    refine ⟨F, env, fp, false, e, L, nd, ht, fun F' H' s => ?_⟩
    exact iteF (q F' H' s)
  · cases hf
theorem v_or {Q : Bool → Hp → Prop} (h : tT K (fOr t u) σ H Q) : tOr (tT K t) (tT K u) σ H Q := by
  obtain ⟨F, env, fp, k, e, L, nd, hf, q⟩ := h
  unfold fOr at hf
  split at hf
  · rename_i ht
    cases hf
    refine ⟨F, env, fp, true, e, L, nd, ht, fun F' H' s => ?_⟩
    exact iteT (q F' H' s)
  · rename_i ht
    refine ⟨F, env, fp, false, e, L, nd, ht, fun F' H' s => ?_⟩
    exact iteF (tT_next (R := Q) s (L.step s) nd hf q)
  · cases hf
theorem v_not {Q : Bool → Hp → Prop} (h : tT K (fNot t) σ H Q) : tNot (tT K t) σ H Q := by
  obtain ⟨F, env, fp, k, e, L, nd, hf, q⟩ := h
  unfold fNot at hf
  split at hf
  · rename_i b ht
    cases hf
    exact ⟨F, env, fp, b, e, L, nd, ht, q⟩
  · cases hf
theorem pw_mono {e : Expr} {t t' : TT} (h : PW X e t) (k : ∀ σ H Q, t' σ H Q → t σ H Q) : PW X e t' := ⟨fun w pins s σ H Q I q => h.run w pins s σ H Q I (k σ H Q q)⟩
theorem aw_and1 (ha : PT X a (tT X.K t)) : PW X (.BoolOp .And [a] pos) (tT X.K t) := pw_and1 ha
theorem aw_or1 (ha : PT X a (tT X.K t)) : PW X (.BoolOp .Or [a] pos) (tT X.K t) := pw_or1 ha
theorem aw_and (ha : PT X a (tT X.K t)) (hb : PW X (.BoolOp .And (b :: rest) pos) (tT X.K u)) : PW X (.BoolOp .And (a :: b :: rest) pos) (tT X.K (fAnd t u)) := pw_mono (pw_and ha hb) fun _ _ _ => v_and
theorem aw_or (ha : PT X a (tT X.K t)) (hb : PW X (.BoolOp .Or (b :: rest) pos) (tT X.K u)) : PW X (.BoolOp .Or (a :: b :: rest) pos) (tT X.K (fOr t u)) := pw_mono (pw_or ha hb) fun _ _ _ => v_or
theorem at_not (ha : PT X a (tT X.K t)) : PT X (.UnaryOp .Not a pos) (tT X.K (fNot t)) := pt_mono (pt_not ha) fun _ _ _ => v_not
/-! as values -/
def fAndV (f g : Ev → R) : Ev → R := fun env => match f env with
  | some (_, .bl true) => g env
  | some (_, .bl false) => some (.fz, .bl false)
  | _ => none
def fOrV (f g : Ev → R) : Ev → R := fun env => match f env with
  | some (_, .bl true) => some (.fz, .bl true)
  | some (_, .bl false) => g env
  | _ => none
def fNotV (f : Ev → R) : Ev → R := fun env => match f env with
  | some (_, .bl b) => some (.fz, .bl (!b))
  | _ => none
theorem tV_next {Q : VK} {f : Ev → R} {F H1 : Hp} {env : Ev} {fp : List Addr} {tg : Tg} {z : D} {F0 H0 : Hp} (s : Stp F0 H0 F H1) (L : EnvL K F H1 σ env fp) (nd : fp.Nodup) (h : f env = some (tg, z))
    (q : ∀ F' H' v g, Stp F0 H0 F' H' → VO K F' H' tg v z g → g.Nodup → (∀ a ∈ g, H0 a = none) → Q v H') : tV K f σ H1 Q :=
  ⟨F, env, fp, tg, z, s.fh, L, nd, h, fun F' H' v g s' o n w => q F' H' v g (s.trans s') o n (s.fresh w)⟩
theorem v_andV {Q : VK} (h : tV K (fAndV fa fb) σ H Q) : tAndV (tV K fa) (tV K fb) σ H Q := by
  obtain ⟨F, env, fp, tg, z, e, L, nd, hf, q⟩ := h
  unfold fAndV at hf
  split at hf
  · rename_i t' ht
    refine ⟨F, env, fp, t', .bl true, e, L, nd, ht, fun F' H' v g s o _ _ => ⟨true, o.bl s.fh, ?_⟩⟩
    exact iteT (tV_next s (L.step s) nd hf q)
  · rename_i t' ht
    cases hf
    refine ⟨F, env, fp, t', .bl false, e, L, nd, ht, fun F' H' v g s o _ _ => ⟨false, o.bl s.fh, ?_⟩⟩
    exact iteF (q F' H' _ [] s ⟨.bl _, rfl⟩ .nil (by simp))
  · cases hf
theorem v_orV {Q : VK} (h : tV K (fOrV fa fb) σ H Q) : tOrV (tV K fa) (tV K fb) σ H Q := by
  obtain ⟨F, env, fp, tg, z, e, L, nd, hf, q⟩ := h
  unfold fOrV at hf
  split at hf
  · rename_i t' ht
    cases hf
    refine ⟨F, env, fp, t', .bl true, e, L, nd, ht, fun F' H' v g s o _ _ => ⟨true, o.bl s.fh, ?_⟩⟩
    exact iteT (q F' H' _ [] s ⟨.bl _, rfl⟩ .nil (by simp))
  · rename_i t' ht
    refine ⟨F, env, fp, t', .bl false, e, L, nd, ht, fun F' H' v g s o _ _ => ⟨false, o.bl s.fh, ?_⟩⟩
    exact iteF (tV_next s (L.step s) nd hf q)
  · cases hf
theorem v_notV {Q : VK} (h : tV K (fNotV fa) σ H Q) : tNotV (tV K fa) σ H Q := by
  obtain ⟨F, env, fp, tg, z, e, L, nd, hf, q⟩ := h
  unfold fNotV at hf
  split at hf
  · rename_i t' b ht
    cases hf
    exact ⟨F, env, fp, t', .bl b, e, L, nd, ht, fun F' H' v g s o _ _ => ⟨b, o.bl s.fh, q F' H' _ [] s ⟨.bl _, rfl⟩ .nil (by simp)⟩⟩
  · cases hf
theorem a_one {op} (h : PE X a (tV X.K fa)) : PE X (.BoolOp op [a] pos) (tV X.K fa) := pe_one h
theorem a_and (ha : PE X a (tV X.K fa)) (hb : PE X (.BoolOp .And (b :: rest) pos) (tV X.K fb)) : PE X (.BoolOp .And (a :: b :: rest) pos) (tV X.K (fAndV fa fb)) := pe_mono (pe_and ha hb) fun _ _ _ => v_andV
theorem a_or (ha : PE X a (tV X.K fa)) (hb : PE X (.BoolOp .Or (b :: rest) pos) (tV X.K fb)) : PE X (.BoolOp .Or (a :: b :: rest) pos) (tV X.K (fOrV fa fb)) := pe_mono (pe_or ha hb) fun _ _ _ => v_orV
theorem a_not (ha : PE X a (tV X.K fa)) : PE X (.UnaryOp .Not a pos) (tV X.K (fNotV fa)) := pe_mono (pe_not ha) fun _ _ _ => v_notV
def fIf (t : Ev → Option Bool) (f g : Ev → R) : Ev → R := fun env => match t env with
  | some true => f env
  | some false => g env
  | none => none
theorem v_if {Q : VK} (h : tV K (fIf t fa fb) σ H Q) : tIf (tT K t) (tV K fa) (tV K fb) σ H Q := by
  obtain ⟨F, env, fp, tg, z, e, L, nd, hf, q⟩ := h
  unfold fIf at hf
  split at hf
  · rename_i ht
    refine ⟨F, env, fp, true, e, L, nd, ht, fun F' H' s => ?_⟩
    exact iteT (tV_next s (L.step s) nd hf q)
  · rename_i ht
    refine ⟨F, env, fp, false, e, L, nd, ht, fun F' H' s => ?_⟩
    exact iteF (tV_next s (L.step s) nd hf q)
  · cases hf
theorem a_ife (hc : PT X c (tT X.K t)) (ha : PE X a (tV X.K fa)) (hb : PE X b (tV X.K fb)) : PE X (.IfExp c a b pos) (tV X.K (fIf t fa fb)) := pe_mono (pe_ifExp hc ha hb) fun _ _ _ => v_if
/-! unary minus -/
def fNeg (f : Ev → R) : Ev → R := fun env => match f env with
  | some (_, .int i) => some (.fz, .int (-i))
  | _ => none
theorem a_neg (ha : PE X a (tV X.K fa)) : PE X (.UnaryOp .USub a pos) (tV X.K (fNeg fa)) := pe_mono (pe_un un_neg ha) fun σ H Q h => by
  obtain ⟨F, env, fp, tg, z, e, L, nd, hf, q⟩ := h
  unfold fNeg at hf
  split at hf
  · rename_i t' i ht
    cases hf
    exact ⟨F, env, fp, t', .int i, e, L, nd, ht, fun F' H' v g s o _ _ => ⟨i, o.int s.fh, q F' H' _ [] s ⟨.int _, rfl⟩ .nil (by simp)⟩⟩
  · cases hf
/-! chains a < b < c: of ints -/
def cmpI (op : CmpOp) (i j : Int) : Bool := match op with
  | .Lt => decide (i < j)
  | .LtE => decide (i ≤ j)
  | .Gt => decide (j < i)
  | .GtE => decide (j ≤ i)
  | _ => false
def fChain (op op' : CmpOp) (f g h : Ev → R) : Ev → R := fun env => match f env with
  | some (_, .int i) => match g env with
    | some (_, .int j) => if cmpI op i j = true then match h env with
        | some (_, .int k) => some (.fz, .bl (cmpI op' j k))
        | _ => none
      else some (.fz, .bl false)
    | _ => none
  | _ => none
def rCmpI (op : CmpOp) : R2 := rI0 fun i j => .bl (cmpI op i j)
def ordOp : CmpOp → Bool
  | .Lt => true | .LtE => true | .Gt => true | .GtE => true | _ => false
theorem op_cmpI {op : CmpOp} (h : ordOp op = true) : OpR X (compareOp op) (rCmpI op) := by
  cases op <;> first | exact op_lt | exact op_le | exact op_gt | exact op_ge | cases h
theorem v_chain {op op' : CmpOp} {Q : VK} (h : tV K (fChain op op' fa fb fc) σ H Q) : tChain (rCmpI op) (rCmpI op') (tV K fa) (tV K fb) (tV K fc) σ H Q := by
  obtain ⟨F, env, fp, tg, z, e, L, nd, hf, q⟩ := h
  unfold fChain at hf
  split at hf
  · rename_i t1 i h1
    split at hf
    · rename_i t2 j h2
      refine ⟨F, env, fp, t1, .int i, e, L, nd, h1, fun F1 H1 v1 g1 s1 o1 _ _ => ?_⟩
      refine ⟨F1, env, fp, t2, .int j, s1.fh, L.step s1, nd, h2, fun F2 H2 v2 g2 s2 o2 _ _ => ?_⟩
      refine ⟨i, j, (o1.step s2).int s2.fh, o2.int s2.fh, cmpI op i j, rfl, ?_⟩
      split at hf
      · rename_i hc
        refine ite2 (fun _ => ?_) (fun hn => absurd hc hn)
        split at hf
        · rename_i t3 k h3
          cases hf
          refine ⟨F2, env, fp, t3, .int k, s2.fh, (L.step s1).step s2, nd, h3, fun F3 H3 v3 g3 s3 o3 _ _ => ?_⟩
          exact ⟨j, k, (o2.step s3).int s3.fh, o3.int s3.fh, q F3 H3 _ [] ((s1.trans s2).trans s3) ⟨.bl _, rfl⟩ .nil (by simp)⟩
        · cases hf
      · rename_i hc
        cases hf
        refine ite2 (fun hn => absurd hn hc) (fun _ => ?_)
        exact q F2 H2 _ [] (s1.trans s2) ⟨.bl _, rfl⟩ .nil (by simp)
    · cases hf
  · cases hf
theorem a_chain {op op' : CmpOp} (ha : PE X a (tV X.K fa)) (hb : PE X b (tV X.K fb)) (hc : PE X c (tV X.K fc)) (h1 : ordOp op = true := by rfl) (h2 : ordOp op' = true := by rfl) (hm : lastMarks [op, op'] [b, c] = false := by with_unfolding_all rfl) :
    PE X (.Compare a [op, op'] [b, c] pos) (tV X.K (fChain op op' fa fb fc)) := pe_mono (pe_chain (op_cmpI h1) (op_cmpI h2) ha hb hc hm) fun _ _ _ => v_chain
theorem at_chain {op op' : CmpOp} (ha : PE X a (tV X.K fa)) (hb : PE X b (tV X.K fb)) (hc : PE X c (tV X.K fc)) (h1 : ordOp op = true := by rfl) (h2 : ordOp op' = true := by rfl) (hm : lastMarks [op, op'] [b, c] = false := by with_unfolding_all rfl) :
    PT X (.Compare a [op, op'] [b, c] pos) (tT X.K (asB (fChain op op' fa fb fc))) := pt_mono (pt_chain (op_cmpI h1) (op_cmpI h2) ha hb hc hm) fun _ _ _ h => v_chain (v_asB h)

/-! ### argument lists -/
def fNil : Ev → Option (List (Tg × D)) := fun _ => some []
def fCons (f : Ev → R) (fs : Ev → Option (List (Tg × D))) : Ev → Option (List (Tg × D)) := fun env => match f env, fs env with
  | some z, some zs => some (z :: zs)
  | _, _ => none
variable {es : List Expr} {fs : Ev → Option (List (Tg × D))}
theorem VAll.step {F' H' : Hp} (s : Stp F H F' H') : ∀ {vs : List V} {ds : List (Tg × D)} {g : List Addr}, VAll K F H vs ds g → VAll K F' H' vs ds g
  | _, _, _, .nil => .nil
  | _, _, _, .cons h t => .cons (h.step s) (VAll.step s t)
theorem aa_nil : PA X [] (tA X.K fNil) := pa_mono pa_nil fun σ H Q h => by
  obtain ⟨F, env, fp, ds, e, L, nd, hf, q⟩ := h
  cases hf
  exact q F H [] [] (Stp.refl e) .nil .nil (by simp)
theorem aa_cons {e : Expr} (ha : PE X e (tV X.K fa)) (hr : PA X es (tA X.K fs)) (hs : starEach (e :: es) X.env = (false, eval e X.env) :: starEach es X.env := by rfl) : PA X (e :: es) (tA X.K (fCons fa fs)) := pa_mono (pa_cons ha hr hs) fun σ H Q h => by
  obtain ⟨F, env, fp, ds, ex, L, nd, hf, q⟩ := h
  unfold fCons at hf
  split at hf
  · rename_i z zs h1 h2
    cases hf
    obtain ⟨t1, d1⟩ := z
    refine ⟨F, env, fp, t1, d1, ex, L, nd, h1, fun F1 H1 v g1 s1 o1 n1 w1 => ?_⟩
    refine ⟨F1, env, fp, zs, s1.fh, L.step s1, nd, h2, fun F2 H2 vs g2 s2 o2 n2 w2 => ?_⟩
    refine q F2 H2 (v :: vs) (g1 ++ g2) (s1.trans s2) (.cons (o1.step s2) o2) ?_ fun a ha => ?_
    · refine List.nodup_append.mpr ⟨n1, n2, fun a ha b hb e => ?_⟩
      subst e
      obtain ⟨_, o, ho⟩ := o1.mem a ha
      rw [w2 a hb] at ho
      cases ho
    · rcases List.mem_append.mp ha with z | z
      · exact w1 a z
      · exact s1.fresh w2 a z
  · cases hf
/-! ### displays: what they take in is frozen -/
def noPk : Tg × D → Bool
  | (.pk _, d) => isSc d
  | _ => true
theorem VAll.mem : ∀ {vs : List V} {ds : List (Tg × D)} {g : List Addr}, VAll K F H vs ds g → ∀ a ∈ g, F a = none ∧ ∃ o, H a = some o
  | _, _, _, .nil, a, h => by simp at h
  | _, _, _, .cons h t, a, ha => by
    rcases List.mem_append.mp ha with z | z
    · exact h.mem a z
    · exact VAll.mem t a z
theorem VAll.length : ∀ {vs : List V} {ds : List (Tg × D)} {g : List Addr}, VAll K F H vs ds g → vs.length = ds.length
  | _, _, _, .nil => rfl
  | _, _, _, .cons _ t => congrArg (· + 1) (VAll.length t)
theorem VAll.dens {F' : Hp} (e : Ex F H) (ef : Ex F F') : ∀ {vs : List V} {ds : List (Tg × D)} {g : List Addr}, VAll K F H vs ds g → ds.all noPk = true → (∀ a ∈ g, ∀ o, H a = some o → F' a = some o) → Dens K F' vs (ds.map (·.2))
  | _, _, _, .nil, _, _ => .nil
  | _, _, _, .cons (t := t) (d := d) h r, a, k => by
    rw [List.all_cons, Bool.and_eq_true] at a
    refine .cons ?_ (VAll.dens e ef r a.2 fun b hb => k b (List.mem_append_right _ hb))
    cases t with
    | fz => exact h.1.mono ef
    | fr n => exact Own.den ef n h fun b hb => k b (List.mem_append_left _ hb)
    | pk n => exact (VO.here (t := .pk n) e h).sc (show isSc d = true from a.1)
theorem Stp.frz {F0 H0 : Hp} {g : List Addr} (s : Stp F0 H0 F H) (w : ∀ a ∈ g, H0 a = none) (m : ∀ a ∈ g, F a = none) : Stp F0 H0 (frzAt F H g) H :=
  ⟨s.ff.trans (frzAt_ex m), s.hh, frzAt_sub s.fh, fun a o h n => by
    have : a ∉ g := fun z => by rw [w a z] at h; cases h
    rw [frzAt_out this]
    exact s.nw a o h n⟩
def fLst (fs : Ev → Option (List (Tg × D))) : Ev → R := fun env => match fs env with
  | some ds => if (ds.all noPk && decide (ds.length ≤ 1000)) = true then some (.fr 1, .lst (ds.map (·.2))) else none
  | none => none
def fTup (fs : Ev → Option (List (Tg × D))) : Ev → R := fun env => match fs env with
  | some ds => if (ds.all noPk && decide (ds.length ≤ 1000)) = true then some (.fz, .tup (ds.map (·.2))) else none
  | none => none
theorem a_lst (h : PA X es (tA X.K fs)) : PE X (.List es pos) (tV X.K (fLst fs)) := pe_mono (pe_lst h) fun σ H Q h => by
  obtain ⟨F, env, fp, tg, z, ex, L, nd, hf, q⟩ := h
  unfold fLst at hf
  split at hf
  · rename_i ds hd
    split at hf
    · rename_i hk
      cases hf
      simp only [Bool.and_eq_true, decide_eq_true_eq] at hk
      refine ⟨F, env, fp, ds, ex, L, nd, hd, fun F1 H1 vs g s o n w => ?_⟩
      have hm : ∀ a ∈ g, F1 a = none := fun a ha => (o.mem a ha).1
      have s2 := s.frz w hm
      refine ⟨by rw [o.length]; exact Nat.le_of_lt (small1000 hk.2), new_lst (F := frzAt F1 H1 g) s2.fh (o.dens s.fh (frzAt_ex hm) hk.1 fun a ha u hu => by rw [frzAt_in ha]; exact hu) fun F3 H3 v g3 s3 o3 n3 w3 => ?_⟩
      exact q F3 H3 v g3 (s2.trans s3) o3 n3 (s2.fresh w3)
    · cases hf
  · cases hf
theorem a_tup {x1} (h : PA X es (tA X.K fs)) : PE X (.Tuple es x1 pos) (tV X.K (fTup fs)) := pe_mono (pe_tup h) fun σ H Q h => by
  obtain ⟨F, env, fp, tg, z, ex, L, nd, hf, q⟩ := h
  unfold fTup at hf
  split at hf
  · rename_i ds hd
    split at hf
    · rename_i hk
      cases hf
      simp only [Bool.and_eq_true, decide_eq_true_eq] at hk
      refine ⟨F, env, fp, ds, ex, L, nd, hd, fun F1 H1 vs g s o n w => ?_⟩
      have hm : ∀ a ∈ g, F1 a = none := fun a ha => (o.mem a ha).1
      have s2 := s.frz w hm
      refine ⟨by rw [o.length]; exact Nat.le_of_lt (small1000 hk.2), new_tup (F := frzAt F1 H1 g) s2.fh (o.dens s.fh (frzAt_ex hm) hk.1 fun a ha u hu => by rw [frzAt_in ha]; exact hu) fun F3 H3 v g3 s3 o3 n3 w3 => ?_⟩
      exact q F3 H3 v g3 (s2.trans s3) o3 n3 (s2.fresh w3)
    · cases hf
  · cases hf
/-! ### {} -/
def fDk : Ev → R := fun _ => some (.fr 1, .dk [])
def fDt : Ev → R := fun _ => some (.fr 1, .dt [])
theorem a_dk : PE X (.Dict [] [] pos) (tV X.K fDk) := pe_mono pe_dnewK fun σ H Q h => by
  obtain ⟨F, env, fp, tg, z, ex, L, nd, hf, q⟩ := h
  cases hf
  exact fun p hp => q F _ (.ref p) [p] (Stp.alloc ex hp) ⟨p, [], [], rfl, upd_same, none_back ex hp, rfl, .nil, rfl⟩ (by simp) (by simpa using hp)
theorem a_dt : PE X (.Dict [] [] pos) (tV X.K fDt) := pe_mono pe_dnewT fun σ H Q h => by
  obtain ⟨F, env, fp, tg, z, ex, L, nd, hf, q⟩ := h
  cases hf
  exact fun p hp => q F _ (.ref p) [p] (Stp.alloc ex hp) ⟨p, [], [], rfl, upd_same, none_back ex hp, rfl, .nil, rfl⟩ (by simp) (by simpa using hp)
end
end VL
namespace VL
open PySem PySem.Spec PyProof.Rows L2

/-! ### calls of defs -/
/-- all leaves at a level are scalars -/
def scAt : Nat → D → Bool
  | 0, d => isSc d
  | n + 1, .lst ds => ds.all (scAt n)
  | n + 1, .tup ds => ds.all (scAt n)
  | n + 1, .dk kvs => kvs.all fun kv => scAt n kv.2
  | n + 1, .dt kvs => kvs.all fun kv => scAt n kv.2
  | _ + 1, d => isSc d
def okRes : Tg → D → Bool
  | .fz, d => isSc d
  | .fr n, d => scAt n d
  | .pk _, _ => false
def noPkT : Tg → Bool
  | .pk _ => false
  | _ => true
def callF (g : List D → R) (fs : Ev → Option (List (Tg × D))) : Ev → R := fun env => match fs env with
  | some ds => match g (ds.map (·.2)) with
    | some (t, d) => if (noPkT t && (ds.all noPk || okRes t d)) = true then some (t, d) else none
    | none => none
  | none => none
def spV (K : PySem.W.Frag) (g : List D → R) : Sp := fun vs H Q _ => ∃ F ds t d, Ex F H ∧ Dens K F vs ds ∧ g ds = some (t, d) ∧ ∀ F' H' v fp, Stp F H F' H' → VO K F' H' t v d fp → fp.Nodup → (∀ a ∈ fp, H a = none) → Q v H'
section
variable {K : PySem.W.Frag} {F F' F1 H H' H1 : Hp}
theorem Own.sc' : ∀ (n : Nat) {v : V} {d : D} {fp : List Addr}, scAt n d = true → Own K F' H' n v d fp → (∀ a ∈ fp, F1 a = none) → Own K F1 H' n v d fp
  | 0, v, d, fp, s, h, _ => ⟨h.1.sc s, h.2⟩
  | n + 1, v, d, fp, s, h, k => by
    have up : ∀ {xs : List V} {ds : List D} {g : List Addr}, ds.all (scAt n) = true → (∀ a ∈ g, F1 a = none) → LO (Own K F' H' n) xs ds g → LO (Own K F1 H' n) xs ds g := by
      intro xs ds g hs kg r
      induction r with
      | nil => exact .nil
      | cons h t ih =>
        rw [List.all_cons, Bool.and_eq_true] at hs
        exact .cons (Own.sc' n hs.1 h fun a ha => kg a (List.mem_append_left _ ha)) (ih hs.2 fun a ha => kg a (List.mem_append_right _ ha))
    cases d with
    | lst ds =>
      obtain ⟨a, xs, g, rfl, ha, _, r, rfl⟩ := h
      exact ⟨a, xs, g, rfl, ha, k a List.mem_cons_self, up s (fun b hb => k b (List.mem_cons_of_mem _ hb)) r, rfl⟩
    | tup ds =>
      obtain ⟨a, xs, g, rfl, ha, _, r, rfl⟩ := h
      exact ⟨a, xs, g, rfl, ha, k a List.mem_cons_self, up s (fun b hb => k b (List.mem_cons_of_mem _ hb)) r, rfl⟩
    | dk kvs =>
      obtain ⟨a, xs, g, rfl, ha, _, hk, r, rfl⟩ := h
      refine ⟨a, xs, g, rfl, ha, k a List.mem_cons_self, hk, up ?_ (fun b hb => k b (List.mem_cons_of_mem _ hb)) r, rfl⟩
      have s' : (kvs.all fun kv => scAt n kv.2) = true := s
      rw [List.all_eq_true] at s' ⊢
      intro x hx
      obtain ⟨y, hy, rfl⟩ := List.mem_map.mp hx
      exact s' y hy
    | dt kvs =>
      obtain ⟨a, xs, g, rfl, ha, _, hk, r, rfl⟩ := h
      refine ⟨a, xs, g, rfl, ha, k a List.mem_cons_self, hk, up ?_ (fun b hb => k b (List.mem_cons_of_mem _ hb)) r, rfl⟩
      have s' : (kvs.all fun kv => scAt n kv.2) = true := s
      rw [List.all_eq_true] at s' ⊢
      intro x hx
      obtain ⟨y, hy, rfl⟩ := List.mem_map.mp hx
      exact s' y hy
    | _ => first | exact ⟨h.1.sc s, h.2⟩ | cases s
theorem VO.res {t : Tg} {v : V} {d : D} {fp : List Addr} (s : okRes t d = true) (h : VO K F' H' t v d fp) (k : ∀ a ∈ fp, F1 a = none) : VO K F1 H' t v d fp := by
  cases t with
  | fz => exact ⟨h.1.sc s, h.2⟩
  | fr n => exact Own.sc' n s h k
  | pk n => cases s
theorem VAll.here (e : Ex F H) : ∀ {vs : List V} {ds : List (Tg × D)} {g : List Addr}, VAll K F H vs ds g → Dens K H vs (ds.map (·.2))
  | _, _, _, .nil => .nil
  | _, _, _, .cons h t => .cons (h.here e) (VAll.here e t)
theorem v_call {σ : L2.St} {Q : VK} {g : List D → R} {fs : Ev → Option (List (Tg × D))} {E : XK} (h : tV K (callF g fs) σ H Q) : tCall (spV K g) [] E (tA K fs) σ H Q := by
  obtain ⟨F, env, fp, tg, z, ex, L, nd, hf, q⟩ := h
  unfold callF at hf
  split at hf
  · rename_i ds hd
    split at hf
    · rename_i t d hg
      split at hf
      · rename_i hk
        cases hf
        simp only [Bool.and_eq_true, Bool.or_eq_true] at hk
        refine ⟨F, env, fp, ds, ex, L, nd, hd, fun F1 H1 vs g1 s o n w => ?_⟩
        show spV K g (vs ++ []) H1 Q E
        rw [List.append_nil]
        have hm : ∀ a ∈ g1, F1 a = none := fun a ha => (o.mem a ha).1
        rcases hk.2 with hn | hr
        · have s2 := s.frz w hm
          exact ⟨frzAt F1 H1 g1, ds.map (·.2), tg, z, s2.fh, o.dens s.fh (frzAt_ex hm) hn fun a ha u hu => by rw [frzAt_in ha]; exact hu, hg, fun F' H' v fp' s3 o3 n3 w3 => q F' H' v fp' (s2.trans s3) o3 n3 (s2.fresh w3)⟩
        · refine ⟨H1, ds.map (·.2), tg, z, Ex.refl _, o.here s.fh, hg, fun F' H' v fp' s3 o3 n3 w3 => ?_⟩
          refine q F1 H' v fp' (s.trans ⟨Ex.refl _, s3.hh, s.fh.trans s3.hh, fun _ _ _ z => z⟩) (o3.res hr fun a ha => ?_) n3 (s.fresh w3)
          exact none_back s.fh (w3 a ha)
      · cases hf
    · cases hf
  · cases hf
variable {X : Cx} {e : Expr} {es : List Expr} {x : Str} {p pos : Pos} {k : Nat} {f : Addr} {fd : FuncData} {ps : List Str} {g : List D → R} {fs : Ev → Option (List (Tg × D))}
theorem a_call (G : FnOk X.prog X.w X.K X.mg X.base CX0 k f fd ps (spV X.K g)) (hr : Room k X.A) (hm : X.mg x = some (.ref f)) (hk : PySem.W.keepIn X.K (.ref f) = true) (hb : Binds X.K fd ps []) (ha : PA X (e :: es) (tA X.K fs)) (hg : Gl X x := by rfl)
    (hdb : (x == ("__debug__" : Str)) = false := by decide) (he : starEach (e :: es) X.env = (false, eval e X.env) :: starEach es X.env := by rfl) (hpl : (backTo pos (starEach es X.env)).any (·.1) = false := by rfl) :
    PE X (.Call (.Name x p) (e :: es) [] pos) (tV X.K (callF g fs)) := pe_mono (pe_call G hr hg hm hk hb .nil pass0 ha hdb he hpl) fun _ _ _ => v_call
theorem a_call0 (G : FnOk X.prog X.w X.K X.mg X.base CX0 k f fd ps (spV X.K g)) (hr : Room k X.A) (hm : X.mg x = some (.ref f)) (hk : PySem.W.keepIn X.K (.ref f) = true) (hb : Binds X.K fd ps []) (hg : Gl X x := by rfl)
    (hdb : (x == ("__debug__" : Str)) = false := by decide) : PE X (.Call (.Name x p) [] [] pos) (tV X.K (callF g fNil)) := pe_mono (pe_call0 G hr hg hm hk hb .nil pass0 hdb) fun σ H Q h => by
  have h2 := v_call (E := E0) h
  obtain ⟨F, env, fp, ds, ex, L, nd, hf, q⟩ := h2
  cases hf
  exact q F H [] [] (Stp.refl ex) .nil .nil (by simp)
end

/-! ### builtins of one argument, of two -/
def C1 (K : PySem.W.Frag) (r : List V → Hp → VK → Prop) (g : Tg → D → R) : Prop := ∀ {F H : Hp} {t : Tg} {x : V} {d : D} {f : List Addr} {tg : Tg} {z : D} {Q : VK}, Ex F H → VO K F H t x d f → g t d = some (tg, z) →
  (∀ F' H' v h, Stp F H F' H' → VO K F' H' tg v z h → h.Nodup → (∀ a ∈ h, H a = none) → Q v H') → r [x] H Q
def bind1 (f : Ev → R) (h : Tg → D → R) : Ev → R := fun env => match f env with
  | some (t, d) => h t d
  | none => none
section
variable {K : PySem.W.Frag} {F F' H H' H1 : Hp} {X : Cx} {a b e : Expr} {es : List Expr} {pos p : Pos} {fa fb : Ev → R} {x : Str} {id T : String}
theorem v_one {R' : V → Hp → Prop} {σ : L2.St} {Q : VK} {g : Tg → D → R} (h : tV K (bind1 fa g) σ H Q)
    (k : ∀ {F H1 : Hp} {t : Tg} {x : V} {d : D} {f : List Addr} {tg : Tg} {z : D}, Ex F H1 → VO K F H1 t x d f → g t d = some (tg, z) →
      (∀ F' H' v h, Stp F H1 F' H' → VO K F' H' tg v z h → h.Nodup → (∀ a ∈ h, H1 a = none) → Q v H') → R' x H1) : tV K fa σ H fun x H1 => R' x H1 := by
  obtain ⟨F, env, fp, tg, z, ex, L, nd, hf, q⟩ := h
  unfold bind1 at hf
  split at hf
  · rename_i t d ht
    exact ⟨F, env, fp, t, d, ex, L, nd, ht, fun F1 H1 v g1 s o n w => k s.fh o hf fun F' H' v' h' s' o' n' w' => q F' H' v' h' (s.trans s') o' n' (s.fresh w')⟩
  · cases hf
theorem v_c1 {r : List V → Hp → VK → Prop} {g : Tg → D → R} (hc : C1 K r g) {σ : L2.St} {Q : VK} (h : tV K (bind1 fa g) σ H Q) : tCB r (tCons (tV K fa) tNil) σ H Q :=
  v_one (R' := fun x H1 => r [x] H1 Q) h fun e o hg k => hc e o hg k
theorem pa1 (ha : PE X e (tV X.K fa)) (hs : starEach [e] X.env = (false, eval e X.env) :: starEach [] X.env := by rfl) : PA X [e] (tCons (tV X.K fa) tNil) := pa_cons ha pa_nil hs
theorem a_b1 {r : List V → Hp → VK → Prop} {g : Tg → D → R} (hc : CallR X (.builtin id) r) (h1 : C1 X.K r g) (hm : X.mg x = none) (hv : bootBuiltins x = some (.builtin id)) (ha : PE X e (tV X.K fa)) (hg : Gl X x := by rfl) (hn : x ≠ "__name__" := by decide) (hdb : (x == ("__debug__" : Str)) = false := by decide)
    (hs : starEach [e] X.env = (false, eval e X.env) :: starEach [] X.env := by rfl) (hpl : (backTo pos (starEach [] X.env)).any (·.1) = false := by rfl) : PE X (.Call (.Name x p) [e] [] pos) (tV X.K (bind1 fa g)) :=
  pe_mono (pe_callB hc hg hm hv (pa1 ha hs) hn hdb hs hpl) fun _ _ _ => v_c1 h1
theorem a_t1 {r : List V → Hp → VK → Prop} {g : Tg → D → R} (hc : CallR X (.type T) r) (h1 : C1 X.K r g) (hm : X.mg x = none) (hv : bootBuiltins x = some (.type T)) (ha : PE X e (tV X.K fa)) (hg : Gl X x := by rfl) (hn : x ≠ "__name__" := by decide) (hdb : (x == ("__debug__" : Str)) = false := by decide)
    (hs : starEach [e] X.env = (false, eval e X.env) :: starEach [] X.env := by rfl) (hpl : (backTo pos (starEach [] X.env)).any (·.1) = false := by rfl) : PE X (.Call (.Name x p) [e] [] pos) (tV X.K (bind1 fa g)) :=
  pe_mono (pe_callTy hc hg hm hv (pa1 ha hs) hn hdb hs hpl) fun _ _ _ => v_c1 h1
theorem C1.sc {r : List V → Hp → VK → Prop} {g : Tg → D → R} (h : ∀ {F H : Hp} {t : Tg} {x : V} {d : D} {f : List Addr} {tg : Tg} {z : D} {Q : VK}, Ex F H → VO K F H t x d f → g t d = some (tg, z) → ∃ v, tg = .fz ∧ (∀ F, Den K F v z) ∧ (Q v H → r [x] H Q)) : C1 K r g := by
  intro F H t x d f tg z Q ex o hg k
  obtain ⟨v, rfl, hd, hq⟩ := h (Q := Q) ex o hg
  exact hq (k F H v [] (Stp.refl ex) ⟨hd F, rfl⟩ .nil (by simp))
/-! len -/
def gLen : Tg → D → R := fun _ d => match d with
  | .lst xs => some (.fz, .int xs.length)
  | .tup xs => some (.fz, .int xs.length)
  | .ktup xs => some (.fz, .int xs.length)
  | .scr xs => some (.fz, .int xs.length)
  | .dk kvs => some (.fz, .int kvs.length)
  | .str x => if x.length ≤ sizeLine then some (.fz, .int x.length) else none
  | _ => none
def rLenA (K : PySem.W.Frag) : List V → Hp → VK → Prop := fun xs H Q => (∃ x n, xs = [x] ∧ LenV K x H n ∧ Q (.int n) H) ∨ ∃ a kvs, xs = [.ref a] ∧ Rd H a (.dK kvs) ∧ Q (.int kvs.length) H
theorem call_lenA : CallR X (.builtin "len") (rLenA X.K) := call_len.or fun pins s σ H xs us Q I r h => by
  obtain ⟨a, kvs, rfl, e, q⟩ := h
  obtain ⟨u, rfl, rx⟩ := vals1 r
  cases rx
  exact d_len I e fun t s' I' => ⟨.int kvs.length, H, I', ⟨t, rfl⟩, q⟩
theorem c_len : C1 K (rLenA K) gLen := by
  refine C1.sc fun {F H t x d f tg z Q} ex o hg => ?_
  unfold gLen at hg
  split at hg
  · cases hg
    obtain ⟨a, xs, rfl, ha, hl, _⟩ := o.lst ex
    exact ⟨_, rfl, fun _ => .int _, fun q => .inl ⟨_, _, rfl, .inl ⟨xs, .of ha, hl.symm⟩, q⟩⟩
  · cases hg
    obtain ⟨a, xs, rfl, ha, hl, _⟩ := o.tup ex
    exact ⟨_, rfl, fun _ => .int _, fun q => .inl ⟨_, _, rfl, .inr ⟨xs, .of ha, hl.symm⟩, q⟩⟩
  · cases hg
    obtain ⟨a, xs, rfl, ha, hd⟩ := o.ktup ex
    exact ⟨_, rfl, fun _ => .int _, fun q => .inl ⟨_, _, rfl, .inr ⟨xs, ha, hd.length.symm⟩, q⟩⟩
  · cases hg
    obtain ⟨a, rfl, ha⟩ := o.scr ex
    exact ⟨_, rfl, fun _ => .int _, fun q => .inl ⟨_, _, rfl, .inl ⟨_, ha, by simp⟩, q⟩⟩
  · cases hg
    obtain ⟨a, kxs, rfl, ha, hk, _⟩ := o.dk ex
    refine ⟨_, rfl, fun _ => .int _, fun q => .inr ⟨a, kxs, rfl, ha, ?_⟩⟩
    have hq := congrArg List.length hk
    simp only [List.length_map] at hq
    rw [hq]
    exact q
  · split at hg
    · rename_i hz
      cases hg
      exact ⟨_, rfl, fun _ => .int _, fun q => .inl ⟨_, _, rfl, by rw [o.str ex]; exact ⟨hz, rfl⟩, q⟩⟩
    · cases hg
  · cases hg
/-! int, abs -/
def gInt : Tg → D → R := fun _ d => match d with
  | .int i => some (.fz, .int i)
  | .bl b => some (.fz, .int (if b then 1 else 0))
  | _ => none
def rIntA : List V → Hp → VK → Prop := fun xs H Q => (∃ i, xs = [.int i] ∧ Q (.int i) H) ∨ ∃ k, xs = [.bl k] ∧ Q (.int (if k then 1 else 0)) H
theorem call_intA : CallR X (.type "int") rIntA := call_int1
theorem c_int : C1 K rIntA gInt := by
  refine C1.sc fun {F H t x d f tg z Q} ex o hg => ?_
  unfold gInt at hg
  split at hg
  · cases hg
    exact ⟨_, rfl, fun _ => .int _, fun q => .inl ⟨_, by rw [o.int ex], q⟩⟩
  · cases hg
    exact ⟨_, rfl, fun _ => .int _, fun q => .inr ⟨_, by rw [o.bl ex], q⟩⟩
  · cases hg
def gAbs : Tg → D → R := fun _ d => match d with
  | .int i => some (.fz, .int (if i < 0 then -i else i))
  | _ => none
def rAbsA : List V → Hp → VK → Prop := fun xs H Q => ∃ i, xs = [.int i] ∧ Q (.int (if i < 0 then -i else i)) H
theorem call_absA : CallR X (.builtin "abs") rAbsA := call_abs
theorem c_abs : C1 K rAbsA gAbs := by
  refine C1.sc fun {F H t x d f tg z Q} ex o hg => ?_
  unfold gAbs at hg
  split at hg
  · cases hg
    exact ⟨_, rfl, fun _ => .int _, fun q => ⟨_, by rw [o.int ex], q⟩⟩
  · cases hg
/-! list(x), tuple(x) -/
def gList : Tg → D → R := fun t d => match d with
  | .lst xs => if lvl t ≤ 1 then some (.fr 1, .lst xs) else none
  | .tup xs => if lvl t ≤ 1 then some (.fr 1, .lst xs) else none
  | .scr ns => some (.fr 1, .lst (ns.map D.int))
  | .dk kvs => some (.fr 1, .lst (kvs.map fun kv => match kv.1 with
    | .inl i => .int i
    | .inr x => .str x))
  | _ => none
def rListA (K : PySem.W.Frag) : List V → Hp → VK → Prop := fun xs H Q => (∃ p ys, xs = [.ref p] ∧ (SqL K H p ys ∨ SqT K H p ys) ∧ ∀ l, H l = none → Q (.ref l) (upd H l (.lst ys))) ∨
  ∃ (a : Addr) (kvs : List (Key × V)), xs = [.ref a] ∧ Rd H a (.dK kvs) ∧ ∀ p, H p = none → Q (.ref p) (upd H p (.lst (kvs.map fun kv => kV kv.1)))
theorem call_listA (hc : X.calm = true) : CallR X (.type "list") (rListA X.K) := call_list_of.or (call_listD hc)
theorem Dens.keys {kxs : List (Key × V)} {kvs : List (Key × D)} (h : kxs.map (·.1) = kvs.map (·.1)) : Dens K F (kxs.map fun kv => kV kv.1) (kvs.map fun kv => match kv.1 with
    | .inl i => .int i
    | .inr x => .str x) := by
  induction kvs generalizing kxs with
  | nil =>
    cases kxs with
    | nil => exact .nil
    | cons _ _ => simp at h
  | cons q kvs ih =>
    cases kxs with
    | nil => simp at h
    | cons p kxs =>
      simp only [List.map_cons, List.cons.injEq] at h
      refine .cons ?_ (ih h.2)
      obtain ⟨k1, v1⟩ := p
      obtain ⟨k2, d2⟩ := q
      obtain rfl : k1 = k2 := h.1
      cases k1 with
      | inl i => exact .int i
      | inr x => exact .str x
theorem c_list : C1 K (rListA K) gList := by
  intro F H t x d f tg z Q ex o hg k
  unfold gList at hg
  split at hg
  · split at hg
    · rename_i hl
      cases hg
      obtain ⟨a, xs, rfl, ha, _, _, _, hd⟩ := o.lst ex
      exact .inl ⟨a, xs, rfl, .inl (.of ha), new_lst ex (hd hl) k⟩
    · cases hg
  · split at hg
    · rename_i hl
      cases hg
      obtain ⟨a, xs, rfl, ha, _, _, _, hd⟩ := o.tup ex
      exact .inl ⟨a, xs, rfl, .inr (.of ha), new_lst ex (hd hl) k⟩
    · cases hg
  · cases hg
    obtain ⟨a, rfl, ha⟩ := o.scr ex
    exact .inl ⟨a, _, rfl, .inl ha, new_lst ex (Dens.of_ints _) k⟩
  · cases hg
    obtain ⟨a, kxs, rfl, ha, hk, _⟩ := o.dk ex
    exact .inr ⟨a, kxs, rfl, ha, new_lst ex (Dens.keys hk) k⟩
  · cases hg
def gTuple : Tg → D → R := fun t d => match d with
  | .lst xs => if lvl t ≤ 1 then some (.fz, .tup xs) else none
  | _ => none
def rTupleA (K : PySem.W.Frag) : List V → Hp → VK → Prop := fun xs H Q => ∃ p ys, xs = [.ref p] ∧ ((SqL K H p ys ∧ ∀ l, H l = none → Q (.ref l) (upd H l (.tup ys))) ∨ (SqT K H p ys ∧ Q (.ref p) H))
theorem call_tupleA : CallR X (.type "tuple") (rTupleA X.K) := call_tuple_of
theorem c_tuple : C1 K (rTupleA K) gTuple := by
  intro F H t x d f tg z Q ex o hg k
  unfold gTuple at hg
  split at hg
  · split at hg
    · rename_i hl
      cases hg
      obtain ⟨a, xs, rfl, ha, _, _, _, hd⟩ := o.lst ex
      exact ⟨a, xs, rfl, .inl ⟨.of ha, new_tup ex (hd hl) k⟩⟩
    · cases hg
  · cases hg
/-! lists of ints: sum, max, min, sorted -/
def intsD : List D → Option (List Int)
  | [] => some []
  | .int i :: ds => (intsD ds).map (i :: ·)
  | _ :: _ => none
theorem intsD_map (ns : List Int) : intsD (ns.map D.int) = some ns := by
  induction ns with
  | nil => rfl
  | cons n ns ih => simp [intsD, ih]
theorem intsD_eq : ∀ {ds : List D} {ns : List Int}, intsD ds = some ns → ds = ns.map D.int
  | [], ns, h => by cases h; rfl
  | .int i :: ds, ns, h => by
    simp only [intsD, Option.map_eq_some_iff] at h
    obtain ⟨ms, h1, rfl⟩ := h
    rw [intsD_eq h1]
    rfl
  | .non :: _, _, h => by cases h
  | .bl _ :: _, _, h => by cases h
  | .str _ :: _, _, h => by cases h
  | .tup _ :: _, _, h => by cases h
  | .lst _ :: _, _, h => by cases h
  | .dk _ :: _, _, h => by cases h
  | .dt _ :: _, _, h => by cases h
  | .scr _ :: _, _, h => by cases h
  | .ktup _ :: _, _, h => by cases h
def gInts (g : List Int → R) : Tg → D → R := fun _ d => match d with
  | .lst xs => match intsD xs with
    | some ns => g ns
    | none => none
  | .scr ns => g ns
  | _ => none
theorem gInts_of {g : List Int → R} {t : Tg} {x : V} {d : D} {f : List Addr} {z : Tg × D} (ex : Ex F H) (o : VO K F H t x d f) (h : gInts g t d = some z) : ∃ a ns, x = .ref a ∧ SqL K H a (ns.map V.int) ∧ g ns = some z := by
  unfold gInts at h
  split at h
  · split at h
    · rename_i ns hn
      obtain ⟨a, xs, rfl, ha, _, hd, _⟩ := o.lst ex
      rw [intsD_eq hn] at hd
      exact ⟨a, ns, rfl, by rw [← hd.ints]; exact .of ha, h⟩
    · cases h
  · obtain ⟨a, rfl, ha⟩ := o.scr ex
    exact ⟨a, _, rfl, ha, h⟩
  · cases h
def gSum : Tg → D → R := gInts fun ns => some (.fz, .int ns.sum)
theorem c_sum : C1 K (rSum K) gSum := C1.sc fun ex o hg => by
  obtain ⟨a, ns, rfl, ha, hz⟩ := gInts_of ex o hg
  cases hz
  exact ⟨_, rfl, fun _ => .int _, fun q => ⟨a, ns, rfl, ha, q⟩⟩
def maxI : List Int → Int
  | [] => 0
  | [x] => x
  | x :: y :: r => max x (maxI (y :: r))
def minI : List Int → Int
  | [] => 0
  | [x] => x
  | x :: y :: r => min x (minI (y :: r))
theorem maxI_spec : ∀ (ns : List Int), ns ≠ [] → maxI ns ∈ ns ∧ ∀ y ∈ ns, y ≤ maxI ns
  | [], h => absurd rfl h
  | [x], _ => by simp [maxI]
  | x :: y :: r, _ => by
    obtain ⟨h1, h2⟩ := maxI_spec (y :: r) (by simp)
    refine ⟨?_, fun z hz => ?_⟩
    · by_cases hxy : x ≤ maxI (y :: r)
      · rw [maxI, Int.max_eq_right hxy]
        exact List.mem_cons_of_mem _ h1
      · rw [maxI, Int.max_eq_left (by omega)]
        exact List.mem_cons_self
    · rw [maxI]
      rcases List.mem_cons.mp hz with rfl | hz
      · omega
      · have := h2 z hz
        omega
theorem minI_spec : ∀ (ns : List Int), ns ≠ [] → minI ns ∈ ns ∧ ∀ y ∈ ns, minI ns ≤ y
  | [], h => absurd rfl h
  | [x], _ => by simp [minI]
  | x :: y :: r, _ => by
    obtain ⟨h1, h2⟩ := minI_spec (y :: r) (by simp)
    refine ⟨?_, fun z hz => ?_⟩
    · by_cases hxy : minI (y :: r) ≤ x
      · rw [minI, Int.min_eq_right hxy]
        exact List.mem_cons_of_mem _ h1
      · rw [minI, Int.min_eq_left (by omega)]
        exact List.mem_cons_self
    · rw [minI]
      rcases List.mem_cons.mp hz with rfl | hz
      · omega
      · have := h2 z hz
        omega
def gMax1 : Tg → D → R := gInts fun ns => if ns.isEmpty = true then none else some (.fz, .int (maxI ns))
def gMin1 : Tg → D → R := gInts fun ns => if ns.isEmpty = true then none else some (.fz, .int (minI ns))
theorem c_max1 : C1 K (rMax K) gMax1 := C1.sc fun ex o hg => by
  obtain ⟨a, ns, rfl, ha, hz⟩ := gInts_of ex o hg
  split at hz
  · cases hz
  · rename_i hne
    cases hz
    have hne' : ns ≠ [] := by simpa using hne
    obtain ⟨h1, h2⟩ := maxI_spec ns hne'
    exact ⟨_, rfl, fun _ => .int _, fun q => ⟨a, ns, rfl, ha, List.length_pos_iff.mpr hne', fun m m1 m2 => by
      have e : m = maxI ns := Int.le_antisymm (h2 m m1) (m2 _ h1)
      rw [e]
      exact q⟩⟩
theorem c_min1 : C1 K (rMin K) gMin1 := C1.sc fun ex o hg => by
  obtain ⟨a, ns, rfl, ha, hz⟩ := gInts_of ex o hg
  split at hz
  · cases hz
  · rename_i hne
    cases hz
    have hne' : ns ≠ [] := by simpa using hne
    obtain ⟨h1, h2⟩ := minI_spec ns hne'
    exact ⟨_, rfl, fun _ => .int _, fun q => ⟨a, ns, rfl, ha, List.length_pos_iff.mpr hne', fun m m1 m2 => by
      have e : m = minI ns := Int.le_antisymm (m2 _ h1) (h2 m m1)
      rw [e]
      exact q⟩⟩
def sortI (ns : List Int) : List Int := ns.mergeSort fun a b => decide (a ≤ b)
theorem sortI_perm (ns : List Int) : (sortI ns).Perm ns := List.mergeSort_perm ns _
theorem sortI_sorted (ns : List Int) : (sortI ns).Pairwise (· ≤ ·) := by
  have h := List.pairwise_mergeSort (le := fun a b : Int => decide (a ≤ b)) (fun a b c h1 h2 => by simp at *; omega) (fun a b => by simp; omega) ns
  exact h.imp fun {a b} q => by simpa using q
theorem sorted_uniq : ∀ {xs ys : List Int}, xs.Perm ys → xs.Pairwise (· ≤ ·) → ys.Pairwise (· ≤ ·) → xs = ys := fun h h1 h2 =>
  h.eq_of_pairwise (fun a b _ _ h3 h4 => Int.le_antisymm h3 h4) h1 h2
def gSorted : Tg → D → R := fun t d => match d with
  | .dk kvs => match intsD (kvs.map fun kv => match kv.1 with
    | .inl i => D.int i
    | .inr x => D.str x) with
    | some ns => if ns.length < 64 then some (.fr 1, .lst ((sortI ns).map D.int)) else none
    | none => none
  | d => gInts (fun ns => some (.fr 1, .lst ((sortI ns).map D.int))) t d
end
end VL
namespace VL
open PySem PySem.Spec PyProof.Rows L2

inductive Out where
  | nx (e : Ev) | rt (t : Tg) (d : D) | bk (e : Ev) | ct (e : Ev)
abbrev SF := Ev → Option Out
structure StO (K : PySem.W.Frag) (F0 H0 B F H : Hp) (σ : L2.St) (env : Ev) (fp : List Addr) : Prop where
  stp : Stp F0 H0 F H
  env : EnvL K F H σ env fp
  nd : fp.Nodup
  fr : ∀ a ∈ fp, H0 a = none
  fb : Ex B F
def OutOk (K : PySem.W.Frag) (F0 H0 B : Hp) (Dn : Ends) : Out → Prop
  | .nx e => ∀ F' H' σ' fp', StO K F0 H0 B F' H' σ' e fp' → Dn.nx σ' H'
  | .bk e => ∀ F' H' σ' fp', StO K F0 H0 B F' H' σ' e fp' → Dn.bk σ' H'
  | .ct e => ∀ F' H' σ' fp', StO K F0 H0 B F' H' σ' e fp' → Dn.ct σ' H'
  | .rt t d => ∀ F' H' v g, Stp F0 H0 F' H' → VO K F' H' t v d g → g.Nodup → (∀ a ∈ g, H0 a = none) → Dn.rt v H'
def tS (K : PySem.W.Frag) (s : SF) : TS := fun Dn σ H => ∃ F0 H0 B F env fp o, StO K F0 H0 B F H σ env fp ∧ s env = some o ∧ OutOk K F0 H0 B Dn o

section
variable {K : PySem.W.Frag} {F0 H0 B F F' F1 H H' H1 : Hp} {σ : L2.St} {env : Ev} {fp : List Addr} {X : Cx} {st : Stmt} {rest sts : List Stmt} {s s1 s2 : SF} {pos : Pos} {Dn : Ends}
/-- an expression is evaluated in a state -/
theorem StO.eval {f : Ev → R} {t : Tg} {d : D} {Q : VK} (h : StO K F0 H0 B F H σ env fp) (hf : f env = some (t, d))
    (k : ∀ F' H' v g, StO K F0 H0 B F' H' σ env fp → VO K F' H' t v d g → g.Nodup → (∀ a ∈ g, H0 a = none) → (∀ a ∈ g, a ∉ fp) → (∀ a ∈ g, H a = none) → Stp F H F' H' → Q v H') : tV K f σ H Q :=
  ⟨F, env, fp, t, d, h.stp.fh, h.env, h.nd, hf, fun F' H' v g s o n w => k F' H' v g ⟨h.stp.trans s, h.env.step s, h.nd, h.fr, h.fb.trans s.ff⟩ o n (h.stp.fresh w) (fun a ha hm => by
    obtain ⟨_, o', ho⟩ := h.env.mem a hm
    rw [w a ha] at ho
    cases ho) w s⟩
theorem StO.test {f : Ev → Option Bool} {b : Bool} {Q : Bool → Hp → Prop} (h : StO K F0 H0 B F H σ env fp) (hf : f env = some b) (k : ∀ F' H', StO K F0 H0 B F' H' σ env fp → Q b H') : tT K f σ H Q :=
  ⟨F, env, fp, b, h.stp.fh, h.env, h.nd, hf, fun F' H' s => k F' H' ⟨h.stp.trans s, h.env.step s, h.nd, h.fr, h.fb.trans s.ff⟩⟩
/-- a slot is stored -/
theorem StO.store {i : Nat} {sl : Option Sl} {n : Nat} {v : V} {d : D} {g : List Addr} (h : StO K F0 H0 B F H σ env fp) (hi : env[i]? = some sl) (o : Own K F H n v d g) (nd : g.Nodup) (w : ∀ a ∈ g, H0 a = none) (dj : ∀ a ∈ g, a ∉ fp) :
    ∃ fp', StO K F0 H0 B F H (σ.set i (some v)) (env.set i (some ⟨n, d⟩)) fp' := by
  obtain ⟨sv, f, pre, post, h1, h2, rfl, mk⟩ := h.env.pick hi
  refine ⟨pre ++ (g ++ post), h.stp, mk (Ex.refl _) (fun a ha => ?_) ⟨v, rfl, o⟩, ?_, fun a ha => ?_, h.fb⟩
  · have : a ∈ pre ++ (f ++ post) := by
      rcases List.mem_append.mp ha with z | z
      · exact List.mem_append_left _ z
      · exact List.mem_append_right _ (List.mem_append_right _ z)
    exact ⟨(h.env.mem a this).1, rfl⟩
  · have nd0 := h.nd
    obtain ⟨p1, p2, p3⟩ := List.nodup_append.mp nd0
    obtain ⟨q1, q2, q3⟩ := List.nodup_append.mp p2
    refine List.nodup_append.mpr ⟨p1, List.nodup_append.mpr ⟨nd, q2, fun a ha b hb e => ?_⟩, fun a ha b hb e => ?_⟩
    · subst e
      exact dj a ha (List.mem_append_right _ (List.mem_append_right _ hb))
    · subst e
      rcases List.mem_append.mp hb with z | z
      · exact dj a z (List.mem_append_left _ ha)
      · exact p3 a ha a (List.mem_append_right _ z) rfl
  · rcases List.mem_append.mp ha with z | z
    · exact h.fr a (List.mem_append_left _ z)
    · rcases List.mem_append.mp z with z | z
      · exact w a z
      · exact h.fr a (List.mem_append_right _ (List.mem_append_right _ z))

/-! ### blocks -/
def nilS : SF := fun env => some (.nx env)
def seqS (s1 s2 : SF) : SF := fun env => match s1 env with
  | some (.nx e) => s2 e
  | o => o
theorem as_nil : PSs X [] (tS X.K nilS) := pss_mono pss_nil fun Dn σ H h => by
  obtain ⟨F0, H0, B, F, env, fp, o, h, hs, q⟩ := h
  cases hs
  exact q F H σ fp h
theorem as_one (h : PS X st (tS X.K s)) : PSs X [st] (tS X.K s) := pss_one h
theorem v_seq (h : tS K (seqS s1 s2) Dn σ H) : tSeq (tS K s1) (tS K s2) Dn σ H := by
  obtain ⟨F0, H0, B, F, env, fp, o, h, hs, q⟩ := h
  unfold seqS at hs
  split at hs
  · rename_i e he
    exact ⟨F0, H0, B, F, env, fp, .nx e, h, he, fun F' H' σ' fp' h' => ⟨F0, H0, B, F', e, fp', o, h', hs, q⟩⟩
  · rename_i hne
    refine ⟨F0, H0, B, F, env, fp, o, h, hs, ?_⟩
    cases o with
    | nx e => exact absurd hs (hne e)
    | rt t d => exact q
    | bk e => exact q
    | ct e => exact q
theorem as_cons (h1 : PS X st (tS X.K s1)) (h2 : PSs X rest (tS X.K s2)) : PSs X (st :: rest) (tS X.K (seqS s1 s2)) := pss_mono (pss_cons h1 h2) fun _ _ _ => v_seq
/-- freezing a slot's value is free -/
def frzE (i : Nat) (env : Ev) : Ev := match env[i]? with
  | some (some sl) => env.set i (some ⟨0, sl.d⟩)
  | _ => env
theorem StO.frz (i : Nat) (h : StO K F0 H0 B F H σ env fp) : ∃ F' fp', StO K F0 H0 B F' H σ (frzE i env) fp' := by
  unfold frzE
  split
  · rename_i sl hi
    obtain ⟨sv, f, pre, post, h1, ⟨v, rfl, o⟩, rfl, mk⟩ := h.env.pick hi
    obtain ⟨p1, p2, p3⟩ := List.nodup_append.mp h.nd
    obtain ⟨q1, q2, q3⟩ := List.nodup_append.mp p2
    have hm : ∀ a ∈ f, F a = none := fun a ha => (o.mem _ a ha).1
    have s2 := h.stp.frz (g := f) (fun a ha => h.fr a (List.mem_append_right _ (List.mem_append_left _ ha))) hm
    refine ⟨frzAt F H f, pre ++ ([] ++ post), s2, ?_, ?_, fun a ha => h.fr a ?_, h.fb.trans (frzAt_ex hm)⟩
    · have q := mk (F' := frzAt F H f) (H' := H) (sv' := some v) (s' := some ⟨0, sl.d⟩) (f' := []) (frzAt_ex hm) (fun a ha => ?_) ⟨v, rfl, o.frz, rfl⟩
      · have e : σ.set i (some v) = σ := by
          refine List.ext_getElem? fun j => ?_
          by_cases hj : j = i
          · subst hj
            have hl : j < σ.length := (List.getElem?_eq_some_iff.mp h1).1
            rw [List.getElem?_set_self hl, h1]
          · rw [List.getElem?_set_ne (Ne.symm hj)]
        rw [e] at q
        exact q
      · have hn : a ∉ f := fun hf => by
          rcases List.mem_append.mp ha with z | z
          · exact p3 a z a (List.mem_append_left _ hf) rfl
          · exact q3 a hf a z rfl
        have : a ∈ pre ++ (f ++ post) := by
          rcases List.mem_append.mp ha with z | z
          · exact List.mem_append_left _ z
          · exact List.mem_append_right _ (List.mem_append_right _ z)
        rw [frzAt_out hn]
        exact ⟨(h.env.mem a this).1, rfl⟩
    · refine List.nodup_append.mpr ⟨p1, q2, fun a ha b hb e => p3 a ha b (List.mem_append_right _ hb) e⟩
    · rcases List.mem_append.mp ha with z | z
      · exact List.mem_append_left _ z
      · exact List.mem_append_right _ (List.mem_append_right _ z)
  · exact ⟨F, fp, h⟩
theorem as_frz (i : Nat) (h : PSs X sts (tS X.K s)) : PSs X sts (tS X.K fun env => s (frzE i env)) := pss_mono h fun Dn σ H h => by
  obtain ⟨F0, H0, B, F, env, fp, o, h, hs, q⟩ := h
  obtain ⟨F', fp', h'⟩ := h.frz i
  exact ⟨F0, H0, B, F', _, fp', o, h', hs, q⟩

/-! ### a name, a return, an if -/
def slOf (t : Tg) (d : D) : Option Sl := match t with
  | .fz => some ⟨0, d⟩
  | .fr n => some ⟨n, d⟩
  | .pk _ => if isSc d = true then some ⟨0, d⟩ else none
theorem VO.sl {t : Tg} {v : V} {d : D} {g : List Addr} {sl : Sl} (e : Ex F H) (h : VO K F H t v d g) (hs : slOf t d = some sl) : sl.d = d ∧ Own K F H sl.n v d g := by
  cases t with
  | fz => cases hs; exact ⟨rfl, h⟩
  | fr n => cases hs; exact ⟨rfl, h⟩
  | pk n =>
    simp only [slOf] at hs
    split at hs
    · rename_i hc
      cases hs
      exact ⟨rfl, (VO.here (t := .pk n) e h).sc hc, h.2⟩
    · cases hs
def asgS (i : Nat) (f : Ev → R) : SF := fun env => match f env, env[i]? with
  | some (t, d), some _ => match slOf t d with
    | some sl => some (.nx (env.set i (some sl)))
    | none => none
  | _, _ => none
variable {e : Expr} {f : Ev → R} {t u : Ev → Option Bool}
theorem v_asg {i : Nat} (h : tS K (asgS i f) Dn σ H) : tAsg (tV K f) (gName i) Dn σ H := by
  obtain ⟨F0, H0, B, F, env, fp, o, h, hs, q⟩ := h
  unfold asgS at hs
  split at hs
  · rename_i t d sl0 hf hi
    split at hs
    · rename_i sl hsl
      cases hs
      refine h.eval hf fun F1 H1 v g h1 ov nd w dj _ _ => ?_
      obtain ⟨e1, e2⟩ := ov.sl h1.stp.fh hsl
      obtain ⟨fp', h2⟩ := h1.store hi e2 nd w dj
      obtain ⟨n, d'⟩ := sl
      obtain rfl : d' = d := e1
      exact q F1 H1 _ fp' h2
    · cases hs
  · cases hs
theorem as_set {i : Nat} {x : Str} {pos' : Pos} (hN : X.N.Nodup) (he : PE X e (tV X.K f)) (hi : X.N[i]? = some x := by rfl) (hx : Loc X.env.scope x := by first | exact .inl rfl | exact .inr rfl) (hs : swapsWith e (some (.Name x pos')) pos.line X.env = pure false := by rfl) (hf : X.fn x = true ∨ X.env.scope.names.lookup x = some .local := by first | exact .inl rfl | exact .inr rfl | assumption) :
    PS X (.Assign [.Name x pos'] e pos) (tS X.K (asgS i f)) := ps_mono (ps_set hN hi hx he hs hf) fun _ _ _ => v_asg
def retS (f : Ev → R) : SF := fun env => match f env with
  | some (t, d) => match slOf t d with
    | some sl => some (.rt (if sl.n = 0 then .fz else .fr sl.n) d)
    | none => none
  | none => none
theorem Own.vo {n : Nat} {v : V} {d : D} {g : List Addr} (h : Own K F H n v d g) : VO K F H (if n = 0 then .fz else .fr n) v d g := by
  by_cases hn : n = 0
  · subst hn
    rw [if_pos rfl]
    exact h
  · rw [if_neg hn]
    exact h
theorem as_ret (he : PE X e (tV X.K f)) : PS X (.Return (some e) pos) (tS X.K (retS f)) := ps_mono (ps_ret he) fun Dn σ H h => by
  obtain ⟨F0, H0, B, F, env, fp, o, h, hs, q⟩ := h
  unfold retS at hs
  split at hs
  · rename_i t d hf
    split at hs
    · rename_i sl hsl
      cases hs
      refine h.eval hf fun F1 H1 v g h1 ov nd w dj _ _ => ?_
      obtain ⟨e1, e2⟩ := ov.sl h1.stp.fh hsl
      exact q F1 H1 v g h1.stp e2.vo nd w
    · cases hs
  · cases hs
/-- return x, what x owns goes with it -/
def retM (i : Nat) : SF := fun env => match env[i]? with
  | some (some sl) => some (.rt (if sl.n = 0 then .fz else .fr sl.n) sl.d)
  | _ => none
theorem as_retM (i : Nat) {x : Str} {pos' : Pos} (hN : X.N[i]? = some x := by rfl) (hv : Vis X.env.scope x := by first | exact Or.inl rfl | exact Or.inr (Or.inl rfl) | exact Or.inr (Or.inr rfl)) (hd : (x == ("__debug__" : Str)) = false := by decide)
    (hcd : (x == ("__classdict__" : Str)) = false := by decide) : PS X (.Return (some (.Name x pos')) pos) (tS X.K (retM i)) := ps_mono (ps_ret (pe_var hN hv hd hcd)) fun Dn σ H h => by
  obtain ⟨F0, H0, B, F, env, fp, o, h, hs, q⟩ := h
  unfold retM at hs
  split at hs
  · rename_i sl hi
    cases hs
    obtain ⟨sv, g, pre, post, h1, ⟨v, rfl, ow⟩, rfl, _⟩ := h.env.pick hi
    refine ⟨v, h1, q F H v g h.stp ow.vo ?_ fun a ha => h.fr a (List.mem_append_right _ (List.mem_append_left _ ha))⟩
    exact (List.nodup_append.mp (List.nodup_append.mp h.nd).2.1).1
  · cases hs
theorem as_retN : PS X (.Return none pos) (tS X.K fun _ => some (.rt .fz .non)) := ps_mono ps_retN fun Dn σ H h => by
  obtain ⟨F0, H0, B, F, env, fp, o, h, hs, q⟩ := h
  cases hs
  exact q F H .non [] h.stp ⟨.non, rfl⟩ .nil (by simp)
def ifS (c : Ev → Option Bool) (s1 s2 : SF) : SF := fun env => match c env with
  | some true => s1 env
  | some false => s2 env
  | none => none
theorem v_ifS {c : Ev → Option Bool} (h : tS K (ifS c s1 s2) Dn σ H) : tIfS (tT K c) (tS K s1) (tS K s2) Dn σ H := by
  obtain ⟨F0, H0, B, F, env, fp, o, h, hs, q⟩ := h
  unfold ifS at hs
  split at hs
  · rename_i hc
    exact h.test hc fun F1 H1 h1 => iteT ⟨F0, H0, B, F1, env, fp, o, h1, hs, q⟩
  · rename_i hc
    exact h.test hc fun F1 H1 h1 => iteF ⟨F0, H0, B, F1, env, fp, o, h1, hs, q⟩
  · cases hs
theorem as_if {c : Expr} {a b : List Stmt} {tc : Ev → Option Bool} (hc : PT X c (tT X.K tc)) (ha : PSs X a (tS X.K s1)) (hb : PSs X b (tS X.K s2)) : PS X (.If c a b pos) (tS X.K (ifS tc s1 s2)) := ps_mono (ps_if hc ha hb) fun _ _ _ => v_ifS
theorem as_pass : PS X (.Pass pos) (tS X.K nilS) := ps_mono ps_pass fun Dn σ H h => by
  obtain ⟨F0, H0, B, F, env, fp, o, h, hs, q⟩ := h
  cases hs
  exact q F H σ fp h
theorem as_break : PS X (.Break pos) (tS X.K fun env => some (.bk env)) := ps_mono ps_break fun Dn σ H h => by
  obtain ⟨F0, H0, B, F, env, fp, o, h, hs, q⟩ := h
  cases hs
  exact q F H σ fp h
theorem as_continue : PS X (.Continue pos) (tS X.K fun env => some (.ct env)) := ps_mono ps_continue fun Dn σ H h => by
  obtain ⟨F0, H0, B, F, env, fp, o, h, hs, q⟩ := h
  cases hs
  exact q F H σ fp h
def neverS : SF := fun _ => none
theorem as_never : PS X st (tS X.K neverS) := ps_mono ps_never fun Dn σ H h => by
  obtain ⟨F0, H0, B, F, env, fp, o, h, hs, q⟩ := h
  cases hs
/-- an expression whose value is dropped -/
def dropS (f : Ev → R) : SF := fun env => match f env with
  | some _ => some (.nx env)
  | none => none
theorem as_drop (he : PE X e (tV X.K f)) (hs : swapsWith e none pos.line X.env = pure false := by rfl) : PS X (.Expr e pos) (tS X.K (dropS f)) := ps_mono (ps_expr he hs) fun Dn σ H h => by
  obtain ⟨F0, H0, B, F, env, fp, o, h, hs, q⟩ := h
  unfold dropS at hs
  split at hs
  · rename_i z hf
    cases hs
    obtain ⟨t, d⟩ := z
    exact h.eval hf fun F1 H1 v g h1 _ _ _ _ _ _ => q F1 H1 σ fp h1
  · cases hs

/-! ### while -/
def whileN (c : Ev → Option Bool) (s : SF) : Nat → SF
  | 0 => fun _ => none
  | m + 1 => fun env => match c env with
    | some true => match s env with
      | some (.nx e) => whileN c s m e
      | some (.ct e) => whileN c s m e
      | some (.bk e) => some (.nx e)
      | some (.rt t d) => some (.rt t d)
      | none => none
    | some false => some (.nx env)
    | none => none
open Classical in
noncomputable def whileS (c : Ev → Option Bool) (s : SF) : SF := fun env => if h : ∃ m o, whileN c s m env = some o then some (choose (choose_spec h)) else none
theorem whileN_mono {c : Ev → Option Bool} {s : SF} : ∀ {m : Nat} {k : Nat} {env : Ev} {o : Out}, whileN c s m env = some o → whileN c s (m + k) env = some o
  | 0, k, env, o, h => by cases h
  | m + 1, k, env, o, h => by
    rw [Nat.add_right_comm]
    simp only [whileN] at h ⊢
    split at h
    · split at h
      · exact whileN_mono h
      · exact whileN_mono h
      · exact h
      · exact h
      · cases h
    · exact h
    · cases h
theorem whileN_det {c : Ev → Option Bool} {s : SF} {m k : Nat} {env : Ev} {o u : Out} (h : whileN c s m env = some o) (g : whileN c s k env = some u) : o = u := by
  have h1 := whileN_mono (k := k) h
  have g1 := whileN_mono (k := m) g
  rw [Nat.add_comm] at g1
  rw [h1] at g1
  exact Option.some.inj g1
theorem whileS_of {c : Ev → Option Bool} {s : SF} {m : Nat} {env : Ev} {o : Out} (h : whileN c s m env = some o) : whileS c s env = some o := by
  have hx : ∃ m o, whileN c s m env = some o := ⟨m, o, h⟩
  unfold whileS
  rw [dif_pos hx]
  exact congrArg some (whileN_det (Classical.choose_spec (Classical.choose_spec hx)) h)
theorem whileS_some {c : Ev → Option Bool} {s : SF} {env : Ev} {o : Out} (h : whileS c s env = some o) : ∃ m, whileN c s m env = some o := by
  unfold whileS at h
  split at h
  · rename_i hx
    have q := Classical.choose_spec (Classical.choose_spec hx)
    cases h
    exact ⟨_, q⟩
  · cases h
theorem v_while {c : Ev → Option Bool} (h : tS K (whileS c s) Dn σ H) : tWhile (tT K c) (tS K s) Dn σ H := by
  obtain ⟨F0, H0, B, F, env, fp, o, h, hs, q⟩ := h
  obtain ⟨m, hm⟩ := whileS_some hs
  refine ⟨fun m σ H => ∃ F env fp, StO K F0 H0 B F H σ env fp ∧ whileN c s m env = some o, ⟨m, F, env, fp, h, hm⟩, ?_⟩
  rintro m σ H ⟨F, env, fp, h, hm⟩
  cases m with
  | zero => cases hm
  | succ m =>
    simp only [whileN] at hm
    split at hm
    · rename_i hc
      refine h.test hc fun F1 H1 h1 => iteT ⟨fun σ' H' => ∃ F env fp, StO K F0 H0 B F H' σ' env fp ∧ whileN c s m env = some o, fun σ' H' hN => ⟨m, Nat.lt_succ_self m, hN⟩, ?_⟩
      split at hm
      · rename_i e he
        exact ⟨F0, H0, B, F1, env, fp, .nx e, h1, he, fun F' H' σ' fp' h' => ⟨F', e, fp', h', hm⟩⟩
      · rename_i e he
        exact ⟨F0, H0, B, F1, env, fp, .ct e, h1, he, fun F' H' σ' fp' h' => ⟨F', e, fp', h', hm⟩⟩
      · rename_i e he
        cases hm
        exact ⟨F0, H0, B, F1, env, fp, .bk e, h1, he, q⟩
      · rename_i t d he
        cases hm
        exact ⟨F0, H0, B, F1, env, fp, .rt t d, h1, he, q⟩
      · cases hm
    · rename_i hc
      cases hm
      exact h.test hc fun F1 H1 h1 => iteF (q F1 H1 σ fp h1)
    · cases hm
theorem as_while {c : Expr} {body : List Stmt} {tc : Ev → Option Bool} (hp : PassesOwn (model X.prog X.w) X.A X.env X.xe) (hc : PT X c (tT X.K tc)) (hb : PSs X body (tS X.K s)) : PS X (.While c body [] pos) (tS X.K (whileS tc s)) := ps_mono (ps_while hp hc hb) fun _ _ _ => v_while
end

/-! ### a def -/
def runF (s : SF) (n k : Nat) (ds : List D) : R := if ds.length = k then match s ((ds.map fun d => some ⟨0, d⟩) ++ List.replicate (n - ds.length) none) with
  | some (.rt t d) => if noPkT t = true then some (t, d) else none
  | some (.nx _) => some (.fz, .non)
  | _ => none
  else none
section
variable {P : Program} {w : World} {K : PySem.W.Frag} {mg : Str → Option Value} {base : Heap}
theorem EnvL.start {F H : Hp} : ∀ {vs : List V} {ds : List D}, Dens K F vs ds → ∀ n : Nat, EnvL K F H (vs.map some ++ List.replicate n none) ((ds.map fun d => some ⟨0, d⟩) ++ List.replicate n none) []
  | _, _, .nil, n => by
    show EnvL K F H (List.replicate n none) (List.replicate n none) []
    induction n with
    | zero => exact .nil
    | succ n ih => exact EnvL.cons (f := []) (g := []) rfl ih
  | _, _, .cons h t, n => EnvL.cons (f := []) (g := []) ⟨_, rfl, h, rfl⟩ (EnvL.start t n)
theorem ok_of {x qual : Str} {st : Stmt} {f : Addr} {fd : FuncData} {N ps : List Str} {k : Nat} {s : SF} (Fn : Fun K x qual st f fd) (S : FnScope N ps (defScope st))
    (hbody : ∀ (cdv : Value) (A : Around) (outer : List Env) (s' : Shared) (H : Hp) (E : XK), Room k (A.deeper (envOfC qual (defScope st) s'.heap.objs.size f cdv)) →
      PSs (cxOf CX0 P w K mg base N qual (defScope st) f cdv A outer s' H E).nox (defBody st) (tS K s)) : FnOk P w K mg base CX0 (k + 1) f fd ps (spV K (runF s N.length ps.length)) := by
  refine Fn.ok S (fun vs H Q E h => ?_) (fun cdv A outer s' H vs Q E hr h => ⟨_, hbody cdv A outer s' H E hr, ?_⟩)
  · obtain ⟨F, ds, t, d, e, hd, hg, _⟩ := h
    unfold runF at hg
    split at hg
    · rename_i hl
      rw [hd.length, hl]
    · cases hg
  · obtain ⟨F, ds, t, d, e, hd, hg, q⟩ := h
    have hl := hd.length
    have st0 : StO K F H F F H (L2.start N vs) ((ds.map fun d => some ⟨0, d⟩) ++ List.replicate (N.length - ds.length) none) [] := by
      refine ⟨Stp.refl e, ?_, .nil, by simp, Ex.refl _⟩
      unfold L2.start
      rw [hl]
      exact EnvL.start hd _
    unfold runF at hg
    split at hg
    · split at hg
      · rename_i t' d' hs
        split at hg
        · rename_i hn
          cases hg
          exact ⟨F, H, F, F, _, [], .rt t d, st0, hs, fun F' H' v g s1 o n w => q F' H' v g s1 o n w⟩
        · cases hg
      · rename_i e' hs
        cases hg
        exact ⟨F, H, F, F, _, [], .nx e', st0, hs, fun F' H' σ' fp' h' => q F' H' .non [] h'.stp ⟨.non, rfl⟩ .nil (by simp)⟩
      · cases hg
    · cases hg
end
end VL
namespace VL
open PySem PySem.Spec PyProof.Rows L2

/-! ### targets of loops -/
def SameOff (is : List Nat) (σ σ' : L2.St) : Prop := σ'.length = σ.length ∧ ∀ j, j ∉ is → σ'[j]? = σ[j]?
def SemG (K : PySem.W.Frag) (g : TG) (is : List Nat) (tgt : Ev → D → Option Ev) : Prop := ∀ (F H : Hp) (σ : L2.St) (env : Ev) (fp : List Addr) (x : V) (d : D) (env' : Ev), Ex F H → Den K F x d → EnvL K F H σ env fp → fp.Nodup → tgt env d = some env' →
  ∀ Q : L2.St → Hp → Prop, (∀ σ' fp', EnvL K F H σ' env' fp' → fp'.Nodup → (∀ a ∈ fp', a ∈ fp) → SameOff is σ σ' → Q σ' H) → g x σ H Q
def setE (i : Nat) (env : Ev) (d : D) : Option Ev := match env[i]? with
  | some _ => some (env.set i (some ⟨0, d⟩))
  | none => none
section
variable {K : PySem.W.Frag} {F F' F1 H H' H1 : Hp} {σ : L2.St} {env : Ev} {fp : List Addr} {X : Cx} {pos : Pos}
theorem EnvL.set0 {i : Nat} {x : V} {d : D} {env' : Ev} (L : EnvL K F H σ env fp) (nd : fp.Nodup) (hd : Den K F x d) (h : setE i env d = some env') : ∃ fp', EnvL K F H (σ.set i (some x)) env' fp' ∧ fp'.Nodup ∧ ∀ a ∈ fp', a ∈ fp := by
  unfold setE at h
  split at h
  · rename_i sl hi
    cases h
    obtain ⟨sv, f, pre, post, h1, h2, rfl, mk⟩ := L.pick hi
    obtain ⟨p1, p2, p3⟩ := List.nodup_append.mp nd
    obtain ⟨q1, q2, q3⟩ := List.nodup_append.mp p2
    have sub : ∀ a ∈ pre ++ ([] ++ post), a ∈ pre ++ (f ++ post) := fun a ha => by
      rcases List.mem_append.mp ha with z | z
      · exact List.mem_append_left _ z
      · exact List.mem_append_right _ (List.mem_append_right _ z)
    refine ⟨pre ++ ([] ++ post), mk (Ex.refl _) (fun a ha => ⟨(L.mem a (sub a ha)).1, rfl⟩) ⟨x, rfl, hd, rfl⟩, ?_, sub⟩
    exact List.nodup_append.mpr ⟨p1, q2, fun a ha b hb e => p3 a ha b (List.mem_append_right _ hb) e⟩
  · cases h
theorem sg_name (i : Nat) : SemG K (gName i) [i] (setE i) := fun F H σ env fp x d env' _ hd L nd h Q q => by
    obtain ⟨fp', h1, h2, h3⟩ := L.set0 nd hd h
    exact q _ fp' h1 h2 h3 ⟨by simp, fun j hj => by rw [List.getElem?_set_ne (by simp at hj; omega)]⟩
/-- (a, b, ..): names -/
def SemGs (K : PySem.W.Frag) (g : TGs) (is : List Nat) (tgts : Ev → List D → Option Ev) : Prop := ∀ (F H : Hp) (σ : L2.St) (env : Ev) (fp : List Addr) (xs : List V) (ds : List D) (env' : Ev), Ex F H → Dens K F xs ds → EnvL K F H σ env fp → fp.Nodup → tgts env ds = some env' →
  ∀ Q : L2.St → Hp → Prop, (∀ σ' fp', EnvL K F H σ' env' fp' → fp'.Nodup → (∀ a ∈ fp', a ∈ fp) → SameOff is σ σ' → Q σ' H) → g xs σ H Q
def nilT : Ev → List D → Option Ev := fun env ds => match ds with
  | [] => some env
  | _ => none
def consT (t : Ev → D → Option Ev) (ts : Ev → List D → Option Ev) : Ev → List D → Option Ev := fun env ds => match ds with
  | d :: ds => match t env d with
    | some e => ts e ds
    | none => none
  | [] => none
theorem sgs_nil : SemGs K gNil [] nilT := fun F H σ env fp xs ds env' _ hd L nd h Q q => by
  unfold nilT at h
  split at h
  · cases h
    cases hd
    exact ⟨rfl, q σ fp L nd (fun _ z => z) ⟨rfl, fun _ _ => rfl⟩⟩
  · cases h
theorem sgs_cons {g1 : TG} {g2 : TGs} {is js : List Nat} {t : Ev → D → Option Ev} {ts : Ev → List D → Option Ev} (k1 : SemG K g1 is t) (k2 : SemGs K g2 js ts) : SemGs K (gCons g1 g2) (is ++ js) (consT t ts) := by
  refine fun F H σ env fp xs ds env' ex hd L nd h Q q => ?_
  unfold consT at h
  split at h
  · rename_i d ds'
    cases hd with
    | cons a r =>
      split at h
      · rename_i e1 he
        refine ⟨_, _, rfl, k1 F H σ env fp _ d e1 ex a L nd he _ fun σ1 fp1 L1 nd1 s1 o1 => ?_⟩
        exact k2 F H σ1 e1 fp1 _ ds' env' ex r L1 nd1 h Q fun σ2 fp2 L2 nd2 s2 o2 => q σ2 fp2 L2 nd2 (fun a ha => s1 a (s2 a ha)) ⟨o2.1.trans o1.1, fun j hj => (o2.2 j fun z => hj (List.mem_append_right _ z)).trans (o1.2 j fun z => hj (List.mem_append_left _ z))⟩
      · cases h
  · cases h
def tupT (n : Nat) (ts : Ev → List D → Option Ev) : Ev → D → Option Ev := fun env d => match d with
  | .tup ds => if ds.length = n then ts env ds else none
  | .ktup ds => if ds.length = n then ts env ds else none
  | _ => none
theorem sg_tup {g : TGs} {is : List Nat} {n : Nat} {ts : Ev → List D → Option Ev} (kk : SemGs K g is ts) : SemG K (gTup K n g) is (tupT n ts) := by
  refine fun F H σ env fp x d env' ex hd L nd h Q q => ?_
  unfold tupT at h
  split at h
  · split at h
    · rename_i hn
      cases hd with
      | tup ha r => exact ⟨_, _, rfl, .of (ex _ _ ha), by rw [r.length, hn], kk F H σ env fp _ _ env' ex r L nd h Q q⟩
    · cases h
  · split at h
    · rename_i hn
      cases hd with
      | ktup ha r => exact ⟨_, _, rfl, ex_t ex ha, by rw [r.length, hn], kk F H σ env fp _ _ env' ex r L nd h Q q⟩
    · cases h
  · cases h

/-! ### what is walked -/
def PIV (X : Cx) (tg iter : Expr) (cm : Bool) (fi : Ev → Option (List D)) : Prop := ∃ wi, PI X tg iter wi ∧ ∀ (σ : L2.St) (H F : Hp) (env : Ev) (fp : List Addr) (ds : List D) (R : It → Hp → Prop), Ex F H → EnvL X.K F H σ env fp → fp.Nodup → fi env = some ds →
  (∀ (F1 H1 : Hp) (J : It) (G : Hp → Prop) (Y : Nat → Hp → V → Hp → Prop), Stp F H F1 H1 → Walk J ds.length G Y → (∀ H2, Ex F1 H2 → (cm = true → Ex H1 H2) → G H2) →
    (∀ i F2 H2 x H3, Ex F1 F2 → Ex F2 H2 → i < ds.length → Y i H2 x H3 → ∃ F3 d, Stp F2 H2 F3 H3 ∧ ds[i]? = some d ∧ Den X.K F3 x d) → R J H1) → wi σ H R
variable {tg iter e e2 : Expr} {f f2 : Ev → R} {cm : Bool}
def itF (cm : Bool) (f : Ev → R) : Ev → Option (List D) := fun env => match f env with
  | some (t, .lst ds) => if (noPkT t || (cm && decide (lvl t ≤ 1))) = true then some ds else none
  | some (_, .scr ns) => some (ns.map D.int)
  | some (t, .tup ds) => if (noPkT t || (cm && decide (lvl t ≤ 1))) = true then some ds else none
  | some (_, .ktup ds) => some ds
  | some (_, .str x) => some (x.cps.toList.map fun c => .str ⟨#[c]⟩)
  | _ => none
theorem PI.or {w1 w2 : TI} (h1 : PI X tg iter w1) (h2 : PI X tg iter w2) : PI X tg iter fun σ H R => w1 σ H R ∨ w2 σ H R := ⟨fun pins s σ H R I q => by
  rcases q with q | q
  · exact h1.run pins s σ H R I q
  · exact h2.run pins s σ H R I q⟩
/-- the items at hand, frozen if they are to be kept -/
theorem walk_items {F0 H0 : Hp} {t : Tg} {v : V} {xs : List V} {ds : List D} {d : D} {g : List Addr} (s : Stp F0 H0 F H) (o : VO K F H t v d g) (w : ∀ a ∈ g, H0 a = none) (hk : (noPkT t || (cm && decide (lvl t ≤ 1))) = true)
    (hl : lvl t ≤ 1 → Dens K F xs ds) (hh : Den K (frzAt F H g) v d → Dens K (frzAt F H g) xs ds) : ∃ F1, Stp F0 H0 F1 H ∧ Dens K F1 xs ds ∧ (noPkT t = true → Den K F1 v d) ∧ (noPkT t = true ∨ cm = true) := by
  have hm : ∀ a ∈ g, F a = none := fun a ha => (o.mem a ha).1
  cases t with
  | fz => exact ⟨F, s, hl (Nat.zero_le _), fun _ => o.1, .inl rfl⟩
  | fr n => exact ⟨frzAt F H g, s.frz w hm, hh (Own.frz o), fun _ => Own.frz o, .inl rfl⟩
  | pk n =>
    simp only [noPkT, Bool.false_or, Bool.and_eq_true, decide_eq_true_eq] at hk
    exact ⟨F, s, hl hk.2, (fun z => by cases z), .inr hk.1⟩
theorem i_any (he : PE X e (tV X.K f)) : PIV X tg e cm (itF cm f) := by
  refine ⟨_, PI.or (pi_list he) (PI.or (pi_tup he) (pi_str he)), fun σ H F env fp ds R ex L nd h k => ?_⟩
  unfold itF at h
  split at h
  · rename_i t ds' hf
    split at h
    · rename_i hk
      cases h
      refine .inl ⟨F, env, fp, t, _, ex, L, nd, hf, fun F1 H1 v g s o n w => ?_⟩
      obtain ⟨a, xs, rfl, ha, hl, hd, _, hd1⟩ := o.lst s.fh
      obtain ⟨F2, s2, d2, d3, hc⟩ := walk_items (cm := cm) s o w hk hd1 fun q => by
        cases q with
        | lst hb r =>
          have hb2 := frzAt_sub s.fh _ _ hb
          rw [ha] at hb2
          cases hb2
          exact r
      refine ⟨a, rfl, ⟨xs, .of ha⟩, ?_⟩
      refine k F2 H1 (Itl X.K a) (fun H => SqL X.K H a xs) (YAt xs) s2 (by rw [← hl]; exact walk_list) (fun H2 e1 e2 => ?_) fun i F3 H3 x H4 e3 e4 hi y => ?_
      · rcases hc with hc | hc
        · cases d3 hc with
          | lst hb r =>
            have hb2 := s2.fh _ _ hb
            rw [ha] at hb2
            cases hb2
            exact .of (e1 _ _ hb)
        · exact .of (e2 hc _ _ ha)
      · obtain ⟨rfl, hx⟩ := y
        obtain ⟨d, h1, h2⟩ := d2.get' hx
        exact ⟨F3, d, Stp.refl e4, h1, h2.mono e3⟩
    · cases h
  · rename_i t ns hf
    cases h
    refine .inl ⟨F, env, fp, t, _, ex, L, nd, hf, fun F1 H1 v g s o n w => ?_⟩
    have hd : Den X.K F1 v (.scr ns) := by
      obtain ⟨g', ow⟩ := o.own
      cases hl : lvl t with
      | zero => rw [hl] at ow; exact ow.1
      | succ n => rw [hl] at ow; exact ow.1
    cases hd with
    | scr ha =>
      refine ⟨_, rfl, ⟨_, ex_l s.fh ha⟩, ?_⟩
      refine k F1 H1 (Itl X.K _) (fun H => SqL X.K H _ (ns.map V.int)) (YAt (ns.map V.int)) s ?_ (fun H2 e1 _ => ex_l e1 ha) fun i F3 H3 x H4 e3 e4 hi y => ?_
      · have : (ns.map D.int).length = (ns.map V.int).length := by simp
        rw [this]
        exact walk_list
      · obtain ⟨rfl, hx⟩ := y
        rw [List.getElem?_map] at hx
        cases q : ns[i]? with
        | none => rw [q] at hx; cases hx
        | some z =>
          rw [q] at hx
          cases hx
          exact ⟨F3, .int z, Stp.refl e4, by rw [List.getElem?_map, q]; rfl, .int z⟩
  · rename_i t ds' hf
    split at h
    · rename_i hk
      cases h
      refine .inr (.inl ⟨F, env, fp, t, _, ex, L, nd, hf, fun F1 H1 v g s o n w => ?_⟩)
      obtain ⟨a, xs, rfl, ha, hl, hd, _, hd1⟩ := o.tup s.fh
      obtain ⟨F2, s2, d2, d3, hc⟩ := walk_items (cm := cm) s o w hk hd1 fun q => by
        cases q with
        | tup hb r =>
          have hb2 := frzAt_sub s.fh _ _ hb
          rw [ha] at hb2
          cases hb2
          exact r
      refine ⟨a, rfl, ⟨xs, .of ha⟩, ?_⟩
      refine k F2 H1 (Itt X.K a) (fun H => SqT X.K H a xs) (YAt xs) s2 (by rw [← hl]; exact walk_tup) (fun H2 e1 e2 => ?_) fun i F3 H3 x H4 e3 e4 hi y => ?_
      · rcases hc with hc | hc
        · cases d3 hc with
          | tup hb r =>
            have hb2 := s2.fh _ _ hb
            rw [ha] at hb2
            cases hb2
            exact .of (e1 _ _ hb)
        · exact .of (e2 hc _ _ ha)
      · obtain ⟨rfl, hx⟩ := y
        obtain ⟨d, h1, h2⟩ := d2.get' hx
        exact ⟨F3, d, Stp.refl e4, h1, h2.mono e3⟩
    · cases h
  · rename_i t ds' hf
    cases h
    refine .inr (.inl ⟨F, env, fp, t, _, ex, L, nd, hf, fun F1 H1 v g s o n w => ?_⟩)
    have hd : Den X.K F1 v (.ktup ds) := by
      obtain ⟨g', ow⟩ := o.own
      cases hl : lvl t with
      | zero => rw [hl] at ow; exact ow.1
      | succ n => rw [hl] at ow; exact ow.1
    cases hd with
    | ktup ha r =>
      refine ⟨_, rfl, ⟨_, ex_t s.fh ha⟩, ?_⟩
      refine k F1 H1 (Itt X.K _) (fun H => SqT X.K H _ _) (YAt _) s (by rw [← r.length]; exact walk_tup) (fun H2 e1 _ => ex_t e1 ha) fun i F3 H3 x H4 e3 e4 hi y => ?_
      obtain ⟨rfl, hx⟩ := y
      obtain ⟨d, h1, h2⟩ := r.get' hx
      exact ⟨F3, d, Stp.refl e4, h1, h2.mono e3⟩
  · rename_i t z hf
    cases h
    refine .inr (.inr ⟨F, env, fp, t, _, ex, L, nd, hf, fun F1 H1 v g s o n w => ?_⟩)
    refine ⟨z, o.str s.fh, ?_⟩
    refine k F1 H1 (Its z) (fun _ => True) _ s (by rw [List.length_map, Array.length_toList]; exact walk_str) (fun _ _ _ => True.intro) fun i F3 H3 x H4 e3 e4 hi y => ?_
    obtain ⟨rfl, c, hc, rfl⟩ := y
    refine ⟨F3, .str ⟨#[c]⟩, Stp.refl e4, ?_, .str _⟩
    rw [List.getElem?_map, Array.getElem?_toList, hc]
    rfl
  · cases h
/-! range -/
def okR (i : Int) : Bool := decide (-(2 ^ 62) ≤ i) && decide (i < 2 ^ 62)
def itR1 (f : Ev → R) : Ev → Option (List D) := fun env => match f env with
  | some (_, .int n) => if okR n = true then some ((List.range n.toNat).map fun (k : Nat) => .int (k : Int)) else none
  | _ => none
def itR2 (f f2 : Ev → R) : Ev → Option (List D) := fun env => match f env, f2 env with
  | some (_, .int a), some (_, .int b) => if (okR a && okR b) = true then some ((List.range (b - a).toNat).map fun (k : Nat) => .int (a + (k : Int))) else none
  | _, _ => none
theorem range_yields {K : PySem.W.Frag} {lo : Int} {n : Nat} {i : Nat} {F3 H3 H4 : Hp} {x : V} (e4 : Ex F3 H3) (hi : i < n) (y : YFn (fun i => V.int (lo + (i : Nat))) i H3 x H4) {ds : List D} (hds : ds = (List.range n).map fun (k : Nat) => D.int (lo + (k : Int))) : ∃ F5 d, Stp F3 H3 F5 H4 ∧ ds[i]? = some d ∧ Den K F5 x d := by
  obtain ⟨rfl, rfl⟩ := y
  refine ⟨F3, .int (lo + (i : Nat)), Stp.refl e4, ?_, .int _⟩
  rw [hds, List.getElem?_map, List.getElem?_range hi]
  rfl
theorem i_range1 {p : Pos} (hm : X.mg "range" = none) (he : PE X e (tV X.K f)) (hg : Gl X "range" := by rfl) (hs : starEach [e] X.env = [(false, eval e X.env)] := by rfl) (hs2 : starEach [e] X.env = (false, eval e X.env) :: starEach [] X.env := by rfl) : PIV X tg (.Call (.Name "range" p) [e] [] pos) cm (itR1 f) := by
  refine ⟨_, pi_range1 hg hm (pa1 he hs2) hs, fun σ H F env fp ds R ex L nd h k => ?_⟩
  unfold itR1 at h
  split at h
  · rename_i t n hf
    split at h
    · rename_i hk
      cases h
      unfold okR at hk
      simp only [Bool.and_eq_true, decide_eq_true_eq] at hk
      refine ⟨F, env, fp, t, _, ex, L, nd, hf, fun F1 H1 v g s o _ w => ⟨n, by rw [o.int s.fh], hk.1, hk.2, ?_⟩⟩
      refine k F1 H1 (Itr 0 n.toNat) (fun _ => True) _ s (by rw [List.length_map, List.length_range]; exact walk_range) (fun _ _ _ => True.intro) fun i F3 H3 x H4 e3 e4 hi y => ?_
      rw [List.length_map, List.length_range] at hi
      exact range_yields (lo := 0) e4 hi y (by simp)
    · cases h
  · cases h
theorem i_range2 {p : Pos} (hm : X.mg "range" = none) (he : PE X e (tV X.K f)) (he2 : PE X e2 (tV X.K f2)) (hg : Gl X "range" := by rfl) (hs : starEach [e, e2] X.env = [(false, eval e X.env), (false, eval e2 X.env)] := by rfl) (hs1 : starEach [e2] X.env = [(false, eval e2 X.env)] := by rfl)
    (hs2 : starEach [e, e2] X.env = (false, eval e X.env) :: starEach [e2] X.env := by rfl) (hs3 : starEach [e2] X.env = (false, eval e2 X.env) :: starEach [] X.env := by rfl) : PIV X tg (.Call (.Name "range" p) [e, e2] [] pos) cm (itR2 f f2) := by
  refine ⟨_, pi_range2 hg hm (pa_cons he (pa1 he2 hs3) hs2) hs hs1, fun σ H F env fp ds R ex L nd h k => ?_⟩
  unfold itR2 at h
  split at h
  · rename_i t1 a t2 b hf hf2
    split at h
    · rename_i hk
      cases h
      unfold okR at hk
      simp only [Bool.and_eq_true, decide_eq_true_eq] at hk
      refine ⟨F, env, fp, t1, _, ex, L, nd, hf, fun F1 H1 v g s o _ w => ⟨F1, env, fp, t2, _, s.fh, L.step s, nd, hf2, fun F2 H2 v2 g2 s2 o2 _ w2 => ⟨a, b, by rw [(o.step s2).int s2.fh, o2.int s2.fh], ⟨hk.1.1, hk.1.2, hk.2.1, hk.2.2⟩, ?_⟩⟩⟩
      refine k F2 H2 (Itr a (b - a).toNat) (fun _ => True) _ (s.trans s2) (by rw [List.length_map, List.length_range]; exact walk_range) (fun _ _ _ => True.intro) fun i F3 H3 x H4 e3 e4 hi y => ?_
      rw [List.length_map, List.length_range] at hi
      exact range_yields e4 hi y rfl
    · cases h
  · cases h

/-! ### for -/
def forGo (tgt : Ev → D → Option Ev) (s : SF) : List D → SF
  | [] => fun env => some (.nx env)
  | d :: ds => fun env => match tgt env d with
    | some e => match s e with
      | some (.nx e') => forGo tgt s ds e'
      | some (.ct e') => forGo tgt s ds e'
      | some (.bk e') => some (.nx e')
      | some (.rt t z) => some (.rt t z)
      | none => none
    | none => none
def forS (fi : Ev → Option (List D)) (tgt : Ev → D → Option Ev) (s : SF) : SF := fun env => match fi env with
  | some ds => forGo tgt s ds env
  | none => none
theorem as_for {body : List Stmt} {fi : Ev → Option (List D)} {tgt : Ev → D → Option Ev} {s : SF} (hp : PassesOwn (model X.prog X.w) X.A X.env X.xe) (hc : X.calm = true) {g : TG} {is : List Nat} (hi : PIV X tg iter false fi) (pg : PG X tg g) (kg : SemG X.K g is tgt) (hb : PSs X body (tS X.K s))
    (hs : ∀ x, foldedSetIterable iter X.env x = pure x := by intro _; rfl) : PS X (.For tg iter body [] pos) (tS X.K (forS fi tgt s)) := by
  obtain ⟨wi, pi, ki⟩ := hi
  refine ps_mono (ps_for hp hc pi pg hb hs) fun Dn σ H h => ?_
  obtain ⟨F0, H0, B, F, env, fp, o, h, hs, q⟩ := h
  unfold forS at hs
  split at hs
  · rename_i ds hds
    refine ki σ H F env fp ds _ h.stp.fh h.env h.nd hds fun F1 H1 J G Y s1 W hG hY => ?_
    refine for_it W (fun i σ H => ∃ F env fp, StO X.K F0 H0 B F H σ env fp ∧ Ex F1 F ∧ forGo tgt s (ds.drop i) env = some o) ⟨F1, env, fp, ⟨h.stp.trans s1, h.env.step s1, h.nd, h.fr, h.fb.trans s1.ff⟩, Ex.refl _, hs⟩ ?_ ?_ ?_
    · rintro i σ H _ ⟨F, env, fp, h, e, _⟩
      exact hG H (e.trans h.stp.fh) (fun z => by cases z)
    · rintro i x σ H H' hi ⟨F, env, fp, h, e, hg⟩ y
      obtain ⟨F3, d, s3, hd, dd⟩ := hY i F H x H' e h.stp.fh hi y
      have hdr : ds.drop i = d :: ds.drop (i + 1) := by
        rw [List.drop_eq_getElem_cons hi]
        rw [List.getElem?_eq_getElem hi] at hd
        cases hd
        rfl
      rw [hdr] at hg
      simp only [forGo] at hg
      split at hg
      · rename_i e1 he1
        have L3 := h.env.step s3
        refine kg F3 H' σ env fp x d e1 s3.fh dd L3 h.nd he1 _ fun σ2 fp2 L2 nd2 sub _ => ?_
        have h2 : StO X.K F0 H0 F3 F3 H' σ2 e1 fp2 := ⟨h.stp.trans s3, L2, nd2, fun a ha => h.fr a (sub a ha), Ex.refl _⟩
        have bb : ∀ {F' : Hp}, Ex F3 F' → Ex B F' := fun e' => (h.fb.trans s3.ff).trans e'
        have b1 : ∀ {F' : Hp}, Ex F3 F' → Ex F1 F' := fun e' => (e.trans s3.ff).trans e'
        split at hg
        · rename_i e2 he2
          exact ⟨F0, H0, F3, F3, e1, fp2, .nx e2, h2, he2, fun F' H'' σ' fp' h' => ⟨F', e2, fp', ⟨h'.stp, h'.env, h'.nd, h'.fr, bb h'.fb⟩, b1 h'.fb, hg⟩⟩
        · rename_i e2 he2
          exact ⟨F0, H0, F3, F3, e1, fp2, .ct e2, h2, he2, fun F' H'' σ' fp' h' => ⟨F', e2, fp', ⟨h'.stp, h'.env, h'.nd, h'.fr, bb h'.fb⟩, b1 h'.fb, hg⟩⟩
        · rename_i e2 he2
          cases hg
          exact ⟨F0, H0, F3, F3, e1, fp2, .bk e2, h2, he2, fun F' H'' σ' fp' h' => q F' H'' σ' fp' ⟨h'.stp, h'.env, h'.nd, h'.fr, bb h'.fb⟩⟩
        · rename_i t z he2
          cases hg
          exact ⟨F0, H0, F3, F3, e1, fp2, .rt t z, h2, he2, fun F' H'' v g s4 o4 n4 w4 => q F' H'' v g s4 o4 n4 w4⟩
        · cases hg
      · cases hg
    · rintro σ H ⟨F, env, fp, h, e, hg⟩
      rw [List.drop_length] at hg
      cases hg
      exact q F H σ fp h
  · cases hs
end
end VL
namespace VL
open PySem PySem.Spec PyProof.Rows L2

section
variable {K : PySem.W.Frag} {F F' F1 H H' H1 : Hp} {σ : L2.St} {env : Ev} {fp : List Addr} {X : Cx} {pos : Pos}
/-! ### a value at a level -/
theorem Own.raise : ∀ (m : Nat) {v : V} {d : D} {fp : List Addr} (j : Nat), scAt m d = true → Own K F H m v d fp → Own K F H (m + j) v d fp
  | 0, v, d, fp, j, s, h => by
    rw [h.2, Nat.zero_add]
    exact Own.of_sc j s h.1
  | m + 1, v, d, fp, j, s, h => by
    rw [Nat.add_right_comm]
    have up : ∀ {xs : List V} {ds : List D} {g : List Addr}, ds.all (scAt m) = true → LO (Own K F H m) xs ds g → LO (Own K F H (m + j)) xs ds g := by
      intro xs ds g hs r
      induction r with
      | nil => exact .nil
      | cons h t ih =>
        rw [List.all_cons, Bool.and_eq_true] at hs
        exact .cons (Own.raise m j hs.1 h) (ih hs.2)
    cases d with
    | lst ds =>
      obtain ⟨a, xs, g, e1, e2, e3, r, e4⟩ := h
      exact ⟨a, xs, g, e1, e2, e3, up s r, e4⟩
    | tup ds =>
      obtain ⟨a, xs, g, e1, e2, e3, r, e4⟩ := h
      exact ⟨a, xs, g, e1, e2, e3, up s r, e4⟩
    | dk kvs =>
      obtain ⟨a, xs, g, e1, e2, e3, hk, r, e4⟩ := h
      refine ⟨a, xs, g, e1, e2, e3, hk, up ?_ r, e4⟩
      have s' : (kvs.all fun kv => scAt m kv.2) = true := s
      rw [List.all_eq_true] at s' ⊢
      intro x hx
      obtain ⟨y, hy, rfl⟩ := List.mem_map.mp hx
      exact s' y hy
    | dt kvs =>
      obtain ⟨a, xs, g, e1, e2, e3, hk, r, e4⟩ := h
      refine ⟨a, xs, g, e1, e2, e3, hk, up ?_ r, e4⟩
      have s' : (kvs.all fun kv => scAt m kv.2) = true := s
      rw [List.all_eq_true] at s' ⊢
      intro x hx
      obtain ⟨y, hy, rfl⟩ := List.mem_map.mp hx
      exact s' y hy
    | _ => exact h
def okTo (t : Tg) (d : D) (n : Nat) : Bool := match t with
  | .fz => n == 0 || isSc d
  | .fr m => n == 0 || m == n || (decide (m ≤ n) && scAt m d)
  | .pk _ => isSc d
theorem conv {t : Tg} {v : V} {d : D} {g : List Addr} {n : Nat} (e : Ex F H) (o : VO K F H t v d g) (nd : g.Nodup) (hk : okTo t d n = true) : ∃ F2 g', Ex F F2 ∧ Ex F2 H ∧ (∀ a, a ∉ g → F2 a = F a) ∧ Own K F2 H n v d g' ∧ g'.Nodup ∧ (∀ a ∈ g', a ∈ g) := by
  cases t with
  | fz =>
    simp only [okTo, Bool.or_eq_true, beq_iff_eq] at hk
    obtain ⟨o1, rfl⟩ := o
    rcases hk with rfl | hk
    · exact ⟨F, [], Ex.refl _, e, fun _ _ => rfl, ⟨o1, rfl⟩, .nil, fun _ z => z⟩
    · exact ⟨F, [], Ex.refl _, e, fun _ _ => rfl, Own.of_sc n hk o1, .nil, fun _ z => z⟩
  | fr m =>
    simp only [okTo, Bool.or_eq_true, beq_iff_eq, Bool.and_eq_true, decide_eq_true_eq] at hk
    rcases hk with (rfl | rfl) | ⟨h1, h2⟩
    · exact ⟨frzAt F H g, [], frzAt_ex fun a ha => (Own.mem m o a ha).1, frzAt_sub e, fun a ha => frzAt_out ha, ⟨Own.frz o, rfl⟩, .nil, fun _ z => by simp at z⟩
    · exact ⟨F, g, Ex.refl _, e, fun _ _ => rfl, o, nd, fun _ z => z⟩
    · obtain ⟨j, rfl⟩ := Nat.exists_eq_add_of_le h1
      exact ⟨F, g, Ex.refl _, e, fun _ _ => rfl, Own.raise m j h2 o, nd, fun _ z => z⟩
  | pk m =>
    have hd := VO.here (t := .pk m) e o
    obtain ⟨_, rfl⟩ := o
    exact ⟨F, [], Ex.refl _, e, fun _ _ => rfl, Own.of_sc n hk (hd.sc hk), .nil, fun _ z => z⟩

/-! ### a comprehension's slots -/
def wipeE (env : Ev) : List Nat → Ev
  | [] => env
  | v :: vs => (wipeE env vs).set v none
theorem EnvL.wipe : ∀ (vs : List Nat), EnvL K F H σ env fp → fp.Nodup → ∃ fp', EnvL K F H (L2.wipe σ vs) (wipeE env vs) fp' ∧ fp'.Nodup ∧ ∀ a ∈ fp', a ∈ fp
  | [], L, nd => ⟨fp, L, nd, fun _ z => z⟩
  | v :: vs, L, nd => by
    obtain ⟨fp1, L1, nd1, s1⟩ := EnvL.wipe vs L nd
    show ∃ fp', EnvL K F H ((L2.wipe σ vs).set v none) ((wipeE env vs).set v none) fp' ∧ fp'.Nodup ∧ ∀ a ∈ fp', a ∈ fp
    by_cases hv : v < (wipeE env vs).length
    · obtain ⟨sv, f, pre, post, h1, h2, rfl, mk⟩ := L1.pick (List.getElem?_eq_getElem hv)
      obtain ⟨p1, p2, p3⟩ := List.nodup_append.mp nd1
      obtain ⟨q1, q2, q3⟩ := List.nodup_append.mp p2
      have sub : ∀ a ∈ pre ++ ([] ++ post), a ∈ pre ++ (f ++ post) := fun a ha => by
        rcases List.mem_append.mp ha with z | z
        · exact List.mem_append_left _ z
        · exact List.mem_append_right _ (List.mem_append_right _ z)
      refine ⟨pre ++ ([] ++ post), mk (Ex.refl _) (fun a ha => ⟨(L1.mem a (sub a ha)).1, rfl⟩) rfl, ?_, fun a ha => s1 a (sub a ha)⟩
      exact List.nodup_append.mpr ⟨p1, q2, fun a ha b hb e => p3 a ha b (List.mem_append_right _ hb) e⟩
    · have hl := L1.length
      rw [List.set_eq_of_length_le (by omega), List.set_eq_of_length_le (by omega)]
      exact ⟨fp1, L1, nd1, s1⟩
theorem wipe_get (σ : L2.St) (j : Nat) : ∀ vs : List Nat, (L2.wipe σ vs)[j]? = if j ∈ vs then (if j < σ.length then some none else none) else σ[j]?
  | [] => by simp [L2.wipe]
  | v :: vs => by
    show ((L2.wipe σ vs).set v none)[j]? = _
    by_cases hv : v = j
    · subst hv
      rw [if_pos List.mem_cons_self]
      by_cases hl : v < σ.length
      · rw [if_pos hl, List.getElem?_set_self (by rw [wipe_length]; exact hl)]
      · rw [if_neg hl, List.getElem?_eq_none (by rw [List.length_set, wipe_length]; omega)]
    · rw [List.getElem?_set_ne hv, wipe_get σ j vs]
      by_cases hj : j ∈ vs
      · rw [if_pos hj, if_pos (List.mem_cons_of_mem _ hj)]
      · rw [if_neg hj, if_neg (by simp [hj, Ne.symm hv])]
theorem wipe_same {vs is : List Nat} {σ' : L2.St} (h : SameOff is (L2.wipe σ vs) σ') (hs : ∀ i ∈ is, i ∈ vs) : L2.wipe σ' vs = L2.wipe σ vs := by
  refine List.ext_getElem? fun j => ?_
  have hl : σ'.length = σ.length := by rw [h.1, wipe_length]
  rw [wipe_get, wipe_get, hl]
  by_cases hj : j ∈ vs
  · rw [if_pos hj, if_pos hj]
  · rw [if_neg hj, if_neg hj, h.2 j fun z => hj (hs j z), wipe_get, if_neg hj]

/-! ### [elt for target in iter if ..]; what it makes is of level k, its list one more -/
def lcGo (k : Nat) (tgt : Ev → D → Option Ev) (ft : Ev → Option Bool) (fe : Ev → R) (env : Ev) : List D → Option (List D)
  | [] => some []
  | d :: ds => match tgt env d with
    | some e => match ft e with
      | some true => match fe e with
        | some (t, z) => if okTo t z k = true then (lcGo k tgt ft fe env ds).map (z :: ·) else none
        | none => none
      | some false => lcGo k tgt ft fe env ds
      | none => none
    | none => none
def lcF (k : Nat) (vs : List Nat) (fi : Ev → Option (List D)) (tgt : Ev → D → Option Ev) (ft : Ev → Option Bool) (fe : Ev → R) : Ev → R := fun env => match fi env with
  | some ds => if ds.length ≤ 1000000 then match lcGo k tgt ft fe (wipeE env vs) ds with
      | some zs => some (.fr (k + 1), .lst zs)
      | none => none
    else none
  | none => none
theorem ats_nil : PTs X [] (tT X.K fun _ => some true) := ⟨fun pins s σ H Q I h => by
  obtain ⟨F, env, fp, b, e, L, nd, hf, q⟩ := h
  cases hf
  exact pts_nil.run pins s σ H Q I (q F H (Stp.refl e))⟩
theorem LO.snoc {R : V → D → List Addr → Prop} {v : V} {d : D} {f : List Addr} (h : R v d f) : ∀ {vs : List V} {ds : List D} {g : List Addr}, LO R vs ds g → LO R (vs ++ [v]) (ds ++ [d]) (g ++ f)
  | _, _, _, .nil => by
    have q : LO R [v] [d] (f ++ []) := .cons h .nil
    rw [List.append_nil] at q
    exact q
  | _, _, _, .cons (f := f') (g := g') a t => by
    have q : LO R (_ :: _) (_ :: _) (f' ++ (g' ++ f)) := .cons a (LO.snoc h t)
    rw [← List.append_assoc] at q
    exact q
theorem LO.frame (e : Ex F F') {n : Nat} : ∀ {vs : List V} {ds : List D} {g : List Addr}, LO (Own K F H n) vs ds g → (∀ a ∈ g, F' a = none ∧ H' a = H a) → LO (Own K F' H' n) vs ds g := fun r k => r.map fun v d f h s => Own.frame e n h fun a ha => k a (s a ha)
theorem LO.mem' {n : Nat} {vs : List V} {ds : List D} {g : List Addr} (r : LO (Own K F H n) vs ds g) : ∀ a ∈ g, F a = none ∧ ∃ o, H a = some o := LO.mem (fun v d f h => Own.mem n h) r
section
variable {tg iter elt : Expr} {ifs : List Expr} {scope : Scope} {own : List (Str × Nat)} {wi : TI} {g : TG} {is : List Nat} {fi : Ev → Option (List D)} {tgt : Ev → D → Option Ev} {ft : Ev → Option Bool} {fe : Ev → R} {k : Nat}
/-- what the reading of a comprehension asks -/
theorem v_lc {vs : List Nat} {Q : VK} (ki : ∀ (σ : L2.St) (H F : Hp) (env : Ev) (fp : List Addr) (ds : List D) (R : It → Hp → Prop), Ex F H → EnvL K F H σ env fp → fp.Nodup → fi env = some ds →
    (∀ (F1 H1 : Hp) (J : It) (G : Hp → Prop) (Y : Nat → Hp → V → Hp → Prop), Stp F H F1 H1 → Walk J ds.length G Y → (∀ H2, Ex F1 H2 → (true = true → Ex H1 H2) → G H2) →
      (∀ i F2 H2 x H3, Ex F1 F2 → Ex F2 H2 → i < ds.length → Y i H2 x H3 → ∃ F3 d, Stp F2 H2 F3 H3 ∧ ds[i]? = some d ∧ Den K F3 x d) → R J H1) → wi σ H R)
    (kg : SemG K g is tgt) (hs : ∀ i ∈ is, i ∈ vs) (h : tV K (lcF k vs fi tgt ft fe) σ H Q) : tLc wi g (tT K ft) (tV K fe) vs σ H Q := by
  obtain ⟨F, env, fp, tag, z, ex, L, nd, hf, q⟩ := h
  unfold lcF at hf
  split at hf
  · rename_i ds hds
    split at hf
    · rename_i hlen
      split at hf
      · rename_i zs hzs
        cases hf
        refine ki σ H F env fp ds _ ex L nd hds fun F1 H1 J G Y s1 W hG hY => ?_
        intro D hD
        obtain ⟨fpw, Lw, ndw, sw⟩ := (L.step s1).wipe vs nd
        have F1D : F1 D = none := none_back s1.fh hD
        -- the invariant: what is made so far
        refine lc_it W (fun i H => ∃ F acc ws rs gg, Stp F1 H1 F H ∧ H D = some (.lst acc) ∧ F D = none ∧ LO (Own K F H k) acc ws gg ∧ gg.Nodup ∧ (∀ a ∈ gg, H1 a = none) ∧ D ∉ gg ∧ ws.length ≤ i ∧ lcGo k tgt ft fe (wipeE env vs) (ds.drop i) = some rs ∧ ws ++ rs = zs)
          ⟨F1, [], [], zs, [], Stp.alloc s1.fh hD, upd_same, F1D, .nil, .nil, by simp, by simp, Nat.le_refl _, hzs, rfl⟩ ?_ ?_ ?_
        · rintro i H _ ⟨F, acc, ws, rs, gg, s, _⟩
          exact hG H (s.ff.trans s.fh) fun _ => s.hh
        · rintro i x H H' hi ⟨F, acc, ws, rs, gg, s, hd, fd, lo, ng, fg, dg, hw, hgo, hz⟩ y
          obtain ⟨F3, d, s3, hdi, dd⟩ := hY i F H x H' s.ff s.fh hi y
          have hdr : ds.drop i = d :: ds.drop (i + 1) := by
            rw [List.drop_eq_getElem_cons hi]
            rw [List.getElem?_eq_getElem hi] at hdi
            cases hdi
            rfl
          rw [hdr] at hgo
          simp only [lcGo] at hgo
          split at hgo
          · rename_i e1 he1
            have s' := s.trans s3
            refine kg F3 H' (L2.wipe σ vs) (wipeE env vs) fpw x d e1 s3.fh dd (Lw.step s') ndw he1 _ fun σ2 fp2 L2' nd2 sub2 off => ⟨wipe_same off hs, ?_⟩
            split at hgo
            · rename_i ht
              refine ⟨F3, e1, fp2, true, s3.fh, L2', nd2, ht, fun F4 H4 s4 => iteT ?_⟩
              split at hgo
              · rename_i t zz he
                split at hgo
                · rename_i hok
                  rw [Option.map_eq_some_iff] at hgo
                  obtain ⟨rs', hrs, rfl⟩ := hgo
                  refine ⟨F4, e1, fp2, t, zz, s4.fh, L2'.step s4, nd2, he, fun F5 H5 v g5 s5 o5 n5 w5 => ?_⟩
                  obtain ⟨F6, g6, c1, c2, c3, c4, c5, c6⟩ := conv s5.fh o5 n5 hok
                  have hd5 : H5 D = some (.lst acc) := s5.hh _ _ (s4.hh _ _ (s3.hh _ _ hd))
                  have s345 := (s3.trans s4).trans s5
                  have dg5 : D ∉ g5 := fun z => by
                    have := w5 D z
                    rw [s4.hh _ _ (s3.hh _ _ hd)] at this
                    cases this
                  have f6D : F6 D = none := by
                    rw [c3 D dg5]
                    exact s345.nw D _ hd fd
                  refine ⟨acc, hd5, ?_, F6, acc ++ [v], ws ++ [zz], rs', gg ++ g6, ?_, upd_same, f6D, ?_, ?_, ?_, ?_, ?_, hrs, ?_⟩
                  · rw [lo.length]
                    exact Nat.lt_of_le_of_lt hw (Nat.lt_of_lt_of_le hi (Nat.le_trans hlen (by rw [sizeLine_eq]; decide)))
                  · -- the step
                    have g5n : ∀ a ∈ g5, H a = none := (s3.trans s4).fresh w5
                    have st : Stp F H F6 H5 := ⟨s345.ff.trans c1, s345.hh, c2, fun a o h n => by
                      have : a ∉ g5 := fun z => by rw [g5n a z] at h; cases h
                      rw [c3 a this]
                      exact s345.nw a o h n⟩
                    have st2 := s.trans st
                    refine ⟨st2.ff, fun a o h => ?_, fun a o h => ?_, st2.nw⟩
                    · have hne : a ≠ D := fun z => by rw [z, hD] at h; cases h
                      rw [upd_ne hne]
                      exact st2.hh a o h
                    · have hne : a ≠ D := fun z => by rw [z, f6D] at h; cases h
                      rw [upd_ne hne]
                      exact st2.fh a o h
                  · have lo2 : LO (Own K F6 (upd H5 D (.lst (acc ++ [v]))) k) acc ws gg := LO.frame (s345.ff.trans c1) lo fun a ha => by
                      obtain ⟨fa, o, ho⟩ := lo.mem' a ha
                      have hne : a ≠ D := fun z => dg (z ▸ ha)
                      have g5n : a ∉ g5 := fun z => by
                        have := (s3.trans s4).fresh w5 a z
                        rw [this] at ho; cases ho
                      rw [upd_ne hne, c3 a g5n]
                      exact ⟨s345.nw a o ho fa, (s345.hh a o ho).trans ho.symm⟩
                    have ow : Own K F6 (upd H5 D (.lst (acc ++ [v]))) k v zz g6 := Own.frame (Ex.refl _) k c4 fun a ha => by
                      have hne : a ≠ D := fun z => dg5 (z ▸ c6 a ha)
                      rw [upd_ne hne]
                      exact ⟨(c4.mem k a ha).1, rfl⟩
                    exact LO.snoc ow lo2
                  · refine List.nodup_append.mpr ⟨ng, c5, fun a ha b hb e => ?_⟩
                    subst e
                    obtain ⟨_, o, ho⟩ := lo.mem' a ha
                    have := (s3.trans s4).fresh w5 a (c6 a hb)
                    rw [this] at ho; cases ho
                  · intro a ha
                    rcases List.mem_append.mp ha with z | z
                    · exact fg a z
                    · exact ((s.trans s3).trans s4).fresh w5 a (c6 a z)
                  · intro hm
                    rcases List.mem_append.mp hm with z | z
                    · exact dg z
                    · exact dg5 (c6 D z)
                  · rw [List.length_append]
                    exact Nat.succ_le_succ hw
                  · rw [List.append_assoc]
                    exact hz
                · cases hgo
              · cases hgo
            · rename_i ht
              refine ⟨F3, e1, fp2, false, s3.fh, L2', nd2, ht, fun F4 H4 s4 => iteF ?_⟩
              have s34 := s3.trans s4
              refine ⟨F4, acc, ws, rs, gg, s.trans s34, s34.hh _ _ hd, s34.nw D _ hd fd, LO.frame s34.ff lo fun a ha => ?_, ng, fg, dg, Nat.le_succ_of_le hw, hgo, hz⟩
              obtain ⟨fa, o, ho⟩ := lo.mem' a ha
              exact ⟨s34.nw a o ho fa, (s34.hh a o ho).trans ho.symm⟩
            · cases hgo
          · cases hgo
        · rintro H ⟨F, acc, ws, rs, gg, s, hd, fd, lo, ng, fg, dg, hw, hgo, hz⟩
          rw [List.drop_length] at hgo
          cases hgo
          rw [List.append_nil] at hz
          subst hz
          refine q F H (.ref D) (D :: gg) (s1.trans s) ⟨D, acc, gg, rfl, hd, fd, lo, rfl⟩ (List.nodup_cons.mpr ⟨dg, ng⟩) ?_
          intro a ha
          rcases List.mem_cons.mp ha with rfl | z
          · exact s1.fresh (g := [a]) (by simpa using hD) a (by simp)
          · exact s1.fresh fg a z
      · cases hf
    · cases hf
  · cases hf
theorem a_lc (k : Nat) {vs : List Nat} (hc : X.calm = true) (hN : X.N.Nodup) (hi : PIV X tg iter true fi) (ok : BlkOk X.N X.env.scope scope own)
    (hg : ∀ (s : Shared) (H : Hp) (C : Addr) (cl : List (Str × Addr)) (fp : List Addr), PG (X.blk s H scope (compEnvC scope cl C X.env) fp) tg g) (kg : SemG X.K g is tgt)
    (ht : ∀ (s : Shared) (H : Hp) (C : Addr) (cl : List (Str × Addr)) (fp : List Addr), PTs (X.blk s H scope (compEnvC scope cl C X.env) fp) ifs (tT X.K ft))
    (he : ∀ (s : Shared) (H : Hp) (C : Addr) (cl : List (Str × Addr)) (fp : List Addr), PE (X.blk s H scope (compEnvC scope cl C X.env) fp) elt (tV X.K fe)) (hvs : own.map (·.2) = vs := by rfl) (his : ∀ i ∈ is, i ∈ vs := by decide) (hs : ∀ x, foldedSetIterable iter X.env x = pure x := by intro _; rfl) :
    PE X (.ListComp elt [⟨tg, iter, ifs, 0⟩] scope pos) (tV X.K (lcF k vs fi tgt ft fe)) := by
  subst hvs
  obtain ⟨wi, pi, ki⟩ := hi
  exact pe_mono (pe_lc hc hN pi ok hg ht he hs) fun _ _ _ => v_lc ki kg his
theorem as_setLc (k : Nat) {vs : List Nat} {i : Nat} {y : Str} {py : Pos} {spos : Pos} (hc : X.calm = true) (hN : X.N.Nodup) (hsw : swapsWith (.ListComp elt [⟨tg, iter, ifs, 0⟩] scope pos) (some (.Name y py)) spos.line X.env = pure true) (hi : PIV X tg iter true fi) (ok : BlkOk X.N X.env.scope scope own)
    (hg : ∀ (s : Shared) (H : Hp) (C : Addr) (cl : List (Str × Addr)) (fp : List Addr), PG (X.blk s H scope (compEnvC scope cl C X.env) fp) tg g) (kg : SemG X.K g is tgt)
    (ht : ∀ (s : Shared) (H : Hp) (C : Addr) (cl : List (Str × Addr)) (fp : List Addr), PTs (X.blk s H scope (compEnvC scope cl C X.env) fp) ifs (tT X.K ft))
    (he : ∀ (s : Shared) (H : Hp) (C : Addr) (cl : List (Str × Addr)) (fp : List Addr), PE (X.blk s H scope (compEnvC scope cl C X.env) fp) elt (tV X.K fe)) (hy : X.N[i]? = some y := by rfl) (hyl : X.env.scope.names.lookup y = some .local := by rfl) (hvs : own.map (·.2) = vs := by rfl) (his : ∀ i ∈ is, i ∈ vs := by decide) (hs : ∀ x, foldedSetIterable iter X.env x = pure x := by intro _; rfl) :
    PS X (.Assign [.Name y py] (.ListComp elt [⟨tg, iter, ifs, 0⟩] scope pos) spos) (tS X.K (asgS i (lcF k vs fi tgt ft fe))) := by
  subst hvs
  obtain ⟨wi, pi, ki⟩ := hi
  refine ps_mono (ps_setLc hc hN hy hyl hsw pi ok hg ht he hs) fun Dn σ H h => ?_
  have h2 := v_asg h
  exact v_lc ki kg his h2
end
end
end VL
namespace VL
open PySem PySem.Spec PyProof.Rows L2

section
variable {K : PySem.W.Frag} {F0 H0 B F F' F1 F2 H H' H1 : Hp} {σ : L2.St} {env : Ev} {fp : List Addr} {X : Cx} {pos : Pos}
theorem LO.pick {m : Nat} : ∀ {vs : List V} {ds : List D} {g : List Addr} {j : Nat} {d : D}, LO (Own K F H m) vs ds g → ds[j]? = some d → ∃ v f pre post, vs[j]? = some v ∧ Own K F H m v d f ∧ g = pre ++ (f ++ post) ∧
    ∀ {F' H' : Hp} {v' : V} {d' : D} {f' : List Addr}, Ex F F' → (∀ a ∈ pre ++ post, F' a = none ∧ H' a = H a) → Own K F' H' m v' d' f' → LO (Own K F' H' m) (vs.set j v') (ds.set j d') (pre ++ (f' ++ post))
  | _, _, _, _, _, .nil, e => by simp at e
  | _, _, _, 0, d, .cons (v := v) (f := f) (g := g) h t, e => by
    simp at e
    subst e
    exact ⟨v, f, [], g, rfl, h, rfl, fun {F' H' v' d' f'} ef k h' => show LO (Own K F' H' m) (_ :: _) (_ :: _) (f' ++ g) from LO.cons h' (t.frame ef fun a ha => k a (by simpa using ha))⟩
  | _, _, _, j + 1, d, .cons (f := f) (g := g) h t, e => by
    obtain ⟨v, f1, pre, post, h1, h2, h3, h4⟩ := LO.pick (j := j) (d := d) t (by simpa using e)
    refine ⟨v, f1, f ++ pre, post, by simpa using h1, h2, by rw [h3]; simp, fun {F' H' v' d' f'} ef k h' => ?_⟩
    have q := h4 ef (fun a ha => k a (by rw [List.append_assoc]; exact List.mem_append_right _ ha)) h'
    have q2 : LO (Own K F' H' m) (_ :: _) (_ :: _) (f ++ _) := .cons (Own.frame ef m h fun a ha => k a (by simp [ha])) q
    simpa using q2
theorem set_self {α : Type} {l : List α} {i : Nat} {x : α} (h : l[i]? = some x) : l.set i x = l := by
  refine List.ext_getElem? fun j => ?_
  by_cases hj : j = i
  · subst hj
    have hl : j < l.length := (List.getElem?_eq_some_iff.mp h).1
    rw [List.getElem?_set_self hl, h]
  · rw [List.getElem?_set_ne (Ne.symm hj)]
theorem mem_mid {pre f post : List Addr} {a : Addr} (h : a ∈ pre ++ post) : a ∈ pre ++ (f ++ post) := by
  rcases List.mem_append.mp h with z | z
  · exact List.mem_append_left _ z
  · exact List.mem_append_right _ (List.mem_append_right _ z)
theorem nodup_mid {pre f f' post : List Addr} (nd : (pre ++ (f ++ post)).Nodup) (n' : f'.Nodup) (k : ∀ a ∈ f', a ∈ f ∨ a ∉ pre ++ (f ++ post)) : (pre ++ (f' ++ post)).Nodup := by
  obtain ⟨p1, p2, p3⟩ := List.nodup_append.mp nd
  obtain ⟨q1, q2, q3⟩ := List.nodup_append.mp p2
  refine List.nodup_append.mpr ⟨p1, List.nodup_append.mpr ⟨n', q2, fun a ha b hb e => ?_⟩, fun a ha b hb e => ?_⟩
  · subst e
    rcases k a ha with z | z
    · exact q3 a z a hb rfl
    · exact z (List.mem_append_right _ (List.mem_append_right _ hb))
  · subst e
    rcases List.mem_append.mp hb with z | z
    · rcases k a z with y | y
      · exact p3 a ha a (List.mem_append_left _ y) rfl
      · exact y (List.mem_append_left _ ha)
    · exact p3 a ha a (List.mem_append_right _ z) rfl
theorem ex_upd {a : Addr} {o : HO} (e : Ex F H) (h : F a = none) : Ex F (upd H a o) := fun b u q => by
  have hne : b ≠ a := fun z => by rw [z, h] at q; cases q
  rw [upd_ne hne]
  exact e b u q
/-- what is known of an owned slot, and what may be put there -/
theorem StO.mut {i : Nat} {m : Nat} {d : D} (h : StO K F0 H0 B F H σ env fp) (hi : env[i]? = some (some ⟨m, d⟩)) : ∃ v f, σ[i]? = some (some v) ∧ Own K F H m v d f ∧ f.Nodup ∧ (∀ a ∈ f, a ∈ fp) ∧ (∀ a ∈ f, H0 a = none) ∧
    ∀ {F2 : Hp} {a : Addr} {o : HO} {d' : D} {f' : List Addr}, a ∈ f → Ex F F2 → Ex F2 H → (∀ b ∈ fp, F2 b = none) → (∀ b o, H0 b = some o → F0 b = none → F2 b = none) → Own K F2 (upd H a o) m v d' f' → f'.Nodup → (∀ b ∈ f', b ∈ f ∨ (b ∉ fp ∧ H0 b = none)) →
      ∃ fp', StO K F0 H0 B F2 (upd H a o) σ (env.set i (some ⟨m, d'⟩)) fp' := by
  obtain ⟨sv, f, pre, post, h1, ⟨v, rfl, ow⟩, rfl, mk⟩ := h.env.pick hi
  obtain ⟨p1, p2, p3⟩ := List.nodup_append.mp h.nd
  obtain ⟨q1, q2, q3⟩ := List.nodup_append.mp p2
  have hin : ∀ a ∈ f, a ∈ pre ++ (f ++ post) := fun a ha => List.mem_append_right _ (List.mem_append_left _ ha)
  refine ⟨v, f, h1, ow, q1, hin, fun a ha => h.fr a (hin a ha), fun {F2 a o d' f'} ha e1 e2 e3 e4 ow' nd' k => ?_⟩
  have fa : F2 a = none := e3 a (hin a ha)
  refine ⟨pre ++ (f' ++ post), ⟨h.stp.ff.trans e1, fun b u hb => ?_, ex_upd e2 fa, e4⟩, ?_, nodup_mid h.nd nd' fun b hb => (k b hb).imp id fun z => z.1, fun b hb => ?_, h.fb.trans e1⟩
  · have hne : b ≠ a := fun z => by rw [z, h.fr a (hin a ha)] at hb; cases hb
    rw [upd_ne hne]
    exact h.stp.hh b u hb
  · have q := mk (F' := F2) (H' := upd H a o) (sv' := some v) (s' := some ⟨m, d'⟩) (f' := f') e1 (fun b hb => ?_) ⟨v, rfl, ow'⟩
    · rw [set_self h1] at q
      exact q
    · have hne : b ≠ a := fun z => by
        subst z
        rcases List.mem_append.mp hb with z | z
        · exact p3 b z b (List.mem_append_left _ ha) rfl
        · exact q3 b ha b z rfl
      rw [upd_ne hne]
      exact ⟨e3 b (mem_mid hb), rfl⟩
  · rcases List.mem_append.mp hb with z | z
    · exact h.fr b (List.mem_append_left _ z)
    · rcases List.mem_append.mp z with z | z
      · rcases k b z with y | y
        · exact h.fr b (hin b y)
        · exact y.2
      · exact h.fr b (List.mem_append_right _ (List.mem_append_right _ z))
/-- the evaluated value that is to be taken in -/
theorem StO.conv {t : Tg} {y : V} {d : D} {gv : List Addr} {n : Nat} (h : StO K F0 H0 B F H σ env fp) (o : VO K F H t y d gv) (nd : gv.Nodup) (w : ∀ a ∈ gv, H0 a = none) (dj : ∀ a ∈ gv, a ∉ fp) (hk : okTo t d n = true) :
    ∃ F2 g', Ex F F2 ∧ Ex F2 H ∧ (∀ b ∈ fp, F2 b = none) ∧ (∀ b o, H0 b = some o → F0 b = none → F2 b = none) ∧ Own K F2 H n y d g' ∧ g'.Nodup ∧ (∀ b ∈ g', b ∉ fp ∧ H0 b = none) := by
  obtain ⟨F2, g', c1, c2, c3, c4, c5, c6⟩ := VL.conv h.stp.fh o nd hk
  refine ⟨F2, g', c1, c2, fun b hb => ?_, fun b u hb hn => ?_, c4, c5, fun b hb => ⟨dj b (c6 b hb), w b (c6 b hb)⟩⟩
  · rw [c3 b fun z => dj b z hb]
    exact (h.env.mem b hb).1
  · rw [c3 b fun z => by rw [w b z] at hb; cases hb]
    exact h.stp.nw b u hb hn

/-! ### x.append(e), x an own list -/
def appS (i : Nat) (fe : Ev → R) : SF := fun env => match fe env, env[i]? with
  | some (t, d), some (some ⟨n + 1, .lst ds⟩) => if (okTo t d n && decide (ds.length < sizeLine)) = true then some (.nx (env.set i (some ⟨n + 1, .lst (ds ++ [d])⟩))) else none
  | _, _ => none
/-- the reading behind e: the list grows -/
theorem app_end {i : Nat} {n : Nat} {ds : List D} {t : Tg} {d : D} {y : V} {gv : List Addr} {Q : L2.St → Hp → Prop} (h : StO K F0 H0 B F H σ env fp) (hi : env[i]? = some (some ⟨n + 1, .lst ds⟩)) (o : VO K F H t y d gv) (nd : gv.Nodup) (w : ∀ a ∈ gv, H0 a = none) (dj : ∀ a ∈ gv, a ∉ fp)
    (hk : okTo t d n = true) (hl : ds.length < sizeLine) (q : ∀ F' H' σ' fp', StO K F0 H0 B F' H' σ' (env.set i (some ⟨n + 1, .lst (ds ++ [d])⟩)) fp' → Q σ' H') : ∃ v, σ[i]? = some (some v) ∧ rAppend v [y] H fun _ H2 => Q σ H2 := by
  obtain ⟨v, f, h1, ow, nf, fin, ff, mk⟩ := h.mut hi
  obtain ⟨a, xs, g, rfl, ha, fa, lo, rfl⟩ := ow
  obtain ⟨F2, g', c1, c2, c3, c4, c5, c6, c7⟩ := h.conv o nd w dj hk
  obtain ⟨ng, nfg⟩ := List.nodup_cons.mp nf
  refine ⟨_, h1, a, xs, y, rfl, rfl, ha, by rw [lo.length]; exact hl, ?_⟩
  have low : LO (Own K F2 (upd H a (.lst (xs ++ [y]))) n) (xs ++ [y]) (ds ++ [d]) (g ++ g') := by
    refine LO.snoc (Own.frame (Ex.refl _) n c5 fun b hb => ?_) (LO.frame c1 lo fun b hb => ?_)
    · have hne : b ≠ a := fun z => (c7 b hb).1 (z ▸ fin a List.mem_cons_self)
      rw [upd_ne hne]
      exact ⟨(c5.mem n b hb).1, rfl⟩
    · have hne : b ≠ a := fun z => ng (z ▸ hb)
      rw [upd_ne hne]
      exact ⟨c3 b (fin b (List.mem_cons_of_mem _ hb)), rfl⟩
  have nn : (a :: (g ++ g')).Nodup := by
    refine List.nodup_cons.mpr ⟨fun hm => ?_, List.nodup_append.mpr ⟨nfg, c6, fun b hb b' hb' e => ?_⟩⟩
    · rcases List.mem_append.mp hm with z | z
      · exact ng z
      · exact (c7 a z).1 (fin a List.mem_cons_self)
    · subst e
      exact (c7 b hb').1 (fin b (List.mem_cons_of_mem _ hb))
  have kk : ∀ b ∈ a :: (g ++ g'), b ∈ a :: g ∨ (b ∉ fp ∧ H0 b = none) := fun b hb => by
    rcases List.mem_cons.mp hb with rfl | z
    · exact .inl List.mem_cons_self
    · rcases List.mem_append.mp z with z | z
      · exact .inl (List.mem_cons_of_mem _ z)
      · exact .inr (c7 b z)
  obtain ⟨fp', st⟩ := mk (F2 := F2) (a := a) (o := .lst (xs ++ [y])) (d' := .lst (ds ++ [d])) (f' := a :: (g ++ g')) List.mem_cons_self c1 c2 c3 c4 ⟨a, _, _, rfl, upd_same, c3 a (fin a List.mem_cons_self), low, rfl⟩ nn kk
  exact q F2 _ σ fp' st
variable {e ek : Expr} {fe fk : Ev → R} {x : Str} {p apos cpos : Pos}
theorem as_app (i : Nat) (he : PE X e (tV X.K fe)) (hx : PE X (.Name x p) (tVar i)) (hs : swapsWith (.Call (.Attribute (.Name x p) "append" apos) [e] [] cpos) none pos.line X.env = pure false := by rfl)
    (hbase : attributeBase (.Name x p) "append" X.env (eval (.Name x p) X.env) = eval (.Name x p) X.env := by rfl)
    (hfew : ((backTo cpos (starEach (e :: []) X.env)).all (fun x => !x.1) && (backToKw cpos (keywordEach [] X.env)).all (fun x => x.1.isSome)
      && decide ((e :: []).length + ([] : List Keyword).length + (if ([] : List Keyword).isEmpty then 0 else 1) < 30)) = true := by rfl)
    (hline : (apos.endLine == cpos.line) = true := by rfl) (hst : starEach (e :: []) X.env = (false, eval e X.env) :: starEach [] X.env := by rfl) (hplain : (backTo cpos (starEach [] X.env)).any (·.1) = false := by rfl) :
    PS X (.Expr (.Call (.Attribute (.Name x p) "append" apos) [e] [] cpos) pos) (tS X.K (appS i fe)) :=
  ps_mono (ps_expr (pe_bm PySem.F.plainAttrs_list PySem.F.slot_list_append PySem.F.type_list_append mt_append hx (pa1 he hst) hbase hfew hline hst hplain) hs) fun Dn σ H h => by
    obtain ⟨F0, H0, B, F, env, fp, o, h, hs, q⟩ := h
    unfold appS at hs
    split at hs
    · rename_i t d n ds hf hi
      split at hs
      · rename_i hk
        cases hs
        simp only [Bool.and_eq_true, decide_eq_true_eq] at hk
        obtain ⟨v, f, h1, ow, _, fin, _, _⟩ := h.mut hi
        obtain ⟨a, xs, g, rfl, ha, fa, lo, rfl⟩ := ow
        refine ⟨_, h1, .inl ⟨rfl, xs, .of ha⟩, ?_⟩
        refine h.eval hf fun F1 H1 y gv h1' ov nd w dj _ _ => ?_
        obtain ⟨v', hv', r⟩ := app_end (Q := Dn.nx) h1' hi ov nd w dj hk.1 hk.2 q
        rw [h1] at hv'
        cases hv'
        exact r
      · cases hs
    · cases hs
/-! x[k].append(e) -/
def appS1 (i : Nat) (fk fe : Ev → R) : SF := fun env => match fk env, fe env, env[i]? with
  | some (_, .int k), some (t, d), some (some ⟨n + 2, .lst dss⟩) => match ixN dss.length k with
    | some j => match dss[j]? with
      | some (.lst ds) => if (okTo t d n && decide (ds.length < sizeLine)) = true then some (.nx (env.set i (some ⟨n + 2, .lst (dss.set j (.lst (ds ++ [d])))⟩))) else none
      | _ => none
    | none => none
  | _, _, _ => none
theorem app1_end {i : Nat} {n j : Nat} {dss ds : List D} {t : Tg} {d : D} {y : V} {gv : List Addr} {Q : L2.St → Hp → Prop} (h : StO K F0 H0 B F H σ env fp) (hi : env[i]? = some (some ⟨n + 2, .lst dss⟩)) (hj : dss[j]? = some (.lst ds)) (o : VO K F H t y d gv) (nd : gv.Nodup) (w : ∀ a ∈ gv, H0 a = none) (dj : ∀ a ∈ gv, a ∉ fp)
    (hk : okTo t d n = true) (hl : ds.length < sizeLine) (q : ∀ F' H' σ' fp', StO K F0 H0 B F' H' σ' (env.set i (some ⟨n + 2, .lst (dss.set j (.lst (ds ++ [d])))⟩)) fp' → Q σ' H') :
    ∃ (a : Addr) (xs : List V) (c : Addr) (ys : List V), σ[i]? = some (some (.ref a)) ∧ H a = some (.lst xs) ∧ xs.length = dss.length ∧ xs[j]? = some (.ref c) ∧ H c = some (.lst ys) ∧ rAppend (.ref c) [y] H fun _ H2 => Q σ H2 := by
  obtain ⟨v, f, h1, ow, nf, fin, ff, mk⟩ := h.mut hi
  obtain ⟨a, xs, g, rfl, ha, fa, lo, rfl⟩ := ow
  obtain ⟨F2, g', c1, c2, c3, c4, c5, c6, c7⟩ := h.conv o nd w dj hk
  obtain ⟨ng, nfg⟩ := List.nodup_cons.mp nf
  obtain ⟨w', fc, pre, post, hw, oc, rfl, mkc⟩ := lo.pick hj
  obtain ⟨c, ys, gc, rfl, hc, fcn, loc, rfl⟩ := oc
  obtain ⟨p1, p2, p3⟩ := List.nodup_append.mp nfg
  obtain ⟨q1, q2, q3⟩ := List.nodup_append.mp p2
  obtain ⟨nc, ngc⟩ := List.nodup_cons.mp q1
  have cin : c ∈ pre ++ ((c :: gc) ++ post) := List.mem_append_right _ (List.mem_append_left _ List.mem_cons_self)
  have cfp : c ∈ fp := fin c (List.mem_cons_of_mem _ cin)
  have ca : a ≠ c := fun z => ng (z ▸ cin)
  refine ⟨a, xs, c, ys, h1, ha, lo.length, hw, hc, c, ys, y, rfl, rfl, hc, by rw [loc.length]; exact hl, ?_⟩
  have sub : ∀ b ∈ gc, b ∈ fp ∧ b ≠ c := fun b hb => ⟨fin b (List.mem_cons_of_mem _ (List.mem_append_right _ (List.mem_append_left _ (List.mem_cons_of_mem _ hb)))), fun z => nc (z ▸ hb)⟩
  have low : LO (Own K F2 (upd H c (.lst (ys ++ [y]))) n) (ys ++ [y]) (ds ++ [d]) (gc ++ g') := by
    refine LO.snoc (Own.frame (Ex.refl _) n c5 fun b hb => ?_) (LO.frame c1 loc fun b hb => ?_)
    · have hne : b ≠ c := fun z => (c7 b hb).1 (z ▸ cfp)
      rw [upd_ne hne]
      exact ⟨(c5.mem n b hb).1, rfl⟩
    · rw [upd_ne (sub b hb).2]
      exact ⟨c3 b (sub b hb).1, rfl⟩
  have oc' : Own K F2 (upd H c (.lst (ys ++ [y]))) (n + 1) (.ref c) (.lst (ds ++ [d])) (c :: (gc ++ g')) := ⟨c, _, _, rfl, upd_same, c3 c cfp, low, rfl⟩
  have lo2 := mkc (F' := F2) (H' := upd H c (.lst (ys ++ [y]))) c1 (fun b hb => by
    have hne : b ≠ c := fun z => by
      subst z
      rcases List.mem_append.mp hb with z | z
      · exact p3 b z b (List.mem_append_left _ List.mem_cons_self) rfl
      · exact q3 b List.mem_cons_self b z rfl
    rw [upd_ne hne]
    exact ⟨c3 b (fin b (List.mem_cons_of_mem _ (mem_mid hb))), rfl⟩) oc'
  rw [set_self hw] at lo2
  have kmem : ∀ b ∈ c :: (gc ++ g'), b ∈ c :: gc ∨ (b ∉ fp ∧ H0 b = none) := fun b hb => by
    rcases List.mem_cons.mp hb with rfl | z
    · exact .inl List.mem_cons_self
    · rcases List.mem_append.mp z with z | z
      · exact .inl (List.mem_cons_of_mem _ z)
      · exact .inr (c7 b z)
  have ncc : (c :: (gc ++ g')).Nodup := List.nodup_cons.mpr ⟨fun hm => by
      rcases List.mem_append.mp hm with z | z
      · exact nc z
      · exact (c7 c z).1 cfp, List.nodup_append.mpr ⟨ngc, c6, fun b hb b' hb' e => by
      subst e
      exact (c7 b hb').1 (sub b hb).1⟩⟩
  have nn : (a :: (pre ++ ((c :: (gc ++ g')) ++ post))).Nodup := by
    refine List.nodup_cons.mpr ⟨fun hm => ?_, nodup_mid nfg ncc fun b hb => (kmem b hb).imp id fun z => fun hm => z.1 (fin b (List.mem_cons_of_mem _ hm))⟩
    rcases List.mem_append.mp hm with z | z
    · exact ng (List.mem_append_left _ z)
    · rcases List.mem_append.mp z with z | z
      · rcases kmem a z with y | y
        · exact ng (List.mem_append_right _ (List.mem_append_left _ y))
        · exact y.1 (fin a List.mem_cons_self)
      · exact ng (List.mem_append_right _ (List.mem_append_right _ z))
  have kk : ∀ b ∈ a :: (pre ++ ((c :: (gc ++ g')) ++ post)), b ∈ a :: (pre ++ ((c :: gc) ++ post)) ∨ (b ∉ fp ∧ H0 b = none) := fun b hb => by
    rcases List.mem_cons.mp hb with rfl | z
    · exact .inl List.mem_cons_self
    · rcases List.mem_append.mp z with z | z
      · exact .inl (List.mem_cons_of_mem _ (List.mem_append_left _ z))
      · rcases List.mem_append.mp z with z | z
        · exact (kmem b z).imp (fun y => List.mem_cons_of_mem _ (List.mem_append_right _ (List.mem_append_left _ y))) id
        · exact .inl (List.mem_cons_of_mem _ (List.mem_append_right _ (List.mem_append_right _ z)))
  obtain ⟨fp', st⟩ := mk (F2 := F2) (a := c) (o := .lst (ys ++ [y])) (d' := .lst (dss.set j (.lst (ds ++ [d])))) (f' := a :: (pre ++ ((c :: (gc ++ g')) ++ post))) (List.mem_cons_of_mem _ cin) c1 c2 c3 c4
    ⟨a, _, _, rfl, by rw [upd_ne ca]; exact ha, c3 a (fin a List.mem_cons_self), lo2, rfl⟩ nn kk
  exact q F2 _ σ fp' st
theorem as_app1 (i : Nat) {kpos : Pos} (hu : X.A.units + 1 < cLine) (hek : PE X ek (tV X.K fk)) (he : PE X e (tV X.K fe)) (hx : PE X (.Name x p) (tVar i)) (hpl : PlainIx ek := by exact fun _ _ => rfl) (hs : swapsWith (.Call (.Attribute (.Subscript (.Name x p) ek kpos) "append" apos) [e] [] cpos) none pos.line X.env = pure false := by rfl)
    (hbase : attributeBase (.Subscript (.Name x p) ek kpos) "append" X.env (eval (.Subscript (.Name x p) ek kpos) X.env) = eval (.Subscript (.Name x p) ek kpos) X.env := by rfl)
    (hfew : ((backTo cpos (starEach (e :: []) X.env)).all (fun x => !x.1) && (backToKw cpos (keywordEach [] X.env)).all (fun x => x.1.isSome)
      && decide ((e :: []).length + ([] : List Keyword).length + (if ([] : List Keyword).isEmpty then 0 else 1) < 30)) = true := by rfl)
    (hline : (apos.endLine == cpos.line) = true := by rfl) (hst : starEach (e :: []) X.env = (false, eval e X.env) :: starEach [] X.env := by rfl) (hplain : (backTo cpos (starEach [] X.env)).any (·.1) = false := by rfl) :
    PS X (.Expr (.Call (.Attribute (.Subscript (.Name x p) ek kpos) "append" apos) [e] [] cpos) pos) (tS X.K (appS1 i fk fe)) :=
  ps_mono (ps_expr (pe_bm PySem.F.plainAttrs_list PySem.F.slot_list_append PySem.F.type_list_append mt_append (pe_ix (ix_all hu) hx hek hpl) (pa1 he hst) hbase hfew hline hst hplain) hs) fun Dn σ H h => by
    obtain ⟨F0, H0, B, F, env, fp, o, h, hs, q⟩ := h
    unfold appS1 at hs
    split at hs
    · rename_i t1 k t d n dss hfk hf hi
      split at hs
      · rename_i j hjx
        split at hs
        · rename_i ds hj
          split at hs
          · rename_i hk
            cases hs
            simp only [Bool.and_eq_true, decide_eq_true_eq] at hk
            obtain ⟨v, f, h1, ow, _, fin, _, _⟩ := h.mut hi
            refine ⟨_, h1, ?_⟩
            refine h.eval hfk fun F1 H1 kv gk h1' ok _ _ _ _ _ => ?_
            obtain ⟨v', f', h1'', ow', _, _, _, _⟩ := h1'.mut hi
            rw [h1] at h1''
            cases h1''
            obtain ⟨a, xs, g, rfl, ha, fa, lo, _⟩ := ow'
            obtain ⟨w', fc, pre, post, hw, oc, _, _⟩ := lo.pick hj
            obtain ⟨c, ys, gc, rfl, hc, _, _, _⟩ := oc
            refine .inl (.inl ⟨a, xs, k, .ref c, rfl, ok.int h1'.stp.fh, .of ha, ?_, ?_⟩)
            · unfold atI
              rw [lo.length, hjx]
              exact hw
            · refine ⟨.inl ⟨rfl, ys, .of hc⟩, ?_⟩
              refine h1'.eval hf fun F2 H2 y gv h2' ov nd w dj _ s2 => ?_
              obtain ⟨a', xs', c', ys', e1, e2, e3, e4, e5, r⟩ := app1_end (Q := Dn.nx) h2' hi hj ov nd w dj hk.1 hk.2 q
              rw [h1] at e1
              cases e1
              rw [s2.hh _ _ ha] at e2
              cases e2
              rw [hw] at e4
              cases e4
              exact r
          · cases hs
        · cases hs
      · cases hs
    · cases hs
end
end VL
namespace VL
open PySem PySem.Spec PyProof.Rows L2

section
variable {K : PySem.W.Frag} {F0 H0 B F F' F1 F2 H H' H1 : Hp} {σ : L2.St} {env : Ev} {fp : List Addr} {X : Cx} {pos : Pos} {e e2 e3 : Expr} {f f2 f3 fe fk : Ev → R} {Dn : Ends}
/-! ### a fresh value raised to more levels; a name whose value is frozen at once -/
def fRaise (k : Nat) (f : Ev → R) : Ev → R := fun env => match f env with
  | some (.fr m, d) => if (m == k || (decide (m ≤ k) && scAt m d)) = true then some (.fr k, d) else none
  | _ => none
theorem a_raise (k : Nat) (he : PE X e (tV X.K f)) : PE X e (tV X.K (fRaise k f)) := pe_mono he fun σ H Q h => by
  obtain ⟨F, env, fp, t, d, ex, L, nd, hf, q⟩ := h
  unfold fRaise at hf
  split at hf
  · rename_i m d' hm
    split at hf
    · rename_i hk
      cases hf
      simp only [Bool.or_eq_true, beq_iff_eq, Bool.and_eq_true, decide_eq_true_eq] at hk
      rcases hk with rfl | hk
      · exact ⟨F, env, fp, .fr m, d, ex, L, nd, hm, q⟩
      · obtain ⟨j, rfl⟩ := Nat.exists_eq_add_of_le hk.1
        exact ⟨F, env, fp, .fr m, d, ex, L, nd, hm, fun F' H' v g s o n w => q F' H' v g s (Own.raise m j hk.2 o) n w⟩
    · cases hf
  · cases hf
def fFz (f : Ev → R) : Ev → R := fun env => match f env with
  | some (.fz, d) => some (.fz, d)
  | some (.fr _, d) => some (.fz, d)
  | some (.pk _, d) => if isSc d = true then some (.fz, d) else none
  | none => none
theorem a_fz (he : PE X e (tV X.K f)) : PE X e (tV X.K (fFz f)) := pe_mono he fun σ H Q h => by
  obtain ⟨F, env, fp, t, d, ex, L, nd, hf, q⟩ := h
  unfold fFz at hf
  split at hf
  · rename_i d' hm
    cases hf
    exact ⟨F, env, fp, _, d, ex, L, nd, hm, q⟩
  · rename_i m d' hm
    cases hf
    exact ⟨F, env, fp, _, d, ex, L, nd, hm, fun F' H' v g s o n w => q (frzAt F' H' g) H' v [] (s.frz w fun a ha => (Own.mem m o a ha).1) ⟨Own.frz o, rfl⟩ .nil (by simp)⟩
  · rename_i m d' hm
    split at hf
    · rename_i hs
      cases hf
      exact ⟨F, env, fp, _, d, ex, L, nd, hm, fun F' H' v g s o n w => q F' H' v [] s ⟨(VO.here (t := .pk m) s.fh o).sc hs, rfl⟩ .nil (by simp)⟩
    · cases hf
  · cases hf

/-! ### x[k] = e -/
def setS (i : Nat) (fk fe : Ev → R) : SF := fun env => match fe env, fk env, env[i]? with
  | some (t, d), some (_, .int k), some (some ⟨n + 1, .lst ds⟩) => match ixN ds.length k with
    | some j => if okTo t d n = true then some (.nx (env.set i (some ⟨n + 1, .lst (ds.set j d)⟩))) else none
    | none => none
  | some (t, d), some (_, kd), some (some ⟨n + 1, .dk kvs⟩) => match keyD kd with
    | some k => if (okTo t d n && decide (kvs.length < sizeLine) && (n == 0 || (valD kvs k).isNone)) = true then some (.nx (env.set i (some ⟨n + 1, .dk (putD kvs k d)⟩))) else none
    | none => none
  | some (t, d), some (_, .tup kd), some (some ⟨n + 1, .dt kvs⟩) => match keysD kd with
    | some k => if (okTo t d n && decide (kvs.length < sizeLine) && (n == 0 || (valD kvs k).isNone)) = true then some (.nx (env.set i (some ⟨n + 1, .dt (putD kvs k d)⟩))) else none
    | none => none
  | _, _, _ => none
def rSetA : TSet := fun o i v H Q => rSetL o i v H Q ∨ ∃ a H4, o = .ref a ∧ DPut H a i v H4 ∧ Q H4
theorem set_all (hu : X.A.units + 1 < cLine) : PSet X rSetA := by
  intro pins s σ H o i v ov iv u Q I ro ri rv h
  rcases h with h | ⟨a, H4, rfl, g, q⟩
  · exact set_list pins s σ H o i v ov iv u Q I ro ri rv h
  · obtain rfl : ov = Value.ref a := ro
    exact d_setItem hu I g ri rv fun s4 I4 => ⟨H4, I4, q⟩
theorem LO.put {κ : Type} [DecidableEq κ] {n : Nat} {v : V} {d : D} {g' : List Addr} {k : κ} (o : Own K F H n v d g') : ∀ {kxs : List (κ × V)} {kvs : List (κ × D)} {g : List Addr}, kxs.map (·.1) = kvs.map (·.1) → LO (Own K F H n) (kxs.map (·.2)) (kvs.map (·.2)) g → (n = 0 ∨ valD kvs k = none) →
    (putK kxs k v).map (·.1) = (putD kvs k d).map (·.1) ∧ LO (Own K F H n) ((putK kxs k v).map (·.2)) ((putD kvs k d).map (·.2)) (g ++ g') := by
  intro kxs kvs g hk r hn
  have hany : (kxs.any fun kv => decide (kv.1 = k)) = kvs.any fun kv => decide (kv.1 = k) := by
    have h1 : (kxs.any fun kv => decide (kv.1 = k)) = (kxs.map (·.1)).any fun x => decide (x = k) := by rw [List.any_map]; rfl
    have h2 : (kvs.any fun kv => decide (kv.1 = k)) = (kvs.map (·.1)).any fun x => decide (x = k) := by rw [List.any_map]; rfl
    rw [h1, h2, hk]
  unfold putK putD
  rw [hany]
  by_cases ha : (kvs.any fun kv => decide (kv.1 = k)) = true
  · rw [if_pos ha, if_pos ha]
    rcases hn with rfl | hn
    · obtain ⟨r1, rfl⟩ := r.zero
      obtain ⟨o1, rfl⟩ := o
      have key : ∀ {kxs : List (κ × V)} {kvs : List (κ × D)}, kxs.map (·.1) = kvs.map (·.1) → Dens K F (kxs.map (·.2)) (kvs.map (·.2)) →
          ((kxs.map fun kv => if kv.1 = k then (kv.1, v) else kv).map (·.1)) = ((kvs.map fun kv => if kv.1 = k then (kv.1, d) else kv).map (·.1)) ∧ Dens K F ((kxs.map fun kv => if kv.1 = k then (kv.1, v) else kv).map (·.2)) ((kvs.map fun kv => if kv.1 = k then (kv.1, d) else kv).map (·.2)) := by
        intro kxs
        induction kxs with
        | nil =>
          intro kvs h1 _
          cases kvs with
          | nil => exact ⟨rfl, .nil⟩
          | cons _ _ => simp at h1
        | cons p kxs ih =>
          intro kvs h1 h2
          cases kvs with
          | nil => simp at h1
          | cons q kvs =>
            obtain ⟨a, x⟩ := p
            obtain ⟨b, y⟩ := q
            simp only [List.map_cons, List.cons.injEq] at h1
            obtain ⟨rfl, h1⟩ := h1
            cases h2 with
            | cons hd ht =>
              obtain ⟨i1, i2⟩ := ih h1 ht
              by_cases hx : a = k
              · simp only [List.map_cons, hx, if_true]
                exact ⟨by rw [i1], .cons o1 i2⟩
              · simp only [List.map_cons, hx, if_false]
                exact ⟨by rw [i1], .cons hd i2⟩
      obtain ⟨i1, i2⟩ := key hk r1
      exact ⟨i1, LO.of_dens i2⟩
    · exfalso
      have : (valD kvs k).isSome = true := by
        unfold valD
        rw [List.any_eq_true] at ha
        obtain ⟨x, hx, hp⟩ := ha
        rw [Option.isSome_map, List.find?_isSome]
        exact ⟨x, hx, hp⟩
      rw [hn] at this
      cases this
  · rw [if_neg ha, if_neg ha]
    refine ⟨by simp [hk], ?_⟩
    rw [List.map_append, List.map_append]
    exact LO.snoc o r
/-- what stands behind the new object, all told -/
theorem mut_end {i m : Nat} {d' : D} {a : Addr} {o : HO} {v : V} {f f' : List Addr} {Q : L2.St → Hp → Prop}
    (mk : ∀ {F2 : Hp} {a : Addr} {o : HO} {d' : D} {f' : List Addr}, a ∈ f → Ex F F2 → Ex F2 H → (∀ b ∈ fp, F2 b = none) → (∀ b o, H0 b = some o → F0 b = none → F2 b = none) → Own K F2 (upd H a o) m v d' f' → f'.Nodup → (∀ b ∈ f', b ∈ f ∨ (b ∉ fp ∧ H0 b = none)) →
      ∃ fp', StO K F0 H0 B F2 (upd H a o) σ (env.set i (some ⟨m, d'⟩)) fp') (ha : a ∈ f) (c1 : Ex F F2) (c2 : Ex F2 H) (c3 : ∀ b ∈ fp, F2 b = none) (c4 : ∀ b o, H0 b = some o → F0 b = none → F2 b = none) (ow : Own K F2 (upd H a o) m v d' f') (nd : f'.Nodup) (kk : ∀ b ∈ f', b ∈ f ∨ (b ∉ fp ∧ H0 b = none))
    (q : ∀ F' H' σ' fp', StO K F0 H0 B F' H' σ' (env.set i (some ⟨m, d'⟩)) fp' → Q σ' H') : Q σ (upd H a o) := by
  obtain ⟨fp', st⟩ := mk ha c1 c2 c3 c4 ow nd kk
  exact q F2 _ σ fp' st
theorem as_setI (i : Nat) (hu : X.A.units + 1 < cLine) {ek : Expr} {x : Str} {p tpos : Pos} (hek : PE X ek (tV X.K fk)) (he : PE X e (tV X.K fe)) (hx : PE X (.Name x p) (tVar i))
    (ha : ∀ v, assign (.Subscript (.Name x p) ek tpos) X.env v = (do
      let ov ← holding [v] (eval (.Name x p) X.env)
      let iv ← holding [v, ov] (eval ek X.env)
      standAt tpos
      holding [v, ov, iv] (setItem ov iv v)
      release [v, ov, iv] []) := by intro _; rfl)
    (hs : swapsWithSole [.Subscript (.Name x p) ek tpos] e pos.line X.env = pure false := by rfl) (hw : swappedStores [.Subscript (.Name x p) ek tpos] e X.env = pure none := by rfl)
    (h1 : (assignEach [.Subscript (.Name x p) ek tpos] X.env).map (·.2) = [assign (.Subscript (.Name x p) ek tpos) X.env] := by rfl) :
    PS X (.Assign [.Subscript (.Name x p) ek tpos] e pos) (tS X.K (setS i fk fe)) :=
  ps_mono (ps_asg he (pg_sub hx hek (set_all hu) ha) hs hw h1) fun Dn σ H h => by
    obtain ⟨F0, H0, B, F, env, fp, o, h, hs, q⟩ := h
    unfold setS at hs
    split at hs
    · rename_i t d t2 k n ds hf hfk hi
      split at hs
      · rename_i j hj
        split at hs
        · rename_i hk
          cases hs
          refine h.eval hf fun F1 H1 y gv h1' ov nd w dj _ _ => ?_
          obtain ⟨v, f, e1, _, _, _, _, _⟩ := h1'.mut hi
          refine ⟨v, e1, h1'.eval hfk fun F2 H2 kv gk h2' okv _ _ _ _ s2 => .inl ?_⟩
          obtain ⟨v', f', e1', ow, nf, fin, ff, mk⟩ := h2'.mut hi
          rw [e1] at e1'
          cases e1'
          obtain ⟨a, xs, g, rfl, ha, fa, lo, rfl⟩ := ow
          obtain ⟨F3, g', c1, c2, c3, c4, c5, c6, c7⟩ := h2'.conv (ov.step s2) nd w dj hk
          obtain ⟨ng, nfg⟩ := List.nodup_cons.mp nf
          have hjl : j < ds.length := (ixN_seq hj).2.1
          obtain ⟨w', fc, pre, post, hw, oc, rfl, mkc⟩ := lo.pick (List.getElem?_eq_getElem hjl)
          refine ⟨a, xs, k, j, rfl, okv.int h2'.stp.fh, ha, by rw [lo.length]; exact hj, ?_⟩
          have low := mkc (F' := F3) (H' := upd H2 a (.lst (xs.set j y))) (v' := y) (d' := d) (f' := g') c1 (fun b hb => by
            have hbm := mem_mid (f := fc) hb
            have hne : b ≠ a := fun z => ng (z ▸ hbm)
            rw [upd_ne hne]
            exact ⟨c3 b (fin b (List.mem_cons_of_mem _ hbm)), rfl⟩) (Own.frame (Ex.refl _) n c5 fun b hb => by
            have hne : b ≠ a := fun z => (c7 b hb).1 (z ▸ fin a List.mem_cons_self)
            rw [upd_ne hne]
            exact ⟨(c5.mem n b hb).1, rfl⟩)
          refine mut_end (d' := .lst (ds.set j d)) (f' := a :: (pre ++ (g' ++ post))) mk List.mem_cons_self c1 c2 c3 c4 ⟨a, _, _, rfl, upd_same, c3 a (fin a List.mem_cons_self), low, rfl⟩ ?_ ?_ q
          · refine List.nodup_cons.mpr ⟨fun hm => ?_, nodup_mid nfg c6 fun b hb => .inr fun hm => (c7 b hb).1 (fin b (List.mem_cons_of_mem _ hm))⟩
            rcases List.mem_append.mp hm with z | z
            · exact ng (List.mem_append_left _ z)
            · rcases List.mem_append.mp z with z | z
              · exact (c7 a z).1 (fin a List.mem_cons_self)
              · exact ng (List.mem_append_right _ (List.mem_append_right _ z))
          · intro b hb
            rcases List.mem_cons.mp hb with rfl | z
            · exact .inl List.mem_cons_self
            · rcases List.mem_append.mp z with z | z
              · exact .inl (List.mem_cons_of_mem _ (List.mem_append_left _ z))
              · rcases List.mem_append.mp z with z | z
                · exact .inr (c7 b z)
                · exact .inl (List.mem_cons_of_mem _ (List.mem_append_right _ (List.mem_append_right _ z)))
        · cases hs
      · cases hs
    · rename_i t d t2 kd n kvs hf hfk hi
      split at hs
      · rename_i k hkd
        split at hs
        · rename_i hk
          cases hs
          simp only [Bool.and_eq_true, decide_eq_true_eq, Bool.or_eq_true, beq_iff_eq, Option.isNone_iff_eq_none] at hk
          refine h.eval hf fun F1 H1 y gv h1' ov nd w dj _ _ => ?_
          obtain ⟨v, f, e1, _, _, _, _, _⟩ := h1'.mut hi
          refine ⟨v, e1, h1'.eval hfk fun F2 H2 kv gk h2' okv _ _ _ _ s2 => .inr ?_⟩
          obtain ⟨v', f', e1', ow, nf, fin, ff, mk⟩ := h2'.mut hi
          rw [e1] at e1'
          cases e1'
          obtain ⟨a, kxs, g, rfl, ha, fa, hks, lo, rfl⟩ := ow
          obtain ⟨F3, g', c1, c2, c3, c4, c5, c6, c7⟩ := h2'.conv (ov.step s2) nd w dj hk.1.1
          obtain ⟨ng, nfg⟩ := List.nodup_cons.mp nf
          have hlen : kxs.length = kvs.length := by simpa using congrArg List.length hks
          have hkv := keyD_v hkd (okv.here h2'.stp.fh)
          subst hkv
          obtain ⟨p1, p2⟩ := LO.put (k := k) (K := X.K) (F := F3) (H := upd H2 a (.dK (putK kxs k y))) (Own.frame (Ex.refl _) n c5 fun b hb => by
            have hne : b ≠ a := fun z => (c7 b hb).1 (z ▸ fin a List.mem_cons_self)
            rw [upd_ne hne]
            exact ⟨(c5.mem n b hb).1, rfl⟩) hks (LO.frame c1 lo fun b hb => by
            have hne : b ≠ a := fun z => ng (z ▸ hb)
            rw [upd_ne hne]
            exact ⟨c3 b (fin b (List.mem_cons_of_mem _ hb)), rfl⟩) hk.2
          refine ⟨a, _, rfl, .inl ⟨kxs, k, ha, rfl, by rw [hlen]; exact hk.1.2, rfl⟩, ?_⟩
          refine mut_end (d' := .dk (putD kvs k d)) (f' := a :: (g ++ g')) mk List.mem_cons_self c1 c2 c3 c4 ⟨a, _, _, rfl, upd_same, c3 a (fin a List.mem_cons_self), p1, p2, rfl⟩ ?_ ?_ q
          · refine List.nodup_cons.mpr ⟨fun hm => ?_, List.nodup_append.mpr ⟨nfg, c6, fun b hb b' hb' e => ?_⟩⟩
            · rcases List.mem_append.mp hm with z | z
              · exact ng z
              · exact (c7 a z).1 (fin a List.mem_cons_self)
            · subst e
              exact (c7 b hb').1 (fin b (List.mem_cons_of_mem _ hb))
          · intro b hb
            rcases List.mem_cons.mp hb with rfl | z
            · exact .inl List.mem_cons_self
            · rcases List.mem_append.mp z with z | z
              · exact .inl (List.mem_cons_of_mem _ z)
              · exact .inr (c7 b z)
        · cases hs
      · cases hs
    · rename_i t d t2 kd n kvs hf hfk hi
      split at hs
      · rename_i k hkd
        split at hs
        · rename_i hk
          cases hs
          simp only [Bool.and_eq_true, decide_eq_true_eq, Bool.or_eq_true, beq_iff_eq, Option.isNone_iff_eq_none] at hk
          refine h.eval hf fun F1 H1 y gv h1' ov nd w dj _ _ => ?_
          obtain ⟨v, f, e1, _, _, _, _, _⟩ := h1'.mut hi
          refine ⟨v, e1, h1'.eval hfk fun F2 H2 kv gk h2' okv _ _ _ _ s2 => .inr ?_⟩
          obtain ⟨v', f', e1', ow, nf, fin, ff, mk⟩ := h2'.mut hi
          rw [e1] at e1'
          cases e1'
          obtain ⟨a, kxs, g, rfl, ha, fa, hks, lo, rfl⟩ := ow
          obtain ⟨F3, g', c1, c2, c3, c4, c5, c6, c7⟩ := h2'.conv (ov.step s2) nd w dj hk.1.1
          obtain ⟨ng, nfg⟩ := List.nodup_cons.mp nf
          have hlen : kxs.length = kvs.length := by simpa using congrArg List.length hks
          obtain ⟨bk, ys, rfl, hb, _, hdk, _⟩ := okv.tup h2'.stp.fh
          have hkv := keysD_v hkd hdk
          subst hkv
          obtain ⟨p1, p2⟩ := LO.put (k := k) (K := X.K) (F := F3) (H := upd H2 a (.dT (putK kxs k y))) (Own.frame (Ex.refl _) n c5 fun b hb => by
            have hne : b ≠ a := fun z => (c7 b hb).1 (z ▸ fin a List.mem_cons_self)
            rw [upd_ne hne]
            exact ⟨(c5.mem n b hb).1, rfl⟩) hks (LO.frame c1 lo fun b hb => by
            have hne : b ≠ a := fun z => ng (z ▸ hb)
            rw [upd_ne hne]
            exact ⟨c3 b (fin b (List.mem_cons_of_mem _ hb)), rfl⟩) hk.2
          refine ⟨a, _, rfl, .inr ⟨kxs, k, bk, ha, rfl, hb, by rw [hlen]; exact hk.1.2, rfl⟩, ?_⟩
          refine mut_end (d' := .dt (putD kvs k d)) (f' := a :: (g ++ g')) mk List.mem_cons_self c1 c2 c3 c4 ⟨a, _, _, rfl, upd_same, c3 a (fin a List.mem_cons_self), p1, p2, rfl⟩ ?_ ?_ q
          · refine List.nodup_cons.mpr ⟨fun hm => ?_, List.nodup_append.mpr ⟨nfg, c6, fun b hb b' hb' e => ?_⟩⟩
            · rcases List.mem_append.mp hm with z | z
              · exact ng z
              · exact (c7 a z).1 (fin a List.mem_cons_self)
            · subst e
              exact (c7 b hb').1 (fin b (List.mem_cons_of_mem _ hb))
          · intro b hb
            rcases List.mem_cons.mp hb with rfl | z
            · exact .inl List.mem_cons_self
            · rcases List.mem_append.mp z with z | z
              · exact .inl (List.mem_cons_of_mem _ z)
              · exact .inr (c7 b z)
        · cases hs
      · cases hs
    · cases hs

/-! ### methods that change an own list: pop, pop(0), remove, clear, extend (n = 0: what it holds is frozen) -/
/-- an own list of frozen things is replaced -/
theorem lst0_end {i : Nat} {ds ds' : List D} {Q : L2.St → Hp → Prop} (h : StO K F0 H0 B F H σ env fp) (hi : env[i]? = some (some ⟨1, .lst ds⟩)) (q : ∀ F' H' σ' fp', StO K F0 H0 B F' H' σ' (env.set i (some ⟨1, .lst ds'⟩)) fp' → Q σ' H') :
    ∃ a xs, σ[i]? = some (some (.ref a)) ∧ H a = some (.lst xs) ∧ Dens K F xs ds ∧ (∀ xs', Dens K F xs' ds' → Q σ (upd H a (.lst xs'))) ∧ ∀ xs', Dens K F xs' ds' → ∃ fp', StO K F0 H0 B F (upd H a (.lst xs')) σ (env.set i (some ⟨1, .lst ds'⟩)) fp' := by
  obtain ⟨v, f, h1, ow, nf, fin, ff, mk⟩ := h.mut hi
  obtain ⟨a, xs, g, rfl, ha, fa, lo, rfl⟩ := ow
  obtain ⟨ld, rfl⟩ := lo.zero
  have go : ∀ xs', Dens K F xs' ds' → ∃ fp', StO K F0 H0 B F (upd H a (.lst xs')) σ (env.set i (some ⟨1, .lst ds'⟩)) fp' := fun xs' r =>
    mk List.mem_cons_self (Ex.refl _) h.stp.fh (fun b hb => (h.env.mem b hb).1) h.stp.nw ⟨a, xs', [], rfl, upd_same, fa, LO.of_dens r, rfl⟩ nf fun b hb => .inl hb
  exact ⟨a, xs, h1, ha, ld, fun xs' r => by
    obtain ⟨fp', st⟩ := go xs' r
    exact q _ _ _ fp' st, go⟩
def clrS (i : Nat) : SF := fun env => match env[i]? with
  | some (some ⟨1, .lst ds⟩) => some (.nx (env.set i (some ⟨1, .lst []⟩)))
  | _ => none
variable {x : Str} {p apos cpos : Pos}
theorem as_clear (i : Nat) (hx : PE X (.Name x p) (tVar i)) (hs : swapsWith (.Call (.Attribute (.Name x p) "clear" apos) [] [] cpos) none pos.line X.env = pure false := by rfl)
    (hbase : attributeBase (.Name x p) "clear" X.env (eval (.Name x p) X.env) = eval (.Name x p) X.env := by rfl) (hline : (apos.endLine == cpos.line) = true := by rfl) :
    PS X (.Expr (.Call (.Attribute (.Name x p) "clear" apos) [] [] cpos) pos) (tS X.K (clrS i)) :=
  ps_mono (ps_expr (pe_bm0 PySem.F.plainAttrs_list PySem.F.slot_list_clear PySem.F.type_list_clear mt_clear hx hbase hline) hs) fun Dn σ H h => by
    obtain ⟨F0, H0, B, F, env, fp, o, h, hs, q⟩ := h
    unfold clrS at hs
    split at hs
    · rename_i ds hi
      cases hs
      obtain ⟨a, xs, h1, ha, ld, k, _⟩ := lst0_end (Q := Dn.nx) h hi q
      exact ⟨_, h1, .inl ⟨rfl, xs, .of ha⟩, a, xs, rfl, rfl, ha, k [] .nil⟩
    · cases hs
/-- y = x.pop() -/
def popS (i j : Nat) : SF := fun env => match env[i]?, env[j]? with
  | some (some ⟨1, .lst ds⟩), some _ => match ds[ds.length - 1]? with
    | some d => if i = j then none else some (.nx ((env.set i (some ⟨1, .lst ds.dropLast⟩)).set j (some ⟨0, d⟩)))
    | none => none
  | _, _ => none
theorem Dens.dropLast {vs : List V} {ds : List D} (r : Dens K F vs ds) : Dens K F vs.dropLast ds.dropLast := by
  rw [List.dropLast_eq_take, List.dropLast_eq_take, r.length]
  exact r.take _
theorem Dens.erase : ∀ {vs : List V} {ds : List D} (i : Nat), Dens K F vs ds → Dens K F (vs.eraseIdx i) (ds.eraseIdx i)
  | _, _, _, .nil => by simpa using Dens.nil
  | _, _, 0, .cons _ t => by simpa using t
  | _, _, i + 1, .cons h t => by simpa using Dens.cons h (Dens.erase i t)
theorem StO.set0 {j : Nat} {v : V} {d : D} (h : StO K F0 H0 B F H σ env fp) (hj : ∃ s, env[j]? = some s) (hd : Den K F v d) : ∃ fp', StO K F0 H0 B F H (σ.set j (some v)) (env.set j (some ⟨0, d⟩)) fp' := by
  obtain ⟨s, hj⟩ := hj
  exact h.store hj (n := 0) ⟨hd, rfl⟩ .nil (by simp) (by simp)
theorem as_pop (i j : Nat) {y : Str} {py : Pos} (hN : X.N.Nodup) (hx : PE X (.Name x p) (tVar i)) (hy : X.N[j]? = some y := by rfl) (hyl : Loc X.env.scope y := by first | exact .inl rfl | exact .inr rfl) (hs : swapsWith (.Call (.Attribute (.Name x p) "pop" apos) [] [] cpos) (some (.Name y py)) pos.line X.env = pure false := by rfl)
    (hf : X.fn y = true ∨ X.env.scope.names.lookup y = some .local := by first | exact .inl rfl | exact .inr rfl | assumption)
    (hbase : attributeBase (.Name x p) "pop" X.env (eval (.Name x p) X.env) = eval (.Name x p) X.env := by rfl) (hline : (apos.endLine == cpos.line) = true := by rfl) :
    PS X (.Assign [.Name y py] (.Call (.Attribute (.Name x p) "pop" apos) [] [] cpos) pos) (tS X.K (popS i j)) :=
  ps_mono (ps_set hN hy hyl (pe_bm0 PySem.F.plainAttrs_list PySem.F.slot_list_pop PySem.F.type_list_pop mt_pop hx hbase hline) hs hf) fun Dn σ H h => by
    obtain ⟨F0, H0, B, F, env, fp, o, h, hs, q⟩ := h
    unfold popS at hs
    split at hs
    · rename_i ds sj hi hj
      split at hs
      · rename_i d hd
        split at hs
        · cases hs
        · rename_i hne
          cases hs
          obtain ⟨a, xs, h1, ha, ld, _, k⟩ := lst0_end (ds' := ds.dropLast) (Q := fun _ _ => True) h hi (fun _ _ _ _ _ => trivial)
          obtain ⟨y', hy1, hy2⟩ := ld.get hd
          refine ⟨_, h1, .inl ⟨rfl, xs, .of ha⟩, a, xs, y', rfl, rfl, ha, by rw [ld.length]; exact hy1, ?_⟩
          obtain ⟨fp1, st1⟩ := k xs.dropLast ld.dropLast
          obtain ⟨fp2, st2⟩ := st1.set0 (j := j) (v := y') (d := d) ⟨sj, by rw [List.getElem?_set_ne hne]; exact hj⟩ hy2
          exact q _ _ _ fp2 st2
      · cases hs
    · cases hs
/-- x.remove(e), ints -/
def remS (i : Nat) (f : Ev → R) : SF := fun env => match f env, env[i]? with
  | some (_, .int k), some (some ⟨1, .lst ds⟩) => match intsD ds with
    | some ns => if k ∈ ns then some (.nx (env.set i (some ⟨1, .lst ((ns.erase k).map D.int)⟩))) else none
    | none => none
  | _, _ => none
end
end VL
namespace VL
open PySem PySem.Spec PyProof.Rows L2

section
variable {K : PySem.W.Frag} {F0 H0 B F F' F1 F2 H H' H1 : Hp} {σ : L2.St} {env : Ev} {fp : List Addr} {X : Cx} {pos : Pos} {e e2 e3 : Expr} {f f2 f3 fe fk : Ev → R} {Dn : Ends} {x : Str} {p apos cpos : Pos}
/-! ### x.remove(e), x.extend(e) -/
theorem idx_first {k : Int} : ∀ {ns : List Int}, k ∈ ns → ns[ns.idxOf k]? = some k ∧ (∀ m : Nat, m < ns.idxOf k → ns[m]? ≠ some k) ∧ ns.eraseIdx (ns.idxOf k) = ns.erase k
  | [], h => by simp at h
  | x :: ns, h => by
    by_cases hx : x = k
    · subst hx
      simp [List.idxOf_cons]
    · have hb : (x == k) = false := by simpa using hx
      have hm : k ∈ ns := by
        rcases List.mem_cons.mp h with z | z
        · exact absurd z.symm hx
        · exact z
      obtain ⟨i1, i2, i3⟩ := idx_first hm
      rw [List.idxOf_cons, hb]
      simp only [cond_false]
      refine ⟨by simpa using i1, fun m hm => ?_, ?_⟩
      · cases m with
        | zero => simpa using hx
        | succ m => simpa using i2 m (by omega)
      · rw [List.eraseIdx_cons_succ, i3, List.erase_cons, hb]
        simp
theorem as_remove (i : Nat) (he : PE X e (tV X.K f)) (hx : PE X (.Name x p) (tVar i)) (hs : swapsWith (.Call (.Attribute (.Name x p) "remove" apos) [e] [] cpos) none pos.line X.env = pure false := by rfl)
    (hbase : attributeBase (.Name x p) "remove" X.env (eval (.Name x p) X.env) = eval (.Name x p) X.env := by rfl)
    (hfew : ((backTo cpos (starEach (e :: []) X.env)).all (fun x => !x.1) && (backToKw cpos (keywordEach [] X.env)).all (fun x => x.1.isSome)
      && decide ((e :: []).length + ([] : List Keyword).length + (if ([] : List Keyword).isEmpty then 0 else 1) < 30)) = true := by rfl)
    (hline : (apos.endLine == cpos.line) = true := by rfl) (hst : starEach (e :: []) X.env = (false, eval e X.env) :: starEach [] X.env := by rfl) (hplain : (backTo cpos (starEach [] X.env)).any (·.1) = false := by rfl) :
    PS X (.Expr (.Call (.Attribute (.Name x p) "remove" apos) [e] [] cpos) pos) (tS X.K (remS i f)) :=
  ps_mono (ps_expr (pe_bm PySem.F.plainAttrs_list PySem.F.slot_list_remove PySem.F.type_list_remove mt_remove hx (pa1 he hst) hbase hfew hline hst hplain) hs) fun Dn σ H h => by
    obtain ⟨F0, H0, B, F, env, fp, o, h, hs, q⟩ := h
    unfold remS at hs
    split at hs
    · rename_i t k ds hf hi
      split at hs
      · rename_i ns hns
        split at hs
        · rename_i hk
          cases hs
          obtain ⟨v, ff, h1, ow, _, fin, _, _⟩ := h.mut hi
          obtain ⟨a, xs, g, rfl, ha, fa, lo, _⟩ := ow
          refine ⟨_, h1, .inl ⟨rfl, xs, .of ha⟩, ?_⟩
          refine h.eval hf fun F1 H1 y gv h1' ov nd w dj _ s1 => ?_
          obtain ⟨a', xs', e1, ha', ld, kk, _⟩ := lst0_end (Q := Dn.nx) h1' hi q
          rw [h1] at e1
          cases e1
          rw [intsD_eq hns] at ld
          have hx := ld.ints
          subst hx
          obtain ⟨j1, j2, j3⟩ := idx_first hk
          refine ⟨a, ns, k, ns.idxOf k, rfl, by rw [ov.int h1'.stp.fh], ha', j1, j2, ?_⟩
          rw [j3]
          exact kk _ (Dens.of_ints _)
        · cases hs
      · cases hs
    · cases hs
def extS (i : Nat) (f : Ev → R) : SF := fun env => match f env, env[i]? with
  | some (t, .lst es), some (some ⟨1, .lst ds⟩) => if (decide (lvl t ≤ 1) && decide (ds.length + es.length ≤ sizeLine)) = true then some (.nx (env.set i (some ⟨1, .lst (ds ++ es)⟩))) else none
  | _, _ => none
theorem as_extend (i : Nat) (he : PE X e (tV X.K f)) (hx : PE X (.Name x p) (tVar i)) (hs : swapsWith (.Call (.Attribute (.Name x p) "extend" apos) [e] [] cpos) none pos.line X.env = pure false := by rfl)
    (hbase : attributeBase (.Name x p) "extend" X.env (eval (.Name x p) X.env) = eval (.Name x p) X.env := by rfl)
    (hfew : ((backTo cpos (starEach (e :: []) X.env)).all (fun x => !x.1) && (backToKw cpos (keywordEach [] X.env)).all (fun x => x.1.isSome)
      && decide ((e :: []).length + ([] : List Keyword).length + (if ([] : List Keyword).isEmpty then 0 else 1) < 30)) = true := by rfl)
    (hline : (apos.endLine == cpos.line) = true := by rfl) (hst : starEach (e :: []) X.env = (false, eval e X.env) :: starEach [] X.env := by rfl) (hplain : (backTo cpos (starEach [] X.env)).any (·.1) = false := by rfl) :
    PS X (.Expr (.Call (.Attribute (.Name x p) "extend" apos) [e] [] cpos) pos) (tS X.K (extS i f)) :=
  ps_mono (ps_expr (pe_bm PySem.F.plainAttrs_list PySem.F.slot_list_extend PySem.F.type_list_extend mt_extend hx (pa1 he hst) hbase hfew hline hst hplain) hs) fun Dn σ H h => by
    obtain ⟨F0, H0, B, F, env, fp, o, h, hs, q⟩ := h
    unfold extS at hs
    split at hs
    · rename_i t es ds hf hi
      split at hs
      · rename_i hk
        cases hs
        simp only [Bool.and_eq_true, decide_eq_true_eq] at hk
        obtain ⟨v, ff, h1, ow, _, fin, _, _⟩ := h.mut hi
        obtain ⟨a, xs, g, rfl, ha, fa, lo, _⟩ := ow
        refine ⟨_, h1, .inl ⟨rfl, xs, .of ha⟩, ?_⟩
        refine h.eval hf fun F1 H1 y gv h1' ov nd w dj _ s1 => ?_
        obtain ⟨a', xs', e1, ha', ld, kk, _⟩ := lst0_end (Q := Dn.nx) h1' hi q
        rw [h1] at e1
        cases e1
        obtain ⟨b, zs, rfl, hb, _, _, _, hd⟩ := ov.lst h1'.stp.fh
        exact ⟨a, b, xs', zs, rfl, rfl, ha', hb, by rw [ld.length, (hd hk.1).length]; exact hk.2, kk _ (ld.append (hd hk.1))⟩
      · cases hs
    · cases hs
/-- y = x.pop(0) -/
def pop0S (i j : Nat) : SF := fun env => match env[i]?, env[j]? with
  | some (some ⟨1, .lst (d :: ds)⟩), some _ => if i = j then none else some (.nx ((env.set i (some ⟨1, .lst ds⟩)).set j (some ⟨0, d⟩)))
  | _, _ => none
theorem as_pop0 (i j : Nat) {y : Str} {py kp : Pos} {kj : Nat} (hN : X.N.Nodup) (hx : PE X (.Name x p) (tVar i)) (hy : X.N[j]? = some y := by rfl) (hyl : Loc X.env.scope y := by first | exact .inl rfl | exact .inr rfl)
    (hs : swapsWith (.Call (.Attribute (.Name x p) "pop" apos) [.Constant (.int 0) kj kp] [] cpos) (some (.Name y py)) pos.line X.env = pure false := by rfl)
    (hf : X.fn y = true ∨ X.env.scope.names.lookup y = some .local := by first | exact .inl rfl | exact .inr rfl | assumption)
    (hbase : attributeBase (.Name x p) "pop" X.env (eval (.Name x p) X.env) = eval (.Name x p) X.env := by rfl)
    (hfew : ((backTo cpos (starEach ((.Constant (.int 0) kj kp) :: []) X.env)).all (fun x => !x.1) && (backToKw cpos (keywordEach [] X.env)).all (fun x => x.1.isSome)
      && decide (((.Constant (.int 0) kj kp : Expr) :: []).length + ([] : List Keyword).length + (if ([] : List Keyword).isEmpty then 0 else 1) < 30)) = true := by rfl)
    (hline : (apos.endLine == cpos.line) = true := by rfl) (hst : starEach ((.Constant (.int 0) kj kp) :: []) X.env = (false, eval (.Constant (.int 0) kj kp) X.env) :: starEach [] X.env := by rfl) (hplain : (backTo cpos (starEach [] X.env)).any (·.1) = false := by rfl) :
    PS X (.Assign [.Name y py] (.Call (.Attribute (.Name x p) "pop" apos) [.Constant (.int 0) kj kp] [] cpos) pos) (tS X.K (pop0S i j)) :=
  ps_mono (ps_set hN hy hyl (pe_bm PySem.F.plainAttrs_list PySem.F.slot_list_pop PySem.F.type_list_pop mt_popAt hx (pa_cons pe_int pa_nil hst) hbase hfew hline hst hplain) hs hf) fun Dn σ H h => by
    obtain ⟨F0, H0, B, F, env, fp, o, h, hs, q⟩ := h
    unfold pop0S at hs
    split at hs
    · rename_i d ds sj hi hj
      split at hs
      · cases hs
      · rename_i hne
        cases hs
        obtain ⟨a, xs, h1, ha, ld, _, k⟩ := lst0_end (ds' := ds) (Q := fun _ _ => True) h hi (fun _ _ _ _ _ => trivial)
        cases ld with
        | cons hd ht =>
          rename_i v vs
          refine ⟨_, h1, .inl ⟨rfl, _, .of ha⟩, a, _, 0, 0, v, rfl, rfl, ha, by decide, by decide, ?_, rfl, ?_⟩
          · unfold seqIndex?
            simp
          · obtain ⟨fp1, st1⟩ := k vs ht
            obtain ⟨fp2, st2⟩ := st1.set0 (j := j) (v := v) (d := d) ⟨sj, by rw [List.getElem?_set_ne hne]; exact hj⟩ hd
            exact q _ _ _ fp2 st2
    · cases hs

/-! ### d.get(k, e) -/
def fGet (f fk fe : Ev → R) : Ev → R := fun env => match f env, fk env, fe env with
  | some (t, .dk kvs), some (_, kd), some (_, z) => if isSc z = true then match keyD kd with
      | some k => match valD kvs k with
        | some y => some (low (lvl t) y, y)
        | none => some (.fz, z)
      | none => none
    else none
  | some (t, .dt kvs), some (_, .tup kd), some (_, z) => if isSc z = true then match keysD kd with
      | some k => match valD kvs k with
        | some y => some (low (lvl t) y, y)
        | none => some (.fz, z)
      | none => none
    else none
  | _, _, _ => none
theorem VO.low_step {t : Tg} {v : V} {d : D} (s : Stp F H F' H') (h : VO K F H (low (lvl t) d) v d []) : VO K F' H' (low (lvl t) d) v d [] := h.step s
theorem a_get (hu : X.A.units + 1 < cLine) (he : PE X e (tV X.K f)) (hk : PE X e2 (tV X.K fk)) (hz : PE X e3 (tV X.K fe)) (hbase : attributeBase e "get" X.env (eval e X.env) = eval e X.env := by rfl)
    (few : ((backTo cpos (starEach [e2, e3] X.env)).all (fun x => !x.1) && (backToKw cpos (keywordEach [] X.env)).all (fun x => x.1.isSome)
    && decide (([e2, e3] : List Expr).length + ([] : List Keyword).length + (if ([] : List Keyword).isEmpty then 0 else 1) < 30)) = true := by rfl) (line : (apos.endLine == cpos.line) = true := by rfl)
    (trees : backTo cpos (starEach [e2, e3] X.env) = [(false, eval e2 X.env), (false, eval e3 X.env)] := by rfl) : PE X (.Call (.Attribute e "get" apos) [e2, e3] [] cpos) (tV X.K (fGet f fk fe)) :=
  pe_mono (pe_dget2 hu he hk hz ⟨hbase, few, line, trees⟩) fun σ H Q h => by
    obtain ⟨F, env, fp, tg, z0, ex, L, nd, hf, q⟩ := h
    unfold fGet at hf
    split at hf
    · rename_i t kvs tk kd tz z hd hkk hzz
      split at hf
      · rename_i hsc
        split at hf
        · rename_i k hkd
          refine ⟨F, env, fp, t, _, ex, L, nd, hd, fun F1 H1 v1 g1 s1 o1 n1 w1 => ?_⟩
          obtain ⟨a, kxs, rfl, ha, _⟩ := o1.dk s1.fh
          refine ⟨a, rfl, .inl ⟨kxs, ha⟩, F1, env, fp, tk, kd, s1.fh, L.step s1, nd, hkk, fun F2 H2 v2 g2 s2 o2 n2 w2 => ⟨F2, env, fp, tz, z, s2.fh, (L.step s1).step s2, nd, hzz, fun F3 H3 v3 g3 s3 o3 n3 w3 => ?_⟩⟩
          have s123 := (s1.trans s2).trans s3
          obtain ⟨a', ov, e1, g, m⟩ := ((o1.step s2).step s3).dkGet s3.fh k
          cases e1
          refine ⟨ov, ?_, ?_⟩
          · rw [keyD_v hkd ((o2.step s3).here s3.fh)]
            exact g
          · split at hf
            · rename_i y hy
              cases hf
              rw [hy] at m
              cases ov with
              | none => exact m.elim
              | some w => exact q F3 H3 w [] s123 m .nil (by simp)
            · rename_i hy
              cases hf
              rw [hy] at m
              cases ov with
              | none => exact q F3 H3 v3 [] s123 ⟨(o3.here s3.fh).sc hsc, rfl⟩ .nil (by simp)
              | some w => exact m.elim
        · cases hf
      · cases hf
    · rename_i t kvs tk kd tz z hd hkk hzz
      split at hf
      · rename_i hsc
        split at hf
        · rename_i k hkd
          refine ⟨F, env, fp, t, _, ex, L, nd, hd, fun F1 H1 v1 g1 s1 o1 n1 w1 => ?_⟩
          obtain ⟨a, kxs, rfl, ha, _⟩ := o1.dt s1.fh
          refine ⟨a, rfl, .inr ⟨kxs, ha⟩, F1, env, fp, tk, _, s1.fh, L.step s1, nd, hkk, fun F2 H2 v2 g2 s2 o2 n2 w2 => ⟨F2, env, fp, tz, z, s2.fh, (L.step s1).step s2, nd, hzz, fun F3 H3 v3 g3 s3 o3 n3 w3 => ?_⟩⟩
          have s123 := (s1.trans s2).trans s3
          obtain ⟨a', ov, e1, g, m⟩ := ((o1.step s2).step s3).dtGet s3.fh (o2.step s3) hkd
          cases e1
          refine ⟨ov, g, ?_⟩
          split at hf
          · rename_i y hy
            cases hf
            rw [hy] at m
            cases ov with
            | none => exact m.elim
            | some w => exact q F3 H3 w [] s123 m .nil (by simp)
          · rename_i hy
            cases hf
            rw [hy] at m
            cases ov with
            | none => exact q F3 H3 v3 [] s123 ⟨(o3.here s3.fh).sc hsc, rfl⟩ .nil (by simp)
            | some w => exact m.elim
        · cases hf
      · cases hf
    · cases hf

/-! ### max(a, b), min(a, b) -/
def gMax2 : Tg → D → Tg → D → R := g2i fun i j => some (.fz, .int (if j > i then j else i))
def gMin2 : Tg → D → Tg → D → R := g2i fun i j => some (.fz, .int (if j < i then j else i))
theorem a_b2i {g : Int → Int → Int} {id : String} (hc : CallR X (.builtin id) (fun xs H Q => ∃ i j, xs = [.int i, .int j] ∧ Q (.int (g i j)) H)) (hm : X.mg x = none) (hv : bootBuiltins x = some (.builtin id)) (ha : PE X e (tV X.K f)) (hb : PE X e2 (tV X.K f2)) (hg : Gl X x := by rfl) (hn : x ≠ "__name__" := by decide) (hdb : (x == ("__debug__" : Str)) = false := by decide)
    (hs : starEach [e, e2] X.env = (false, eval e X.env) :: starEach [e2] X.env := by rfl) (hs2 : starEach [e2] X.env = (false, eval e2 X.env) :: starEach [] X.env := by rfl) (hpl : (backTo pos (starEach [e2] X.env)).any (·.1) = false := by rfl) :
    PE X (.Call (.Name x p) [e, e2] [] pos) (tV X.K (bind2 f f2 (g2i fun i j => some (.fz, .int (g i j))))) :=
  pe_mono (pe_callB hc hg hm hv (pa_cons ha (pa1 hb hs2) hs) hn hdb hs hpl) fun σ H Q h =>
    v_two (R' := fun x y H2 => ∃ i j, [x, y] = [V.int i, V.int j] ∧ Q (.int (g i j)) H2) h fun {F H1 t u x y d e f f' tg z} ex o1 o2 hg k => by
      obtain ⟨i, j, rfl, rfl, hz⟩ := g2i_inv hg
      cases hz
      exact ⟨i, j, by rw [o1.int ex, o2.int ex], k F H1 _ [] (Stp.refl ex) ⟨.int _, rfl⟩ .nil (by simp)⟩
theorem a_max2 (hc : X.calm = true) (hm : X.mg "max" = none) (ha : PE X e (tV X.K f)) (hb : PE X e2 (tV X.K f2)) (hg : Gl X "max" := by rfl)
    (hs : starEach [e, e2] X.env = (false, eval e X.env) :: starEach [e2] X.env := by rfl) (hs2 : starEach [e2] X.env = (false, eval e2 X.env) :: starEach [] X.env := by rfl) (hpl : (backTo pos (starEach [e2] X.env)).any (·.1) = false := by rfl) :
    PE X (.Call (.Name "max" p) [e, e2] [] pos) (tV X.K (bind2 f f2 gMax2)) := a_b2i (call_max2 hc) hm (by decide +kernel) ha hb hg (by decide) (by decide) hs hs2 hpl
theorem a_min2 (hc : X.calm = true) (hm : X.mg "min" = none) (ha : PE X e (tV X.K f)) (hb : PE X e2 (tV X.K f2)) (hg : Gl X "min" := by rfl)
    (hs : starEach [e, e2] X.env = (false, eval e X.env) :: starEach [e2] X.env := by rfl) (hs2 : starEach [e2] X.env = (false, eval e2 X.env) :: starEach [] X.env := by rfl) (hpl : (backTo pos (starEach [e2] X.env)).any (·.1) = false := by rfl) :
    PE X (.Call (.Name "min" p) [e, e2] [] pos) (tV X.K (bind2 f f2 gMin2)) := a_b2i (call_min2 hc) hm (by decide +kernel) ha hb hg (by decide) (by decide) hs hs2 hpl

/-! ### isinstance(x, a built-in class) -/
def tyD : D → Option String
  | .non => some "NoneType"
  | .bl _ => some "bool"
  | .int _ => some "int"
  | .str _ => some "str"
  | .lst _ => some "list"
  | .tup _ => some "tuple"
  | .ktup _ => some "tuple"
  | .dk _ => some "dict"
  | _ => none
def isiB (a T : String) : Option Bool := kitB a T
def gIsi (T : String) : Tg → D → R := fun _ d => match tyD d with
  | some a => match isiB a T with
    | some b => some (.fz, .bl b)
    | none => none
  | none => none
theorem tyD_x {v : V} {d : D} {a : String} (h : tyD d = some a) (r : Den K H v d) : TyX K H v (.type a) := by
  cases r with
  | non => cases h; exact .base .non
  | bl b => cases h; exact .base (.bl b)
  | int i => cases h; exact .base (.int i)
  | str x => cases h; exact .base (.str x)
  | lst ha _ => cases h; exact .base (.lst ha)
  | tup ha _ => cases h; exact .base (.tup ha)
  | ktup ha _ =>
    cases h
    rcases ha with (ha | ⟨o, ha⟩) | ⟨o, its, n, ha, hc, _⟩
    · exact .base (.tup ha)
    · exact .fTuple ha
    · exact .kTuple ha hc
  | dk ha _ _ =>
    cases h
    rcases ha with ha | ⟨o, ha⟩
    · exact .base (.dK ha)
    · exact .fDict ha
  | dt _ _ _ => cases h
  | scr _ => cases h
theorem a_isi {T : String} {pt : Pos} {tn : Str} (hm : X.mg "isinstance" = none) (hmt : X.mg tn = none) (hvt : bootBuiltins tn = some (.type T)) (ha : PE X e (tV X.K f)) (hg : Gl X "isinstance" := by rfl) (hgt : Gl X tn := by rfl) (hnt : tn ≠ "__name__" := by decide) (hdt : (tn == ("__debug__" : Str)) = false := by decide)
    (hs : starEach [e, .Name tn pt] X.env = (false, eval e X.env) :: starEach [.Name tn pt] X.env := by rfl) (hs2 : starEach [.Name tn pt] X.env = (false, eval (.Name tn pt) X.env) :: starEach [] X.env := by rfl) (hpl : (backTo pos (starEach [.Name tn pt] X.env)).any (·.1) = false := by rfl) :
    PE X (.Call (.Name "isinstance" p) [e, .Name tn pt] [] pos) (tV X.K (bind1 f (gIsi T))) :=
  pe_mono (pe_callB call_isi hg hm (by decide +kernel) (pa_cons ha (pa_cons (pe_bltn (v := .ty T) hgt hmt hvt rfl hnt hdt) pa_nil hs2) hs) (by decide) (by decide) hs hpl) fun σ H Q h =>
    v_one (R' := fun x H1 => rIsi X.K [x, .ty T] H1 Q) h fun {F H1 t x d f tg z} ex o hg k => by
      unfold gIsi at hg
      split at hg
      · rename_i a hty
        split at hg
        · rename_i b hb
          cases hg
          exact ⟨x, .ty T, .type a, .type T, b, rfl, .ty T, tyD_x hty (o.here ex), kit_ty hb, k F H1 _ [] (Stp.refl ex) ⟨.bl b, rfl⟩ .nil (by simp)⟩
        · cases hg
      · cases hg

/-! ### all, any of a list of truths -/
def blsD : List D → Option (List Bool)
  | [] => some []
  | .bl b :: ds => (blsD ds).map (b :: ·)
  | _ :: _ => none
theorem blsD_eq : ∀ {ds : List D} {bs : List Bool}, blsD ds = some bs → ds = bs.map D.bl
  | [], bs, h => by cases h; rfl
  | .bl b :: ds, bs, h => by
    simp only [blsD, Option.map_eq_some_iff] at h
    obtain ⟨ms, h1, rfl⟩ := h
    rw [blsD_eq h1]
    rfl
  | .non :: _, _, h => by cases h
  | .int _ :: _, _, h => by cases h
  | .str _ :: _, _, h => by cases h
  | .tup _ :: _, _, h => by cases h
  | .lst _ :: _, _, h => by cases h
  | .dk _ :: _, _, h => by cases h
  | .dt _ :: _, _, h => by cases h
  | .scr _ :: _, _, h => by cases h
  | .ktup _ :: _, _, h => by cases h
theorem blsD_map (bs : List Bool) : blsD (bs.map D.bl) = some bs := by
  induction bs with
  | nil => rfl
  | cons b bs ih => simp [blsD, ih]
theorem Dens.bls : ∀ {vs : List V} {bs : List Bool}, Dens K F vs (bs.map D.bl) → vs = bs.map V.bl
  | _, [], .nil => rfl
  | _, b :: bs, .cons h t => by
    cases h
    rw [Dens.bls t]
    rfl
def gAll (p : List Bool → Bool) : Tg → D → R := fun _ d => match d with
  | .lst ds => match blsD ds with
    | some bs => some (.fz, .bl (p bs))
    | none => none
  | _ => none
theorem c_all : C1 K (rAll K) (gAll fun bs => bs.all id) := C1.sc fun {F H t x d f tg z Q} ex o hg => by
  unfold gAll at hg
  split at hg
  · split at hg
    · rename_i bs hb
      cases hg
      obtain ⟨a, xs, rfl, ha, _, hd, _⟩ := o.lst ex
      rw [blsD_eq hb] at hd
      exact ⟨_, rfl, fun _ => .bl _, fun q => ⟨a, bs, rfl, by rw [← hd.bls]; exact .of ha, q⟩⟩
    · cases hg
  · cases hg
theorem c_any : C1 K (rAny K) (gAll fun bs => bs.any id) := C1.sc fun {F H t x d f tg z Q} ex o hg => by
  unfold gAll at hg
  split at hg
  · split at hg
    · rename_i bs hb
      cases hg
      obtain ⟨a, xs, rfl, ha, _, hd, _⟩ := o.lst ex
      rw [blsD_eq hb] at hd
      exact ⟨_, rfl, fun _ => .bl _, fun q => ⟨a, bs, rfl, by rw [← hd.bls]; exact .of ha, q⟩⟩
    · cases hg
  · cases hg

/-! ### sorted of ints (a list, a dict's keys) -/
def rSortedA (K : PySem.W.Frag) : List V → Hp → VK → Prop := fun vs H Q => rSortedI K vs H Q ∨ ∃ (a : Addr) (kvs : List (Key × V)) (ks : List Int), vs = [.ref a] ∧ Rd H a (.dK kvs) ∧ kvs.map (·.1) = ks.map Sum.inl ∧ ks.length < 64 ∧
    ∀ (ys : List Int) (p : Addr), ys.Perm ks → ys.Pairwise (· ≤ ·) → H p = none → Q (.ref p) (upd H p (.lst (ys.map V.int)))
theorem call_sortedA (hc : X.calm = true) : CallR X (.builtin "sorted") (rSortedA X.K) := cr_sortedI.or (call_sortedDI hc)
def intKeys : List (Key × D) → Option (List Int)
  | [] => some []
  | (.inl i, _) :: r => (intKeys r).map (i :: ·)
  | (.inr _, _) :: _ => none
theorem intKeys_eq : ∀ {kvs : List (Key × D)} {ns : List Int}, intKeys kvs = some ns → kvs.map (·.1) = ns.map Sum.inl
  | [], ns, h => by cases h; rfl
  | (.inl i, d) :: r, ns, h => by
    simp only [intKeys, Option.map_eq_some_iff] at h
    obtain ⟨ms, h1, rfl⟩ := h
    simp [intKeys_eq h1]
  | (.inr _, _) :: _, _, h => by cases h
def gSortI : Tg → D → R := fun t d => match d with
  | .dk kvs => match intKeys kvs with
    | some ns => if ns.length < 64 then some (.fr 1, .lst ((sortI ns).map D.int)) else none
    | none => none
  | d => gInts (fun ns => some (.fr 1, .lst ((sortI ns).map D.int))) t d
theorem c_sorted : C1 K (rSortedA K) gSortI := by
  intro F H t x d f tg z Q ex o hg k
  have fin : ∀ {ns : List Int} (ns' : List Int) (p : Addr), ns'.Perm ns → ns'.Pairwise (· ≤ ·) → H p = none → (some (Tg.fr 1, D.lst ((sortI ns).map D.int)) : R) = some (tg, z) → Q (.ref p) (upd H p (.lst (ns'.map V.int))) := fun {ns} ns' p h1 h2 hp hz => by
    cases hz
    have e : ns' = sortI ns := sorted_uniq (h1.trans (sortI_perm ns).symm) h2 (sortI_sorted ns)
    rw [e]
    exact new_lst ex (Dens.of_ints _) k p hp
  unfold gSortI at hg
  split at hg
  · split at hg
    · rename_i ns hn
      split at hg
      · rename_i hl
        obtain ⟨a, kxs, rfl, ha, hk, _⟩ := o.dk ex
        exact .inr ⟨a, kxs, ns, rfl, ha, hk.trans (intKeys_eq hn), hl, fun ys p h1 h2 hp => fin ys p h1 h2 hp hg⟩
      · cases hg
    · cases hg
  · obtain ⟨a, ns, rfl, ha, hz⟩ := gInts_of ex o hg
    exact .inl ⟨a, ns, rfl, ha, fun ns' p h1 h2 hp => fin ns' p h1 h2 hp hz⟩

/-! ### slices -/
def tO (K : PySem.W.Frag) (f : Ev → Option (Option Int)) : TO := fun σ H Q => ∃ F env fp o, Ex F H ∧ EnvL K F H σ env fp ∧ fp.Nodup ∧ f env = some o ∧ ∀ F' H', Stp F H F' H' → Q o H'
def fPart (f : Ev → R) : Ev → Option (Option Int) := fun env => match f env with
  | some (_, .int i) => some (some i)
  | _ => none
theorem ao_none : PO X none (tO X.K fun _ => some none) := ⟨fun pins s σ H Q I h => by
  obtain ⟨F, env, fp, o, ex, L, nd, hf, q⟩ := h
  cases hf
  exact po_none.run pins s σ H Q I (q F H (Stp.refl ex))⟩
theorem ao_some (he : PE X e (tV X.K f)) : PO X (some e) (tO X.K (fPart f)) := ⟨fun pins s σ H Q I h => by
  obtain ⟨F, env, fp, o, ex, L, nd, hf, q⟩ := h
  unfold fPart at hf
  split at hf
  · rename_i t i hi
    cases hf
    exact (po_some he).run pins s σ H Q I ⟨F, env, fp, t, _, ex, L, nd, hi, fun F' H' v g s o _ _ => ⟨i, o.int s.fh, q F' H' s⟩⟩
  · cases hf⟩
def cutD (xs : List D) (lo hi : Option Int) : List D := (xs.drop (HT.sIx xs.length 0 lo)).take (HT.sIx xs.length xs.length hi - HT.sIx xs.length 0 lo)
def gSl (t : Tg) (d : D) (lo hi : Option Int) : R := match d with
  | .lst xs => if lvl t ≤ 1 then some (.fr 1, .lst (cutD xs lo hi)) else none
  | .scr ns => some (.fr 1, .lst (cutD (ns.map D.int) lo hi))
  | .tup xs => if lvl t = 0 then some (.fz, .tup (cutD xs lo hi)) else none
  | .str z => if z.length ≤ sizeLine then some (.fz, .str (cutS z lo hi)) else none
  | _ => none
def fSl (f : Ev → R) (lo hi : Ev → Option (Option Int)) : Ev → R := fun env => match f env, lo env, hi env with
  | some (t, d), some l, some h => gSl t d l h
  | _, _, _ => none
def rSlAll (K : PySem.W.Frag) : V → Option Int → Option Int → Hp → VK → Prop := fun x lo hi H Q => rSlL K x lo hi H Q ∨ rSlA K x lo hi H Q ∨ rSlS x lo hi H Q
theorem sl_all : SlR X (rSlAll X.K) := sl_list.or (sl_tupA.or sl_str)
theorem Dens.cut {xs : List V} {ds : List D} (r : Dens K F xs ds) (lo hi : Option Int) : Dens K F (cutV xs lo hi) (cutD ds lo hi) := by
  unfold cutV cutD
  rw [r.length]
  exact (r.drop _).take _
theorem sIx_full {n : Nat} {lo hi : Option Int} (h : HT.sIx n 0 lo = 0 ∧ HT.sIx n n hi = n) (ds : List D) (hl : ds.length = n) : cutD ds lo hi = ds := by
  unfold cutD
  rw [hl, h.1, h.2, Nat.sub_zero, List.drop_zero, ← hl, List.take_length]
variable {lo hi : Option Expr} {fl fh : Ev → Option (Option Int)} {p2 : Pos}
theorem a_slice (he : PE X e (tV X.K f)) (hl : PO X lo (tO X.K fl)) (hh : PO X hi (tO X.K fh)) : PE X (.Subscript e (.Slice lo hi none p2) pos) (tV X.K (fSl f fl fh)) := pe_mono (pe_slice sl_all he hl hh) fun σ H Q h => by
  obtain ⟨F, env, fp, tg, z, ex, L, nd, hf, q⟩ := h
  unfold fSl at hf
  split at hf
  · rename_i t d l u h1 h2 h3
    refine ⟨F, env, fp, t, d, ex, L, nd, h1, fun F1 H1 v1 g1 s1 o1 n1 w1 => ⟨F1, env, fp, l, s1.fh, L.step s1, nd, h2, fun F2 H2 s2 => ⟨F2, env, fp, u, s2.fh, (L.step s1).step s2, nd, h3, fun F3 H3 s3 => ?_⟩⟩⟩
    have s123 := (s1.trans s2).trans s3
    have o3 := (o1.step s2).step s3
    have kk : ∀ F' H' v h, Stp F3 H3 F' H' → VO X.K F' H' tg v z h → h.Nodup → (∀ a ∈ h, H3 a = none) → Q v H' := fun F' H' v h s o n w => q F' H' v h (s123.trans s) o n (s123.fresh w)
    unfold gSl at hf
    split at hf
    · split at hf
      · rename_i hlv
        cases hf
        obtain ⟨a, xs, rfl, ha, _, _, _, hd⟩ := o3.lst s3.fh
        exact .inl ⟨a, xs, rfl, .of ha, new_lst s3.fh ((hd hlv).cut l u) kk⟩
      · cases hf
    · cases hf
      obtain ⟨a, rfl, ha⟩ := o3.scr s3.fh
      exact .inl ⟨a, _, rfl, ha, new_lst s3.fh ((Dens.of_ints _).cut l u) kk⟩
    · split at hf
      · rename_i xs' hlv
        cases hf
        obtain ⟨a, xs, rfl, ha, hlen, _, _, hd⟩ := o3.tup s3.fh
        have hd' := hd (by omega)
        refine .inr (.inl ⟨a, xs, rfl, .of ha, fun hw => ?_, fun _ => new_tup s3.fh (hd'.cut l u) kk⟩)
        refine kk F3 H3 _ [] (Stp.refl s3.fh) ⟨?_, rfl⟩ .nil (by simp)
        rw [sIx_full hw xs' hlen.symm]
        obtain ⟨g, ow⟩ := o3.own
        rw [hlv] at ow
        exact ow.1
      · cases hf
    · split at hf
      · rename_i hz
        cases hf
        exact .inr (.inr ⟨_, o3.str s3.fh, hz, kk F3 H3 _ [] (Stp.refl s3.fh) ⟨.str _, rfl⟩ .nil (by simp)⟩)
      · cases hf
    · cases hf
  · cases hf

/-! ### x.index(e): scalars -/
def idxD (d : D) : List D → Option Nat
  | [] => none
  | z :: ds => if eqD z d = true then some 0 else (idxD d ds).map (· + 1)
theorem idxD_spec {d : D} : ∀ {ds : List D} {j : Nat}, idxD d ds = some j → ∃ z, ds[j]? = some z ∧ eqD z d = true ∧ ∀ (m : Nat) (z' : D), m < j → ds[m]? = some z' → eqD z' d = false
  | [], j, h => by cases h
  | z :: ds, j, h => by
    simp only [idxD] at h
    split at h
    · rename_i hz
      cases h
      exact ⟨z, rfl, hz, fun m _ hm => by omega⟩
    · rename_i hz
      rw [Option.map_eq_some_iff] at h
      obtain ⟨k, hk, rfl⟩ := h
      obtain ⟨z2, i1, i2, i3⟩ := idxD_spec hk
      refine ⟨z2, by simpa using i1, i2, fun m z' hm hz' => ?_⟩
      cases m with
      | zero =>
        simp at hz'
        subst hz'
        simpa using hz
      | succ m => exact i3 m z' (by omega) (by simpa using hz')
def gIdx : Tg → D → Tg → D → R := fun _ l _ d => match l with
  | .lst ds => if (isSc d && ds.all isSc) = true then match idxD d ds with
      | some j => some (.fz, .int (j : Nat))
      | none => none
    else none
  | _ => none
theorem a_index (ha : PE X e (tV X.K f)) (hb : PE X e2 (tV X.K f2)) (hbase : attributeBase e "index" X.env (eval e X.env) = eval e X.env := by rfl)
    (hfew : ((backTo cpos (starEach (e2 :: []) X.env)).all (fun x => !x.1) && (backToKw cpos (keywordEach [] X.env)).all (fun x => x.1.isSome)
      && decide ((e2 :: []).length + ([] : List Keyword).length + (if ([] : List Keyword).isEmpty then 0 else 1) < 30)) = true := by rfl)
    (hline : (apos.endLine == cpos.line) = true := by rfl) (hst : starEach (e2 :: []) X.env = (false, eval e2 X.env) :: starEach [] X.env := by rfl) (hplain : (backTo cpos (starEach [] X.env)).any (·.1) = false := by rfl) :
    PE X (.Call (.Attribute e "index" apos) [e2] [] cpos) (tV X.K (bind2 f f2 gIdx)) :=
  pe_mono (pe_bm PySem.F.plainAttrs_list PySem.F.slot_list_index PySem.F.type_list_index mt_index ha (pa1 hb hst) hbase hfew hline hst hplain) fun σ H Q h => by
    obtain ⟨F, env, fp, tg, z, ex, L, nd, hf, q⟩ := h
    unfold bind2 at hf
    split at hf
    · rename_i t d h1
      split at hf
      · rename_i u d2 h2
        unfold gIdx at hf
        split at hf
        · split at hf
          · rename_i hk
            split at hf
            · rename_i ds j hj
              cases hf
              simp only [Bool.and_eq_true] at hk
              refine ⟨F, env, fp, t, _, ex, L, nd, h1, fun F1 H1 v1 g1 s1 o1 n1 w1 => ?_⟩
              obtain ⟨a, xs, rfl, ha, _, hd, _⟩ := o1.lst s1.fh
              refine ⟨.inl ⟨rfl, xs, .of ha⟩, F1, env, fp, u, d2, s1.fh, L.step s1, nd, h2, fun F2 H2 v2 g2 s2 o2 n2 w2 => ?_⟩
              have hd2 := hd.mono s2.hh
              have hv := o2.here s2.fh
              obtain ⟨zz, i1, i2, i3⟩ := idxD_spec hj
              obtain ⟨w, w1, w2⟩ := hd2.get i1
              have hsc : ∀ {d' : D}, d' ∈ _ → isSc d' = true := fun hm => List.all_eq_true.mp hk.2 _ hm
              obtain ⟨fl, _⟩ := sc_inV hk.1 hv hk.2 hd2
              refine ⟨a, xs, v2, j, w, rfl, rfl, .of (s2.hh _ _ ha), sc_flat hk.1 hv, fl, w1, ?_, fun m z' hm hz' => ?_, q F2 H2 _ [] (s1.trans s2) ⟨.int _, rfl⟩ .nil (by simp)⟩
              · rw [sc_eqV (hsc (List.mem_of_getElem? i1)) hk.1 w2 hv]
                exact i2
              · obtain ⟨d', j1, j2⟩ := hd2.get' hz'
                rw [sc_eqV (hsc (List.mem_of_getElem? j1)) hk.1 j2 hv]
                exact i3 m d' hm j1
            · cases hf
          · cases hf
        · cases hf
      · cases hf
    · cases hf
end
end VL
namespace VL
open PySem PySem.Spec PyProof.Rows L2

section
variable {K : PySem.W.Frag} {F0 H0 B F F' F1 F2 H H' H1 : Hp} {σ : L2.St} {env : Ev} {fp : List Addr} {X : Cx} {pos : Pos} {e e2 e3 : Expr} {f f2 f3 fe fk : Ev → R} {Dn : Ends} {x : Str} {p apos cpos : Pos}
theorem hu1 {k : Nat} {A : Around} (hr : Room k A) : A.units + 1 < cLine := by have := hr.un; omega
theorem hu64 {k : Nat} {A : Around} (hr : Room k A) : A.units + 64 < cLine := by have := hr.un; omega
theorem hu65 {k : Nat} {A : Around} (hr : Room k A) : A.units + 65 < cLine := by have := hr.un; omega
/-- a def that stands at the top -/
structure Def (P : Program) (w : World) (K : PySem.W.Frag) (mg : Str → Option Value) (base : Heap) (x : Str) (k : Nat) (g : List D → R) : Prop where
  ex : ∃ f fd ps, FnOk P w K mg base CX0 k f fd ps (spV K g) ∧ mg x = some (.ref f) ∧ PySem.W.keepIn K (.ref f) = true ∧ Binds K fd ps []
variable {es : List Expr} {k j : Nat} {g : List D → R} {fs : Ev → Option (List (Tg × D))}
theorem a_callD (h : Def X.prog X.w X.K X.mg X.base x j g) (hr : Room k X.A) (ha : PA X (e :: es) (tA X.K fs)) (hj : j ≤ k := by decide) (hg : Gl X x := by rfl)
    (hdb : (x == ("__debug__" : Str)) = false := by decide) (he : starEach (e :: es) X.env = (false, eval e X.env) :: starEach es X.env := by rfl) (hpl : (backTo pos (starEach es X.env)).any (·.1) = false := by rfl) :
    PE X (.Call (.Name x p) (e :: es) [] pos) (tV X.K (callF g fs)) := by
  obtain ⟨f, fd, ps, G, hm, hk, hb⟩ := h.ex
  exact a_call G (hr.mono hj) hm hk hb ha hg hdb he hpl
theorem a_callD0 (h : Def X.prog X.w X.K X.mg X.base x j g) (hr : Room k X.A) (hj : j ≤ k := by decide) (hg : Gl X x := by rfl) (hdb : (x == ("__debug__" : Str)) = false := by decide) : PE X (.Call (.Name x p) [] [] pos) (tV X.K (callF g fNil)) := by
  obtain ⟨f, fd, ps, G, hm, hk, hb⟩ := h.ex
  exact a_call0 G (hr.mono hj) hm hk hb hg hdb
theorem def_mk {P : Program} {w : World} {mg : Str → Option Value} {base : Heap} {f : Addr} {fd : FuncData} {ps : List Str} (G : FnOk P w K mg base CX0 k f fd ps (spV K g)) (hm : mg x = some (.ref f)) (hk : PySem.W.keepIn K (.ref f) = true) (hb : Binds K fd ps []) : Def P w K mg base x k g := ⟨f, fd, ps, G, hm, hk, hb⟩

/-! ### a, b = e -/
def asgG (tgt : Ev → D → Option Ev) (f : Ev → R) : SF := fun env => match fFz f env with
  | some (_, d) => match tgt env d with
    | some e => some (.nx e)
    | none => none
  | none => none
theorem as_asgG {tg : Expr} {g : TG} {is : List Nat} {tgt : Ev → D → Option Ev} (he : PE X e (tV X.K f)) (pg : PG X tg g) (kg : SemG X.K g is tgt) (hs : swapsWithSole [tg] e pos.line X.env = pure false := by rfl) (hw : swappedStores [tg] e X.env = pure none := by rfl)
    (h1 : (assignEach [tg] X.env).map (·.2) = [assign tg X.env] := by rfl) : PS X (.Assign [tg] e pos) (tS X.K (asgG tgt f)) :=
  ps_mono (ps_asg (a_fz he) pg hs hw h1) fun Dn σ H h => by
    obtain ⟨F0, H0, B, F, env, fp, o, h, hs, q⟩ := h
    unfold asgG at hs
    split at hs
    · rename_i t d hf
      split at hs
      · rename_i e1 he1
        cases hs
        refine h.eval hf fun F1 H1 v gv h1 ov nd w dj _ _ => ?_
        have hd : Den X.K F1 v d := by
          unfold fFz at hf
          split at hf
          · cases hf; exact ov.1
          · cases hf; exact ov.1
          · split at hf
            · cases hf; exact ov.1
            · cases hf
          · cases hf
        exact kg F1 H1 σ env fp v d e1 h1.stp.fh hd h1.env h1.nd he1 _ fun σ' fp' L' nd' sub _ => q F1 H1 σ' fp' ⟨h1.stp, L', nd', fun a ha => h1.fr a (sub a ha), h1.fb⟩
      · cases hs
    · cases hs
/-- a statement behind which a slot is frozen -/
def fzS (i : Nat) (s : SF) : SF := fun env => match s env with
  | some (.nx e) => some (.nx (frzE i e))
  | o => o
theorem as_frzS {st : Stmt} {s : SF} (i : Nat) (h : PS X st (tS X.K s)) : PS X st (tS X.K (fzS i s)) := ps_mono h fun Dn σ H h => by
  obtain ⟨F0, H0, B, F, env, fp, o, h, hs, q⟩ := h
  unfold fzS at hs
  split at hs
  · rename_i e he
    cases hs
    refine ⟨F0, H0, B, F, env, fp, .nx e, h, he, fun F' H' σ' fp' h' => ?_⟩
    obtain ⟨F2, fp2, h2⟩ := h'.frz i
    exact q F2 H' σ' fp2 h2
  · exact ⟨F0, H0, B, F, env, fp, o, h, hs, q⟩
/-! ### enumerate, zip (of lists; the target a written tuple) -/
def itEn (f : Ev → R) : Ev → Option (List D) := fun env => match f env with
  | some (t, .lst ds) => if noPkT t = true then some ((List.range ds.length).zipWith (fun (i : Nat) d => .tup [.int (i : Int), d]) ds) else none
  | _ => none
def itZip (f f2 : Ev → R) : Ev → Option (List D) := fun env => match f env, f2 env with
  | some (t, .lst ds), some (t2, .lst es) => if (noPkT t && noPkT t2) = true then some (ds.zipWith (fun a b => .tup [a, b]) es) else none
  | _, _ => none
/-- a value of an expression, frozen: the list it is -/
theorem frz_lst {F0 H0 : Hp} {t : Tg} {v : V} {ds : List D} {g : List Addr} (s : Stp F0 H0 F H) (o : VO K F H t v (.lst ds) g) (w : ∀ a ∈ g, H0 a = none) (hk : noPkT t = true) : ∃ F1 a xs, Stp F0 H0 F1 H ∧ v = .ref a ∧ F1 a = some (.lst xs) ∧ Dens K F1 xs ds := by
  have hm : ∀ a ∈ g, F a = none := fun a ha => (o.mem a ha).1
  cases t with
  | fz =>
    cases o.1 with
    | lst ha r => exact ⟨F, _, _, s, rfl, ha, r⟩
  | fr n =>
    cases Own.frz o with
    | lst ha r => exact ⟨frzAt F H g, _, _, s.frz w hm, rfl, ha, r⟩
  | pk n => cases hk
theorem pair_yields {F3 H3 : Hp} {T : Addr} {x y : V} {d1 d2 : D} (e4 : Ex F3 H3) (hT : H3 T = none) (h1 : Den K F3 x d1) (h2 : Den K F3 y d2) : ∃ F5, Stp F3 H3 F5 (upd H3 T (.tup [x, y])) ∧ Den K F5 (.ref T) (.tup [d1, d2]) := by
  have s := Stp.allocF (o := .tup [x, y]) e4 hT
  exact ⟨_, s, .tup upd_same (.cons (h1.mono s.ff) (.cons (h2.mono s.ff) .nil))⟩
theorem i_enum {elts : List Expr} {kk : Nat} {tpos : Pos} {cm : Bool} (hm : X.mg "enumerate" = none) (he : PE X e (tV X.K f)) (hg : Gl X "enumerate" := by rfl) (hs : starEach [e] X.env = [(false, eval e X.env)] := by rfl) (hs2 : starEach [e] X.env = (false, eval e X.env) :: starEach [] X.env := by rfl) :
    PIV X (.Tuple elts kk tpos) (.Call (.Name "enumerate" p) [e] [] pos) cm (itEn f) := by
  refine ⟨_, pi_enum hg hm (pa1 he hs2) hs, fun σ H F env fp ds R ex L nd h k => ?_⟩
  unfold itEn at h
  split at h
  · rename_i t ds' hf
    split at h
    · rename_i hk
      cases h
      refine ⟨F, env, fp, t, _, ex, L, nd, hf, fun F1 H1 v g s o n w => ?_⟩
      obtain ⟨F2, a, xs, s2, rfl, ha, hd⟩ := frz_lst s o w hk
      refine ⟨a, xs, rfl, .of (s2.fh _ _ ha), ?_⟩
      have hl := hd.length
      refine k F2 H1 (Ite X.K a) (fun H => SqL X.K H a xs) _ s2 (by rw [List.length_zipWith, List.length_range, Nat.min_self, ← hl]; exact walk_enum) (fun H2 e1 _ => .of (e1 _ _ ha)) fun i F3 H3 x H4 e3 e4 hi y => ?_
      obtain ⟨T, x1, x2, rfl, hT, rfl, y1, y2⟩ := y
      cases y1
      obtain ⟨d2, q1, q2⟩ := hd.get' y2
      obtain ⟨F5, s5, d5⟩ := pair_yields (d1 := .int (i : Int)) e4 hT (.int _) (q2.mono e3)
      refine ⟨F5, _, s5, ?_, d5⟩
      have hi' : i < ds'.length := (List.getElem?_eq_some_iff.mp q1).1
      rw [List.getElem?_zipWith, List.getElem?_range hi', q1]
    · cases h
  · cases h
theorem i_zip {elts : List Expr} {kk : Nat} {tpos : Pos} {cm : Bool} (hm : X.mg "zip" = none) (he : PE X e (tV X.K f)) (he2 : PE X e2 (tV X.K f2)) (hg : Gl X "zip" := by rfl)
    (hs : starEach [e, e2] X.env = (false, eval e X.env) :: starEach [e2] X.env := by rfl) (hs2 : starEach [e2] X.env = (false, eval e2 X.env) :: starEach [] X.env := by rfl) (hpl : (backTo pos (starEach [e2] X.env)).any (·.1) = false := by rfl) :
    PIV X (.Tuple elts kk tpos) (.Call (.Name "zip" p) [e, e2] [] pos) cm (itZip f f2) := by
  refine ⟨_, pi_zip hg hm (pa_cons he (pa1 he2 hs2) hs) hs hpl, fun σ H F env fp ds R ex L nd h k => ?_⟩
  unfold itZip at h
  split at h
  · rename_i t ds1 t2 ds2 hf hf2
    split at h
    · rename_i hk
      cases h
      simp only [Bool.and_eq_true] at hk
      refine ⟨F, env, fp, t, _, ex, L, nd, hf, fun F1 H1 v g s o n w => ?_⟩
      obtain ⟨F2, a, xs, s2, rfl, ha, hd⟩ := frz_lst s o w hk.1
      refine ⟨F2, env, fp, t2, _, s2.fh, L.step s2, nd, hf2, fun F3 H3 v2 g2 s3 o3 n3 w3 => ?_⟩
      obtain ⟨F4, b, ys, s4, rfl, hb, hd2⟩ := frz_lst s3 o3 w3 hk.2
      have s14 := s2.trans s4
      refine ⟨a, b, xs, ys, rfl, .of (s4.fh _ _ (s4.ff _ _ ha)), .of (s4.fh _ _ hb), ?_⟩
      refine k F4 H3 (Itz X.K a b) (fun H => SqL X.K H a xs ∧ SqL X.K H b ys) _ s14 (by rw [List.length_zipWith, ← hd.length, ← hd2.length]; exact walk_zip rfl) (fun H2 e1 _ => ⟨.of (e1 _ _ (s4.ff _ _ ha)), .of (e1 _ _ hb)⟩) fun i F5 H5 x H6 e5 e6 hi y => ?_
      obtain ⟨T, x1, x2, rfl, hT, rfl, y1, y2⟩ := y
      obtain ⟨d1, q1, q2⟩ := hd.get' y1
      obtain ⟨d2, r1, r2⟩ := hd2.get' y2
      obtain ⟨F7, s7, d7⟩ := pair_yields e6 hT (q2.mono (s4.ff.trans e5)) (r2.mono e5)
      exact ⟨F7, _, s7, by rw [List.getElem?_zipWith, q1, r1], d7⟩
    · cases h
  · cases h
end
/-! ### reading with everything frozen for a while -/
def frzAll (env : Ev) : Ev := env.map fun s => match s with
  | some s => some ⟨0, s.d⟩
  | none => none
section
variable {K : PySem.W.Frag} {F H : Hp} {X : Cx} {pos pos1 pos2 : Pos} {e c tg iter : Expr} {f : Ev → R}
theorem EnvL.allfrz (ex : Ex F H) : ∀ {σ : List (Option V)} {env : Ev} {fp : List Addr}, EnvL K F H σ env fp → EnvL K H H σ (frzAll env) []
  | _, _, _, .nil => .nil
  | _, _, _, .cons (s := s) h t => by
    refine EnvL.cons (f := []) (g := []) ?_ (EnvL.allfrz ex t)
    cases s with
    | none => rfl
    | some s =>
      obtain ⟨v, e1, o⟩ := h
      exact ⟨v, e1, Own.here ex o, rfl⟩
def fBor (f : Ev → R) : Ev → R := fun env => match f (frzAll env) with
  | some (t, d) => if (noPkT t && okRes t d) = true then some (t, d) else none
  | none => none
theorem a_bor (he : PE X e (tV X.K f)) : PE X e (tV X.K (fBor f)) := pe_mono he fun σ H Q h => by
  obtain ⟨F, env, fp, t, d, ex, L, nd, hf, q⟩ := h
  unfold fBor at hf
  split at hf
  · rename_i t' d' hm
    split at hf
    · rename_i hk
      cases hf
      rw [Bool.and_eq_true] at hk
      exact ⟨H, frzAll env, [], t, d, Ex.refl H, L.allfrz ex, .nil, hm, fun F' H' v g s o n w => q F H' v g ⟨Ex.refl F, s.hh, ex.trans s.hh, fun _ _ _ z => z⟩ (o.res hk.2 fun a ha => none_back ex (w a ha)) n w⟩
    · cases hf
  · cases hf
/-- for x in e: if c: .. -- a loop that only looks, and finds nothing -/
def forIf (i : Nat) (fi : Ev → Option (List D)) (tc : Ev → Option Bool) : SF := fun env => match fi (frzAll env) with
  | some ds => if (ds.all fun d => tc ((frzAll env).set i (some ⟨0, d⟩)) == some false) = true ∧ i < env.length then some (.nx (env.set i none)) else none
  | none => none
theorem EnvL.none_at {i : Nat} {sv0 : Option V} : ∀ {σ : List (Option V)} {env : Ev} {fp : List Addr}, EnvL K F H σ env fp → fp.Nodup → ∃ fp', EnvL K F H (σ.set i sv0) (env.set i none) fp' ∧ fp'.Nodup ∧ ∀ a ∈ fp', a ∈ fp := by
  intro σ env fp L nd
  by_cases hi : i < env.length
  · obtain ⟨sv, f, pre, post, h1, h2, rfl, mk⟩ := L.pick (List.getElem?_eq_getElem hi)
    have sub : ∀ a, a ∈ pre ++ post → a ∈ pre ++ (f ++ post) := fun a ha => by
      rcases List.mem_append.mp ha with z | z
      · exact List.mem_append_left _ z
      · exact List.mem_append_right _ (List.mem_append_right _ z)
    refine ⟨pre ++ ([] ++ post), mk (Ex.refl _) (fun a ha => ⟨(L.mem a (sub a ha)).1, rfl⟩) rfl, ?_, fun a ha => sub a (by simpa using ha)⟩
    obtain ⟨p1, p2, p3⟩ := List.nodup_append.mp nd
    obtain ⟨q1, q2, q3⟩ := List.nodup_append.mp p2
    exact List.nodup_append.mpr ⟨p1, q2, fun a ha b hb => p3 a ha b (List.mem_append_right _ hb)⟩
  · have hl := L.length
    rw [List.set_eq_of_length_le (by omega), List.set_eq_of_length_le (by omega)]
    exact ⟨fp, L, nd, fun _ h => h⟩
theorem as_forIf {i : Nat} {fi : Ev → Option (List D)} {tc : Ev → Option Bool} {thn_ : List Stmt} (hp : PassesOwn (model X.prog X.w) X.A X.env X.xe) (hc : X.calm = true) (hi : PIV X tg iter false fi) (pg : PG X tg (gName i)) (ht : PT X c (tT X.K tc))
    (hs : ∀ x, foldedSetIterable iter X.env x = pure x := by intro _; rfl) : PS X (.For tg iter [.If c thn_ [] pos1] [] pos) (tS X.K (forIf i fi tc)) := by
  obtain ⟨wi, pi, ki⟩ := hi
  refine ps_mono (ps_for hp hc pi pg (pss_one (ps_if ht pss_never pss_nil)) hs) fun Dn σ H h => ?_
  obtain ⟨F0, H0, B, F, env, fp, o, h, hs, q⟩ := h
  unfold forIf at hs
  split at hs
  · rename_i ds hds
    split at hs
    · rename_i hall
      obtain ⟨hall, hil⟩ := hall
      cases hs
      have ex := h.stp.fh
      have LA := h.env.allfrz ex
      have hlen := h.env.length
      refine ki σ H H (frzAll env) [] ds _ (Ex.refl H) LA .nil hds fun F1 H1 J G Y s1 W hG hY => ?_
      refine for_it W (fun _ σ' H' => Ex F1 H' ∧ Ex H1 H' ∧ ∃ sv, σ' = σ.set i sv) ⟨s1.fh, Ex.refl _, σ[i]'(by omega), by rw [List.set_getElem_self]⟩ ?_ ?_ ?_
      · rintro j σ' H' _ ⟨e1, e2, _⟩
        exact hG H' e1 (fun z => by cases z)
      · rintro j x σ' H' H'' hj ⟨e1, e2, sv, rfl⟩ y
        obtain ⟨F3, d, s3, hd, dd⟩ := hY j H' H' x H'' e1 (Ex.refl _) hj y
        have eh : Ex H H'' := (s1.hh.trans e2).trans s3.hh
        have L2 : EnvL X.K H'' H'' σ (frzAll env) [] := LA.frame eh fun a ha => by cases ha
        have hfl : i < (frzAll env).length := by unfold frzAll; rw [List.length_map]; exact hil
        have hset : setE i (frzAll env) d = some ((frzAll env).set i (some ⟨0, d⟩)) := by
          unfold setE
          rw [List.getElem?_eq_getElem hfl]
        obtain ⟨fp', L3, n3, _⟩ := L2.set0 (x := x) .nil (dd.mono s3.fh) hset
        have hb := List.all_eq_true.mp hall d (List.mem_of_getElem? hd)
        have hb : tc ((frzAll env).set i (some ⟨0, d⟩)) = some false := by simpa using hb
        show tIfS _ _ _ _ ((σ.set i sv).set i (some x)) H''
        rw [List.set_set]
        exact ⟨H'', _, fp', false, Ex.refl _, L3, n3, hb, fun F' H4 s4 => iteF ⟨(e1.trans s3.hh).trans s4.hh, (e2.trans s3.hh).trans s4.hh, some x, rfl⟩⟩
      · rintro σ' H' ⟨e1, e2, sv, rfl⟩
        have s5 : Stp F H F H' := ⟨Ex.refl F, s1.hh.trans e2, (ex.trans s1.hh).trans e2, fun _ _ _ z => z⟩
        obtain ⟨fp', L', nd', sub⟩ := (h.env.step s5).none_at (i := i) (sv0 := sv) h.nd
        exact q F H' _ fp' ⟨h.stp.trans s5, L', nd', fun a ha => h.fr a (sub a ha), h.fb⟩
    · cases hs
  · cases hs
end
end VL
namespace VL
open PySem PySem.Spec PyProof.Rows L2

/-! ### the words, for simp -/
section
variable {env : Ev} {s s1 s2 : SF} {f f1 f2 f3 : Ev → R} {c t u : Ev → Option Bool} {i j n k : Nat} {d e : D} {fs : Ev → Option (List (Tg × D))}
@[simp] theorem seqS_nx {e : Ev} (h : s1 env = some (.nx e)) : seqS s1 s2 env = s2 e := by unfold seqS; rw [h]
@[simp] theorem nilS_e : nilS env = some (.nx env) := rfl
theorem seqS_e : seqS s1 s2 env = match s1 env with
  | some (.nx e) => s2 e
  | o => o := rfl
theorem ifS_e : ifS c s1 s2 env = match c env with
  | some b => if b = true then s1 env else s2 env
  | none => none := by unfold ifS; cases c env with
  | none => rfl
  | some b => cases b <;> rfl
theorem fAnd_e : fAnd t u env = match t env with
  | some b => if b = true then u env else some false
  | none => none := by unfold fAnd; cases t env with
  | none => rfl
  | some b => cases b <;> rfl
theorem fOr_e : fOr t u env = match t env with
  | some b => if b = true then some true else u env
  | none => none := by unfold fOr; cases t env with
  | none => rfl
  | some b => cases b <;> rfl
theorem fIf_e : fIf t f f2 env = match t env with
  | some b => if b = true then f env else f2 env
  | none => none := by unfold fIf; cases t env with
  | none => rfl
  | some b => cases b <;> rfl
theorem fAndV_e : fAndV f f2 env = match f env with
  | some (_, .bl b) => if b = true then f2 env else some (.fz, .bl false)
  | _ => none := by
  unfold fAndV
  cases h : f env with
  | none => rfl
  | some z =>
    obtain ⟨t, d⟩ := z
    cases d with
    | bl b => cases b <;> rfl
    | _ => rfl
theorem fOrV_e : fOrV f f2 env = match f env with
  | some (_, .bl b) => if b = true then some (.fz, .bl true) else f2 env
  | _ => none := by
  unfold fOrV
  cases h : f env with
  | none => rfl
  | some z =>
    obtain ⟨t, d⟩ := z
    cases d with
    | bl b => cases b <;> rfl
    | _ => rfl

@[simp] theorem ite_and_some (a b : Bool) : (if a = true then some b else some false) = some (a && b) := by cases a <;> rfl
@[simp] theorem ite_or_some (a b : Bool) : (if a = true then some true else some b) = some (a || b) := by cases a <;> rfl
theorem eqD_int0 {i j : Int} : eqD (.int i) (.int j) = (i == j) := by simp [eqD, toPy, PyData.eqv]
theorem eqD_str0 {i j : Str} : eqD (.str i) (.str j) = (i == j) := by simp [eqD, toPy, PyData.eqv]
/-! applied words, for simp -/
section
variable {g g2 : Tg → D → R} {h : Tg → D → Tg → D → R} {t0 t1 : Tg} {d0 d1 : D} {gd : List D → R} {lo hi : Ev → Option (Option Int)} {l u2 : Option Int} {fk fe : Ev → R} {tgt : Ev → D → Option Ev}
@[simp] theorem fVar_e : fVar i env = match env[i]? with
  | some (some s) => rvar s.n s.d
  | _ => none := rfl
@[simp] theorem rvar_0 : rvar 0 d = some (.fz, d) := rfl
@[simp] theorem rvar_s : rvar (n + 1) d = some (.pk (n + 1), d) := rfl
@[simp] theorem rvar_1 : rvar 1 d = some (.pk 1, d) := rfl
@[simp] theorem rvar_2 : rvar 2 d = some (.pk 2, d) := rfl
@[simp] theorem fC_e : fC d env = some (.fz, d) := rfl
@[simp] theorem bind2_e : bind2 f f2 h env = match f env with
  | some (t, d) => match f2 env with
    | some (u, e) => h t d u e
    | none => none
  | none => none := rfl
@[simp] theorem bind1_e : bind1 f g env = match f env with
  | some (t, d) => g t d
  | none => none := rfl
@[simp] theorem asB_e : asB f env = match f env with
  | some (_, .bl b) => some b
  | _ => none := rfl
@[simp] theorem fTru_e : fTru f env = match f env with
  | some (_, d) => truD d
  | none => none := rfl
@[simp] theorem fNot_e : fNot t env = match t env with
  | some b => some (!b)
  | none => none := rfl
@[simp] theorem fNotV_e : fNotV f env = match f env with
  | some (_, .bl b) => some (.fz, .bl (!b))
  | _ => none := rfl
@[simp] theorem fNeg_e : fNeg f env = match f env with
  | some (_, .int i) => some (.fz, .int (-i))
  | _ => none := rfl
@[simp] theorem fNil_e : fNil env = some [] := rfl
@[simp] theorem fCons_e : fCons f fs env = match f env, fs env with
  | some z, some zs => some (z :: zs)
  | _, _ => none := rfl
@[simp] theorem noPk_fz : noPk (.fz, d) = true := rfl
@[simp] theorem noPk_fr : noPk (.fr n, d) = true := rfl
@[simp] theorem noPk_pk : noPk (.pk n, d) = isSc d := rfl
@[simp] theorem noPkT_fz : noPkT .fz = true := rfl
@[simp] theorem noPkT_fr : noPkT (.fr n) = true := rfl
@[simp] theorem noPkT_pk : noPkT (.pk n) = false := rfl
@[simp] theorem lvl_fz : lvl .fz = 0 := rfl
@[simp] theorem lvl_fr : lvl (.fr n) = n := rfl
@[simp] theorem lvl_pk : lvl (.pk n) = n := rfl
@[simp] theorem low_0 : low 0 d = .fz := rfl
@[simp] theorem low_1 : low 1 d = .fz := rfl
@[simp] theorem low_2 : low 2 d = if isSc d = true then .fz else .pk 1 := rfl
@[simp] theorem isSc_int {i : Int} : isSc (.int i) = true := rfl
@[simp] theorem isSc_bl {b : Bool} : isSc (.bl b) = true := rfl
@[simp] theorem isSc_str {x : Str} : isSc (.str x) = true := rfl
@[simp] theorem isSc_non : isSc .non = true := rfl
@[simp] theorem isSc_lst {xs : List D} : isSc (.lst xs) = false := rfl
@[simp] theorem isSc_tup {xs : List D} : isSc (.tup xs) = false := rfl
@[simp] theorem callF_e : callF gd fs env = match fs env with
  | some ds => match gd (ds.map (·.2)) with
    | some (t, d) => if (noPkT t && (ds.all noPk || okRes t d)) = true then some (t, d) else none
    | none => none
  | none => none := rfl
@[simp] theorem okRes_fz : okRes .fz d = isSc d := rfl
@[simp] theorem okRes_fr : okRes (.fr n) d = scAt n d := rfl
@[simp] theorem slOf_fz : slOf .fz d = some ⟨0, d⟩ := rfl
@[simp] theorem slOf_fr : slOf (.fr n) d = some ⟨n, d⟩ := rfl
@[simp] theorem slOf_pk : slOf (.pk n) d = if isSc d = true then some ⟨0, d⟩ else none := rfl
@[simp] theorem retS_e : retS f env = match f env with
  | some (t, d) => match slOf t d with
    | some sl => some (.rt (if sl.n = 0 then .fz else .fr sl.n) d)
    | none => none
  | none => none := rfl
@[simp] theorem retM_e : retM i env = match env[i]? with
  | some (some sl) => some (.rt (if sl.n = 0 then .fz else .fr sl.n) sl.d)
  | _ => none := rfl
@[simp] theorem dropS_e : dropS f env = match f env with
  | some _ => some (.nx env)
  | none => none := rfl
@[simp] theorem asgS_e : asgS i f env = match f env, env[i]? with
  | some (t, d), some _ => match slOf t d with
    | some sl => some (.nx (env.set i (some sl)))
    | none => none
  | _, _ => none := rfl
@[simp] theorem fFz_e : fFz f env = match f env with
  | some (.fz, d) => some (.fz, d)
  | some (.fr _, d) => some (.fz, d)
  | some (.pk _, d) => if isSc d = true then some (.fz, d) else none
  | none => none := rfl
@[simp] theorem fRaise_e : fRaise k f env = match f env with
  | some (.fr m, d) => if (m == k || (decide (m ≤ k) && scAt m d)) = true then some (.fr k, d) else none
  | _ => none := rfl
@[simp] theorem fLst_e : fLst fs env = match fs env with
  | some ds => if (ds.all noPk && decide (ds.length ≤ 1000)) = true then some (.fr 1, .lst (ds.map (·.2))) else none
  | none => none := rfl
@[simp] theorem fTup_e : fTup fs env = match fs env with
  | some ds => if (ds.all noPk && decide (ds.length ≤ 1000)) = true then some (.fz, .tup (ds.map (·.2))) else none
  | none => none := rfl
@[simp] theorem fDk_e : fDk env = some (.fr 1, .dk []) := rfl
@[simp] theorem fDt_e : fDt env = some (.fr 1, .dt []) := rfl
@[simp] theorem gAdd_i {a b : Int} : gAdd t0 (.int a) t1 (.int b) = some (.fz, .int (a + b)) := rfl
@[simp] theorem gAdd_l {a b : List D} : gAdd t0 (.lst a) t1 (.lst b) = if lvl t0 ≤ 1 ∧ lvl t1 ≤ 1 ∧ a.length + b.length ≤ sizeLine then some (.fr 1, .lst (a ++ b)) else none := rfl
@[simp] theorem gAdd_t {a b : List D} : gAdd t0 (.tup a) t1 (.tup b) = if lvl t0 = 0 ∧ lvl t1 = 0 ∧ a.length + b.length ≤ sizeLine then some (.fz, .tup (a ++ b)) else none := rfl
@[simp] theorem gAdd_s {a b : Str} : gAdd t0 (.str a) t1 (.str b) = if a.length + b.length ≤ sizeLine then some (.fz, .str (a ++ b)) else none := rfl
@[simp] theorem gSub_i {a b : Int} : gSub t0 (.int a) t1 (.int b) = some (.fz, .int (a - b)) := rfl
theorem gMul_i {a b : Int} : gMul t0 (.int a) t1 (.int b) = if okMul a b = true then some (.fz, .int (a * b)) else none := rfl
@[simp] theorem gMul_l {a : List D} {b : Int} : gMul t0 (.lst a) t1 (.int b) = if lvl t0 ≤ 1 ∧ 0 ≤ b ∧ b < 2 ^ 62 ∧ a.length * b.toNat ≤ sizeLine then some (.fr 1, .lst (List.replicate b.toNat a).flatten) else none := rfl
theorem gFdiv_i {a b : Int} : gFdiv t0 (.int a) t1 (.int b) = if okDiv b = true then some (.fz, .int (a.fdiv b)) else none := rfl
theorem gMod_i {a b : Int} : gMod t0 (.int a) t1 (.int b) = if decide (b ≠ 0) = true then some (.fz, .int (a.fmod b)) else none := rfl
theorem okDiv_of {b : Int} (h0 : 0 < b) (h1 : b < 18446744073709551616) : okDiv b = true := by
  unfold okDiv
  rw [Bool.and_eq_true_iff]
  refine ⟨decide_eq_true (by omega), decide_eq_true (Nat.lt_of_lt_of_le (m := 2 ^ 64) (by omega) (Nat.pow_le_pow_right (by decide) (by decide)))⟩
@[simp] theorem gFdiv_p {a b : Int} (h0 : 0 < b) (h1 : b < 18446744073709551616) : gFdiv t0 (.int a) t1 (.int b) = some (.fz, .int (a / b)) := by
  rw [gFdiv_i, okDiv_of h0 h1, if_pos rfl, Int.fdiv_eq_ediv_of_nonneg _ (by omega)]
@[simp] theorem gMod_p {a b : Int} (h0 : 0 < b) : gMod t0 (.int a) t1 (.int b) = some (.fz, .int (a % b)) := by
  rw [gMod_i, if_pos (by simp; omega), Int.fmod_eq_emod_of_nonneg _ (by omega)]
@[simp] theorem gMul_r {a b : Int} (h0 : -18446744073709551616 < b) (h1 : b < 18446744073709551616) : gMul t0 (.int a) t1 (.int b) = some (.fz, .int (a * b)) := by
  rw [gMul_i, if_pos]
  unfold okMul
  rw [Bool.or_eq_true_iff]
  exact .inr (by rw [Bool.and_eq_true_iff]; exact ⟨decide_eq_true (by omega), decide_eq_true (by omega)⟩)
theorem gMul_f {a b : Int} (h0 : -18446744073709551616 < a) (h1 : a < 18446744073709551616) : gMul t0 (.int a) t1 (.int b) = some (.fz, .int (a * b)) := by
  rw [gMul_i, if_pos]
  unfold okMul
  rw [Bool.or_eq_true_iff]
  exact .inl (by rw [Bool.and_eq_true_iff]; exact ⟨decide_eq_true (by omega), decide_eq_true (by omega)⟩)
@[simp] theorem gPow_i {a b : Int} : gPow t0 (.int a) t1 (.int b) = if (decide (0 ≤ b) && decide (b ≤ 1000) && decide (a.natAbs < 2 ^ 64)) = true then some (.fz, .int (a ^ b.toNat)) else none := rfl
@[simp] theorem gLt_i {a b : Int} : gLt t0 (.int a) t1 (.int b) = some (.fz, .bl (decide (a < b))) := rfl
@[simp] theorem gLe_i {a b : Int} : gLe t0 (.int a) t1 (.int b) = some (.fz, .bl (decide (a ≤ b))) := rfl
@[simp] theorem gGt_i {a b : Int} : gGt t0 (.int a) t1 (.int b) = some (.fz, .bl (decide (b < a))) := rfl
@[simp] theorem gGe_i {a b : Int} : gGe t0 (.int a) t1 (.int b) = some (.fz, .bl (decide (b ≤ a))) := rfl
@[simp] theorem gEq_i {a b : Int} : gEq t0 (.int a) t1 (.int b) = some (.fz, .bl (a == b)) := rfl
@[simp] theorem gEq_s {a b : Str} : gEq t0 (.str a) t1 (.str b) = some (.fz, .bl (a == b)) := rfl
@[simp] theorem gNe_i {a b : Int} : gNe t0 (.int a) t1 (.int b) = some (.fz, .bl (!(a == b))) := rfl
@[simp] theorem gNe_s {a b : Str} : gNe t0 (.str a) t1 (.str b) = some (.fz, .bl (!(a == b))) := rfl
theorem gEq_d (h1 : okD 60 d0 = true) (h2 : okD 60 d1 = true) : gEq t0 d0 t1 d1 = some (.fz, .bl (eqD d0 d1)) := by
  unfold gEq
  split
  · rw [eqD_str0]
  · rw [eqD_int0]
  · rw [h1, h2]; rfl
theorem gNe_d (h1 : okD 60 d0 = true) (h2 : okD 60 d1 = true) : gNe t0 d0 t1 d1 = some (.fz, .bl (!eqD d0 d1)) := by
  unfold gNe
  split
  · rw [eqD_str0]
  · rw [eqD_int0]
  · rw [h1, h2]; rfl
@[simp] theorem gIn_e : gIn t0 d0 t1 d1 = match inD d0 d1 with
  | some b => some (.fz, .bl b)
  | none => none := rfl
@[simp] theorem gNotIn_e : gNotIn t0 d0 t1 d1 = match inD d0 d1 with
  | some b => some (.fz, .bl (!b))
  | none => none := rfl
@[simp] theorem gIs_n : gIs t0 d0 t1 .non = some (.fz, .bl (isNon d0)) := by cases d0 <;> rfl
@[simp] theorem gIsNot_n : gIsNot t0 d0 t1 .non = some (.fz, .bl (!isNon d0)) := by cases d0 <;> rfl
@[simp] theorem gIs_b {a b : Bool} : gIs t0 (.bl a) t1 (.bl b) = some (.fz, .bl (a == b)) := rfl
@[simp] theorem gIsNot_b {a b : Bool} : gIsNot t0 (.bl a) t1 (.bl b) = some (.fz, .bl (!(a == b))) := rfl
@[simp] theorem isNon_non : isNon .non = true := rfl
@[simp] theorem isNon_int {i : Int} : isNon (.int i) = false := rfl
@[simp] theorem isNon_lst {i : List D} : isNon (.lst i) = false := rfl
@[simp] theorem isNon_tup {i : List D} : isNon (.tup i) = false := rfl
@[simp] theorem isNon_str {i : Str} : isNon (.str i) = false := rfl
@[simp] theorem isNon_bl {i : Bool} : isNon (.bl i) = false := rfl
@[simp] theorem gLen_l {a : List D} : gLen t0 (.lst a) = some (.fz, .int a.length) := rfl
@[simp] theorem gLen_t {a : List D} : gLen t0 (.tup a) = some (.fz, .int a.length) := rfl
@[simp] theorem gLen_k {a : List (Key × D)} : gLen t0 (.dk a) = some (.fz, .int a.length) := rfl
@[simp] theorem gLen_c {a : List Int} : gLen t0 (.scr a) = some (.fz, .int a.length) := rfl
@[simp] theorem gInt_i {a : Int} : gInt t0 (.int a) = some (.fz, .int a) := rfl
@[simp] theorem gInt_b {a : Bool} : gInt t0 (.bl a) = some (.fz, .int (if a then 1 else 0)) := rfl
@[simp] theorem gList_l {a : List D} : gList t0 (.lst a) = if lvl t0 ≤ 1 then some (.fr 1, .lst a) else none := rfl
@[simp] theorem gIx_l {a : List D} {i : Int} : gIx t0 (.lst a) t1 (.int i) = match atI a i with
  | some z => some (low (lvl t0) z, z)
  | none => none := rfl
@[simp] theorem gIx_t {a : List D} {i : Int} : gIx t0 (.tup a) t1 (.int i) = match atI a i with
  | some z => some (low (lvl t0) z, z)
  | none => none := rfl
@[simp] theorem gIx_c {a : List Int} {i : Int} : gIx t0 (.scr a) t1 (.int i) = match atI a i with
  | some z => some (.fz, .int z)
  | none => none := rfl
@[simp] theorem gIsi_e {T : String} : gIsi T t0 d0 = match tyD d0 with
  | some a => match isiB a T with
    | some b => some (.fz, .bl b)
    | none => none
  | none => none := rfl
@[simp] theorem isiB_int_int : isiB "int" "int" = some true := by decide +kernel
@[simp] theorem isiB_int_bool : isiB "int" "bool" = some false := by decide +kernel
@[simp] theorem isiB_int_str : isiB "int" "str" = some false := by decide +kernel
@[simp] theorem isiB_int_list : isiB "int" "list" = some false := by decide +kernel
@[simp] theorem isiB_int_tuple : isiB "int" "tuple" = some false := by decide +kernel
@[simp] theorem isiB_int_dict : isiB "int" "dict" = some false := by decide +kernel
@[simp] theorem isiB_bool_int : isiB "bool" "int" = some true := by decide +kernel
@[simp] theorem isiB_bool_bool : isiB "bool" "bool" = some true := by decide +kernel
@[simp] theorem isiB_bool_str : isiB "bool" "str" = some false := by decide +kernel
@[simp] theorem isiB_bool_list : isiB "bool" "list" = some false := by decide +kernel
@[simp] theorem isiB_bool_tuple : isiB "bool" "tuple" = some false := by decide +kernel
@[simp] theorem isiB_bool_dict : isiB "bool" "dict" = some false := by decide +kernel
@[simp] theorem isiB_str_int : isiB "str" "int" = some false := by decide +kernel
@[simp] theorem isiB_str_bool : isiB "str" "bool" = some false := by decide +kernel
@[simp] theorem isiB_str_str : isiB "str" "str" = some true := by decide +kernel
@[simp] theorem isiB_str_list : isiB "str" "list" = some false := by decide +kernel
@[simp] theorem isiB_str_tuple : isiB "str" "tuple" = some false := by decide +kernel
@[simp] theorem isiB_str_dict : isiB "str" "dict" = some false := by decide +kernel
@[simp] theorem isiB_list_int : isiB "list" "int" = some false := by decide +kernel
@[simp] theorem isiB_list_bool : isiB "list" "bool" = some false := by decide +kernel
@[simp] theorem isiB_list_str : isiB "list" "str" = some false := by decide +kernel
@[simp] theorem isiB_list_list : isiB "list" "list" = some true := by decide +kernel
@[simp] theorem isiB_list_tuple : isiB "list" "tuple" = some false := by decide +kernel
@[simp] theorem isiB_list_dict : isiB "list" "dict" = some false := by decide +kernel
@[simp] theorem isiB_tuple_int : isiB "tuple" "int" = some false := by decide +kernel
@[simp] theorem isiB_tuple_bool : isiB "tuple" "bool" = some false := by decide +kernel
@[simp] theorem isiB_tuple_str : isiB "tuple" "str" = some false := by decide +kernel
@[simp] theorem isiB_tuple_list : isiB "tuple" "list" = some false := by decide +kernel
@[simp] theorem isiB_tuple_tuple : isiB "tuple" "tuple" = some true := by decide +kernel
@[simp] theorem isiB_tuple_dict : isiB "tuple" "dict" = some false := by decide +kernel
@[simp] theorem isiB_dict_int : isiB "dict" "int" = some false := by decide +kernel
@[simp] theorem isiB_dict_bool : isiB "dict" "bool" = some false := by decide +kernel
@[simp] theorem isiB_dict_str : isiB "dict" "str" = some false := by decide +kernel
@[simp] theorem isiB_dict_list : isiB "dict" "list" = some false := by decide +kernel
@[simp] theorem isiB_dict_tuple : isiB "dict" "tuple" = some false := by decide +kernel
@[simp] theorem isiB_dict_dict : isiB "dict" "dict" = some true := by decide +kernel
@[simp] theorem isiB_NoneType_int : isiB "NoneType" "int" = some false := by decide +kernel
@[simp] theorem isiB_NoneType_bool : isiB "NoneType" "bool" = some false := by decide +kernel
@[simp] theorem isiB_NoneType_str : isiB "NoneType" "str" = some false := by decide +kernel
@[simp] theorem isiB_NoneType_list : isiB "NoneType" "list" = some false := by decide +kernel
@[simp] theorem isiB_NoneType_tuple : isiB "NoneType" "tuple" = some false := by decide +kernel
@[simp] theorem isiB_NoneType_dict : isiB "NoneType" "dict" = some false := by decide +kernel
@[simp] theorem truD_bl {b : Bool} : truD (.bl b) = some b := rfl
@[simp] theorem truD_int {i : Int} : truD (.int i) = some (i != 0) := rfl
@[simp] theorem gMax2_i {a b : Int} : gMax2 t0 (.int a) t1 (.int b) = some (.fz, .int (if b > a then b else a)) := rfl
@[simp] theorem gMin2_i {a b : Int} : gMin2 t0 (.int a) t1 (.int b) = some (.fz, .int (if b < a then b else a)) := rfl
@[simp] theorem setE_e : setE i env d = match env[i]? with
  | some _ => some (env.set i (some ⟨0, d⟩))
  | none => none := rfl
@[simp] theorem appS_e : appS i fe env = match fe env, env[i]? with
  | some (t, d), some (some ⟨n + 1, .lst ds⟩) => if (okTo t d n && decide (ds.length < sizeLine)) = true then some (.nx (env.set i (some ⟨n + 1, .lst (ds ++ [d])⟩))) else none
  | _, _ => none := rfl
@[simp] theorem extS_e : extS i f env = match f env, env[i]? with
  | some (t, .lst es), some (some ⟨1, .lst ds⟩) => if (decide (lvl t ≤ 1) && decide (ds.length + es.length ≤ sizeLine)) = true then some (.nx (env.set i (some ⟨1, .lst (ds ++ es)⟩))) else none
  | _, _ => none := rfl
@[simp] theorem clrS_e : clrS i env = match env[i]? with
  | some (some ⟨1, .lst ds⟩) => some (.nx (env.set i (some ⟨1, .lst []⟩)))
  | _ => none := rfl
@[simp] theorem frzE_e : frzE i env = match env[i]? with
  | some (some sl) => env.set i (some ⟨0, sl.d⟩)
  | _ => env := rfl
@[simp] theorem okTo_fz0 : okTo .fz d 0 = true := rfl
@[simp] theorem okTo_fr0 : okTo (.fr n) d 0 = true := rfl
@[simp] theorem okTo_pk : okTo (.pk n) d k = isSc d := rfl
@[simp] theorem fSl_e : fSl f lo hi env = match f env, lo env, hi env with
  | some (t, d), some l, some h => gSl t d l h
  | _, _, _ => none := rfl
@[simp] theorem fPart_e : fPart f env = match f env with
  | some (_, .int i) => some (some i)
  | _ => none := rfl
@[simp] theorem gSl_l {xs : List D} : gSl t0 (.lst xs) l u2 = if lvl t0 ≤ 1 then some (.fr 1, .lst (cutD xs l u2)) else none := rfl
end
/-! ### a block, step by step -/
variable {o : Out} {e' : Ev}
theorem runF_rt {ds : List D} {t : Tg} {d : D} (h : s ((ds.map fun d => some ⟨0, d⟩) ++ List.replicate (n - ds.length) none) = some (.rt t d)) (hn : noPkT t = true := by rfl) (hl : ds.length = k := by rfl) : runF s n k ds = some (t, d) := by
  unfold runF
  rw [if_pos hl, h]
  simp [hn]
theorem seq_nx (h1 : s1 env = some (.nx e')) {r : Option Out} (h2 : s2 e' = r) : seqS s1 s2 env = r := by rw [seqS_e, h1]; exact h2
theorem seq_rt {t : Tg} {d : D} (h1 : s1 env = some (.rt t d)) : seqS s1 s2 env = some (.rt t d) := by rw [seqS_e, h1]
theorem if_tt {r : Option Out} (hc : c env = some true) (h : s1 env = r) : ifS c s1 s2 env = r := by rw [ifS_e, hc]; exact h
theorem if_ff {r : Option Out} (hc : c env = some false) (h : s2 env = r) : ifS c s1 s2 env = r := by rw [ifS_e, hc]; simpa using h
/-- if c: return ..; then the rest -/
theorem seq_ifr {b : Bool} {t : Tg} {d : D} (hc : c env = some b) (h1 : b = true → s1 env = some (.rt t d)) (h2 : b = false → s2 env = some (.rt t d)) : seqS (ifS c s1 nilS) s2 env = some (.rt t d) := by
  rw [seqS_e, ifS_e, hc]
  cases b with
  | true => simp [h1 rfl]
  | false => simpa using h2 rfl
theorem for_of {fi : Ev → Option (List D)} {tgt : Ev → D → Option Ev} {ds : List D} {r : Option Out} (h : fi env = some ds) (k : forGo tgt s ds env = r) : forS fi tgt s env = r := by unfold forS; rw [h]; exact k
/-! ### loops -/
theorem forGo_nil {tgt : Ev → D → Option Ev} : forGo tgt s [] env = some (.nx env) := rfl
/-- a loop all of whose turns go on -/
theorem forGo_fold {α β : Type} {tgt : Ev → D → Option Ev} (fD : α → D) (step : β → α → β) (E : β → Ev → Prop) : ∀ (xs : List α) (b : β) (env : Ev), E b env →
    (∀ b a env, a ∈ xs → E b env → ∃ e e', tgt env (fD a) = some e ∧ (s e = some (.nx e') ∨ s e = some (.ct e')) ∧ E (step b a) e') → ∃ env', forGo tgt s (xs.map fD) env = some (.nx env') ∧ E (xs.foldl step b) env'
  | [], b, env, hE, _ => ⟨env, rfl, hE⟩
  | a :: xs, b, env, hE, h => by
    obtain ⟨e, e', h1, h2, h3⟩ := h b a env List.mem_cons_self hE
    obtain ⟨env', i1, i2⟩ := forGo_fold fD step E xs (step b a) e' h3 fun b a env ha => h b a env (List.mem_cons_of_mem _ ha)
    refine ⟨env', ?_, i2⟩
    rw [List.map_cons]
    simp only [forGo, h1]
    rcases h2 with h2 | h2 <;> rw [h2] <;> exact i1
/-- the same by the turn's number: I i env ahead of turn i -/
theorem forGo_inv {tgt : Ev → D → Option Ev} (I : Nat → Ev → Prop) (ds : List D) (env : Ev) (h0 : I 0 env)
    (h : ∀ (i : Nat) (d : D) env, ds[i]? = some d → I i env → ∃ e e', tgt env d = some e ∧ (s e = some (.nx e') ∨ s e = some (.ct e')) ∧ I (i + 1) e') : ∃ env', forGo tgt s ds env = some (.nx env') ∧ I ds.length env' := by
  induction ds generalizing I env with
  | nil => exact ⟨env, rfl, h0⟩
  | cons d ds ih =>
    obtain ⟨e, e', h1, h2, h3⟩ := h 0 d env rfl h0
    obtain ⟨env', i1, i2⟩ := ih (fun i => I (i + 1)) e' h3 fun i d env hd hI => h (i + 1) d env (by simpa using hd) hI
    refine ⟨env', ?_, i2⟩
    simp only [forGo, h1]
    rcases h2 with h2 | h2 <;> rw [h2] <;> exact i1
/-- a loop that ends at the first item of a kind -/
theorem forGo_find {α : Type} {tgt : Ev → D → Option Ev} (fD : α → D) (p : α → Bool) (o : Out) (ho : ∀ e, o ≠ .nx e ∧ o ≠ .ct e ∧ o ≠ .bk e) (E : Ev → Prop) : ∀ (xs : List α) (env : Ev), E env →
    (∀ a env, a ∈ xs → E env → ∃ e, tgt env (fD a) = some e ∧ (if p a = true then s e = some o else ∃ e', (s e = some (.nx e') ∨ s e = some (.ct e')) ∧ E e')) →
      if xs.any p = true then forGo tgt s (xs.map fD) env = some o else ∃ env', forGo tgt s (xs.map fD) env = some (.nx env') ∧ E env'
  | [], env, hE, _ => by
    rw [if_neg (by simp)]
    exact ⟨env, rfl, hE⟩
  | a :: xs, env, hE, h => by
    obtain ⟨e, h1, h2⟩ := h a env List.mem_cons_self hE
    by_cases hp : p a = true
    · rw [if_pos hp] at h2
      rw [if_pos (by simp [hp]), List.map_cons]
      simp only [forGo, h1, h2]
      obtain ⟨n1, n2, n3⟩ := ho e
      cases o with
      | nx e => exact absurd rfl (ho e).1
      | ct e => exact absurd rfl (ho e).2.1
      | bk e => exact absurd rfl (ho e).2.2
      | rt t d => rfl
    · rw [if_neg hp] at h2
      obtain ⟨e', h3, h4⟩ := h2
      have ih := forGo_find fD p o ho E xs e' h4 fun a env ha => h a env (List.mem_cons_of_mem _ ha)
      have e1 : (a :: xs).any p = xs.any p := by simp [hp]
      have e2 : forGo tgt s ((a :: xs).map fD) env = forGo tgt s (xs.map fD) e' := by
        rw [List.map_cons]
        simp only [forGo, h1]
        rcases h3 with h3 | h3 <;> rw [h3]
      rw [e1, e2]
      exact ih
/-- a while loop: an invariant and a measure -/
theorem while_inv {c : Ev → Option Bool} (I : Nat → Ev → Prop) (Q : Ev → Prop) : ∀ (m : Nat) (env : Ev), I m env →
    (∀ m env, I m env → (c env = some false ∧ Q env) ∨ (c env = some true ∧ ∃ e' m', (s env = some (.nx e') ∨ s env = some (.ct e')) ∧ m' < m ∧ I m' e')) → ∃ env', whileS c s env = some (.nx env') ∧ Q env' := by
  intro m
  induction m using Nat.strongRecOn with
  | ind m ih =>
    intro env hI h
    rcases h m env hI with ⟨h1, h2⟩ | ⟨h1, e', m', h2, h3, h4⟩
    · exact ⟨env, whileS_of (m := 1) (by simp [whileN, h1]), h2⟩
    · obtain ⟨env', h5, h6⟩ := ih m' h3 e' h4 h
      obtain ⟨k, hk⟩ := whileS_some h5
      refine ⟨env', whileS_of (m := k + 1) ?_, h6⟩
      simp only [whileN, h1]
      rcases h2 with h2 | h2 <;> rw [h2] <;> exact hk
/-- .. that may return -/
theorem while_out {c : Ev → Option Bool} (I : Nat → Ev → Prop) (Q : Out → Prop) : ∀ (m : Nat) (env : Ev), I m env →
    (∀ m env, I m env → (c env = some false ∧ Q (.nx env)) ∨ (c env = some true ∧ ((∃ e' m', (s env = some (.nx e') ∨ s env = some (.ct e')) ∧ m' < m ∧ I m' e') ∨ (∃ e', s env = some (.bk e') ∧ Q (.nx e')) ∨ ∃ t d, s env = some (.rt t d) ∧ Q (.rt t d)))) → ∃ o, whileS c s env = some o ∧ Q o := by
  intro m
  induction m using Nat.strongRecOn with
  | ind m ih =>
    intro env hI h
    rcases h m env hI with ⟨h1, h2⟩ | ⟨h1, ⟨e', m', h2, h3, h4⟩ | ⟨e', h2, h3⟩ | ⟨t, d, h2, h3⟩⟩
    · exact ⟨.nx env, whileS_of (m := 1) (by simp [whileN, h1]), h2⟩
    · obtain ⟨o, h5, h6⟩ := ih m' h3 e' h4 h
      obtain ⟨k, hk⟩ := whileS_some h5
      refine ⟨o, whileS_of (m := k + 1) ?_, h6⟩
      simp only [whileN, h1]
      rcases h2 with h2 | h2 <;> rw [h2] <;> exact hk
    · exact ⟨.nx e', whileS_of (m := 1) (by simp [whileN, h1, h2]), h3⟩
    · exact ⟨.rt t d, whileS_of (m := 1) (by simp [whileN, h1, h2]), h3⟩
/-- a comprehension -/
theorem lcGo_map {α : Type} {k : Nat} {tgt : Ev → D → Option Ev} {ft : Ev → Option Bool} {fe : Ev → R} {env : Ev} (fD : α → D) (p : α → Bool) (g : α → D) : ∀ (xs : List α),
    (∀ a, a ∈ xs → ∃ e, tgt env (fD a) = some e ∧ ft e = some (p a) ∧ (p a = true → ∃ t, fe e = some (t, g a) ∧ okTo t (g a) k = true)) → lcGo k tgt ft fe env (xs.map fD) = some ((xs.filter p).map g)
  | [], _ => rfl
  | a :: xs, h => by
    obtain ⟨e, h1, h2, h3⟩ := h a List.mem_cons_self
    have ih := lcGo_map (k := k) (tgt := tgt) (ft := ft) (fe := fe) (env := env) fD p g xs fun a ha => h a (List.mem_cons_of_mem _ ha)
    rw [List.map_cons]
    simp only [lcGo, h1, h2]
    cases hp : p a with
    | true =>
      obtain ⟨t, h4, h5⟩ := h3 hp
      simp only [h4, h5, ih, if_true, List.filter_cons, hp, Option.map_some, List.map_cons]
    | false =>
      simp only [ih, List.filter_cons, hp]
      simp
/-- a loop that returns at the first item of a kind, then the rest -/
theorem seq_find {α : Type} {fi : Ev → Option (List D)} {tgt : Ev → D → Option Ev} {r : Option Out} (t : Tg) (d : D) (fD : α → D) (p : α → Bool) (E : Ev → Prop) (xs : List α) (hfi : fi env = some (xs.map fD)) (hE : E env)
    (step : ∀ a env, a ∈ xs → E env → ∃ e, tgt env (fD a) = some e ∧ (if p a = true then s e = some (.rt t d) else ∃ e', (s e = some (.nx e') ∨ s e = some (.ct e')) ∧ E e'))
    (h1 : xs.any p = true → r = some (.rt t d)) (h2 : xs.any p = false → ∀ env', E env' → s2 env' = r) : seqS (forS fi tgt s) s2 env = r := by
  have k := forGo_find fD p (.rt t d) (by simp) E xs env hE step
  rw [seqS_e]
  unfold forS
  rw [hfi]
  cases hp : xs.any p with
  | true =>
    rw [if_pos hp] at k
    rw [h1 hp]
    simp only [k]
  | false =>
    rw [if_neg (by simp [hp])] at k
    obtain ⟨e', k1, k2⟩ := k
    simp only [k1]
    exact h2 hp e' k2
/-- a loop that goes through, then the rest -/
theorem seq_fold {α β : Type} {fi : Ev → Option (List D)} {tgt : Ev → D → Option Ev} {r : Option Out} (fD : α → D) (stp : β → α → β) (E : β → Ev → Prop) (xs : List α) (b : β) (hfi : fi env = some (xs.map fD)) (hE : E b env)
    (step : ∀ b a env, a ∈ xs → E b env → ∃ e e', tgt env (fD a) = some e ∧ (s e = some (.nx e') ∨ s e = some (.ct e')) ∧ E (stp b a) e')
    (h2 : ∀ env', E (xs.foldl stp b) env' → s2 env' = r) : seqS (forS fi tgt s) s2 env = r := by
  obtain ⟨e', k1, k2⟩ := forGo_fold fD stp E xs b env hE step
  rw [seqS_e]
  unfold forS
  rw [hfi]
  simp only [k1]
  exact h2 e' k2
/-- the same as the last part of a block -/
theorem for_fold {α β : Type} {fi : Ev → Option (List D)} {tgt : Ev → D → Option Ev} (fD : α → D) (stp : β → α → β) (E : β → Ev → Prop) (xs : List α) (b : β) (hfi : fi env = some (xs.map fD)) (hE : E b env)
    (step : ∀ b a env, a ∈ xs → E b env → ∃ e e', tgt env (fD a) = some e ∧ (s e = some (.nx e') ∨ s e = some (.ct e')) ∧ E (stp b a) e') : ∃ env', forS fi tgt s env = some (.nx env') ∧ E (xs.foldl stp b) env' := by
  obtain ⟨e', k1, k2⟩ := forGo_fold fD stp E xs b env hE step
  exact ⟨e', by unfold forS; rw [hfi]; exact k1, k2⟩
/-- a loop by the turn's number, then the rest -/
theorem seq_inv {fi : Ev → Option (List D)} {tgt : Ev → D → Option Ev} {r : Option Out} (I : Nat → Ev → Prop) (ds : List D) (hfi : fi env = some ds) (h0 : I 0 env)
    (h : ∀ (i : Nat) (d : D) env, ds[i]? = some d → I i env → ∃ e e', tgt env d = some e ∧ (s e = some (.nx e') ∨ s e = some (.ct e')) ∧ I (i + 1) e')
    (h2 : ∀ env', I ds.length env' → s2 env' = r) : seqS (forS fi tgt s) s2 env = r := by
  obtain ⟨e', k1, k2⟩ := forGo_inv I ds env h0 h
  rw [seqS_e]
  unfold forS
  rw [hfi]
  simp only [k1]
  exact h2 e' k2
theorem for_inv {fi : Ev → Option (List D)} {tgt : Ev → D → Option Ev} (I : Nat → Ev → Prop) (ds : List D) (hfi : fi env = some ds) (h0 : I 0 env)
    (h : ∀ (i : Nat) (d : D) env, ds[i]? = some d → I i env → ∃ e e', tgt env d = some e ∧ (s e = some (.nx e') ∨ s e = some (.ct e')) ∧ I (i + 1) e') : ∃ env', forS fi tgt s env = some (.nx env') ∧ I ds.length env' := by
  obtain ⟨e', k1, k2⟩ := forGo_inv I ds env h0 h
  exact ⟨e', by unfold forS; rw [hfi]; exact k1, k2⟩
theorem asg_fz {z0 : Option Sl} {t : Tg} {d0 : D} (h : f env = some (t, d0)) (ht : (noPkT t || isSc d0) = true := by rfl) (hi : env[i]? = some z0 := by rfl) : asgS i (fFz f) env = some (.nx (env.set i (some ⟨0, d0⟩))) := by
  have e : fFz f env = some (.fz, d0) := by
    unfold fFz
    rw [h]
    cases t with
    | fz => rfl
    | fr n => rfl
    | pk n =>
      have : isSc d0 = true := by simpa [noPkT] using ht
      simp only [this, if_true]
  unfold asgS
  rw [e, hi]
  rfl
theorem asg_fr {z0 : Option Sl} {n : Nat} {d0 : D} (h : f env = some (.fr n, d0)) (hi : env[i]? = some z0 := by rfl) : asgS i f env = some (.nx (env.set i (some ⟨n, d0⟩))) := by
  unfold asgS
  rw [h, hi]
  rfl
theorem asg_0 {z0 : Option Sl} {d0 : D} (h : f env = some (.fz, d0)) (hi : env[i]? = some z0 := by rfl) : asgS i f env = some (.nx (env.set i (some ⟨0, d0⟩))) := by
  unfold asgS
  rw [h, hi]
  rfl
theorem call_of {g : List D → R} {fs : Ev → Option (List (Tg × D))} {l : List (Tg × D)} {t : Tg} {d0 : D} (h1 : fs env = some l) (h2 : g (l.map (·.2)) = some (t, d0)) (ht : noPkT t = true := by rfl) (hp : (l.all noPk || okRes t d0) = true := by rfl) : callF g fs env = some (t, d0) := by
  unfold callF
  rw [h1]
  simp only [h2, ht, hp, Bool.and_self, if_true]
theorem args_1 {a1 : Tg × D} (h1 : f1 env = some a1) : fCons f1 fNil env = some [a1] := by
  obtain ⟨t, d⟩ := a1
  simp only [fCons, fNil, h1]
theorem args_2 {a1 a2 : Tg × D} (h1 : f1 env = some a1) (h2 : f2 env = some a2) : fCons f1 (fCons f2 fNil) env = some [a1, a2] := by
  obtain ⟨t, d⟩ := a1
  obtain ⟨t, d⟩ := a2
  simp only [fCons, fNil, h1, h2]
theorem args_3 {a1 a2 a3 : Tg × D} (h1 : f1 env = some a1) (h2 : f2 env = some a2) (h3 : f3 env = some a3) : fCons f1 (fCons f2 (fCons f3 fNil)) env = some [a1, a2, a3] := by
  obtain ⟨t, d⟩ := a1
  obtain ⟨t, d⟩ := a2
  obtain ⟨t, d⟩ := a3
  simp only [fCons, fNil, h1, h2, h3]
theorem call_1 {g : List D → R} {t1 : Tg} {d1 : D} {t : Tg} {d0 : D} (h1 : f1 env = some (t1, d1)) (h2 : g [d1] = some (t, d0)) (ht : noPkT t = true := by rfl) (hp : (noPk (t1, d1) || okRes t d0) = true := by rfl) : callF g (fCons f1 fNil) env = some (t, d0) := by
  refine call_of (args_1 h1) h2 ht ?_
  simpa using hp
theorem call_2 {g : List D → R} {t1 t2 : Tg} {d1 d2 : D} {t : Tg} {d0 : D} (h1 : f1 env = some (t1, d1)) (h3 : f2 env = some (t2, d2)) (h2 : g [d1, d2] = some (t, d0)) (ht : noPkT t = true := by rfl) (hp : ((noPk (t1, d1) && noPk (t2, d2)) || okRes t d0) = true := by rfl) : callF g (fCons f1 (fCons f2 fNil)) env = some (t, d0) := by
  refine call_of (args_2 h1 h3) h2 ht ?_
  simpa using hp
theorem call_3 {g : List D → R} {t1 t2 t3 : Tg} {d1 d2 d3 : D} {t : Tg} {d0 : D} (h1 : f1 env = some (t1, d1)) (h3 : f2 env = some (t2, d2)) (h4 : f3 env = some (t3, d3)) (h2 : g [d1, d2, d3] = some (t, d0)) (ht : noPkT t = true := by rfl) (hp : ((noPk (t1, d1) && noPk (t2, d2) && noPk (t3, d3)) || okRes t d0) = true := by rfl) : callF g (fCons f1 (fCons f2 (fCons f3 fNil))) env = some (t, d0) := by
  refine call_of (args_3 h1 h3 h4) h2 ht ?_
  simp only [List.all_cons, List.all_nil, Bool.and_true, ← Bool.and_assoc]
  exact hp
theorem tru_of {t : Tg} {d0 : D} {b : Bool} (h : f env = some (t, d0)) (hb : truD d0 = some b := by rfl) : fTru f env = some b := by
  unfold fTru
  rw [h]
  exact hb
theorem not_of {b : Bool} (h : c env = some b) : fNot c env = some (!b) := by
  unfold fNot
  rw [h]
theorem asB_of {t : Tg} {b : Bool} (h : f env = some (t, .bl b)) : asB f env = some b := by
  unfold asB
  rw [h]
theorem andV_t {t : Tg} {r : R} (h1 : f env = some (t, .bl true)) (h2 : f2 env = r) : fAndV f f2 env = r := by
  rw [fAndV_e, h1]
  exact h2
theorem andV_f {t : Tg} (h1 : f env = some (t, .bl false)) : fAndV f f2 env = some (.fz, .bl false) := by
  rw [fAndV_e, h1]
  rfl
theorem b2 {h : Tg → D → Tg → D → R} {t1 t2 : Tg} {d1 d2 : D} {r : R} (h1 : f env = some (t1, d1)) (h2 : f2 env = some (t2, d2)) (h3 : h t1 d1 t2 d2 = r) : bind2 f f2 h env = r := by
  unfold bind2
  rw [h1, h2]
  exact h3
theorem b1 {h : Tg → D → R} {t1 : Tg} {d1 : D} {r : R} (h1 : f env = some (t1, d1)) (h3 : h t1 d1 = r) : bind1 f h env = r := by
  unfold bind1
  rw [h1]
  exact h3
theorem fv {d0 : D} (h : env[i]? = some (some ⟨0, d0⟩) := by rfl) : fVar i env = some (.fz, d0) := by
  unfold fVar
  rw [h]
  rfl
theorem fvp {d0 : D} {n : Nat} (h : env[i]? = some (some ⟨n + 1, d0⟩) := by rfl) : fVar i env = some (.pk (n + 1), d0) := by
  unfold fVar
  rw [h]
  rfl
theorem ret_fz {d0 : D} (h : f env = some (.fz, d0)) : retS f env = some (.rt .fz d0) := by
  unfold retS
  rw [h]
  rfl
theorem ret_fr {n : Nat} {d0 : D} (h : f env = some (.fr (n + 1), d0)) : retS f env = some (.rt (.fr (n + 1)) d0) := by
  unfold retS
  rw [h]
  rfl
theorem lcGo_ex {α β : Type} {k : Nat} {tgt : Ev → D → Option Ev} {ft : Ev → Option Bool} {fe : Ev → R} {env : Ev} (fD : α → D) (gD : β → D) (C : α → β → Prop) : ∀ (xs : List α),
    (∀ a, a ∈ xs → ∃ e b t, tgt env (fD a) = some e ∧ ft e = some true ∧ fe e = some (t, gD b) ∧ okTo t (gD b) k = true ∧ C a b) → ∃ bs : List β, lcGo k tgt ft fe env (xs.map fD) = some (bs.map gD) ∧ bs.length = xs.length ∧ ∀ (i : Nat) a b, xs[i]? = some a → bs[i]? = some b → C a b
  | [], _ => ⟨[], rfl, rfl, fun i a b h => by cases h⟩
  | a :: xs, h => by
    obtain ⟨e, b, t, h1, h2, h3, h4, h5⟩ := h a List.mem_cons_self
    obtain ⟨bs, k1, k2, k3⟩ := lcGo_ex (k := k) (tgt := tgt) (ft := ft) (fe := fe) (env := env) fD gD C xs fun a ha => h a (List.mem_cons_of_mem _ ha)
    refine ⟨b :: bs, ?_, by simp [k2], fun i a' b' ha hb => ?_⟩
    · rw [List.map_cons]
      simp only [lcGo, h1, h2, h3, h4, k1, if_true, Option.map_some, List.map_cons]
    · cases i with
      | zero => cases ha; cases hb; exact h5
      | succ i => exact k3 i a' b' (by simpa using ha) (by simpa using hb)
theorem lcF_of {vs : List Nat} {fi : Ev → Option (List D)} {tgt : Ev → D → Option Ev} {ft : Ev → Option Bool} {fe : Ev → R} {ds zs : List D} (h : fi env = some ds) (hl : ds.length ≤ 1000000) (key : lcGo k tgt ft fe (wipeE env vs) ds = some zs) : lcF k vs fi tgt ft fe env = some (.fr (k + 1), .lst zs) := by
  unfold lcF
  rw [h]
  simp only [if_pos hl, key]
theorem ext_nx {t : Tg} {es ds : List D} (h : f env = some (t, .lst es)) (he : env[i]? = some (some ⟨1, .lst ds⟩)) (ht : lvl t ≤ 1) (hl : ds.length + es.length ≤ 16777216) : extS i f env = some (.nx (env.set i (some ⟨1, .lst (ds ++ es)⟩))) := by
  rw [extS_e, h, he]
  simp only [sizeLine_eq, ht, hl, decide_true, Bool.and_self, if_true]
theorem app_nx {t : Tg} {d0 : D} {ds : List D} {n : Nat} (h : f env = some (t, d0)) (he : env[i]? = some (some ⟨n + 1, .lst ds⟩)) (ht : okTo t d0 n = true) (hl : ds.length < 16777216) : appS i f env = some (.nx (env.set i (some ⟨n + 1, .lst (ds ++ [d0])⟩))) := by
  rw [appS_e, h, he]
  simp only [sizeLine_eq, ht, hl, decide_true, Bool.and_self, if_true]
/-! ### data -/
theorem okDs_map {α : Type} {fD : α → D} {xs : List α} (h : ∀ a ∈ xs, okD n (fD a) = true) : okDs n (xs.map fD) = true := by
  induction xs with
  | nil => simp [okDs]
  | cons a xs ih =>
    rw [List.map_cons]
    simp only [okDs, Bool.and_eq_true]
    exact ⟨h a List.mem_cons_self, ih fun b hb => h b (List.mem_cons_of_mem _ hb)⟩
theorem eqDs_map {α : Type} [DecidableEq α] {fD : α → D} (h : ∀ a b, eqD (fD a) (fD b) = decide (a = b)) : ∀ (xs ys : List α), eqDs (xs.map fD) (ys.map fD) = decide (xs = ys)
  | [], [] => by simp [eqDs, toPys, PyData.eqvAll]
  | [], _ :: _ => by simp [eqDs, toPys, PyData.eqvAll]
  | _ :: _, [] => by simp [eqDs, toPys, PyData.eqvAll]
  | a :: xs, b :: ys => by
    have ih := eqDs_map h xs ys
    have h1 := h a b
    unfold eqD at h1
    unfold eqDs at ih ⊢
    simp only [List.map_cons, toPys, PyData.eqvAll, h1, ih]
    by_cases hab : a = b <;> by_cases hxy : xs = ys <;> simp [hab, hxy]
theorem eqD_lst (xs ys : List D) : eqD (.lst xs) (.lst ys) = eqDs xs ys := by simp [eqD, eqDs, toPy, PyData.eqv]
theorem eqD_tup (xs ys : List D) : eqD (.tup xs) (.tup ys) = eqDs xs ys := by simp [eqD, eqDs, toPy, PyData.eqv]
theorem eqD_int (i j : Int) : eqD (.int i) (.int j) = decide (i = j) := by
  simp [eqD, toPy, PyData.eqv]
  by_cases h : i = j <;> simp [h]
theorem eqD_str (i j : Str) : eqD (.str i) (.str j) = (i == j) := by simp [eqD, toPy, PyData.eqv]
theorem eqD_bl (i j : Bool) : eqD (.bl i) (.bl j) = decide (i = j) := by cases i <;> cases j <;> rfl
theorem eqDs_cons (x y : D) (xs ys : List D) : eqDs (x :: xs) (y :: ys) = (eqD x y && eqDs xs ys) := by simp [eqD, eqDs, toPys, PyData.eqvAll]
theorem eqDs_nil : eqDs [] [] = true := by simp [eqDs, toPys, PyData.eqvAll]
theorem eqDs_nc (y : D) (ys : List D) : eqDs [] (y :: ys) = false := by simp [eqDs, toPys, PyData.eqvAll]
theorem eqDs_cn (x : D) (xs : List D) : eqDs (x :: xs) [] = false := by simp [eqDs, toPys, PyData.eqvAll]
theorem inD_map {α : Type} [DecidableEq α] {fD : α → D} (h60 : ∀ a, okD 60 (fD a) = true) (h59 : ∀ a, okD 59 (fD a) = true) (heq : ∀ a b, eqD (fD a) (fD b) = decide (a = b)) (t : α) (ts : List α) : inD (fD t) (.lst (ts.map fD)) = some (decide (t ∈ ts)) := by
  have h2 : ∀ ts : List α, okD 60 (.lst (ts.map fD)) = true := fun ts => by
    simp only [okD]
    exact okDs_map fun a _ => h59 a
  have h := h60 t
  unfold inD
  simp only [h, h2, Bool.and_self, if_true, Option.some.injEq]
  clear h
  induction ts with
  | nil => rfl
  | cons a ts ih =>
    rw [List.map_cons, List.any_cons, ih, heq]
    by_cases hat : a = t
    · simp [hat]
    · have hta : ¬ t = a := fun e => hat e.symm
      simp [hat, hta]
theorem atI_ex {α : Type} {xs : List α} {i : Int} (h0 : 0 ≤ i) (h1 : i < xs.length) : ∃ z, z ∈ xs ∧ atI xs i = some z := by
  have h : i.toNat < xs.length := by omega
  refine ⟨xs[i.toNat], List.getElem_mem h, ?_⟩
  have e : i = (i.toNat : Int) := by omega
  have k := atI_nat (List.getElem?_eq_getElem h)
  rwa [← e] at k
theorem eqDs_self {α : Type} {fD : α → D} (h : ∀ a, eqD (fD a) (fD a) = true) : ∀ xs : List α, eqDs (xs.map fD) (xs.map fD) = true
  | [] => by simp [eqDs, toPys, PyData.eqvAll]
  | a :: xs => by rw [List.map_cons, eqDs_cons, h, eqDs_self h xs]; rfl
/-- an item of a mapped list -/
theorem atI_map {α : Type} {fD : α → D} {xs : List α} {j : Nat} {a : α} (h : xs[j]? = some a) : atI (xs.map fD) (j : Int) = some (fD a) := atI_nat (by rw [List.getElem?_map, h]; rfl)
end
end VL
namespace Lw
open PySem PySem.Spec PyProof.Rows L2 VL
/-! ### the text by places -/
def topS (i : Nat) : Stmt := PySem.Challenge.pw_boxwright_k06_what_is_reached.main.body.getD i (.Pass ⟨0, 0, 0, 0⟩)
abbrev s__law_cell_at : Stmt := topS 5
abbrev s__law_ways_by : Stmt := topS 7
abbrev s_ways_from : Stmt := topS 1
abbrev s_reached : Stmt := topS 2
abbrev s_comes : Stmt := topS 3
abbrev s__law_reached : Stmt := topS 8
abbrev s__law_whole : Stmt := topS 6
abbrev s__law_is_way : Stmt := topS 9
abbrev s_law : Stmt := topS 10
abbrev N__law_cell_at : List Str := ["script", "k"]
theorem sc__law_cell_at : FnScope N__law_cell_at ["script", "k"] (defScope s__law_cell_at) := ⟨rfl, rfl, rfl, by decide +kernel, rfl, by decide +kernel, by decide +kernel⟩
abbrev N__law_ways_by : List Str := ["script", "many", "near", "ways", "block", "cell", "goals", "k", "goal"]
theorem sc__law_ways_by : FnScope N__law_ways_by ["script"] (defScope s__law_ways_by) := ⟨rfl, rfl, rfl, by decide +kernel, rfl, by decide +kernel, by decide +kernel⟩
abbrev N_ways_from : List Str := ["ways", "start", "shut", "found", "waiting", "at", "block", "other"]
theorem sc_ways_from : FnScope N_ways_from ["ways", "start", "shut"] (defScope s_ways_from) := ⟨rfl, rfl, rfl, by decide +kernel, rfl, by decide +kernel, by decide +kernel⟩
abbrev N_reached : List Str := ["ways"]
theorem sc_reached : FnScope N_reached ["ways"] (defScope s_reached) := ⟨rfl, rfl, rfl, by decide +kernel, rfl, by decide +kernel, by decide +kernel⟩
abbrev N_comes : List Str := ["ways", "there", "found", "block", "other"]
theorem sc_comes : FnScope N_comes ["ways"] (defScope s_comes) := ⟨rfl, rfl, rfl, by decide +kernel, rfl, by decide +kernel, by decide +kernel⟩
abbrev N__law_reached : List Str := ["ways", "shut", "there", "waiting", "block", "other"]
theorem sc__law_reached : FnScope N__law_reached ["ways", "shut"] (defScope s__law_reached) := ⟨rfl, rfl, rfl, by decide +kernel, rfl, by decide +kernel, by decide +kernel⟩
abbrev N__law_whole : List Str := ["found"]
theorem sc__law_whole : FnScope N__law_whole ["found"] (defScope s__law_whole) := ⟨rfl, rfl, rfl, by decide +kernel, rfl, by decide +kernel, by decide +kernel⟩
abbrev N__law_is_way : List Str := ["ways", "found", "block", "k", "one"]
theorem sc__law_is_way : FnScope N__law_is_way ["ways", "found", "block"] (defScope s__law_is_way) := ⟨rfl, rfl, rfl, by decide +kernel, rfl, by decide +kernel, by decide +kernel⟩
abbrev N_law : List Str := ["script", "ways", "handed", "found", "told", "there", "due", "block", "other", "one"]
theorem sc_law : FnScope N_law ["script"] (defScope s_law) := ⟨rfl, rfl, rfl, by decide +kernel, rfl, by decide +kernel, by decide +kernel⟩
/-! ### what each def is -/
noncomputable def t__law_cell_at : SF := (seqS (ifS (asB (bind2 (fVar 1) (bind1 (fVar 0) gLen) gLt)) (retS (bind2 (fVar 0) (fVar 1) gIx)) nilS) (retS (fC (.int 0))))
noncomputable def g__law_cell_at : List D → R := runF t__law_cell_at 2 2
noncomputable def t__law_ways_by : SF := (seqS (asgS 1 (fFz (bind2 (fC (.int 1)) (bind2 (callF g__law_cell_at (fCons (fVar 0) (fCons (fC (.int 0)) fNil))) (fC (.int 9)) gMod) gAdd))) (seqS (ifS (asB (bind2 (bind2 (bind2 (callF g__law_cell_at (fCons (fVar 0) (fCons (fC (.int 0)) fNil))) (fC (.int 9)) gFdiv) (fC (.int 9)) gMod) (fC (.int 1)) gEq)) (asgS 1 (fFz (bind2 (fC (.int 10)) (bind2 (bind2 (callF g__law_cell_at (fCons (fVar 0) (fCons (fC (.int 0)) fNil))) (fC (.int 81)) gFdiv) (fC (.int 8)) gMod) gAdd))) nilS) (seqS (ifS (asB (bind2 (bind2 (bind2 (callF g__law_cell_at (fCons (fVar 0) (fCons (fC (.int 0)) fNil))) (fC (.int 9)) gFdiv) (fC (.int 18)) gMod) (fC (.int 2)) gEq)) (asgS 1 (fFz (bind2 (fC (.int 18)) (bind2 (bind2 (callF g__law_cell_at (fCons (fVar 0) (fCons (fC (.int 0)) fNil))) (fC (.int 162)) gFdiv) (fC (.int 44)) gMod) gAdd))) nilS) (seqS (asgS 2 (fFz (bind2 (callF g__law_cell_at (fCons (fVar 0) (fCons (fC (.int 1)) fNil))) (fC (.int 3)) gMod))) (seqS (asgS 3 (fLst fNil)) (seqS (forS (itR1 (fVar 1)) (setE 4) (seqS (asgS 5 (fFz (bind2 (bind2 (bind2 (callF g__law_cell_at (fCons (fVar 0) (fCons (bind2 (fC (.int 2)) (fVar 4) gAdd) fNil))) (bind2 (fC (.int 7919)) (fVar 4) gMul) gAdd) (fC (.int 48271)) gMul) (fC (.int 2147483647)) gMod))) (seqS (asgS 6 (fLst fNil)) (seqS (forS (itR1 (bind2 (fLst (fCons (fC (.int 0)) (fCons (fC (.int 1)) (fCons (fC (.int 1)) (fCons (fC (.int 2)) (fCons (fC (.int 2)) (fCons (fC (.int 2)) (fCons (fC (.int 3)) fNil)))))))) (bind2 (fVar 5) (fC (.int 7)) gMod) gIx)) (setE 7) (seqS (asgS 8 (fFz (bind2 (bind2 (bind2 (fVar 5) (fC (.int 7)) gFdiv) (bind2 (fC (.int 1)) (bind2 (fC (.int 60)) (fVar 7) gMul) gAdd) gFdiv) (fVar 1) gMod))) (seqS (ifS (asB (bind2 (fVar 2) (fC (.int 0)) gEq)) (asgS 8 (fFz (bind2 (bind2 (bind2 (fVar 4) (fC (.int 1)) gAdd) (bind2 (bind2 (bind2 (fVar 5) (fC (.int 7)) gFdiv) (bind2 (fC (.int 1)) (bind2 (fC (.int 11)) (fVar 7) gMul) gAdd) gFdiv) (fC (.int 4)) gMod) gAdd) (fVar 1) gMod))) nilS) (appS 6 (fVar 8))))) (fun env => (appS 3 (fVar 6)) (frzE 6 env)))))) (retM 3)))))))
noncomputable def g__law_ways_by : List D → R := runF t__law_ways_by 9 1
noncomputable def t_ways_from : SF := (seqS (asgS 3 (lcF 1 [6] (itF true (fVar 0)) (setE 6) (fun _ => some true) (fC .non))) (seqS (ifS (asB (bind2 (fVar 1) (fVar 2) gEq)) (retM 3) nilS) (seqS (setS 3 (fVar 1) (fLst (fCons (fVar 1) fNil))) (seqS (asgS 4 (fLst (fCons (fVar 1) fNil))) (seqS (asgS 5 (fFz (fC (.int 0)))) (seqS (whileS (asB (bind2 (fVar 5) (bind1 (fVar 4) gLen) gLt)) (seqS (asgS 6 (fFz (bind2 (fVar 4) (fVar 5) gIx))) (seqS (forS (itF false (bind2 (fVar 0) (fVar 6) gIx)) (setE 7) (ifS (fAnd (asB (bind2 (fVar 7) (fVar 2) gNe)) (asB (bind2 (bind2 (fVar 3) (fVar 7) gIx) (fC .non) gIs))) (seqS (setS 3 (fVar 7) (bind2 (bind2 (fVar 3) (fVar 6) gIx) (fLst (fCons (fVar 7) fNil)) gAdd)) (appS 4 (fVar 7))) nilS)) (asgS 5 (fFz (bind2 (fVar 5) (fC (.int 1)) gAdd)))))) (retM 3)))))))
noncomputable def g_ways_from : List D → R := runF t_ways_from 8 3
noncomputable def t_reached : SF := (retS (callF g_ways_from (fCons (fVar 0) (fCons (fC (.int 0)) (fCons (fC .non) fNil)))))
noncomputable def g_reached : List D → R := runF t_reached 1 1
noncomputable def t_comes : SF := (seqS (asgS 1 (fFz (callF g_reached (fCons (fVar 0) fNil)))) (seqS (asgS 2 (lcF 1 [3] (itF true (fVar 0)) (setE 3) (fun _ => some true) (fLst fNil))) (seqS (forS (itR1 (bind1 (fVar 0) gLen)) (setE 3) (ifS (asB (bind2 (bind2 (fVar 1) (fVar 3) gIx) (fC .non) gIsNot)) (forS (itF false (bind2 (fVar 0) (fVar 3) gIx)) (setE 4) (appS1 2 (fVar 4) (fVar 3))) nilS)) (retM 2))))
noncomputable def g_comes : List D → R := runF t_comes 5 1
noncomputable def t__law_reached : SF := (seqS (asgS 2 fDk) (seqS (ifS (asB (bind2 (fVar 1) (fC (.int 0)) gNe)) (setS 2 (fC (.int 0)) (fC (.bl true))) nilS) (seqS (asgS 3 (bind1 (fVar 2) gList)) (seqS (whileS (asB (bind2 (fVar 3) (fLst fNil) gNe)) (seqS (popS 3 4) (forS (itF false (bind2 (fVar 0) (fVar 4) gIx)) (setE 5) (ifS (fAnd (asB (bind2 (fVar 5) (fVar 1) gNe)) (asB (bind2 (fVar 5) (fVar 2) gNotIn))) (seqS (setS 2 (fVar 5) (fC (.bl true))) (appS 3 (fVar 5))) nilS)))) (retM 2)))))
noncomputable def g__law_reached : List D → R := runF t__law_reached 6 2
noncomputable def t__law_whole : SF := (retS (fAndV (bind1 (fVar 0) (gIsi "int")) (fNotV (bind1 (fVar 0) (gIsi "bool")))))
noncomputable def g__law_whole : List D → R := runF t__law_whole 1 1
noncomputable def t__law_is_way : SF := (seqS (ifS (fOr (fNot (fTru (bind1 (fVar 1) (gIsi "list")))) (fOr (asB (bind2 (fVar 1) (fLst fNil) gEq)) (fOr (asB (bind2 (bind2 (fVar 1) (fC (.int 0)) gIx) (fC (.int 0)) gNe)) (asB (bind2 (bind2 (fVar 1) (fNeg (fC (.int 1))) gIx) (fVar 2) gNe))))) (retS (fC (.bl false))) nilS) (seqS (ifS (fNot (fTru (bind1 (lcF 0 [4] (itF true (fVar 1)) (setE 4) (fun _ => some true) (callF g__law_whole (fCons (fVar 4) fNil))) (gAll fun bs => bs.all id)))) (retS (fC (.bl false))) nilS) (seqS (forS (itR2 (fC (.int 1)) (bind1 (fVar 1) gLen)) (setE 3) (ifS (asB (bind2 (bind2 (fVar 1) (fVar 3) gIx) (bind2 (fVar 0) (bind2 (fVar 1) (bind2 (fVar 3) (fC (.int 1)) gSub) gIx) gIx) gNotIn)) (retS (fC (.bl false))) nilS)) (retS (fC (.bl true))))))
noncomputable def g__law_is_way : List D → R := runF t__law_is_way 5 3
noncomputable def t_law : SF := (seqS (asgS 1 (fFz (callF g__law_ways_by (fCons (fVar 0) fNil)))) (seqS (fzS 2 (asgS 2 (lcF 0 [9] (itF true (fVar 1)) (setE 9) (fun _ => some true) (bind1 (fVar 9) gList)))) (seqS (asgS 3 (fRaise 2 (callF g_reached (fCons (fVar 2) fNil)))) (seqS (asgS 4 (fRaise 2 (callF g_comes (fCons (fVar 2) fNil)))) (seqS (ifS (fOr (fNot (fTru (bind1 (fVar 3) (gIsi "list")))) (fOr (asB (bind2 (bind1 (fVar 3) gLen) (bind1 (fVar 1) gLen) gNe)) (asB (bind2 (fVar 2) (fVar 1) gNe)))) (retS (fC (.bl false))) nilS) (seqS (asgS 5 (fFz (callF g__law_reached (fCons (fVar 1) (fCons (fC .non) fNil))))) (seqS (asgS 6 (lcF 1 [7] (itF true (fVar 1)) (setE 7) (fun _ => some true) (fLst fNil))) (seqS (forS (itR1 (bind1 (fVar 1) gLen)) (setE 7) (seqS (ifS (asB (bind2 (bind2 (bind2 (fVar 3) (fVar 7) gIx) (fC .non) gIsNot) (bind2 (fVar 7) (fVar 5) gIn) gNe)) (retS (fC (.bl false))) nilS) (ifS (asB (bind2 (fVar 7) (fVar 5) gIn)) (seqS (ifS (fNot (fTru (callF g__law_is_way (fCons (fVar 1) (fCons (bind2 (fVar 3) (fVar 7) gIx) (fCons (fVar 7) fNil)))))) (retS (fC (.bl false))) nilS) (forS (itF false (bind2 (fVar 1) (fVar 7) gIx)) (setE 8) (appS1 6 (fVar 8) (fVar 7)))) nilS))) (seqS (forS (itF false (bind1 (fVar 5) gList)) (setE 7) (forS (itF false (bind2 (fVar 1) (fVar 7) gIx)) (setE 8) (ifS (asB (bind2 (bind1 (bind2 (fVar 3) (fVar 8) gIx) gLen) (bind2 (bind1 (bind2 (fVar 3) (fVar 7) gIx) gLen) (fC (.int 1)) gAdd) gGt)) (retS (fC (.bl false))) nilS))) (fun env => (seqS (ifS (fOr (fNot (fTru (bind1 (fVar 4) (gIsi "list")))) (fOr (asB (bind2 (fVar 4) (fVar 6) gNe)) (fNot (fTru (fBor (bind1 (lcF 0 [9] (itF true (fVar 4)) (setE 9) (fun _ => some true) (bind1 (fVar 9) (gIsi "list"))) (gAll fun bs => bs.all id))))))) (retS (fC (.bl false))) nilS) (seqS (forIf 9 (itF false (fVar 4)) (fNot (fTru (bind1 (lcF 0 [7] (itF true (fVar 9)) (setE 7) (fun _ => some true) (callF g__law_whole (fCons (fVar 7) fNil))) (gAll fun bs => bs.all id))))) (seqS (forS (itR1 (bind1 (fVar 1) gLen)) (setE 7) (seqS (appS1 4 (fVar 7) (bind2 (fC (.int 1000)) (fVar 7) gAdd)) (ifS (asB (bind2 (bind2 (fVar 3) (fVar 7) gIx) (fC .non) gIsNot)) (appS1 3 (fVar 7) (bind2 (fC (.int 1000)) (fVar 7) gAdd)) nilS))) (fun env => (fun env => (seqS (forS (itR1 (bind1 (fVar 1) gLen)) (setE 7) (seqS (ifS (asB (bind2 (bind2 (fVar 4) (fVar 7) gIx) (bind2 (bind2 (fVar 6) (fVar 7) gIx) (fLst (fCons (bind2 (fC (.int 1000)) (fVar 7) gAdd) fNil)) gAdd) gNe)) (retS (fC (.bl false))) nilS) (ifS (fAnd (asB (bind2 (bind2 (fVar 3) (fVar 7) gIx) (fC .non) gIsNot)) (asB (bind2 (bind2 (bind2 (fVar 3) (fVar 7) gIx) (bind2 (fC (.int 1000)) (fVar 7) gAdd) gIdx) (bind2 (bind1 (bind2 (fVar 3) (fVar 7) gIx) gLen) (fC (.int 1)) gSub) gNe))) (retS (fC (.bl false))) nilS))) (fun env => (retS (fAndV (bind2 (bind2 (callF g_reached (fCons (fVar 2) fNil)) (fC (.int 0)) gIx) (fLst (fCons (fC (.int 0)) fNil)) gEq) (fAndV (bind2 (callF g_comes (fCons (fVar 2) fNil)) (fVar 6) gEq) (bind2 (fVar 2) (fVar 1) gEq)))) (frzE 6 env))) (frzE 3 env)) (frzE 4 env))))) (frzE 6 env)))))))))))
noncomputable def g_law : List D → R := runF t_law 10 1
/-! ### the text keeps it -/
structure Txt (mg : Str → Option Value) : Prop where
  b_all : mg "all" = none
  b_bool : mg "bool" = none
  b_int : mg "int" = none
  b_isinstance : mg "isinstance" = none
  b_len : mg "len" = none
  b_list : mg "list" = none
  b_range : mg "range" = none
section
variable {P : Program} {w : World} {K : PySem.W.Frag} {mg : Str → Option Value} {base : Heap}
theorem ok__law_cell_at {f : Addr} {fd : FuncData} (F : Fun K "_law_cell_at" "_law_cell_at" s__law_cell_at f fd) (T : Txt mg) : FnOk P w K mg base CX0 1 f fd ["script", "k"] (spV K g__law_cell_at) :=
  ok_of F sc__law_cell_at fun cdv A outer s' H E hr => (as_cons (as_if (at_cmp op_lt o_lt (av 1) (a_b1 call_lenA c_len T.b_len (by decide +kernel) (av 0))) (as_one (as_ret (a_ix (hu1 hr) (av 0) (av 1)))) as_nil) (as_one (as_ret a_int)))
theorem ok__law_ways_by {f : Addr} {fd : FuncData} (F : Fun K "_law_ways_by" "_law_ways_by" s__law_ways_by f fd) (T : Txt mg) (d__law_cell_at : Def P w K mg base "_law_cell_at" 1 g__law_cell_at) : FnOk P w K mg base CX0 2 f fd ["script"] (spV K g__law_ways_by) :=
  ok_of F sc__law_ways_by fun cdv A outer s' H E hr => (as_cons (as_set (i := 1) sc__law_ways_by.nd (a_fz (a_op op_addA o_add a_int (a_op op_modN o_mod (a_callD d__law_cell_at hr (aa_cons (av 0) (aa_cons a_int aa_nil))) a_int)))) (as_cons (as_if (at_cmp (op_eqA (hu64 hr)) o_eq (a_op op_modN o_mod (a_op op_fdivA o_fdiv (a_callD d__law_cell_at hr (aa_cons (av 0) (aa_cons a_int aa_nil))) a_int) a_int) a_int) (as_one (as_set (i := 1) sc__law_ways_by.nd (a_fz (a_op op_addA o_add a_int (a_op op_modN o_mod (a_op op_fdivA o_fdiv (a_callD d__law_cell_at hr (aa_cons (av 0) (aa_cons a_int aa_nil))) a_int) a_int))))) as_nil) (as_cons (as_if (at_cmp (op_eqA (hu64 hr)) o_eq (a_op op_modN o_mod (a_op op_fdivA o_fdiv (a_callD d__law_cell_at hr (aa_cons (av 0) (aa_cons a_int aa_nil))) a_int) a_int) a_int) (as_one (as_set (i := 1) sc__law_ways_by.nd (a_fz (a_op op_addA o_add a_int (a_op op_modN o_mod (a_op op_fdivA o_fdiv (a_callD d__law_cell_at hr (aa_cons (av 0) (aa_cons a_int aa_nil))) a_int) a_int))))) as_nil) (as_cons (as_set (i := 2) sc__law_ways_by.nd (a_fz (a_op op_modN o_mod (a_callD d__law_cell_at hr (aa_cons (av 0) (aa_cons a_int aa_nil))) a_int))) (as_cons (as_set (i := 3) sc__law_ways_by.nd (a_lst aa_nil)) (as_cons (as_for PassesOwn.never rfl (i_range1 T.b_range (av 1)) (pg_name (i := 4) sc__law_ways_by.nd rfl (by first | exact .inl rfl | exact .inr rfl)) (sg_name 4) (as_cons (as_set (i := 5) sc__law_ways_by.nd (a_fz (a_op op_modN o_mod (a_op op_mulA o_mul (a_op op_addA o_add (a_callD d__law_cell_at hr (aa_cons (av 0) (aa_cons (a_op op_addA o_add a_int (av 4)) aa_nil))) (a_op op_mulA o_mul a_int (av 4))) a_int) a_int))) (as_cons (as_set (i := 6) sc__law_ways_by.nd (a_lst aa_nil)) (as_cons (as_for PassesOwn.never rfl (i_range1 T.b_range (a_ix (hu1 hr) (a_lst (aa_cons a_int (aa_cons a_int (aa_cons a_int (aa_cons a_int (aa_cons a_int (aa_cons a_int (aa_cons a_int aa_nil)))))))) (a_op op_modN o_mod (av 5) a_int))) (pg_name (i := 7) sc__law_ways_by.nd rfl (by first | exact .inl rfl | exact .inr rfl)) (sg_name 7) (as_cons (as_set (i := 8) sc__law_ways_by.nd (a_fz (a_op op_modN o_mod (a_op op_fdivA o_fdiv (a_op op_fdivA o_fdiv (av 5) a_int) (a_op op_addA o_add a_int (a_op op_mulA o_mul a_int (av 7)))) (av 1)))) (as_cons (as_if (at_cmp (op_eqA (hu64 hr)) o_eq (av 2) a_int) (as_one (as_set (i := 8) sc__law_ways_by.nd (a_fz (a_op op_modN o_mod (a_op op_addA o_add (a_op op_addA o_add (av 4) a_int) (a_op op_modN o_mod (a_op op_fdivA o_fdiv (a_op op_fdivA o_fdiv (av 5) a_int) (a_op op_addA o_add a_int (a_op op_mulA o_mul a_int (av 7)))) a_int)) (av 1))))) as_nil) (as_one (as_app 6 (av 8) (pv 6)))))) (as_frz 6 (as_one (as_app 3 (av 6) (pv 3)))))))) (as_one (as_retM 3))))))))
theorem ok_ways_from {f : Addr} {fd : FuncData} (F : Fun K "ways_from" "ways_from" s_ways_from f fd) (T : Txt mg) : FnOk P w K mg base CX0 1 f fd ["ways", "start", "shut"] (spV K g_ways_from) :=
  ok_of F sc_ways_from fun cdv A outer s' H E hr => (as_cons (as_setLc (i := 3) 1 rfl sc_ways_from.nd (sw_true rfl rfl rfl (by decide +kernel)) (i_any (av 0)) (blkOk_by (own := [("block", 6)]) (N := N_ways_from) (sc := defScope s_ways_from) (by decide +kernel)) (fun _ _ _ _ _ => (pg_name (i := 6) sc_ways_from.nd rfl (by first | exact .inl rfl | exact .inr rfl))) (sg_name 6) (fun _ _ _ _ _ => ats_nil) (fun _ _ _ _ _ => a_non)) (as_cons (as_if (at_cmp (op_eqA (hu64 hr)) o_eq (av 1) (av 2)) (as_one (as_retM 3)) as_nil) (as_cons (as_setI 3 (hu1 hr) (av 1) (a_lst (aa_cons (av 1) aa_nil)) (pv 3)) (as_cons (as_set (i := 4) sc_ways_from.nd (a_lst (aa_cons (av 1) aa_nil))) (as_cons (as_set (i := 5) sc_ways_from.nd (a_fz a_int)) (as_cons (as_while PassesOwn.never (at_cmp op_lt o_lt (av 5) (a_b1 call_lenA c_len T.b_len (by decide +kernel) (av 4))) (as_cons (as_set (i := 6) sc_ways_from.nd (a_fz (a_ix (hu1 hr) (av 4) (av 5)))) (as_cons (as_for PassesOwn.never rfl (i_any (a_ix (hu1 hr) (av 0) (av 6))) (pg_name (i := 7) sc_ways_from.nd rfl (by first | exact .inl rfl | exact .inr rfl)) (sg_name 7) (as_one (as_if (PW.pt (aw_and (at_cmp (op_neA (hu64 hr)) o_ne (av 7) (av 2)) (aw_and1 (at_cmp op_isA o_is (a_ix (hu1 hr) (av 3) (av 7)) a_non)))) (as_cons (as_setI 3 (hu1 hr) (av 7) (a_op op_addA o_add (a_ix (hu1 hr) (av 3) (av 6)) (a_lst (aa_cons (av 7) aa_nil))) (pv 3)) (as_one (as_app 4 (av 7) (pv 4)))) as_nil))) (as_one (as_set (i := 5) sc_ways_from.nd (a_fz (a_op op_addA o_add (av 5) a_int))))))) (as_one (as_retM 3))))))))
theorem ok_reached {f : Addr} {fd : FuncData} (F : Fun K "reached" "reached" s_reached f fd) (T : Txt mg) (d_ways_from : Def P w K mg base "ways_from" 1 g_ways_from) : FnOk P w K mg base CX0 2 f fd ["ways"] (spV K g_reached) :=
  ok_of F sc_reached fun cdv A outer s' H E hr => (as_one (as_ret (a_callD d_ways_from hr (aa_cons (av 0) (aa_cons a_int (aa_cons a_non aa_nil))))))
theorem ok_comes {f : Addr} {fd : FuncData} (F : Fun K "comes" "comes" s_comes f fd) (T : Txt mg) (d_reached : Def P w K mg base "reached" 2 g_reached) : FnOk P w K mg base CX0 3 f fd ["ways"] (spV K g_comes) :=
  ok_of F sc_comes fun cdv A outer s' H E hr => (as_cons (as_set (i := 1) sc_comes.nd (a_fz (a_callD d_reached hr (aa_cons (av 0) aa_nil)))) (as_cons (as_setLc (i := 2) 1 rfl sc_comes.nd (sw_true rfl rfl rfl (by decide +kernel)) (i_any (av 0)) (blkOk_by (own := [("block", 3)]) (N := N_comes) (sc := defScope s_comes) (by decide +kernel)) (fun _ _ _ _ _ => (pg_name (i := 3) sc_comes.nd rfl (by first | exact .inl rfl | exact .inr rfl))) (sg_name 3) (fun _ _ _ _ _ => ats_nil) (fun _ _ _ _ _ => (a_lst aa_nil))) (as_cons (as_for PassesOwn.never rfl (i_range1 T.b_range (a_b1 call_lenA c_len T.b_len (by decide +kernel) (av 0))) (pg_name (i := 3) sc_comes.nd rfl (by first | exact .inl rfl | exact .inr rfl)) (sg_name 3) (as_one (as_if (at_cmp op_isnotA o_isnot (a_ix (hu1 hr) (av 1) (av 3)) a_non) (as_one (as_for PassesOwn.never rfl (i_any (a_ix (hu1 hr) (av 0) (av 3))) (pg_name (i := 4) sc_comes.nd rfl (by first | exact .inl rfl | exact .inr rfl)) (sg_name 4) (as_one (as_app1 2 (hu1 hr) (av 4) (av 3) (pv 2))))) as_nil))) (as_one (as_retM 2)))))
theorem ok__law_reached {f : Addr} {fd : FuncData} (F : Fun K "_law_reached" "_law_reached" s__law_reached f fd) (T : Txt mg) : FnOk P w K mg base CX0 1 f fd ["ways", "shut"] (spV K g__law_reached) :=
  ok_of F sc__law_reached fun cdv A outer s' H E hr => (as_cons (as_set (i := 2) sc__law_reached.nd a_dk) (as_cons (as_if (at_cmp (op_neA (hu64 hr)) o_ne (av 1) a_int) (as_one (as_setI 2 (hu1 hr) a_int a_bl (pv 2))) as_nil) (as_cons (as_set (i := 3) sc__law_reached.nd (a_t1 (call_listA rfl) c_list T.b_list (by decide +kernel) (av 2))) (as_cons (as_while PassesOwn.never (at_cmp (op_neA (hu64 hr)) o_ne (av 3) (a_lst aa_nil)) (as_cons (as_pop 3 4 sc__law_reached.nd (pv 3)) (as_one (as_for PassesOwn.never rfl (i_any (a_ix (hu1 hr) (av 0) (av 4))) (pg_name (i := 5) sc__law_reached.nd rfl (by first | exact .inl rfl | exact .inr rfl)) (sg_name 5) (as_one (as_if (PW.pt (aw_and (at_cmp (op_neA (hu64 hr)) o_ne (av 5) (av 1)) (aw_and1 (at_cmp (op_notInA (hu65 hr)) o_notIn (av 5) (av 2))))) (as_cons (as_setI 2 (hu1 hr) (av 5) a_bl (pv 2)) (as_one (as_app 3 (av 5) (pv 3)))) as_nil)))))) (as_one (as_retM 2))))))
theorem ok__law_whole {f : Addr} {fd : FuncData} (F : Fun K "_law_whole" "_law_whole" s__law_whole f fd) (T : Txt mg) : FnOk P w K mg base CX0 1 f fd ["found"] (spV K g__law_whole) :=
  ok_of F sc__law_whole fun cdv A outer s' H E hr => (as_one (as_ret (a_and (a_isi T.b_isinstance T.b_int (by decide +kernel) (av 0)) (a_one (a_not (a_isi T.b_isinstance T.b_bool (by decide +kernel) (av 0)))))))
theorem ok__law_is_way {f : Addr} {fd : FuncData} (F : Fun K "_law_is_way" "_law_is_way" s__law_is_way f fd) (T : Txt mg) (d__law_whole : Def P w K mg base "_law_whole" 1 g__law_whole) : FnOk P w K mg base CX0 2 f fd ["ways", "found", "block"] (spV K g__law_is_way) :=
  ok_of F sc__law_is_way fun cdv A outer s' H E hr => (as_cons (as_if (PW.pt (aw_or (at_not (at_tru (a_isi T.b_isinstance T.b_list (by decide +kernel) (av 1)))) (aw_or (at_cmp (op_eqA (hu64 hr)) o_eq (av 1) (a_lst aa_nil)) (aw_or (at_cmp (op_neA (hu64 hr)) o_ne (a_ix (hu1 hr) (av 1) a_int) a_int) (aw_or1 (at_cmp (op_neA (hu64 hr)) o_ne (a_ix (hu1 hr) (av 1) (a_neg a_int)) (av 2))))))) (as_one (as_ret a_bl)) as_nil) (as_cons (as_if (at_not (at_tru (a_b1 (cr_all rfl) c_all T.b_all (by decide +kernel) (a_lc 0 rfl sc__law_is_way.nd (i_any (av 1)) (blkOk_by (own := [("one", 4)]) (N := N__law_is_way) (sc := defScope s__law_is_way) (by decide +kernel)) (fun _ _ _ _ _ => (pg_name (i := 4) sc__law_is_way.nd rfl (by first | exact .inl rfl | exact .inr rfl))) (sg_name 4) (fun _ _ _ _ _ => ats_nil) (fun _ _ _ _ _ => (a_callD d__law_whole hr (aa_cons (av 4) aa_nil))))))) (as_one (as_ret a_bl)) as_nil) (as_cons (as_for PassesOwn.never rfl (i_range2 T.b_range a_int (a_b1 call_lenA c_len T.b_len (by decide +kernel) (av 1))) (pg_name (i := 3) sc__law_is_way.nd rfl (by first | exact .inl rfl | exact .inr rfl)) (sg_name 3) (as_one (as_if (at_cmp (op_notInA (hu65 hr)) o_notIn (a_ix (hu1 hr) (av 1) (av 3)) (a_ix (hu1 hr) (av 0) (a_ix (hu1 hr) (av 1) (a_op op_sub o_sub (av 3) a_int)))) (as_one (as_ret a_bl)) as_nil))) (as_one (as_ret a_bl)))))
theorem ok_law {f : Addr} {fd : FuncData} (F : Fun K "law" "law" s_law f fd) (T : Txt mg) (d__law_ways_by : Def P w K mg base "_law_ways_by" 2 g__law_ways_by) (d_reached : Def P w K mg base "reached" 2 g_reached) (d_comes : Def P w K mg base "comes" 3 g_comes) (d__law_reached : Def P w K mg base "_law_reached" 1 g__law_reached) (d__law_is_way : Def P w K mg base "_law_is_way" 2 g__law_is_way) (d__law_whole : Def P w K mg base "_law_whole" 1 g__law_whole) : FnOk P w K mg base CX0 4 f fd ["script"] (spV K g_law) :=
  ok_of F sc_law fun cdv A outer s' H E hr => (as_cons (as_set (i := 1) sc_law.nd (a_fz (a_callD d__law_ways_by hr (aa_cons (av 0) aa_nil)))) (as_cons (as_frzS 2 (as_setLc (i := 2) 0 rfl sc_law.nd (sw_true rfl rfl rfl (by decide +kernel)) (i_any (av 1)) (blkOk_by (own := [("one", 9)]) (N := N_law) (sc := defScope s_law) (by decide +kernel)) (fun _ _ _ _ _ => (pg_name (i := 9) sc_law.nd rfl (by first | exact .inl rfl | exact .inr rfl))) (sg_name 9) (fun _ _ _ _ _ => ats_nil) (fun _ _ _ _ _ => (a_t1 (call_listA rfl) c_list T.b_list (by decide +kernel) (av 9))))) (as_cons (as_set (i := 3) sc_law.nd (a_raise 2 (a_callD d_reached hr (aa_cons (av 2) aa_nil)))) (as_cons (as_set (i := 4) sc_law.nd (a_raise 2 (a_callD d_comes hr (aa_cons (av 2) aa_nil)))) (as_cons (as_if (PW.pt (aw_or (at_not (at_tru (a_isi T.b_isinstance T.b_list (by decide +kernel) (av 3)))) (aw_or (at_cmp (op_neA (hu64 hr)) o_ne (a_b1 call_lenA c_len T.b_len (by decide +kernel) (av 3)) (a_b1 call_lenA c_len T.b_len (by decide +kernel) (av 1))) (aw_or1 (at_cmp (op_neA (hu64 hr)) o_ne (av 2) (av 1)))))) (as_one (as_ret a_bl)) as_nil) (as_cons (as_set (i := 5) sc_law.nd (a_fz (a_callD d__law_reached hr (aa_cons (av 1) (aa_cons a_non aa_nil))))) (as_cons (as_setLc (i := 6) 1 rfl sc_law.nd (sw_true rfl rfl rfl (by decide +kernel)) (i_any (av 1)) (blkOk_by (own := [("block", 7)]) (N := N_law) (sc := defScope s_law) (by decide +kernel)) (fun _ _ _ _ _ => (pg_name (i := 7) sc_law.nd rfl (by first | exact .inl rfl | exact .inr rfl))) (sg_name 7) (fun _ _ _ _ _ => ats_nil) (fun _ _ _ _ _ => (a_lst aa_nil))) (as_cons (as_for PassesOwn.never rfl (i_range1 T.b_range (a_b1 call_lenA c_len T.b_len (by decide +kernel) (av 1))) (pg_name (i := 7) sc_law.nd rfl (by first | exact .inl rfl | exact .inr rfl)) (sg_name 7) (as_cons (as_if (at_cmp (op_neA (hu64 hr)) o_ne (a_cmp op_isnotA o_isnot (a_ix (hu1 hr) (av 3) (av 7)) a_non) (a_cmp (op_inA (hu65 hr)) o_in (av 7) (av 5))) (as_one (as_ret a_bl)) as_nil) (as_one (as_if (at_cmp (op_inA (hu65 hr)) o_in (av 7) (av 5)) (as_cons (as_if (at_not (at_tru (a_callD d__law_is_way hr (aa_cons (av 1) (aa_cons (a_ix (hu1 hr) (av 3) (av 7)) (aa_cons (av 7) aa_nil)))))) (as_one (as_ret a_bl)) as_nil) (as_one (as_for PassesOwn.never rfl (i_any (a_ix (hu1 hr) (av 1) (av 7))) (pg_name (i := 8) sc_law.nd rfl (by first | exact .inl rfl | exact .inr rfl)) (sg_name 8) (as_one (as_app1 6 (hu1 hr) (av 8) (av 7) (pv 6)))))) as_nil)))) (as_cons (as_for PassesOwn.never rfl (i_any (a_t1 (call_listA rfl) c_list T.b_list (by decide +kernel) (av 5))) (pg_name (i := 7) sc_law.nd rfl (by first | exact .inl rfl | exact .inr rfl)) (sg_name 7) (as_one (as_for PassesOwn.never rfl (i_any (a_ix (hu1 hr) (av 1) (av 7))) (pg_name (i := 8) sc_law.nd rfl (by first | exact .inl rfl | exact .inr rfl)) (sg_name 8) (as_one (as_if (at_cmp op_gt o_gt (a_b1 call_lenA c_len T.b_len (by decide +kernel) (a_ix (hu1 hr) (av 3) (av 8))) (a_op op_addA o_add (a_b1 call_lenA c_len T.b_len (by decide +kernel) (a_ix (hu1 hr) (av 3) (av 7))) a_int)) (as_one (as_ret a_bl)) as_nil))))) (as_frz 6 (as_cons (as_if (PW.pt (aw_or (at_not (at_tru (a_isi T.b_isinstance T.b_list (by decide +kernel) (av 4)))) (aw_or (at_cmp (op_neA (hu64 hr)) o_ne (av 4) (av 6)) (aw_or1 (at_not (at_tru (a_bor (a_b1 (cr_all rfl) c_all T.b_all (by decide +kernel) (a_lc 0 rfl sc_law.nd (i_any (av 4)) (blkOk_by (own := [("one", 9)]) (N := N_law) (sc := defScope s_law) (by decide +kernel)) (fun _ _ _ _ _ => (pg_name (i := 9) sc_law.nd rfl (by first | exact .inl rfl | exact .inr rfl))) (sg_name 9) (fun _ _ _ _ _ => ats_nil) (fun _ _ _ _ _ => (a_isi T.b_isinstance T.b_list (by decide +kernel) (av 9)))))))))))) (as_one (as_ret a_bl)) as_nil) (as_cons (as_forIf PassesOwn.never rfl (i_any (av 4)) (pg_name (i := 9) sc_law.nd rfl (by first | exact .inl rfl | exact .inr rfl)) (at_not (at_tru (a_b1 (cr_all rfl) c_all T.b_all (by decide +kernel) (a_lc 0 rfl sc_law.nd (i_any (av 9)) (blkOk_by (own := [("block", 7)]) (N := N_law) (sc := defScope s_law) (by decide +kernel)) (fun _ _ _ _ _ => (pg_name (i := 7) sc_law.nd rfl (by first | exact .inl rfl | exact .inr rfl))) (sg_name 7) (fun _ _ _ _ _ => ats_nil) (fun _ _ _ _ _ => (a_callD d__law_whole hr (aa_cons (av 7) aa_nil)))))))) (as_cons (as_for PassesOwn.never rfl (i_range1 T.b_range (a_b1 call_lenA c_len T.b_len (by decide +kernel) (av 1))) (pg_name (i := 7) sc_law.nd rfl (by first | exact .inl rfl | exact .inr rfl)) (sg_name 7) (as_cons (as_app1 4 (hu1 hr) (av 7) (a_op op_addA o_add a_int (av 7)) (pv 4)) (as_one (as_if (at_cmp op_isnotA o_isnot (a_ix (hu1 hr) (av 3) (av 7)) a_non) (as_one (as_app1 3 (hu1 hr) (av 7) (a_op op_addA o_add a_int (av 7)) (pv 3))) as_nil)))) (as_frz 4 (as_frz 3 (as_cons (as_for PassesOwn.never rfl (i_range1 T.b_range (a_b1 call_lenA c_len T.b_len (by decide +kernel) (av 1))) (pg_name (i := 7) sc_law.nd rfl (by first | exact .inl rfl | exact .inr rfl)) (sg_name 7) (as_cons (as_if (at_cmp (op_neA (hu64 hr)) o_ne (a_ix (hu1 hr) (av 4) (av 7)) (a_op op_addA o_add (a_ix (hu1 hr) (av 6) (av 7)) (a_lst (aa_cons (a_op op_addA o_add a_int (av 7)) aa_nil)))) (as_one (as_ret a_bl)) as_nil) (as_one (as_if (PW.pt (aw_and (at_cmp op_isnotA o_isnot (a_ix (hu1 hr) (av 3) (av 7)) a_non) (aw_and1 (at_cmp (op_neA (hu64 hr)) o_ne (a_index (a_ix (hu1 hr) (av 3) (av 7)) (a_op op_addA o_add a_int (av 7))) (a_op op_sub o_sub (a_b1 call_lenA c_len T.b_len (by decide +kernel) (a_ix (hu1 hr) (av 3) (av 7))) a_int))))) (as_one (as_ret a_bl)) as_nil)))) (as_frz 6 (as_one (as_ret (a_and (a_cmp (op_eqA (hu64 hr)) o_eq (a_ix (hu1 hr) (a_callD d_reached hr (aa_cons (av 2) aa_nil)) a_int) (a_lst (aa_cons a_int aa_nil))) (a_and (a_cmp (op_eqA (hu64 hr)) o_eq (a_callD d_comes hr (aa_cons (av 2) aa_nil)) (av 6)) (a_one (a_cmp (op_eqA (hu64 hr)) o_eq (av 2) (av 1))))))))))))))))))))))))
end
/-! ### what the top has written; the law -/
theorem all_mk {l : PySem.W.OpenLaw} {w : World} {K : PySem.W.Frag} {h : Heap} {mg : Str → Option Value} {fa f__law_cell_at f__law_ways_by f_ways_from f_reached f_comes f__law_reached f__law_whole f__law_is_way f_law : Addr} (X : K.In h) (G : h.Ns mainGlobals mg) (hfa : mg "law" = some (.ref fa))
    {od__law_cell_at an__law_cell_at : Option Addr} {sl__law_cell_at : Array (Option Value)} {oc__law_cell_at kV__law_cell_at dc__law_cell_at pm__law_cell_at cd__law_cell_at ct__law_cell_at : Value}
    {od__law_ways_by an__law_ways_by : Option Addr} {sl__law_ways_by : Array (Option Value)} {oc__law_ways_by kV__law_ways_by dc__law_ways_by pm__law_ways_by cd__law_ways_by ct__law_ways_by : Value}
    {od_ways_from an_ways_from : Option Addr} {sl_ways_from : Array (Option Value)} {oc_ways_from kV_ways_from dc_ways_from pm_ways_from cd_ways_from ct_ways_from : Value}
    {od_reached an_reached : Option Addr} {sl_reached : Array (Option Value)} {oc_reached kV_reached dc_reached pm_reached cd_reached ct_reached : Value}
    {od_comes an_comes : Option Addr} {sl_comes : Array (Option Value)} {oc_comes kV_comes dc_comes pm_comes cd_comes ct_comes : Value}
    {od__law_reached an__law_reached : Option Addr} {sl__law_reached : Array (Option Value)} {oc__law_reached kV__law_reached dc__law_reached pm__law_reached cd__law_reached ct__law_reached : Value}
    {od__law_whole an__law_whole : Option Addr} {sl__law_whole : Array (Option Value)} {oc__law_whole kV__law_whole dc__law_whole pm__law_whole cd__law_whole ct__law_whole : Value}
    {od__law_is_way an__law_is_way : Option Addr} {sl__law_is_way : Array (Option Value)} {oc__law_is_way kV__law_is_way dc__law_is_way pm__law_is_way cd__law_is_way ct__law_is_way : Value}
    {od_law an_law : Option Addr} {sl_law : Array (Option Value)} {oc_law kV_law dc_law pm_law cd_law ct_law : Value}
    (a__law_cell_at : PySem.W.nsIn K mainGlobals "_law_cell_at" = some (some (.ref f__law_cell_at))) (l__law_cell_at : K.lookup f__law_cell_at = some ⟨oc__law_cell_at, od__law_cell_at, .func (PySem.W.fnOf "_law_cell_at" "_law_cell_at" (defArgs s__law_cell_at) (defBody s__law_cell_at) (defScope s__law_cell_at) .none kV__law_cell_at dc__law_cell_at pm__law_cell_at an__law_cell_at cd__law_cell_at ct__law_cell_at), sl__law_cell_at⟩) (c__law_cell_at : PySem.W.codeIn K cd__law_cell_at "_law_cell_at" = true) (k__law_cell_at : PySem.W.keepIn K (.ref f__law_cell_at) = true)
    (a__law_ways_by : PySem.W.nsIn K mainGlobals "_law_ways_by" = some (some (.ref f__law_ways_by))) (l__law_ways_by : K.lookup f__law_ways_by = some ⟨oc__law_ways_by, od__law_ways_by, .func (PySem.W.fnOf "_law_ways_by" "_law_ways_by" (defArgs s__law_ways_by) (defBody s__law_ways_by) (defScope s__law_ways_by) .none kV__law_ways_by dc__law_ways_by pm__law_ways_by an__law_ways_by cd__law_ways_by ct__law_ways_by), sl__law_ways_by⟩) (c__law_ways_by : PySem.W.codeIn K cd__law_ways_by "_law_ways_by" = true) (k__law_ways_by : PySem.W.keepIn K (.ref f__law_ways_by) = true)
    (a_ways_from : PySem.W.nsIn K mainGlobals "ways_from" = some (some (.ref f_ways_from))) (l_ways_from : K.lookup f_ways_from = some ⟨oc_ways_from, od_ways_from, .func (PySem.W.fnOf "ways_from" "ways_from" (defArgs s_ways_from) (defBody s_ways_from) (defScope s_ways_from) .none kV_ways_from dc_ways_from pm_ways_from an_ways_from cd_ways_from ct_ways_from), sl_ways_from⟩) (c_ways_from : PySem.W.codeIn K cd_ways_from "ways_from" = true) (k_ways_from : PySem.W.keepIn K (.ref f_ways_from) = true)
    (a_reached : PySem.W.nsIn K mainGlobals "reached" = some (some (.ref f_reached))) (l_reached : K.lookup f_reached = some ⟨oc_reached, od_reached, .func (PySem.W.fnOf "reached" "reached" (defArgs s_reached) (defBody s_reached) (defScope s_reached) .none kV_reached dc_reached pm_reached an_reached cd_reached ct_reached), sl_reached⟩) (c_reached : PySem.W.codeIn K cd_reached "reached" = true) (k_reached : PySem.W.keepIn K (.ref f_reached) = true)
    (a_comes : PySem.W.nsIn K mainGlobals "comes" = some (some (.ref f_comes))) (l_comes : K.lookup f_comes = some ⟨oc_comes, od_comes, .func (PySem.W.fnOf "comes" "comes" (defArgs s_comes) (defBody s_comes) (defScope s_comes) .none kV_comes dc_comes pm_comes an_comes cd_comes ct_comes), sl_comes⟩) (c_comes : PySem.W.codeIn K cd_comes "comes" = true) (k_comes : PySem.W.keepIn K (.ref f_comes) = true)
    (a__law_reached : PySem.W.nsIn K mainGlobals "_law_reached" = some (some (.ref f__law_reached))) (l__law_reached : K.lookup f__law_reached = some ⟨oc__law_reached, od__law_reached, .func (PySem.W.fnOf "_law_reached" "_law_reached" (defArgs s__law_reached) (defBody s__law_reached) (defScope s__law_reached) .none kV__law_reached dc__law_reached pm__law_reached an__law_reached cd__law_reached ct__law_reached), sl__law_reached⟩) (c__law_reached : PySem.W.codeIn K cd__law_reached "_law_reached" = true) (k__law_reached : PySem.W.keepIn K (.ref f__law_reached) = true)
    (a__law_whole : PySem.W.nsIn K mainGlobals "_law_whole" = some (some (.ref f__law_whole))) (l__law_whole : K.lookup f__law_whole = some ⟨oc__law_whole, od__law_whole, .func (PySem.W.fnOf "_law_whole" "_law_whole" (defArgs s__law_whole) (defBody s__law_whole) (defScope s__law_whole) .none kV__law_whole dc__law_whole pm__law_whole an__law_whole cd__law_whole ct__law_whole), sl__law_whole⟩) (c__law_whole : PySem.W.codeIn K cd__law_whole "_law_whole" = true) (k__law_whole : PySem.W.keepIn K (.ref f__law_whole) = true)
    (a__law_is_way : PySem.W.nsIn K mainGlobals "_law_is_way" = some (some (.ref f__law_is_way))) (l__law_is_way : K.lookup f__law_is_way = some ⟨oc__law_is_way, od__law_is_way, .func (PySem.W.fnOf "_law_is_way" "_law_is_way" (defArgs s__law_is_way) (defBody s__law_is_way) (defScope s__law_is_way) .none kV__law_is_way dc__law_is_way pm__law_is_way an__law_is_way cd__law_is_way ct__law_is_way), sl__law_is_way⟩) (c__law_is_way : PySem.W.codeIn K cd__law_is_way "_law_is_way" = true) (k__law_is_way : PySem.W.keepIn K (.ref f__law_is_way) = true)
    (a_law : PySem.W.nsIn K mainGlobals "law" = some (some (.ref f_law))) (l_law : K.lookup f_law = some ⟨oc_law, od_law, .func (PySem.W.fnOf "law" "law" (defArgs s_law) (defBody s_law) (defScope s_law) .none kV_law dc_law pm_law an_law cd_law ct_law), sl_law⟩) (c_law : PySem.W.codeIn K cd_law "law" = true) (k_law : PySem.W.keepIn K (.ref f_law) = true)
    (z_all : PySem.W.nsIn K mainGlobals "all" = some none)
    (z_bool : PySem.W.nsIn K mainGlobals "bool" = some none)
    (z_int : PySem.W.nsIn K mainGlobals "int" = some none)
    (z_isinstance : PySem.W.nsIn K mainGlobals "isinstance" = some none)
    (z_len : PySem.W.nsIn K mainGlobals "len" = some none)
    (z_list : PySem.W.nsIn K mainGlobals "list" = some none)
    (z_range : PySem.W.nsIn K mainGlobals "range" = some none)
    : ∃ fd : FuncData, (∀ (s : Shared) (v : Value), BindsTo s fd ⟨[v], []⟩ [("script", v)]) ∧ ∀ base : Heap, K.In base → base.Ns mainGlobals mg → FnOk l.prog w K mg base CX0 4 fa fd ["script"] (spV K g_law) := by
  have e := hfa.symm.trans (PySem.W.mg_of X G a_law)
  cases e
  have T : Txt mg := ⟨PySem.W.mg_none_of X G z_all, PySem.W.mg_none_of X G z_bool, PySem.W.mg_none_of X G z_int, PySem.W.mg_none_of X G z_isinstance, PySem.W.mg_none_of X G z_len, PySem.W.mg_none_of X G z_list, PySem.W.mg_none_of X G z_range⟩
  have F__law_cell_at := fun_mk (st := s__law_cell_at) l__law_cell_at c__law_cell_at k__law_cell_at
  have F__law_ways_by := fun_mk (st := s__law_ways_by) l__law_ways_by c__law_ways_by k__law_ways_by
  have F_ways_from := fun_mk (st := s_ways_from) l_ways_from c_ways_from k_ways_from
  have F_reached := fun_mk (st := s_reached) l_reached c_reached k_reached
  have F_comes := fun_mk (st := s_comes) l_comes c_comes k_comes
  have F__law_reached := fun_mk (st := s__law_reached) l__law_reached c__law_reached k__law_reached
  have F__law_whole := fun_mk (st := s__law_whole) l__law_whole c__law_whole k__law_whole
  have F__law_is_way := fun_mk (st := s__law_is_way) l__law_is_way c__law_is_way k__law_is_way
  have F_law := fun_mk (st := s_law) l_law c_law k_law
  refine ⟨PySem.W.fnOf "law" "law" (defArgs s_law) (defBody s_law) (defScope s_law) .none kV_law dc_law pm_law an_law cd_law ct_law, fun s v => .of_eq rfl, fun base _ _ => ?_⟩
  have b__law_cell_at := F__law_cell_at.binds (ps := ["script", "k"]) fun _ _ _ _ _ _ us hl => match us, hl with | [_, _], _ => rfl
  have d__law_cell_at : Def l.prog w K mg base "_law_cell_at" 1 g__law_cell_at := def_mk (ok__law_cell_at F__law_cell_at T) (PySem.W.mg_of X G a__law_cell_at) F__law_cell_at.kp b__law_cell_at
  have b__law_ways_by := F__law_ways_by.binds (ps := ["script"]) fun _ _ _ _ _ _ us hl => match us, hl with | [_], _ => rfl
  have d__law_ways_by : Def l.prog w K mg base "_law_ways_by" 2 g__law_ways_by := def_mk (ok__law_ways_by F__law_ways_by T d__law_cell_at) (PySem.W.mg_of X G a__law_ways_by) F__law_ways_by.kp b__law_ways_by
  have b_ways_from := F_ways_from.binds (ps := ["ways", "start", "shut"]) fun _ _ _ _ _ _ us hl => match us, hl with | [_, _, _], _ => rfl
  have d_ways_from : Def l.prog w K mg base "ways_from" 1 g_ways_from := def_mk (ok_ways_from F_ways_from T) (PySem.W.mg_of X G a_ways_from) F_ways_from.kp b_ways_from
  have b_reached := F_reached.binds (ps := ["ways"]) fun _ _ _ _ _ _ us hl => match us, hl with | [_], _ => rfl
  have d_reached : Def l.prog w K mg base "reached" 2 g_reached := def_mk (ok_reached F_reached T d_ways_from) (PySem.W.mg_of X G a_reached) F_reached.kp b_reached
  have b_comes := F_comes.binds (ps := ["ways"]) fun _ _ _ _ _ _ us hl => match us, hl with | [_], _ => rfl
  have d_comes : Def l.prog w K mg base "comes" 3 g_comes := def_mk (ok_comes F_comes T d_reached) (PySem.W.mg_of X G a_comes) F_comes.kp b_comes
  have b__law_reached := F__law_reached.binds (ps := ["ways", "shut"]) fun _ _ _ _ _ _ us hl => match us, hl with | [_, _], _ => rfl
  have d__law_reached : Def l.prog w K mg base "_law_reached" 1 g__law_reached := def_mk (ok__law_reached F__law_reached T) (PySem.W.mg_of X G a__law_reached) F__law_reached.kp b__law_reached
  have b__law_whole := F__law_whole.binds (ps := ["found"]) fun _ _ _ _ _ _ us hl => match us, hl with | [_], _ => rfl
  have d__law_whole : Def l.prog w K mg base "_law_whole" 1 g__law_whole := def_mk (ok__law_whole F__law_whole T) (PySem.W.mg_of X G a__law_whole) F__law_whole.kp b__law_whole
  have b__law_is_way := F__law_is_way.binds (ps := ["ways", "found", "block"]) fun _ _ _ _ _ _ us hl => match us, hl with | [_, _, _], _ => rfl
  have d__law_is_way : Def l.prog w K mg base "_law_is_way" 2 g__law_is_way := def_mk (ok__law_is_way F__law_is_way T d__law_whole) (PySem.W.mg_of X G a__law_is_way) F__law_is_way.kp b__law_is_way
  exact ok_law F_law T d__law_ways_by d_reached d_comes d__law_reached d__law_is_way d__law_whole
end Lw
namespace Lw
open PySem PySem.Spec PyProof.Rows L2 VL
/-! ### ways -/
theorem range_at {n i : Nat} {d : D} (hd : ((List.range n).map fun (k : Nat) => (.int (k : Int) : D))[i]? = some d) : i < n ∧ d = .int i := by
  rw [List.getElem?_map] at hd
  by_cases h : i < n
  · rw [List.getElem?_range h] at hd
    exact ⟨h, (Option.some.inj hd).symm⟩
  · rw [List.getElem?_eq_none (by simpa using h)] at hd
    cases hd
abbrev Wy := List (List Nat)
def encN (k : Nat) : D := .int (k : Int)
def encK (l : List Nat) : D := .lst (l.map encN)
def encW (W : Wy) : D := .lst (W.map encK)
def encO : Option Nat → D
  | none => .non
  | some k => encN k
def encP : Option (List Nat) → D
  | none => .non
  | some p => encK p
structure okW (W : Wy) : Prop where
  pos : 0 < W.length
  le : W.length ≤ 61
  lt : ∀ l ∈ W, ∀ y ∈ l, y < W.length
  sl : ∀ l ∈ W, l.length ≤ 4
def sucs (W : Wy) (x : Nat) : List Nat := W.getD x []
inductive Rch (W : Wy) (s : Option Nat) : Nat → Prop
  | base : some 0 ≠ s → Rch W s 0
  | step {x y : Nat} : Rch W s x → y ∈ sucs W x → some y ≠ s → Rch W s y
theorem sucs_get {W : Wy} {x : Nat} (h : x < W.length) : W[x]? = some (sucs W x) := by
  unfold sucs
  rw [List.getD_eq_getElem?_getD, List.getElem?_eq_getElem h]
  rfl
theorem sucs_lt {W : Wy} (ok : okW W) {x y : Nat} (h : y ∈ sucs W x) : y < W.length := by
  by_cases hx : x < W.length
  · have := sucs_get hx
    exact ok.lt _ (List.mem_of_getElem? this) y h
  · unfold sucs at h
    rw [List.getD_eq_getElem?_getD, List.getElem?_eq_none (by omega)] at h
    simp at h
theorem Rch.lt {W : Wy} (ok : okW W) {s : Option Nat} {x : Nat} (h : Rch W s x) : x < W.length := by
  cases h with
  | base => exact ok.pos
  | step _ hy _ => exact sucs_lt ok hy
theorem Rch.ne {W : Wy} {s : Option Nat} {x : Nat} (h : Rch W s x) : some x ≠ s := by cases h <;> assumption
theorem Rch.none {W : Wy} {s : Option Nat} {x : Nat} (h : Rch W s x) : Rch W none x := by
  induction h with
  | base => exact .base (by simp)
  | step _ hy _ ih => exact .step ih hy (by simp)
/-- a way that goes round o leads by g or goes round it -/
theorem rch_by {W : Wy} {o g : Nat} (hne : g ≠ o) (hg : Rch W (some o) g) (ho : Rch W (some g) o) {x : Nat} (h : Rch W none x) : Rch W (some o) x ∨ Rch W (some g) x := by
  induction h with
  | base =>
    by_cases h0 : 0 = o
    · right
      exact .base (by simp; omega)
    · left
      exact .base (by simpa using h0)
  | @step x y hx hy hs ih =>
    rcases ih with ih | ih
    · by_cases h0 : y = o
      · subst h0; exact .inr ho
      · exact .inl (.step ih hy (by simpa using h0))
    · by_cases h0 : y = g
      · subst h0; exact .inl hg
      · exact .inr (.step ih hy (by simpa using h0))
theorem rch_or {W : Wy} {s : Option Nat} {g : Nat} {y : Nat} (h : Rch W s y) : Rch W (some g) y ∨ Rch W s g := by
  induction h with
  | base hs =>
    by_cases h0 : 0 = g
    · subst h0; exact .inr (.base hs)
    · exact .inl (.base (by simpa using h0))
  | @step x y hx hy hs ih =>
    rcases ih with ih | ih
    · by_cases h0 : y = g
      · subst h0; exact .inr (.step hx hy hs)
      · exact .inl (.step ih hy (by simpa using h0))
    · exact .inr ih
/-! ### ways_from -/
inductive Pth (W : Wy) : List Nat → Nat → Prop
  | base : Pth W [0] 0
  | step {p : List Nat} {x y : Nat} : Pth W p x → y ∈ sucs W x → Pth W (p ++ [y]) y
def lf (F : List (Option (List Nat))) (x : Nat) : Nat := match F[x]? with
  | some (some p) => p.length
  | _ => 0
theorem lf_of {F : List (Option (List Nat))} {x : Nat} {p : List Nat} (h : F[x]? = some (some p)) : lf F x = p.length := by unfold lf; rw [h]
structure J (W : Wy) (s : Option Nat) (F : List (Option (List Nat))) (Wt : List Nat) : Prop where
  len : F.length = W.length
  mem : ∀ x : Nat, x ∈ Wt ↔ ∃ p, F[x]? = some (some p)
  cnt : Wt.length + F.countP (·.isNone) = W.length
  rch : ∀ x ∈ Wt, Rch W s x
  pl : ∀ (x : Nat) (p : List Nat), F[x]? = some (some p) → p.length ≤ Wt.length
  pth : ∀ (x : Nat) (p : List Nat), F[x]? = some (some p) → Pth W p x
  z0 : ∀ p : List Nat, F[0]? = some (some p) → p = [0]
  z1 : Wt ≠ [] → 0 ∈ Wt
structure So (F : List (Option (List Nat))) (Wt : List Nat) (a : Nat) : Prop where
  so : ∀ (i j x y : Nat), i ≤ j → Wt[i]? = some x → Wt[j]? = some y → lf F x ≤ lf F y
  al : ∀ (x b : Nat), x ∈ Wt → Wt[a]? = some b → lf F x ≤ lf F b + 1
theorem So.next {F : List (Option (List Nat))} {Wt : List Nat} {a : Nat} (h : So F Wt a) (ha : a < Wt.length) : So F Wt (a + 1) where
  so := h.so
  al := fun x b hx hb => by
    have h1 := h.al x _ hx (List.getElem?_eq_getElem ha)
    have h2 := h.so a (a + 1) _ b (Nat.le_succ a) (List.getElem?_eq_getElem ha) hb
    omega
theorem countP_set {F : List (Option (List Nat))} : ∀ {y : Nat} {p : List Nat}, F[y]? = some none → (F.set y (some p)).countP (·.isNone) + 1 = F.countP (·.isNone) := by
  induction F with
  | nil => intro y p h; cases h
  | cons a F ih =>
    intro y p h
    cases y with
    | zero => cases h; simp
    | succ y =>
      have := ih (y := y) (p := p) (by simpa using h)
      rw [List.set_cons_succ, List.countP_cons, List.countP_cons]
      omega
theorem J.add {W : Wy} {s : Option Nat} {F : List (Option (List Nat))} {Wt : List Nat} (j : J W s F Wt) {y : Nat} {p : List Nat} (hy : F[y]? = some none) (hr : Rch W s y) (hp : p.length ≤ Wt.length) (hpp : Pth W (p ++ [y]) y) (hz : y = 0 → p = []) (hz1 : y = 0 ∨ Wt ≠ []) : J W s (F.set y (some (p ++ [y]))) (Wt ++ [y]) where
  len := by rw [List.length_set]; exact j.len
  mem := fun x => by
    have hl : y < F.length := (List.getElem?_eq_some_iff.mp hy).1
    by_cases h : x = y
    · subst h
      simp [List.getElem?_set_self hl]
    · have h' : ¬ y = x := fun e => h e.symm
      rw [List.getElem?_set_ne h', ← j.mem x]
      simp [h]
  cnt := by
    have := countP_set (p := p ++ [y]) hy
    have := j.cnt
    simp only [List.length_append, List.length_singleton]
    omega
  rch := fun x hx => by
    rcases List.mem_append.mp hx with h | h
    · exact j.rch x h
    · rw [List.mem_singleton.mp h]; exact hr
  pl := fun x q hx => by
    have hl : y < F.length := (List.getElem?_eq_some_iff.mp hy).1
    by_cases h : x = y
    · subst h
      rw [List.getElem?_set_self hl] at hx
      cases hx
      simp only [List.length_append, List.length_singleton]
      omega
    · have h' : ¬ y = x := fun e => h e.symm
      rw [List.getElem?_set_ne h'] at hx
      have := j.pl x q hx
      simp only [List.length_append, List.length_singleton]
      omega
  pth := fun x q hx => by
    have hl : y < F.length := (List.getElem?_eq_some_iff.mp hy).1
    by_cases h : x = y
    · subst h
      rw [List.getElem?_set_self hl] at hx
      cases hx
      exact hpp
    · have h' : ¬ y = x := fun e => h e.symm
      rw [List.getElem?_set_ne h'] at hx
      exact j.pth x q hx
  z0 := fun q hx => by
    have hl : y < F.length := (List.getElem?_eq_some_iff.mp hy).1
    by_cases h : y = 0
    · subst h
      rw [List.getElem?_set_self hl] at hx
      cases hx
      rw [hz rfl]
      rfl
    · rw [List.getElem?_set_ne h] at hx
      exact j.z0 q hx
  z1 := fun _ => by
    rcases hz1 with h | h
    · subst h; simp
    · exact List.mem_append_left _ (j.z1 h)
theorem So.add {F : List (Option (List Nat))} {Wt : List Nat} {a b y : Nat} {p : List Nat} (h : So F Wt a) (hb : Wt[a]? = some b) (hp : F[b]? = some (some p)) (hy : F[y]? = some none) (hm : ∀ x ∈ Wt, ∃ p, F[x]? = some (some p)) : So (F.set y (some (p ++ [y]))) (Wt ++ [y]) a := by
  have hl : y < F.length := (List.getElem?_eq_some_iff.mp hy).1
  have al : a < Wt.length := (List.getElem?_eq_some_iff.mp hb).1
  have hold : ∀ x ∈ Wt, lf (F.set y (some (p ++ [y]))) x = lf F x := fun x hx => by
    obtain ⟨q, hq⟩ := hm x hx
    have hne : ¬ y = x := fun e => by
      subst e
      rw [hy] at hq
      cases hq
    unfold lf
    rw [List.getElem?_set_ne hne]
  have hnew : lf (F.set y (some (p ++ [y]))) y = lf F b + 1 := by
    rw [lf_of (List.getElem?_set_self hl), lf_of hp]
    simp
  have hbm : b ∈ Wt := List.mem_of_getElem? hb
  refine ⟨fun i j x z hij hx hz => ?_, fun x b' hx hb' => ?_⟩
  · by_cases hj : j < Wt.length
    · rw [List.getElem?_append_left (by omega)] at hx
      rw [List.getElem?_append_left hj] at hz
      rw [hold x (List.mem_of_getElem? hx), hold z (List.mem_of_getElem? hz)]
      exact h.so i j x z hij hx hz
    · have hzy : z = y := by
        rw [List.getElem?_append_right (by omega)] at hz
        have := List.mem_of_getElem? hz
        simpa using this
      subst hzy
      rw [hnew]
      by_cases hi : i < Wt.length
      · rw [List.getElem?_append_left hi] at hx
        rw [hold x (List.mem_of_getElem? hx)]
        exact h.al x b (List.mem_of_getElem? hx) hb
      · have hxy : x = z := by
          rw [List.getElem?_append_right (by omega)] at hx
          have := List.mem_of_getElem? hx
          simpa using this
        rw [hxy, hnew]
        exact Nat.le_refl _
  · rw [List.getElem?_append_left al, hb] at hb'
    cases hb'
    rw [hold b hbm]
    rcases List.mem_append.mp hx with hx | hx
    · rw [hold x hx]
      exact h.al x b hx hb
    · rw [List.mem_singleton.mp hx, hnew]
      exact Nat.le_refl _
theorem e_ne {y : Nat} {s : Option Nat} {t0 t1 : Tg} : gNe t0 (.int (y : Int)) t1 (encO s) = some (.fz, .bl (decide (some y ≠ s))) := by
  cases s with
  | none => rw [show encO none = D.non from rfl, gNe_d rfl rfl]; rfl
  | some k =>
    show gNe t0 (.int (y : Int)) t1 (.int (k : Int)) = _
    rw [gNe_i]
    by_cases h : y = k <;> simp [h]
    omega
theorem e_eq {y : Nat} {s : Option Nat} {t0 t1 : Tg} : gEq t0 (.int (y : Int)) t1 (encO s) = some (.fz, .bl (decide (some y = s))) := by
  cases s with
  | none => rw [show encO none = D.non from rfl, gEq_d rfl rfl]; rfl
  | some k =>
    show gEq t0 (.int (y : Int)) t1 (.int (k : Int)) = _
    rw [gEq_i]
    by_cases h : y = k <;> simp [h]
    omega
theorem isNon_encP (o : Option (List Nat)) : isNon (encP o) = o.isNone := by cases o <;> rfl
theorem ix_l {t0 t1 : Tg} {xs : List D} {j : Nat} {z : D} (h : xs[j]? = some z) (hl : lvl t0 ≤ 1) : gIx t0 (.lst xs) t1 (.int (j : Int)) = some (.fz, z) := by
  rw [gIx_l, atI_nat h]
  have : lvl t0 = 0 ∨ lvl t0 = 1 := by omega
  rcases this with h | h <;> rw [h] <;> rfl
theorem ix2 {t1 : Tg} {xs : List D} {j : Nat} {z : D} (h : xs[j]? = some z) : gIx (.pk 2) (.lst xs) t1 (.int (j : Int)) = some (if isSc z = true then .fz else .pk 1, z) := by
  rw [gIx_l, atI_nat h]
  rfl
theorem ixN_nat {n j : Nat} (h : j < n) : ixN n (j : Int) = some j := by
  unfold ixN
  rw [if_pos (by omega), if_pos (by omega)]
  simp
theorem set_nx {env : Ev} {fe fk : Ev → R} {i j n : Nat} {t t1 : Tg} {d : D} {ds : List D} (he : fe env = some (t, d)) (hk : fk env = some (t1, .int (j : Int))) (hi : env[i]? = some (some ⟨n + 1, .lst ds⟩)) (ht : okTo t d n = true) (hj : j < ds.length) :
    setS i fk fe env = some (.nx (env.set i (some ⟨n + 1, .lst (ds.set j d)⟩))) := by
  unfold setS
  rw [he, hk, hi]
  simp only [ixN_nat hj, ht, if_true]
theorem and_of {env : Ev} {c t : Ev → Option Bool} {a b : Bool} (h1 : c env = some a) (h2 : a = true → t env = some b) : fAnd c t env = some (a && b) := by
  rw [fAnd_e, h1]
  cases a with
  | true => simpa using h2 rfl
  | false => rfl
theorem or_of {env : Ev} {c t : Ev → Option Bool} {a b : Bool} (h1 : c env = some a) (h2 : a = false → t env = some b) : fOr c t env = some (a || b) := by
  rw [fOr_e, h1]
  cases a with
  | false => simpa using h2 rfl
  | true => rfl
/-- the env of ways_from -/
def eW (W : Wy) (s : Option Nat) (F : List (Option (List Nat))) (Wt : List Nat) (at_ : Nat) (z6 z7 : Option Sl) : Ev :=
  [some ⟨0, encW W⟩, some ⟨0, .int 0⟩, some ⟨0, encO s⟩, some ⟨2, .lst (F.map encP)⟩, some ⟨1, .lst (Wt.map encN)⟩, some ⟨0, .int (at_ : Int)⟩, z6, z7]
def Cl (W : Wy) (s : Option Nat) (F : List (Option (List Nat))) (Wt : List Nat) (at_ : Nat) : Prop := ∀ (i : Nat) (x : Nat), i < at_ → Wt[i]? = some x → ∀ y, y ∈ sucs W x → some y ≠ s → ∃ p, F[y]? = some (some p) ∧ p.length ≤ lf F x + 1
noncomputable def bdyW : SF := ifS (fAnd (asB (bind2 (fVar 7) (fVar 2) gNe)) (asB (bind2 (bind2 (fVar 3) (fVar 7) gIx) (fC .non) gIs))) (seqS (setS 3 (fVar 7) (bind2 (bind2 (fVar 3) (fVar 6) gIx) (fLst (fCons (fVar 7) fNil)) gAdd)) (appS 4 (fVar 7))) nilS
theorem bdy_step {W : Wy} (ok : okW W) {s : Option Nat} {F : List (Option (List Nat))} {Wt : List Nat} {a b y : Nat} (j : J W s F Wt) (so : So F Wt a) (hb : Wt[a]? = some b) (hy : y ∈ sucs W b) :
    ∃ F' Wt', bdyW (eW W s F Wt a (some ⟨0, encN b⟩) (some ⟨0, encN y⟩)) = some (.nx (eW W s F' Wt' a (some ⟨0, encN b⟩) (some ⟨0, encN y⟩))) ∧ J W s F' Wt' ∧ So F' Wt' a ∧ (∀ (x : Nat) (p : List Nat), F[x]? = some (some p) → F'[x]? = some (some p)) ∧ (some y ≠ s → ∃ p, F'[y]? = some (some p) ∧ p.length ≤ lf F' b + 1) ∧ (∃ r, Wt' = Wt ++ r) := by
  have hbm : b ∈ Wt := List.mem_of_getElem? hb
  have hyn := sucs_lt ok hy
  have hyF : y < F.length := by rw [j.len]; exact hyn
  obtain ⟨o, ho⟩ : ∃ o, F[y]? = some o := ⟨_, List.getElem?_eq_getElem hyF⟩
  have hoD : (F.map encP)[y]? = some (encP o) := by rw [List.getElem?_map, ho]; rfl
  have hc : (fAnd (asB (bind2 (fVar 7) (fVar 2) gNe)) (asB (bind2 (bind2 (fVar 3) (fVar 7) gIx) (fC .non) gIs))) (eW W s F Wt a (some ⟨0, encN b⟩) (some ⟨0, encN y⟩)) = some (decide (some y ≠ s) && o.isNone) :=
    and_of (asB_of (b2 fv fv e_ne)) fun _ => asB_of (b2 (b2 fvp fv (ix2 hoD)) rfl (by rw [gIs_n, isNon_encP]))
  cases hcv : (decide (some y ≠ s) && o.isNone) with
  | false =>
    refine ⟨F, Wt, if_ff (hc.trans (by rw [hcv])) rfl, j, so, fun x p h => h, fun hs => ?_, [], by simp⟩
    cases o with
    | none => simp [hs] at hcv
    | some p =>
      refine ⟨p, ho, ?_⟩
      have := so.al y b ((j.mem y).mpr ⟨p, ho⟩) hb
      rw [lf_of ho] at this
      exact this
  | true =>
    rw [Bool.and_eq_true_iff] at hcv
    obtain ⟨h1, h2⟩ := hcv
    have hs : some y ≠ s := by simpa using h1
    have hon : o = none := by simpa using h2
    subst hon
    obtain ⟨p, hp⟩ := (j.mem b).mp hbm
    have hpD : (F.map encP)[b]? = some (encK p) := by rw [List.getElem?_map, hp]; rfl
    have hpl := j.pl b p hp
    have hwl : Wt.length ≤ 61 := by have := j.cnt; have := ok.le; omega
    have hadd : gAdd (.pk 1) (encK p) (.fr 1) (.lst [encN y]) = some (.fr 1, encK (p ++ [y])) := by
      show gAdd (.pk 1) (.lst (p.map encN)) (.fr 1) (.lst [encN y]) = _
      simp [gAdd_l, lvl, sizeLine_eq, encK]
      omega
    refine ⟨F.set y (some (p ++ [y])), Wt ++ [y], if_tt (hc.trans (by simp [h1])) (seq_nx (set_nx (n := 1) (t := .fr 1) (d := encK (p ++ [y])) (b2 (b2 fvp fv (ix2 hpD)) rfl hadd) fv rfl rfl (by rw [List.length_map]; exact hyF)) ?_), j.add ho (.step (j.rch b hbm) hy hs) hpl (.step (j.pth b p hp) hy) (fun e => by
      subst e
      obtain ⟨q, hq⟩ := (j.mem 0).mp (j.z1 (List.ne_nil_of_mem hbm))
      rw [ho] at hq
      cases hq) (.inr (List.ne_nil_of_mem hbm)), so.add hb hp ho fun x hx => (j.mem x).mp hx, fun x q hq => ?_, fun _ => ⟨_, List.getElem?_set_self hyF, ?_⟩, [y], rfl⟩
    · refine (app_nx (n := 0) (t := .fz) (d0 := encN y) (ds := Wt.map encN) rfl rfl rfl (by rw [List.length_map]; omega)).trans ?_
      simp [eW, List.map_set, encP]
    · by_cases hxy : y = x
      · subst hxy
        rw [ho] at hq
        cases hq
      · rw [List.getElem?_set_ne hxy]; exact hq
    · have hyb : ¬ y = b := fun e => by
        subst e
        rw [ho] at hp
        cases hp
      rw [lf_of (p := p) (by rw [List.getElem?_set_ne hyb]; exact hp)]
      simp
theorem enc_sucs {W : Wy} {x : Nat} (h : x < W.length) : (W.map encK)[x]? = some (encK (sucs W x)) := by rw [List.getElem?_map, sucs_get h]; rfl
theorem it_sucs {W : Wy} {x : Nat} (h : x < W.length) {i k : Nat} {env : Ev} (hi : env[i]? = some (some ⟨0, encW W⟩)) (hk : env[k]? = some (some ⟨0, encN x⟩)) : (itF false (bind2 (fVar i) (fVar k) gIx)) env = some ((sucs W x).map encN) := by
  have e : (bind2 (fVar i) (fVar k) gIx) env = some (.fz, encK (sucs W x)) := b2 (fv hi) (fv hk) (ix_l (enc_sucs h) (Nat.zero_le 1))
  unfold itF
  rw [e]
  rfl
theorem lf_keep {F F' : List (Option (List Nat))} {x : Nat} (h : ∀ (x : Nat) (p : List Nat), F[x]? = some (some p) → F'[x]? = some (some p)) (hx : ∃ p, F[x]? = some (some p)) : lf F' x = lf F x := by
  obtain ⟨p, hp⟩ := hx
  rw [lf_of hp, lf_of (h x p hp)]
theorem for_W {W : Wy} (ok : okW W) {s : Option Nat} {F : List (Option (List Nat))} {Wt : List Nat} {a b : Nat} {z7 : Option Sl} (j : J W s F Wt) (so : So F Wt a) (hb : Wt[a]? = some b) (c : Cl W s F Wt a) :
    ∃ F' Wt' z7', forS (itF false (bind2 (fVar 0) (fVar 6) gIx)) (setE 7) bdyW (eW W s F Wt a (some ⟨0, encN b⟩) z7) = some (.nx (eW W s F' Wt' a (some ⟨0, encN b⟩) z7')) ∧ J W s F' Wt' ∧ So F' Wt' a ∧ Cl W s F' Wt' (a + 1) ∧ (∃ r, Wt' = Wt ++ r) := by
  have hbm : b ∈ Wt := List.mem_of_getElem? hb
  have hbl : b < W.length := (j.rch b hbm).lt ok
  have al : a < Wt.length := (List.getElem?_eq_some_iff.mp hb).1
  obtain ⟨e', k1, F', Wt', z7', rfl, j', so', g', done, r', hr⟩ := for_inv (env := eW W s F Wt a (some ⟨0, encN b⟩) z7) (tgt := setE 7) (s := bdyW) (fun i env => ∃ F' Wt' z7, env = eW W s F' Wt' a (some ⟨0, encN b⟩) z7 ∧ J W s F' Wt' ∧ So F' Wt' a ∧ (∀ (x : Nat) (p : List Nat), F[x]? = some (some p) → F'[x]? = some (some p)) ∧
      (∀ (k : Nat) (y : Nat), k < i → (sucs W b)[k]? = some y → some y ≠ s → ∃ p, F'[y]? = some (some p) ∧ p.length ≤ lf F b + 1) ∧ (∃ r, Wt' = Wt ++ r)) ((sucs W b).map encN) (it_sucs (i := 0) (k := 6) hbl rfl rfl)
      ⟨F, Wt, z7, rfl, j, so, fun _ _ h => h, fun k y h => absurd h (Nat.not_lt_zero k), [], by simp⟩ (by
        rintro i d env hd ⟨F1, W1, z, rfl, j1, so1, g1, d1, r1, hr1⟩
        rw [List.getElem?_map] at hd
        cases hy : (sucs W b)[i]? with
        | none => rw [hy] at hd; cases hd
        | some y =>
          rw [hy] at hd
          cases hd
          obtain ⟨F2, W2, h1, h2, h2s, h3, h4, r2, h5⟩ := bdy_step ok (a := a) j1 so1 (b := b) (y := y) (by rw [hr1, List.getElem?_append_left al]; exact hb) (List.mem_of_getElem? hy)
          have hlb : lf F2 b = lf F b := lf_keep (fun x p h => h3 x p (g1 x p h)) ((j.mem b).mp hbm)
          refine ⟨_, _, rfl, .inl h1, F2, W2, _, rfl, h2, h2s, fun x p h => h3 x p (g1 x p h), fun k y' hk hy' hs => ?_, r1 ++ r2, by rw [h5, hr1, List.append_assoc]⟩
          rcases Nat.lt_succ_iff_lt_or_eq.mp hk with h | rfl
          · obtain ⟨p, hp, hpl⟩ := d1 k y' h hy' hs
            exact ⟨p, h3 _ _ hp, hpl⟩
          · rw [hy] at hy'
            cases hy'
            rw [← hlb]
            exact h4 hs)
  refine ⟨F', Wt', z7', k1, j', so', fun i x hi hx y hy hs => ?_, r', hr⟩
  rcases Nat.lt_succ_iff_lt_or_eq.mp hi with h | rfl
  · have hil : i < Wt.length := by omega
    rw [hr, List.getElem?_append_left hil] at hx
    obtain ⟨p, hp, hpl⟩ := c i x h hx y hy hs
    rw [lf_keep g' ((j.mem x).mp (List.mem_of_getElem? hx))]
    exact ⟨p, g' y p hp, hpl⟩
  · rw [hr, List.getElem?_append_left al, hb] at hx
    cases hx
    obtain ⟨k, hk, hk2⟩ := List.mem_iff_getElem.mp hy
    rw [lf_keep g' ((j.mem b).mp hbm)]
    exact done k y (by simpa using hk) (by rw [List.getElem?_eq_getElem hk, hk2]) hs
theorem while_W {W : Wy} (ok : okW W) {s : Option Nat} {F : List (Option (List Nat))} {Wt : List Nat} {z6 z7 : Option Sl} (j : J W s F Wt) (so : So F Wt 0) (h0 : 0 ∈ Wt) :
    ∃ F' Wt' a z6' z7', whileS (asB (bind2 (fVar 5) (bind1 (fVar 4) gLen) gLt)) (seqS (asgS 6 (fFz (bind2 (fVar 4) (fVar 5) gIx))) (seqS (forS (itF false (bind2 (fVar 0) (fVar 6) gIx)) (setE 7) bdyW) (asgS 5 (fFz (bind2 (fVar 5) (fC (.int 1)) gAdd))))) (eW W s F Wt 0 z6 z7) = some (.nx (eW W s F' Wt' a z6' z7')) ∧ J W s F' Wt' ∧ Cl W s F' Wt' a ∧ a = Wt'.length ∧ 0 ∈ Wt' := by
  obtain ⟨e', k1, F', Wt', a, z6', z7', rfl, k2⟩ := while_inv (c := asB (bind2 (fVar 5) (bind1 (fVar 4) gLen) gLt)) (s := seqS (asgS 6 (fFz (bind2 (fVar 4) (fVar 5) gIx))) (seqS (forS (itF false (bind2 (fVar 0) (fVar 6) gIx)) (setE 7) bdyW) (asgS 5 (fFz (bind2 (fVar 5) (fC (.int 1)) gAdd)))))
    (fun m env => ∃ F' Wt' a z6 z7, env = eW W s F' Wt' a z6 z7 ∧ J W s F' Wt' ∧ So F' Wt' a ∧ Cl W s F' Wt' a ∧ a ≤ Wt'.length ∧ 0 ∈ Wt' ∧ m + a = W.length)
    (fun env => ∃ F' Wt' a z6 z7, env = eW W s F' Wt' a z6 z7 ∧ J W s F' Wt' ∧ Cl W s F' Wt' a ∧ a = Wt'.length ∧ 0 ∈ Wt') W.length (eW W s F Wt 0 z6 z7)
    ⟨F, Wt, 0, z6, z7, rfl, j, so, fun i x h => absurd h (Nat.not_lt_zero i), Nat.zero_le _, h0, rfl⟩ (by
      rintro m env ⟨F1, W1, a, z6, z7, rfl, j1, so1, c1, hl, hz, hm⟩
      have hc : (asB (bind2 (fVar 5) (bind1 (fVar 4) gLen) gLt)) (eW W s F1 W1 a z6 z7) = some (decide ((a : Int) < ((W1.map encN).length : Nat))) := asB_of (b2 fv (b1 fvp gLen_l) gLt_i)
      rw [List.length_map] at hc
      have hcn := j1.cnt
      by_cases h : a < W1.length
      · right
        refine ⟨hc.trans (by simp; exact h), ?_⟩
        have hb : W1[a]? = some W1[a] := List.getElem?_eq_getElem h
        have hbD : (W1.map encN)[a]? = some (encN W1[a]) := by rw [List.getElem?_map, hb]; rfl
        obtain ⟨F2, W2, z, f1, f2, f2s, f3, r, f4⟩ := for_W ok (z7 := z7) j1 so1 hb c1
        have hw2 : a + 1 ≤ W2.length := by rw [f4, List.length_append]; omega
        have hs : asgS 5 (fFz (bind2 (fVar 5) (fC (.int 1)) gAdd)) (eW W s F2 W2 a (some ⟨0, encN W1[a]⟩) z) = some (.nx (eW W s F2 W2 (a + 1) (some ⟨0, encN W1[a]⟩) z)) := asg_fz (d0 := .int ((a : Int) + 1)) (b2 fv rfl gAdd_i)
        refine ⟨_, m - 1, .inl (seq_nx (asg_fz (b2 fvp fv (ix_l hbD (Nat.le_refl 1)))) (seq_nx f1 hs)), by omega, F2, W2, a + 1, some ⟨0, encN W1[a]⟩, z, rfl, f2, f2s.next (by omega), f3, hw2, by rw [f4]; exact List.mem_append_left _ hz, by omega⟩
      · left
        exact ⟨hc.trans (by simp; omega), F1, W1, a, z6, z7, rfl, j1, c1, by omega, hz⟩)
  exact ⟨F', Wt', a, z6', z7', k1, k2⟩
theorem l_from {W : Wy} (ok : okW W) (s : Option Nat) : ∃ F : List (Option (List Nat)), g_ways_from [encW W, .int 0, encO s] = some (.fr 2, .lst (F.map encP)) ∧ F.length = W.length ∧ (∀ x : Nat, (∃ p, F[x]? = some (some p)) ↔ Rch W s x) ∧ (∀ (x : Nat) (p : List Nat), F[x]? = some (some p) → Pth W p x) ∧ (∀ (x : Nat) (p : List Nat), F[x]? = some (some p) → p.length ≤ W.length) ∧ (∀ (x : Nat) (p : List Nat), F[x]? = some (some p) → ∀ y, y ∈ sucs W x → some y ≠ s → ∃ q, F[y]? = some (some q) ∧ q.length ≤ p.length + 1) ∧ ∀ q : List Nat, F[0]? = some (some q) → q = [0] := by
  have e1 : (lcF 1 [6] (itF true (fVar 0)) (setE 6) (fun _ => some true) (fC .non)) [some ⟨0, encW W⟩, some ⟨0, .int 0⟩, some ⟨0, encO s⟩, none, none, none, none, none] = some (.fr 2, .lst ((List.replicate W.length (none : Option (List Nat))).map encP)) := by
    refine lcF_of (ds := W.map encK) (by rfl) (by have := ok.le; rw [List.length_map]; omega) ?_
    refine (lcGo_map (α := List Nat) encK (fun _ => true) (fun _ => .non) W fun a _ => ⟨_, rfl, rfl, fun _ => ⟨.fz, rfl, rfl⟩⟩).trans ?_
    simp [encP, List.map_const']
  have hnone : ∀ x : Nat, ¬ ∃ p, (List.replicate W.length (none : Option (List Nat)))[x]? = some (some p) := by
    rintro x ⟨p, h⟩
    rw [List.getElem?_replicate] at h
    split at h <;> cases h
  by_cases hs : some 0 = s
  · refine ⟨List.replicate W.length none, runF_rt (t := .fr 2) ?_, by simp, fun x => ⟨fun h => absurd h (hnone x), fun h => ?_⟩, fun x p h => absurd ⟨p, h⟩ (hnone x), fun x p h => absurd ⟨p, h⟩ (hnone x), fun x p h => absurd ⟨p, h⟩ (hnone x), fun p h => absurd ⟨p, h⟩ (hnone 0)⟩
    · show t_ways_from [some ⟨0, encW W⟩, some ⟨0, .int 0⟩, some ⟨0, encO s⟩, none, none, none, none, none] = _
      refine seq_nx (asg_fr e1) ?_
      refine seq_ifr (b := true) ((asB_of (b2 (fv (d0 := .int ((0 : Nat) : Int))) fv e_eq)).trans (by simp [hs])) (fun _ => rfl) fun h => by cases h
    · exfalso
      subst hs
      have : ∀ y, Rch W (some 0) y → False := by
        intro y hy
        induction hy with
        | base h => exact h rfl
        | step _ _ _ ih => exact ih
      exact this x h
  · have hrep : (List.replicate W.length (none : Option (List Nat)))[0]? = some none := by
      rw [List.getElem?_replicate, if_pos ok.pos]
    have j0 : J W s (List.replicate W.length none) [] := ⟨by simp, fun x => ⟨fun h => (by cases h), fun h => absurd h (hnone x)⟩, by simp [List.countP_replicate], fun x h => (by cases h), fun x p h => absurd ⟨p, h⟩ (hnone x), fun x p h => absurd ⟨p, h⟩ (hnone x), fun p h => absurd ⟨p, h⟩ (hnone 0), fun h => absurd rfl h⟩
    have j1 := j0.add (y := 0) (p := []) hrep (.base hs) (by simp) .base (fun _ => rfl) (.inl rfl)
    have so1 : So ((List.replicate W.length (none : Option (List Nat))).set 0 (some ([] ++ [0]))) ([] ++ [0]) 0 := ⟨fun i j x y _ hx hy => by
      have e1 := List.mem_of_getElem? hx
      have e2 := List.mem_of_getElem? hy
      simp at e1 e2
      rw [e1, e2]
      exact Nat.le_refl _, fun x b hx hb => by
      have e2 := List.mem_of_getElem? hb
      simp at hx e2
      rw [hx, e2]
      omega⟩
    obtain ⟨F', Wt', a, z6, z7, k1, k2, k3, k4, k5⟩ := while_W ok (z6 := none) (z7 := none) j1 so1 (by simp)
    refine ⟨F', runF_rt (t := .fr 2) ?_, k2.len, fun x => ⟨fun h => k2.rch x ((k2.mem x).mpr h), fun h => ?_⟩, k2.pth, fun x p h => by have := k2.pl x p h; have := k2.cnt; omega, fun x p h y hy hs => ?_, k2.z0⟩
    · show t_ways_from [some ⟨0, encW W⟩, some ⟨0, .int 0⟩, some ⟨0, encO s⟩, none, none, none, none, none] = _
      refine seq_nx (asg_fr e1) ?_
      refine seq_ifr (b := false) ((asB_of (b2 (fv (d0 := .int ((0 : Nat) : Int))) fv e_eq)).trans (by simp [hs])) (fun h => by cases h) fun _ => ?_
      refine seq_nx (set_nx (n := 1) (t := .fr 1) (d := encK [0]) (j := 0) rfl rfl rfl rfl (by simpa using ok.pos)) ?_
      refine seq_nx (asg_fr (n := 1) (d0 := .lst [encN 0]) rfl) ?_
      refine seq_nx (asg_fz (t := .fz) (d0 := .int 0) rfl) ?_
      refine seq_nx (e' := eW W s F' Wt' a z6 z7) ?_ rfl
      refine Eq.trans (congrArg _ ?_) k1
      simp [eW, encP, encK, List.map_set]
    · induction h with
      | base _ => exact (k2.mem 0).mp k5
      | @step x y hx hy hs ih =>
        obtain ⟨i, hi, hi2⟩ := List.mem_iff_getElem.mp ((k2.mem x).mpr ih)
        obtain ⟨q, hq, _⟩ := k3 i x (by omega) (by rw [List.getElem?_eq_getElem hi, hi2]) y hy hs
        exact ⟨q, hq⟩
    · obtain ⟨i, hi, hi2⟩ := List.mem_iff_getElem.mp ((k2.mem x).mpr ⟨p, h⟩)
      obtain ⟨q, hq, hql⟩ := k3 i x (by omega) (by rw [List.getElem?_eq_getElem hi, hi2]) y hy hs
      rw [lf_of h] at hql
      exact ⟨q, hq, hql⟩
/-! ### the law's own reach -/
def encT (T : List Nat) : D := .dk (T.map fun (k : Nat) => ((Sum.inl (k : Int) : Key), D.bl true))
theorem valT (T : List Nat) (y : Nat) : (valD (T.map fun (k : Nat) => ((Sum.inl (k : Int) : Key), D.bl true)) (Sum.inl (y : Int) : Key)).isSome = decide (y ∈ T) := by
  induction T with
  | nil => rfl
  | cons a T ih =>
    unfold valD at ih ⊢
    rw [List.map_cons, List.find?_cons]
    by_cases h : a = y
    · subst h
      simp
    · have h' : ¬ ((Sum.inl (a : Int) : Key) = Sum.inl (y : Int)) := fun e => h (by have := Sum.inl.inj e; omega)
      have h2 : ¬ y = a := fun e => h e.symm
      simp only [decide_eq_false h']
      rw [ih]
      simp [h2]
theorem inT {T : List Nat} {y : Nat} : inD (.int (y : Int)) (encT T) = some (decide (y ∈ T)) := congrArg some (valT T y)
theorem putT {T : List Nat} {y : Nat} (h : y ∉ T) : putD (T.map fun (k : Nat) => ((Sum.inl (k : Int) : Key), D.bl true)) (Sum.inl (y : Int) : Key) (.bl true) = (T ++ [y]).map fun (k : Nat) => ((Sum.inl (k : Int) : Key), D.bl true) := by
  unfold putD
  rw [if_neg]
  · simp
  · simp only [List.any_map, List.any_eq_true]
    rintro ⟨k, hk, e⟩
    simp only [Function.comp_apply, decide_eq_true_eq] at e
    have e := Sum.inl.inj e
    have : k = y := by omega
    subst this
    exact h hk
theorem nodup_le : ∀ (n : Nat) (T : List Nat), T.Nodup → (∀ x ∈ T, x < n) → T.length ≤ n
  | 0, T, _, h => by
    cases T with
    | nil => exact Nat.le_refl 0
    | cons a T => exact absurd (h a List.mem_cons_self) (Nat.not_lt_zero a)
  | n + 1, T, nd, h => by
    have ih := nodup_le n (T.erase n) (nd.erase n) fun x hx => by
      have := (nd.mem_erase_iff).mp hx
      have := h x this.2
      omega
    by_cases hn : n ∈ T
    · rw [List.length_erase_of_mem hn] at ih
      omega
    · rw [List.erase_of_not_mem hn] at ih
      omega
theorem setk_nx {env : Ev} {fe fk : Ev → R} {i : Nat} {t t1 : Tg} {d : D} {k : Int} {kvs : List (Key × D)} (he : fe env = some (t, d)) (hk : fk env = some (t1, .int k)) (hi : env[i]? = some (some ⟨1, .dk kvs⟩)) (ht : okTo t d 0 = true) (hl : kvs.length < 16777216) :
    setS i fk fe env = some (.nx (env.set i (some ⟨1, .dk (putD kvs (Sum.inl k : Key) d)⟩))) := by
  unfold setS
  rw [he, hk, hi]
  simp only [keyD, ht, sizeLine_eq, hl, decide_true, Bool.true_and, Bool.and_true, beq_self_eq_true, Bool.true_or, if_true]
def eR (W : Wy) (s : Option Nat) (T S : List Nat) (z4 z5 : Option Sl) : Ev := [some ⟨0, encW W⟩, some ⟨0, encO s⟩, some ⟨1, encT T⟩, some ⟨1, .lst (S.map encN)⟩, z4, z5]
structure L (W : Wy) (s : Option Nat) (T S : List Nat) (X : Nat → Prop) : Prop where
  nd : T.Nodup
  rch : ∀ x ∈ T, Rch W s x
  sub : ∀ x ∈ S, x ∈ T
  len : S.length ≤ T.length
  cl : ∀ x ∈ T, x ∈ S ∨ X x ∨ ∀ y ∈ sucs W x, some y ≠ s → y ∈ T
theorem L.le {W : Wy} (ok : okW W) {s : Option Nat} {T S : List Nat} {X : Nat → Prop} (l : L W s T S X) : T.length ≤ W.length := nodup_le _ _ l.nd fun x hx => (l.rch x hx).lt ok
theorem L.add {W : Wy} {s : Option Nat} {T S : List Nat} {X : Nat → Prop} (l : L W s T S X) {y : Nat} (h : y ∉ T) (hr : Rch W s y) : L W s (T ++ [y]) (S ++ [y]) X where
  nd := by
    rw [List.nodup_append]
    exact ⟨l.nd, by simp, fun a ha b hb e => by
      rw [List.mem_singleton.mp hb] at e
      subst e
      exact h ha⟩
  rch := fun x hx => by
    rcases List.mem_append.mp hx with h | h
    · exact l.rch x h
    · rw [List.mem_singleton.mp h]; exact hr
  sub := fun x hx => by
    rcases List.mem_append.mp hx with h | h
    · exact List.mem_append_left _ (l.sub x h)
    · exact List.mem_append_right _ h
  len := by have := l.len; simp only [List.length_append, List.length_singleton]; omega
  cl := fun x hx => by
    rcases List.mem_append.mp hx with h | h
    · rcases l.cl x h with c | c | c
      · exact .inl (List.mem_append_left _ c)
      · exact .inr (.inl c)
      · exact .inr (.inr fun y hy hs => List.mem_append_left _ (c y hy hs))
    · exact .inl (List.mem_append_right _ h)
noncomputable def bdyR : SF := ifS (fAnd (asB (bind2 (fVar 5) (fVar 1) gNe)) (asB (bind2 (fVar 5) (fVar 2) gNotIn))) (seqS (setS 2 (fVar 5) (fC (.bl true))) (appS 3 (fVar 5))) nilS
theorem bdyR_step {W : Wy} (ok : okW W) {s : Option Nat} {T S : List Nat} {X : Nat → Prop} {b y : Nat} {z4 : Option Sl} (l : L W s T S X) (hb : b ∈ T) (hy : y ∈ sucs W b) :
    ∃ T' S', bdyR (eR W s T S z4 (some ⟨0, encN y⟩)) = some (.nx (eR W s T' S' z4 (some ⟨0, encN y⟩))) ∧ L W s T' S' X ∧ (∀ x ∈ T, x ∈ T') ∧ (some y ≠ s → y ∈ T') ∧ (∃ k, T'.length = T.length + k ∧ S'.length = S.length + k) := by
  have hc : (fAnd (asB (bind2 (fVar 5) (fVar 1) gNe)) (asB (bind2 (fVar 5) (fVar 2) gNotIn))) (eR W s T S z4 (some ⟨0, encN y⟩)) = some (decide (some y ≠ s) && !(decide (y ∈ T))) :=
    and_of (asB_of (b2 fv fv e_ne)) fun _ => asB_of (b2 (fv (d0 := .int (y : Int))) fvp (by rw [gNotIn_e, inT]))
  have hT := l.le ok
  have hS := l.len
  have hn := ok.le
  cases hcv : (decide (some y ≠ s) && !(decide (y ∈ T))) with
  | false =>
    refine ⟨T, S, if_ff (hc.trans (by rw [hcv])) rfl, l, fun _ h => h, fun hs => ?_, 0, rfl, rfl⟩
    simpa [hs] using hcv
  | true =>
    rw [Bool.and_eq_true_iff] at hcv
    obtain ⟨h1, h2⟩ := hcv
    have hs : some y ≠ s := by simpa using h1
    have hy' : y ∉ T := by simpa using h2
    refine ⟨T ++ [y], S ++ [y], if_tt (hc.trans (by simp [h1, hy'])) (seq_nx (setk_nx (k := (y : Int)) (d := .bl true) (t := .fz) rfl fv rfl rfl (by rw [List.length_map]; omega)) ?_), l.add hy' (.step (l.rch b hb) hy hs), fun x hx => List.mem_append_left _ hx, fun _ => by simp, 1, by simp, by simp⟩
    rw [putT hy']
    refine (app_nx (n := 0) (t := .fz) (d0 := encN y) (ds := S.map encN) rfl rfl rfl (by rw [List.length_map]; omega)).trans ?_
    simp [eR, encT]
theorem for_R {W : Wy} (ok : okW W) {s : Option Nat} {T S : List Nat} {b : Nat} {z5 : Option Sl} (l : L W s T S (· = b)) (hb : b ∈ T) :
    ∃ T' S' z5', forS (itF false (bind2 (fVar 0) (fVar 4) gIx)) (setE 5) bdyR (eR W s T S (some ⟨0, encN b⟩) z5) = some (.nx (eR W s T' S' (some ⟨0, encN b⟩) z5')) ∧ L W s T' S' (fun _ => False) ∧ (∀ x ∈ T, x ∈ T') ∧ (∃ k, T'.length = T.length + k ∧ S'.length = S.length + k) := by
  have hbl : b < W.length := (l.rch b hb).lt ok
  obtain ⟨e', k1, T', S', z5', rfl, l', g', done, k', hk'⟩ := for_inv (env := eR W s T S (some ⟨0, encN b⟩) z5) (tgt := setE 5) (s := bdyR) (fun i env => ∃ T' S' z5', env = eR W s T' S' (some ⟨0, encN b⟩) z5' ∧ L W s T' S' (· = b) ∧ (∀ x ∈ T, x ∈ T') ∧
      (∀ (k : Nat) (y : Nat), k < i → (sucs W b)[k]? = some y → some y ≠ s → y ∈ T') ∧ (∃ k, T'.length = T.length + k ∧ S'.length = S.length + k)) ((sucs W b).map encN) (it_sucs (i := 0) (k := 4) hbl rfl rfl)
      ⟨T, S, z5, rfl, l, fun _ h => h, fun k y h => absurd h (Nat.not_lt_zero k), 0, rfl, rfl⟩ (by
        rintro i d env hd ⟨T1, S1, z, rfl, l1, g1, d1, k1, hk1, hk2⟩
        rw [List.getElem?_map] at hd
        cases hy : (sucs W b)[i]? with
        | none => rw [hy] at hd; cases hd
        | some y =>
          rw [hy] at hd
          cases hd
          obtain ⟨T2, S2, h1, h2, h3, h4, r2, h5, h6⟩ := bdyR_step ok (z4 := some ⟨0, encN b⟩) l1 (b := b) (y := y) (g1 b hb) (List.mem_of_getElem? hy)
          refine ⟨_, _, rfl, .inl h1, T2, S2, _, rfl, h2, fun x h => h3 x (g1 x h), fun k y' hk hy' hs => ?_, k1 + r2, by omega, by omega⟩
          rcases Nat.lt_succ_iff_lt_or_eq.mp hk with h | rfl
          · exact h3 _ (d1 k y' h hy' hs)
          · rw [hy] at hy'
            cases hy'
            exact h4 hs)
  refine ⟨T', S', z5', k1, ⟨l'.nd, l'.rch, l'.sub, l'.len, fun x hx => ?_⟩, g', k', hk'⟩
  rcases l'.cl x hx with c | rfl | c
  · exact .inl c
  · refine .inr (.inr fun y hy hs => ?_)
    obtain ⟨k, hk, hk2⟩ := List.mem_iff_getElem.mp hy
    exact done k y (by simpa using hk) (by rw [List.getElem?_eq_getElem hk, hk2]) hs
  · exact .inr (.inr c)
theorem okNs (S : List Nat) : okD 60 (.lst (S.map encN)) = true := by
  simp only [okD]
  exact okDs_map fun a _ => rfl
theorem e_ne0 {S : List Nat} {t0 t1 : Tg} : gNe t0 (.lst (S.map encN)) t1 (.lst []) = some (.fz, .bl (!S.isEmpty)) := by
  rw [gNe_d (okNs S) rfl, eqD_lst]
  cases S with
  | nil => rw [List.map_nil, eqDs_nil]; rfl
  | cons a S => rw [List.map_cons, eqDs_cn]; rfl
theorem pop_nx {env : Ev} {i k : Nat} {S : List Nat} {b : Nat} {z : Option Sl} (h : env[i]? = some (some ⟨1, .lst ((S ++ [b]).map encN)⟩)) (hk : env[k]? = some z) (hne : i ≠ k) : popS i k env = some (.nx ((env.set i (some ⟨1, .lst (S.map encN)⟩)).set k (some ⟨0, encN b⟩))) := by
  unfold popS
  rw [h, hk]
  have e : ((S ++ [b]).map encN)[((S ++ [b]).map encN).length - 1]? = some (encN b) := by simp
  simp only [e, if_neg hne]
  simp
theorem while_R {W : Wy} (ok : okW W) {s : Option Nat} {T S : List Nat} {z4 z5 : Option Sl} (l : L W s T S (fun _ => False)) (h0 : some 0 ≠ s → 0 ∈ T) :
    ∃ T' z4' z5', whileS (asB (bind2 (fVar 3) (fLst fNil) gNe)) (seqS (popS 3 4) (forS (itF false (bind2 (fVar 0) (fVar 4) gIx)) (setE 5) bdyR)) (eR W s T S z4 z5) = some (.nx (eR W s T' [] z4' z5')) ∧ L W s T' [] (fun _ => False) ∧ (some 0 ≠ s → 0 ∈ T') := by
  obtain ⟨e', k1, T', z4', z5', rfl, k2⟩ := while_inv (c := asB (bind2 (fVar 3) (fLst fNil) gNe)) (s := seqS (popS 3 4) (forS (itF false (bind2 (fVar 0) (fVar 4) gIx)) (setE 5) bdyR))
    (fun m env => ∃ T' S' z4 z5, env = eR W s T' S' z4 z5 ∧ L W s T' S' (fun _ => False) ∧ (some 0 ≠ s → 0 ∈ T') ∧ m = 2 * (W.length - T'.length) + S'.length)
    (fun env => ∃ T' z4 z5, env = eR W s T' [] z4 z5 ∧ L W s T' [] (fun _ => False) ∧ (some 0 ≠ s → 0 ∈ T')) _ (eR W s T S z4 z5)
    ⟨T, S, z4, z5, rfl, l, h0, rfl⟩ (by
      rintro m env ⟨T1, S1, z4, z5, rfl, l1, h1, hm⟩
      have hc : (asB (bind2 (fVar 3) (fLst fNil) gNe)) (eR W s T1 S1 z4 z5) = some (!S1.isEmpty) := asB_of (b2 fvp rfl e_ne0)
      by_cases hS : S1 = []
      · left
        subst hS
        exact ⟨hc, T1, z4, z5, rfl, l1, h1⟩
      · right
        obtain ⟨S0, b, rfl⟩ : ∃ S0 b, S1 = S0 ++ [b] := ⟨S1.dropLast, S1.getLast hS, (List.dropLast_concat_getLast hS).symm⟩
        refine ⟨hc.trans (by simp), ?_⟩
        have hbT : b ∈ T1 := l1.sub b (by simp)
        have l2 : L W s T1 S0 (· = b) := ⟨l1.nd, l1.rch, fun x hx => l1.sub x (List.mem_append_left _ hx), by have := l1.len; simp at this; omega, fun x hx => by
          rcases l1.cl x hx with c | c | c
          · rcases List.mem_append.mp c with c | c
            · exact .inl c
            · exact .inr (.inl (List.mem_singleton.mp c))
          · exact absurd c id
          · exact .inr (.inr c)⟩
        obtain ⟨T2, S2, z5', f1, f2, f3, k, f4, f5⟩ := for_R ok (z5 := z5) l2 hbT
        have hp : popS 3 4 (eR W s T1 (S0 ++ [b]) z4 z5) = some (.nx (eR W s T1 S0 (some ⟨0, encN b⟩) z5)) := pop_nx rfl rfl (by decide)
        refine ⟨_, _, .inl (seq_nx hp f1), ?_, T2, S2, _, _, rfl, f2, fun h => f3 _ (h1 h), rfl⟩
        have := f2.le ok
        simp only [List.length_append, List.length_singleton] at hm
        omega)
  exact ⟨T', z4', z5', k1, k2⟩
theorem l_reach {W : Wy} (ok : okW W) (s : Option Nat) : ∃ T : List Nat, g__law_reached [encW W, encO s] = some (.fr 1, encT T) ∧ T.length ≤ W.length ∧ ∀ x : Nat, x ∈ T ↔ Rch W s x := by
  obtain ⟨T0, l0, h0, e0⟩ : ∃ T0, L W s T0 T0 (fun _ => False) ∧ (some 0 ≠ s → 0 ∈ T0) ∧ ifS (asB (bind2 (fVar 1) (fC (.int 0)) gNe)) (setS 2 (fC (.int 0)) (fC (.bl true))) nilS [some ⟨0, encW W⟩, some ⟨0, encO s⟩, some ⟨1, .dk []⟩, none, none, none] = some (.nx [some ⟨0, encW W⟩, some ⟨0, encO s⟩, some ⟨1, encT T0⟩, none, none, none]) := by
    have hc : (asB (bind2 (fVar 1) (fC (.int 0)) gNe)) [some ⟨0, encW W⟩, some ⟨0, encO s⟩, some ⟨1, .dk []⟩, none, none, none] = some (decide (some 0 ≠ s)) := by
      refine asB_of (t := .fz) (b2 fv rfl ?_)
      cases s with
      | none => rw [show encO none = D.non from rfl, gNe_d rfl rfl]; rfl
      | some k =>
        show gNe .fz (.int (k : Int)) .fz (.int 0) = _
        rw [gNe_i]
        by_cases h : 0 = k
        · subst h; rfl
        · have : ¬ (k : Int) = 0 := by omega
          simp [h, this]
          omega
    by_cases hs : some 0 = s
    · exact ⟨[], ⟨by simp, fun x h => (by cases h), fun x h => h, Nat.le_refl _, fun x h => (by cases h)⟩, fun h => absurd hs h, if_ff (hc.trans (by simp [hs])) rfl⟩
    · refine ⟨[0], ⟨by simp, fun x h => ?_, fun x h => h, Nat.le_refl _, fun x h => .inl h⟩, fun _ => by simp, if_tt (hc.trans (by simp [hs])) (setk_nx (kvs := []) (k := 0) (d := .bl true) (t := .fz) rfl rfl rfl rfl (by decide))⟩
      rw [List.mem_singleton.mp h]
      exact .base hs
  obtain ⟨T', z4', z5', k1, k2, k3⟩ := while_R ok (z4 := none) (z5 := none) l0 h0
  refine ⟨T', runF_rt (t := .fr 1) ?_, k2.le ok, fun x => ⟨k2.rch x, fun h => ?_⟩⟩
  · show t__law_reached [some ⟨0, encW W⟩, some ⟨0, encO s⟩, none, none, none, none] = _
    refine seq_nx (asg_fr (n := 1) (d0 := .dk []) rfl) ?_
    refine seq_nx e0 ?_
    have hl : asgS 3 (bind1 (fVar 2) gList) [some ⟨0, encW W⟩, some ⟨0, encO s⟩, some ⟨1, encT T0⟩, none, none, none] = some (.nx (eR W s T0 T0 none none)) := by
      refine (asg_fr (n := 1) (d0 := .lst (T0.map encN)) (b1 fvp ?_)).trans rfl
      simp [encT, gList, encN, Function.comp_def]
    refine seq_nx hl ?_
    exact seq_nx k1 rfl
  · induction h with
    | base hs => exact k3 hs
    | @step x y hx hy hs ih =>
      rcases k2.cl x ih with c | c | c
      · cases c
      · exact absurd c id
      · exact c y hy hs
end Lw
namespace Lw
open PySem PySem.Spec PyProof.Rows L2 VL
/-! ### what is drawn -/
theorem l_cell (ns : List Int) (k : Nat) : ∃ n, g__law_cell_at [.scr ns, .int k] = some (.fz, .int n) := by
  by_cases h : k < ns.length
  · refine ⟨ns[k], runF_rt ?_⟩
    show t__law_cell_at [some ⟨0, .scr ns⟩, some ⟨0, .int k⟩] = _
    refine seq_ifr (b := true) (by simp [asB, h]) (fun _ => ?_) fun h => by cases h
    simp [retS, atI_nat (List.getElem?_eq_getElem h)]
  · refine ⟨0, runF_rt ?_⟩
    show t__law_cell_at [some ⟨0, .scr ns⟩, some ⟨0, .int k⟩] = _
    refine seq_ifr (b := false) (by simp [asB, h]) (fun h => by cases h) fun _ => rfl
theorem encN_of {i : Int} (h : 0 ≤ i) : D.int i = encN i.toNat := by
  unfold encN
  rw [Int.toNat_of_nonneg h]
noncomputable def bdyG : SF := seqS (asgS 8 (fFz (bind2 (bind2 (bind2 (fVar 5) (fC (.int 7)) gFdiv) (bind2 (fC (.int 1)) (bind2 (fC (.int 60)) (fVar 7) gMul) gAdd) gFdiv) (fVar 1) gMod))) (seqS (ifS (asB (bind2 (fVar 2) (fC (.int 0)) gEq)) (asgS 8 (fFz (bind2 (bind2 (bind2 (fVar 4) (fC (.int 1)) gAdd) (bind2 (bind2 (bind2 (fVar 5) (fC (.int 7)) gFdiv) (bind2 (fC (.int 1)) (bind2 (fC (.int 11)) (fVar 7) gMul) gAdd) gFdiv) (fC (.int 4)) gMod) gAdd) (fVar 1) gMod))) nilS) (appS 6 (fVar 8)))
def eG (ns : List Int) (m near : Int) (Wp : Wy) (i : Nat) (c : Int) (G : List Nat) (z7 z8 : Option Sl) : Ev :=
  [some ⟨0, .scr ns⟩, some ⟨0, .int m⟩, some ⟨0, .int near⟩, some ⟨1, .lst (Wp.map encK)⟩, some ⟨0, .int (i : Int)⟩, some ⟨0, .int c⟩, some ⟨1, .lst (G.map encN)⟩, z7, z8]
theorem bdyG_step {ns : List Int} {m near : Int} {Wp : Wy} {i : Nat} {c : Int} {G : List Nat} {k : Nat} {z8 : Option Sl} (hm : 0 < m) (hk : k < 4) (hG : G.length ≤ 4) :
    ∃ (y : Nat) (z8' : Option Sl), bdyG (eG ns m near Wp i c G (some ⟨0, .int (k : Int)⟩) z8) = some (.nx (eG ns m near Wp i c (G ++ [y]) (some ⟨0, .int (k : Int)⟩) z8')) ∧ (y : Int) < m := by
  have h1 : asgS 8 (fFz (bind2 (bind2 (bind2 (fVar 5) (fC (.int 7)) gFdiv) (bind2 (fC (.int 1)) (bind2 (fC (.int 60)) (fVar 7) gMul) gAdd) gFdiv) (fVar 1) gMod)) (eG ns m near Wp i c G (some ⟨0, .int (k : Int)⟩) z8) = some (.nx (eG ns m near Wp i c G (some ⟨0, .int (k : Int)⟩) (some ⟨0, .int (c / 7 / (1 + 60 * (k : Int)) % m)⟩))) :=
    asg_fz (b2 (b2 (b2 fv rfl (gFdiv_p (by decide) (by decide))) (b2 rfl (b2 rfl fv (gMul_f (by decide) (by decide))) gAdd_i) (gFdiv_p (by omega) (by omega))) fv (gMod_p hm))
  have hc : (asB (bind2 (fVar 2) (fC (.int 0)) gEq)) (eG ns m near Wp i c G (some ⟨0, .int (k : Int)⟩) (some ⟨0, .int (c / 7 / (1 + 60 * (k : Int)) % m)⟩)) = some (near == 0) := asB_of (b2 fv rfl gEq_i)
  have h2 : asgS 8 (fFz (bind2 (bind2 (bind2 (fVar 4) (fC (.int 1)) gAdd) (bind2 (bind2 (bind2 (fVar 5) (fC (.int 7)) gFdiv) (bind2 (fC (.int 1)) (bind2 (fC (.int 11)) (fVar 7) gMul) gAdd) gFdiv) (fC (.int 4)) gMod) gAdd) (fVar 1) gMod)) (eG ns m near Wp i c G (some ⟨0, .int (k : Int)⟩) (some ⟨0, .int (c / 7 / (1 + 60 * (k : Int)) % m)⟩)) =
      some (.nx (eG ns m near Wp i c G (some ⟨0, .int (k : Int)⟩) (some ⟨0, .int (((i : Int) + 1 + c / 7 / (1 + 11 * (k : Int)) % 4) % m)⟩))) :=
    asg_fz (b2 (b2 (b2 fv rfl gAdd_i) (b2 (b2 (b2 fv rfl (gFdiv_p (by decide) (by decide))) (b2 rfl (b2 rfl fv (gMul_f (by decide) (by decide))) gAdd_i) (gFdiv_p (by omega) (by omega))) rfl (gMod_p (by decide))) gAdd_i) fv (gMod_p hm))
  obtain ⟨g, hg0, hg1, h3⟩ : ∃ g : Int, 0 ≤ g ∧ g < m ∧ ifS (asB (bind2 (fVar 2) (fC (.int 0)) gEq)) (asgS 8 (fFz (bind2 (bind2 (bind2 (fVar 4) (fC (.int 1)) gAdd) (bind2 (bind2 (bind2 (fVar 5) (fC (.int 7)) gFdiv) (bind2 (fC (.int 1)) (bind2 (fC (.int 11)) (fVar 7) gMul) gAdd) gFdiv) (fC (.int 4)) gMod) gAdd) (fVar 1) gMod))) nilS (eG ns m near Wp i c G (some ⟨0, .int (k : Int)⟩) (some ⟨0, .int (c / 7 / (1 + 60 * (k : Int)) % m)⟩)) = some (.nx (eG ns m near Wp i c G (some ⟨0, .int (k : Int)⟩) (some ⟨0, .int g⟩))) := by
    cases hn : (near == 0) with
    | true => exact ⟨_, Int.emod_nonneg _ (by omega), Int.emod_lt_of_pos _ hm, if_tt (hc.trans (by rw [hn])) h2⟩
    | false => exact ⟨_, Int.emod_nonneg _ (by omega), Int.emod_lt_of_pos _ hm, if_ff (hc.trans (by rw [hn])) nilS_e⟩
  refine ⟨g.toNat, some ⟨0, .int g⟩, seq_nx h1 (seq_nx h3 ((app_nx (n := 0) (t := .fz) (d0 := .int g) (ds := G.map encN) fv rfl rfl (by rw [List.length_map]; omega)).trans ?_)), by omega⟩
  simp [eG, encN, Int.toNat_of_nonneg hg0]
theorem l_waysby (ns : List Int) : ∃ W : Wy, okW W ∧ g__law_ways_by [.scr ns] = some (.fr 1, encW W) := by
  obtain ⟨c0, h0⟩ := l_cell ns 0
  obtain ⟨c1, h1⟩ := l_cell ns 1
  simp only [Int.natCast_zero, Int.cast_ofNat_Int, Int.natCast_one] at h0 h1
  obtain ⟨m, hm0, hm1, e3⟩ : ∃ m : Int, 0 < m ∧ m ≤ 61 ∧ ∀ (P : Option Out → Prop) (s : SF), P (s [some ⟨0, .scr ns⟩, some ⟨0, .int m⟩, none, none, none, none, none, none, none]) → P ((seqS (asgS 1 (fFz (bind2 (fC (.int 1)) (bind2 (callF g__law_cell_at (fCons (fVar 0) (fCons (fC (.int 0)) fNil))) (fC (.int 9)) gMod) gAdd))) (seqS (ifS (asB (bind2 (bind2 (bind2 (callF g__law_cell_at (fCons (fVar 0) (fCons (fC (.int 0)) fNil))) (fC (.int 9)) gFdiv) (fC (.int 9)) gMod) (fC (.int 1)) gEq)) (asgS 1 (fFz (bind2 (fC (.int 10)) (bind2 (bind2 (callF g__law_cell_at (fCons (fVar 0) (fCons (fC (.int 0)) fNil))) (fC (.int 81)) gFdiv) (fC (.int 8)) gMod) gAdd))) nilS) (seqS (ifS (asB (bind2 (bind2 (bind2 (callF g__law_cell_at (fCons (fVar 0) (fCons (fC (.int 0)) fNil))) (fC (.int 9)) gFdiv) (fC (.int 18)) gMod) (fC (.int 2)) gEq)) (asgS 1 (fFz (bind2 (fC (.int 18)) (bind2 (bind2 (callF g__law_cell_at (fCons (fVar 0) (fCons (fC (.int 0)) fNil))) (fC (.int 162)) gFdiv) (fC (.int 44)) gMod) gAdd))) nilS) s))) [some ⟨0, .scr ns⟩, none, none, none, none, none, none, none, none]) := by
    by_cases q1 : c0 / 9 % 9 = 1 <;> by_cases q2 : c0 / 9 % 18 = 2
    · exact ⟨18 + c0 / 162 % 44, by omega, by omega, fun P s hP => by simpa [seqS_e, ifS_e, asB, asgS, fFz, callF, fCons, fNil, h0, noPkT, noPk, slOf, q1, q2] using hP⟩
    · exact ⟨10 + c0 / 81 % 8, by omega, by omega, fun P s hP => by simpa [seqS_e, ifS_e, asB, asgS, fFz, callF, fCons, fNil, h0, noPkT, noPk, slOf, q1, q2] using hP⟩
    · exact ⟨18 + c0 / 162 % 44, by omega, by omega, fun P s hP => by simpa [seqS_e, ifS_e, asB, asgS, fFz, callF, fCons, fNil, h0, noPkT, noPk, slOf, q1, q2] using hP⟩
    · exact ⟨1 + c0 % 9, by omega, by omega, fun P s hP => by simpa [seqS_e, ifS_e, asB, asgS, fFz, callF, fCons, fNil, h0, noPkT, noPk, slOf, q1, q2] using hP⟩
  have outer : ∀ (near : Int) (i : Nat) (Wp : Wy) (z5 z6 z7 z8 : Option Sl), i < 61 → Wp.length = i → (∀ l ∈ Wp, ∀ y ∈ l, (y : Int) < m) →
      ∃ (l : List Nat) (z5' z6' z7' z8' : Option Sl), seqS (asgS 5 (fFz (bind2 (bind2 (bind2 (callF g__law_cell_at (fCons (fVar 0) (fCons (bind2 (fC (.int 2)) (fVar 4) gAdd) fNil))) (bind2 (fC (.int 7919)) (fVar 4) gMul) gAdd) (fC (.int 48271)) gMul) (fC (.int 2147483647)) gMod))) (seqS (asgS 6 (fLst fNil)) (seqS (forS (itR1 (bind2 (fLst (fCons (fC (.int 0)) (fCons (fC (.int 1)) (fCons (fC (.int 1)) (fCons (fC (.int 2)) (fCons (fC (.int 2)) (fCons (fC (.int 2)) (fCons (fC (.int 3)) fNil)))))))) (bind2 (fVar 5) (fC (.int 7)) gMod) gIx)) (setE 7) bdyG) (fun env => (appS 3 (fVar 6)) (frzE 6 env))))
        [some ⟨0, .scr ns⟩, some ⟨0, .int m⟩, some ⟨0, .int near⟩, some ⟨1, .lst (Wp.map encK)⟩, some ⟨0, .int (i : Int)⟩, z5, z6, z7, z8] = some (.nx [some ⟨0, .scr ns⟩, some ⟨0, .int m⟩, some ⟨0, .int near⟩, some ⟨1, .lst ((Wp ++ [l]).map encK)⟩, some ⟨0, .int (i : Int)⟩, z5', z6', z7', z8']) ∧ (∀ y ∈ l, (y : Int) < m) ∧ l.length ≤ 4 := by
    intro near i Wp z5 z6 z7 z8 hi hW hlt
    obtain ⟨n, hn⟩ := l_cell ns (2 + i)
    rw [show ((2 + i : Nat) : Int) = 2 + (i : Int) by omega] at hn
    obtain ⟨c, hc⟩ : ∃ c, c = (n + 7919 * (i : Int)) * 48271 % 2147483647 := ⟨_, rfl⟩
    have h1 : asgS 5 (fFz (bind2 (bind2 (bind2 (callF g__law_cell_at (fCons (fVar 0) (fCons (bind2 (fC (.int 2)) (fVar 4) gAdd) fNil))) (bind2 (fC (.int 7919)) (fVar 4) gMul) gAdd) (fC (.int 48271)) gMul) (fC (.int 2147483647)) gMod)) [some ⟨0, .scr ns⟩, some ⟨0, .int m⟩, some ⟨0, .int near⟩, some ⟨1, .lst (Wp.map encK)⟩, some ⟨0, .int (i : Int)⟩, z5, z6, z7, z8] =
        some (.nx [some ⟨0, .scr ns⟩, some ⟨0, .int m⟩, some ⟨0, .int near⟩, some ⟨1, .lst (Wp.map encK)⟩, some ⟨0, .int (i : Int)⟩, some ⟨0, .int c⟩, z6, z7, z8]) := by
      rw [hc]
      exact asg_fz (b2 (b2 (b2 (call_2 fv (b2 rfl fv gAdd_i) hn) (b2 rfl fv (gMul_f (by decide) (by decide))) gAdd_i) rfl (gMul_r (by decide) (by decide))) rfl (gMod_p (by decide)))
    have h2 : asgS 6 (fLst fNil) [some ⟨0, .scr ns⟩, some ⟨0, .int m⟩, some ⟨0, .int near⟩, some ⟨1, .lst (Wp.map encK)⟩, some ⟨0, .int (i : Int)⟩, some ⟨0, .int c⟩, z6, z7, z8] = some (.nx (eG ns m near Wp i c [] z7 z8)) := asg_fr (n := 1) (d0 := .lst []) rfl
    obtain ⟨z, hz, hz2⟩ := atI_ex (xs := [D.int 0, .int 1, .int 1, .int 2, .int 2, .int 2, .int 3]) (i := c % 7) (by omega) (by simp; omega)
    obtain ⟨r, hr, rfl⟩ : ∃ r : Nat, r < 4 ∧ z = .int (r : Int) := by
      simp at hz
      rcases hz with h | h | h | h
      · exact ⟨0, by decide, h⟩
      · exact ⟨1, by decide, h⟩
      · exact ⟨2, by decide, h⟩
      · exact ⟨3, by decide, h⟩
    have h3 : (itR1 (bind2 (fLst (fCons (fC (.int 0)) (fCons (fC (.int 1)) (fCons (fC (.int 1)) (fCons (fC (.int 2)) (fCons (fC (.int 2)) (fCons (fC (.int 2)) (fCons (fC (.int 3)) fNil)))))))) (bind2 (fVar 5) (fC (.int 7)) gMod) gIx)) (eG ns m near Wp i c [] z7 z8) = some ((List.range r).map fun (k : Nat) => .int (k : Int)) := by
      have e : (bind2 (fLst (fCons (fC (.int 0)) (fCons (fC (.int 1)) (fCons (fC (.int 1)) (fCons (fC (.int 2)) (fCons (fC (.int 2)) (fCons (fC (.int 2)) (fCons (fC (.int 3)) fNil)))))))) (bind2 (fVar 5) (fC (.int 7)) gMod) gIx) (eG ns m near Wp i c [] z7 z8) = some (.fz, .int (r : Int)) := by
        refine b2 (t1 := .fr 1) (d1 := .lst [D.int 0, .int 1, .int 1, .int 2, .int 2, .int 2, .int 3]) rfl (b2 fv rfl (gMod_p (by decide))) ?_
        rw [gIx_l, hz2]
        rfl
      unfold itR1
      rw [e]
      have : okR (r : Int) = true := by
        unfold okR
        rw [Bool.and_eq_true_iff]
        exact ⟨decide_eq_true (by omega), decide_eq_true (by omega)⟩
      simp only [this, if_true, Int.toNat_natCast]
    obtain ⟨e', k1, G, z7', z8', rfl, hG, hGl⟩ := for_inv (tgt := setE 7) (s := bdyG) (fun k env => ∃ (G : List Nat) (z7 z8 : Option Sl), env = eG ns m near Wp i c G z7 z8 ∧ (∀ y ∈ G, (y : Int) < m) ∧ G.length = k) _ h3 ⟨[], z7, z8, rfl, fun y h => (by cases h), rfl⟩ (by
      rintro k d env hd ⟨G, z7, z8, rfl, hG, hGl⟩
      obtain ⟨hk, rfl⟩ := range_at hd
      obtain ⟨y, z8', b1, b2⟩ := bdyG_step (ns := ns) (near := near) (Wp := Wp) (i := i) (c := c) (G := G) (k := k) (z8 := z8) hm0 (by omega) (by omega)
      refine ⟨_, _, rfl, .inl b1, G ++ [y], _, _, rfl, fun x hx => ?_, by simp [hGl]⟩
      rcases List.mem_append.mp hx with h | h
      · exact hG x h
      · rw [List.mem_singleton.mp h]; exact b2)
    refine ⟨G, some ⟨0, .int c⟩, some ⟨0, .lst (G.map encN)⟩, z7', z8', seq_nx h1 (seq_nx h2 (seq_nx k1 ?_)), hG, by rw [hGl]; simp; omega⟩
    have hf : frzE 6 (eG ns m near Wp i c G z7' z8') = [some ⟨0, .scr ns⟩, some ⟨0, .int m⟩, some ⟨0, .int near⟩, some ⟨1, .lst (Wp.map encK)⟩, some ⟨0, .int (i : Int)⟩, some ⟨0, .int c⟩, some ⟨0, .lst (G.map encN)⟩, z7', z8'] := rfl
    rw [hf]
    refine (app_nx (n := 0) (t := .fz) (d0 := encK G) (ds := Wp.map encK) fv rfl rfl (by rw [List.length_map]; omega)).trans ?_
    simp [encK]
  obtain ⟨W, hW⟩ : ∃ W : Wy, (W.length : Int) = m ∧ (∀ l ∈ W, ∀ y ∈ l, (y : Int) < m) ∧ (∀ l ∈ W, l.length ≤ 4) ∧ t__law_ways_by [some ⟨0, .scr ns⟩, none, none, none, none, none, none, none, none] = some (.rt (.fr 1) (encW W)) := by
    obtain ⟨near, hnear⟩ : ∃ near, near = c1 % 3 := ⟨_, rfl⟩
    have n1 : asgS 2 (fFz (bind2 (callF g__law_cell_at (fCons (fVar 0) (fCons (fC (.int 1)) fNil))) (fC (.int 3)) gMod)) [some ⟨0, .scr ns⟩, some ⟨0, .int m⟩, none, none, none, none, none, none, none] = some (.nx [some ⟨0, .scr ns⟩, some ⟨0, .int m⟩, some ⟨0, .int near⟩, none, none, none, none, none, none]) := by
      rw [hnear]
      exact asg_fz (b2 (call_2 fv rfl h1) rfl (gMod_p (by decide)))
    have n2 : asgS 3 (fLst fNil) [some ⟨0, .scr ns⟩, some ⟨0, .int m⟩, some ⟨0, .int near⟩, none, none, none, none, none, none] = some (.nx [some ⟨0, .scr ns⟩, some ⟨0, .int m⟩, some ⟨0, .int near⟩, some ⟨1, .lst []⟩, none, none, none, none, none]) := asg_fr (n := 1) (d0 := .lst []) rfl
    have hr : (itR1 (fVar 1)) [some ⟨0, .scr ns⟩, some ⟨0, .int m⟩, some ⟨0, .int near⟩, some ⟨1, .lst []⟩, none, none, none, none, none] = some ((List.range m.toNat).map fun (k : Nat) => .int (k : Int)) := by
      have : okR m = true := by
        unfold okR
        rw [Bool.and_eq_true_iff]
        exact ⟨decide_eq_true (by omega), decide_eq_true (by omega)⟩
      have e : (fVar 1) [some ⟨0, .scr ns⟩, some ⟨0, .int m⟩, some ⟨0, .int near⟩, some ⟨1, .lst []⟩, none, none, none, none, none] = some (.fz, .int m) := fv
      unfold itR1
      rw [e]
      simp only [this, if_true]
    obtain ⟨e', k1, W, z4, z5, z6, z7, z8, rfl, hW1, hW2, hW3⟩ := for_inv (tgt := setE 4) (s := seqS (asgS 5 (fFz (bind2 (bind2 (bind2 (callF g__law_cell_at (fCons (fVar 0) (fCons (bind2 (fC (.int 2)) (fVar 4) gAdd) fNil))) (bind2 (fC (.int 7919)) (fVar 4) gMul) gAdd) (fC (.int 48271)) gMul) (fC (.int 2147483647)) gMod))) (seqS (asgS 6 (fLst fNil)) (seqS (forS (itR1 (bind2 (fLst (fCons (fC (.int 0)) (fCons (fC (.int 1)) (fCons (fC (.int 1)) (fCons (fC (.int 2)) (fCons (fC (.int 2)) (fCons (fC (.int 2)) (fCons (fC (.int 3)) fNil)))))))) (bind2 (fVar 5) (fC (.int 7)) gMod) gIx)) (setE 7) bdyG) (fun env => (appS 3 (fVar 6)) (frzE 6 env)))))
      (fun i env => ∃ (Wp : Wy) (z4 z5 z6 z7 z8 : Option Sl), env = [some ⟨0, .scr ns⟩, some ⟨0, .int m⟩, some ⟨0, .int near⟩, some ⟨1, .lst (Wp.map encK)⟩, z4, z5, z6, z7, z8] ∧ Wp.length = i ∧ (∀ l ∈ Wp, ∀ y ∈ l, (y : Int) < m) ∧ (∀ l ∈ Wp, l.length ≤ 4)) _ hr ⟨[], none, none, none, none, none, rfl, rfl, fun l h => (by cases h), fun l h => (by cases h)⟩ (by
      rintro i d env hd ⟨Wp, z4, z5, z6, z7, z8, rfl, w1, w2, w3⟩
      obtain ⟨hi, rfl⟩ := range_at hd
      obtain ⟨l, z5', z6', z7', z8', o1, o2, o3⟩ := outer near i Wp z5 z6 z7 z8 (by omega) w1 w2
      refine ⟨_, _, rfl, .inl o1, Wp ++ [l], _, _, _, _, _, rfl, by simp [w1], fun l' hl' => ?_, fun l' hl' => ?_⟩
      · rcases List.mem_append.mp hl' with h | h
        · exact w2 l' h
        · rw [List.mem_singleton.mp h]; exact o2
      · rcases List.mem_append.mp hl' with h | h
        · exact w3 l' h
        · rw [List.mem_singleton.mp h]; exact o3)
    refine ⟨W, by rw [hW1]; simp; omega, hW2, hW3, e3 (fun o => o = some (.rt (.fr 1) (encW W))) _ (seq_nx n1 (seq_nx n2 (seq_nx k1 rfl)))⟩
  obtain ⟨hl, hlt, hsl, he⟩ := hW
  exact ⟨W, ⟨by omega, by omega, fun l h y hy => by have := hlt l h y hy; omega, hsl⟩, runF_rt he⟩
/-! ### the law -/
theorem okW60 (W : Wy) : okD 60 (encW W) = true := by
  simp only [encW, okD]
  exact okDs_map fun l _ => by
    simp only [encK, okD]
    exact okDs_map fun a _ => rfl
theorem eqK (l : List Nat) : eqD (encK l) (encK l) = true := by
  unfold encK
  rw [eqD_lst]
  exact eqDs_self (fun a => by simp [encN, eqD_int]) l
theorem eqW (W : Wy) : eqD (encW W) (encW W) = true := by
  unfold encW
  rw [eqD_lst]
  exact eqDs_self eqK W
end Lw
namespace Lw
open PySem PySem.Spec PyProof.Rows L2 VL
open Classical in
noncomputable def dR (W : Wy) (s : Option Nat) (x : Nat) : Bool := decide (Rch W s x)
theorem dR_iff {W : Wy} {s : Option Nat} {x : Nat} : dR W s x = true ↔ Rch W s x := by unfold dR; simp
theorem set_rng {α : Type} {n i : Nat} {f : Nat → α} {v : α} : ((List.range n).map f).set i v = (List.range n).map fun x => if x = i then v else f x := by
  refine List.ext_getElem? fun k => ?_
  by_cases hk : k < n
  · by_cases h : k = i
    · subst h
      rw [List.getElem?_set_self (by simpa using hk), List.getElem?_map, List.getElem?_range hk]
      simp
    · have h' : ¬ i = k := fun e => h e.symm
      rw [List.getElem?_set_ne h', List.getElem?_map, List.getElem?_map, List.getElem?_range hk]
      simp [h]
  · rw [List.getElem?_eq_none (by simpa using hk), List.getElem?_eq_none (by simpa using hk)]
theorem get_rng {α : Type} {n i : Nat} {f : Nat → α} (h : i < n) : ((List.range n).map f)[i]? = some (f i) := by rw [List.getElem?_map, List.getElem?_range h]; rfl
theorem app1_nx {env : Ev} {fe fk : Ev → R} {i j n : Nat} {t t1 : Tg} {d0 : D} {ds dss : List D} (hk : fk env = some (t1, .int (j : Int))) (he : fe env = some (t, d0)) (hi : env[i]? = some (some ⟨n + 2, .lst dss⟩)) (hj : dss[j]? = some (.lst ds)) (ht : okTo t d0 n = true) (hl : ds.length < 16777216) :
    appS1 i fk fe env = some (.nx (env.set i (some ⟨n + 2, .lst (dss.set j (.lst (ds ++ [d0])))⟩))) := by
  have hjl : j < dss.length := (List.getElem?_eq_some_iff.mp hj).1
  unfold appS1
  rw [hk, he, hi]
  simp only [ixN_nat hjl, hj, ht, sizeLine_eq, hl, decide_true, Bool.and_self, if_true]
theorem rng_of {env : Ev} {i : Nat} {W : Wy} (ok : okW W) (h : env[i]? = some (some ⟨0, encW W⟩)) : (itR1 (bind1 (fVar i) gLen)) env = some ((List.range W.length).map fun (k : Nat) => .int (k : Int)) := by
  have e : (bind1 (fVar i) gLen) env = some (.fz, .int ((W.map encK).length : Nat)) := b1 (fv h) gLen_l
  unfold itR1
  rw [e, List.length_map]
  have : okR ((W.length : Nat) : Int) = true := by
    have := ok.le
    unfold okR
    rw [Bool.and_eq_true_iff]
    exact ⟨decide_eq_true (by omega), decide_eq_true (by omega)⟩
  simp only [this, if_true, Int.toNat_natCast]
theorem isnot_o {o : Option (List Nat)} {t0 t1 : Tg} : gIsNot t0 (encP o) t1 .non = some (.fz, .bl o.isSome) := by
  rw [gIsNot_n, isNon_encP]
  cases o <;> rfl
theorem is_o {o : Option (List Nat)} {t0 t1 : Tg} : gIs t0 (encP o) t1 .non = some (.fz, .bl (!o.isSome)) := by
  rw [gIs_n, isNon_encP]
  cases o <;> rfl
theorem whole_n (k : Nat) : g__law_whole [encN k] = some (.fz, .bl true) := by
  refine runF_rt (ret_fz ?_)
  show (fAndV (bind1 (fVar 0) (gIsi "int")) (fNotV (bind1 (fVar 0) (gIsi "bool")))) [some ⟨0, .int (k : Int)⟩] = _
  refine andV_t (t := .fz) (b1 fv (by simp [tyD])) ?_
  have : (bind1 (fVar 0) (gIsi "bool")) [some ⟨0, .int (k : Int)⟩] = some (.fz, .bl false) := b1 fv (by simp [tyD])
  unfold fNotV
  rw [this]
  rfl
theorem fzS_nx {s : SF} {env e : Ev} {i : Nat} (h : s env = some (.nx e)) : fzS i s env = some (.nx (frzE i e)) := by
  unfold fzS
  rw [h]

/-! ### comes -/
def addB (b : Nat) (L : List (List Nat)) (y : Nat) : List (List Nat) := L.set y (L.getD y [] ++ [b])
theorem add_ok {b : Nat} : ∀ (ys : List Nat) (L : List (List Nat)) (c : Nat), (∀ l ∈ L, l.length ≤ c) → (ys.foldl (addB b) L).length = L.length ∧ ∀ l ∈ ys.foldl (addB b) L, l.length ≤ c + ys.length
  | [], L, c, h => ⟨rfl, fun l hl => h l hl⟩
  | y :: ys, L, c, h => by
    have h2 : ∀ l ∈ addB b L y, l.length ≤ c + 1 := fun l hl => by
      rcases List.mem_or_eq_of_mem_set hl with e | e
      · have := h l e; omega
      · rw [e, List.getD_eq_getElem?_getD]
        cases hy : L[y]? with
        | none => simp
        | some l0 =>
          have := h l0 (List.mem_of_getElem? hy)
          simp
          omega
    obtain ⟨i1, i2⟩ := add_ok ys (addB b L y) (c + 1) h2
    refine ⟨by rw [List.foldl_cons, i1]; simp [addB], fun l hl => ?_⟩
    have := i2 l hl
    simp only [List.length_cons]
    omega
def addAll (W : Wy) (b : Nat) (L : List (List Nat)) : List (List Nat) := (sucs W b).foldl (addB b) L
noncomputable def comT (W : Wy) (i : Nat) : List (List Nat) := (List.range i).foldl (fun L b => if dR W none b = true then addAll W b L else L) (List.replicate W.length [])
theorem comT_s (W : Wy) (i : Nat) : comT W (i + 1) = if dR W none i = true then addAll W i (comT W i) else comT W i := by
  unfold comT
  rw [List.range_succ, List.foldl_append]
  rfl
theorem sucs_len {W : Wy} (ok : okW W) {x : Nat} (hx : x < W.length) : (sucs W x).length ≤ 4 := ok.sl _ (List.mem_of_getElem? (sucs_get hx))
theorem comT_ok {W : Wy} (ok : okW W) : ∀ i, i ≤ W.length → (comT W i).length = W.length ∧ ∀ l ∈ comT W i, l.length ≤ 4 * i
  | 0, _ => ⟨by simp [comT], fun l hl => by
    have : l = [] := by simpa [comT] using hl |> fun h => (by simp [comT] at h; exact h.2)
    rw [this]; simp⟩
  | i + 1, hi => by
    obtain ⟨h1, h2⟩ := comT_ok ok i (by omega)
    rw [comT_s]
    split
    · obtain ⟨k1, k2⟩ := add_ok (b := i) (sucs W i) (comT W i) (4 * i) h2
      have := sucs_len ok (x := i) (by omega)
      exact ⟨by rw [addAll, k1, h1], fun l hl => by have := k2 l hl; omega⟩
    · exact ⟨h1, fun l hl => by have := h2 l hl; omega⟩
theorem add_step {W : Wy} {L : List (List Nat)} {b y : Nat} (hy : y < L.length) : (L.map encK)[y]? = some (.lst ((L.getD y []).map encN)) ∧ (L.map encK).set y (.lst ((L.getD y []).map encN ++ [encN b])) = (addB b L y).map encK := by
  refine ⟨?_, ?_⟩
  · rw [List.getElem?_map, List.getElem?_eq_getElem hy, List.getD_eq_getElem?_getD, List.getElem?_eq_getElem hy]
    rfl
  · unfold addB
    rw [List.map_set]
    simp [encK]
def eC (W : Wy) (F : List (Option (List Nat))) (b : Nat) (L : List (List Nat)) (z : Option Sl) : Ev := [some ⟨0, encW W⟩, some ⟨0, .lst (F.map encP)⟩, some ⟨2, .lst (L.map encK)⟩, some ⟨0, encN b⟩, z]
theorem for_C {W : Wy} (ok : okW W) {b : Nat} (hb : b < W.length) {F : List (Option (List Nat))} {L : List (List Nat)} {c : Nat} {z : Option Sl} (hL : L.length = W.length) (hc : ∀ l ∈ L, l.length ≤ c) (hcc : c ≤ 1000) :
    ∃ z', forS (itF false (bind2 (fVar 0) (fVar 3) gIx)) (setE 4) (appS1 2 (fVar 4) (fVar 3)) (eC W F b L z) = some (.nx (eC W F b (addAll W b L) z')) := by
  obtain ⟨e', k1, z', rfl⟩ := for_inv (env := eC W F b L z) (tgt := setE 4) (s := appS1 2 (fVar 4) (fVar 3)) (fun i env => ∃ z, env = eC W F b (((sucs W b).take i).foldl (addB b) L) z) ((sucs W b).map encN) (it_sucs (i := 0) (k := 3) hb rfl rfl) ⟨z, rfl⟩ (by
    rintro i d env hd ⟨z, rfl⟩
    rw [List.getElem?_map] at hd
    cases hy : (sucs W b)[i]? with
    | none => rw [hy] at hd; cases hd
    | some y =>
      rw [hy] at hd
      cases hd
      have hyl := sucs_lt ok (List.mem_of_getElem? hy)
      obtain ⟨a1, a2⟩ := add_ok (b := b) ((sucs W b).take i) L c hc
      have hsl := sucs_len ok hb
      obtain ⟨s1, s2⟩ := add_step (W := W) (L := ((sucs W b).take i).foldl (addB b) L) (b := b) (y := y) (by rw [a1, hL]; exact hyl)
      have hln : ((((sucs W b).take i).foldl (addB b) L).getD y []).length ≤ 1004 := by
        have hl : y < (((sucs W b).take i).foldl (addB b) L).length := by rw [a1, hL]; exact hyl
        rw [List.getD_eq_getElem?_getD, List.getElem?_eq_getElem hl]
        have := a2 _ (List.getElem_mem hl)
        have h4 : ((sucs W b).take i).length ≤ 4 := Nat.le_trans (by simp; omega) hsl
        simp only [Option.getD_some]
        omega
      refine ⟨_, eC W F b (((sucs W b).take (i + 1)).foldl (addB b) L) (some ⟨0, encN y⟩), rfl, .inl ((app1_nx (n := 0) (t := .fz) (d0 := encN b) (j := y) rfl rfl rfl s1 rfl (by rw [List.length_map]; omega)).trans ?_), _, rfl⟩
      rw [s2]
      have : (sucs W b).take (i + 1) = (sucs W b).take i ++ [y] := by rw [List.take_add_one, hy]; rfl
      rw [this, List.foldl_append]
      rfl)
  rw [List.length_map, List.take_length] at k1
  exact ⟨z', k1⟩
theorem l_reached0 {W : Wy} (ok : okW W) : ∃ F : List (Option (List Nat)), g_reached [encW W] = some (.fr 2, .lst (F.map encP)) ∧ F.length = W.length ∧ (∀ x : Nat, (∃ p, F[x]? = some (some p)) ↔ Rch W none x) ∧ (∀ (x : Nat) (p : List Nat), F[x]? = some (some p) → Pth W p x) ∧ (∀ (x : Nat) (p : List Nat), F[x]? = some (some p) → p.length ≤ W.length) ∧
    (∀ (x : Nat) (p : List Nat), F[x]? = some (some p) → ∀ y, y ∈ sucs W x → ∃ q, F[y]? = some (some q) ∧ q.length ≤ p.length + 1) ∧ ∀ q : List Nat, F[0]? = some (some q) → q = [0] := by
  obtain ⟨F, h1, h2, h3, h4, h5, h6, h7⟩ := l_from ok none
  exact ⟨F, runF_rt (t := .fr 2) (ret_fr (call_3 fv rfl rfl h1)), h2, h3, h4, h5, fun x p h y hy => h6 x p h y hy (by simp), h7⟩
theorem sel {W : Wy} {F : List (Option (List Nat))} (hl : F.length = W.length) (hr : ∀ x : Nat, (∃ p, F[x]? = some (some p)) ↔ Rch W none x) {x : Nat} (hx : x < W.length) : ∃ o, F[x]? = some o ∧ (F.map encP)[x]? = some (encP o) ∧ o.isSome = dR W none x := by
  have hf : F[x]? = some F[x] := List.getElem?_eq_getElem (by omega)
  refine ⟨F[x], hf, by rw [List.getElem?_map, hf]; rfl, ?_⟩
  rw [Bool.eq_iff_iff, dR_iff, ← hr x, hf]
  cases F[x] with
  | none => simp
  | some p => simp
theorem l_comes {W : Wy} (ok : okW W) : g_comes [encW W] = some (.fr 2, .lst ((comT W W.length).map encK)) := by
  obtain ⟨F, f1, f2, f3, -⟩ := l_reached0 ok
  have hle := ok.le
  have e1 : (lcF 1 [3] (itF true (fVar 0)) (setE 3) (fun _ => some true) (fLst fNil)) [some ⟨0, encW W⟩, some ⟨0, .lst (F.map encP)⟩, none, none, none] = some (.fr 2, .lst ((comT W 0).map encK)) := by
    refine lcF_of (ds := W.map encK) (by rfl) (by rw [List.length_map]; omega) ?_
    refine (lcGo_map (α := List Nat) encK (fun _ => true) (fun _ => .lst []) W fun a _ => ⟨_, rfl, rfl, fun _ => ⟨.fr 1, rfl, rfl⟩⟩).trans ?_
    simp [comT, List.map_const', encK]
  refine runF_rt (t := .fr 2) ?_
  show t_comes [some ⟨0, encW W⟩, none, none, none, none] = _
  refine seq_nx (asg_fz (call_1 fv f1)) ?_
  refine seq_nx (asg_fr e1) ?_
  refine seq_inv (fun i env => ∃ z y, env = [some ⟨0, encW W⟩, some ⟨0, .lst (F.map encP)⟩, some ⟨2, .lst ((comT W i).map encK)⟩, z, y]) _ (rng_of (i := 0) ok rfl) ⟨none, none, rfl⟩ ?_ ?_
  · rintro i d env hd ⟨z, y, rfl⟩
    obtain ⟨hi, rfl⟩ := range_at hd
    obtain ⟨o, ho, hoD, hoR⟩ := sel f2 f3 hi
    obtain ⟨c1, c2⟩ := comT_ok ok i (by omega)
    have hc : (asB (bind2 (bind2 (fVar 1) (fVar 3) gIx) (fC .non) gIsNot)) (eC W F i (comT W i) y) = some (dR W none i) := asB_of (b2 (b2 fv (fv (d0 := .int (i : Int))) (ix_l hoD (Nat.zero_le 1))) rfl (by rw [isnot_o, hoR]))
    cases hR : dR W none i with
    | false =>
      refine ⟨_, eC W F i (comT W (i + 1)) y, rfl, .inl ((if_ff (hc.trans (by rw [hR])) nilS_e).trans ?_), _, _, rfl⟩
      rw [comT_s, if_neg (by rw [hR]; decide)]
    | true =>
      obtain ⟨z', hz'⟩ := for_C ok hi (F := F) (z := y) c1 c2 (by omega)
      refine ⟨_, eC W F i (comT W (i + 1)) z', rfl, .inl ((if_tt (hc.trans (by rw [hR])) hz').trans ?_), _, _, rfl⟩
      rw [comT_s, if_pos hR]
  · rintro env' ⟨z, y, rfl⟩
    simp only [List.length_map, List.length_range]
    rfl
end Lw
namespace Lw
open PySem PySem.Spec PyProof.Rows L2 VL
/-! ### a way is a way -/
theorem Pth.facts {W : Wy} (ok : okW W) {p : List Nat} {x : Nat} (h : Pth W p x) : (∃ q, p = q ++ [x]) ∧ p[0]? = some 0 ∧ (∀ (k u v : Nat), p[k]? = some u → p[k + 1]? = some v → v ∈ sucs W u) ∧ ∀ u ∈ p, u < W.length := by
  induction h with
  | base =>
    refine ⟨⟨[], rfl⟩, rfl, fun k u v h1 h2 => ?_, fun u hu => ?_⟩
    · cases h2
    · rw [List.mem_singleton.mp hu]; exact ok.pos
  | @step p x y hp hy ih =>
    obtain ⟨⟨q, rfl⟩, h0, hk, hm⟩ := ih
    refine ⟨⟨q ++ [x], rfl⟩, ?_, fun k u v h1 h2 => ?_, fun u hu => ?_⟩
    · rw [List.getElem?_append_left (by simp)]; exact h0
    · by_cases h : k + 1 < (q ++ [x]).length
      · rw [List.getElem?_append_left h] at h2
        rw [List.getElem?_append_left (by omega)] at h1
        exact hk k u v h1 h2
      · rw [List.getElem?_append_right (by omega)] at h2
        have hv := List.mem_of_getElem? h2
        rw [List.mem_singleton.mp hv]
        have hlt : k + 1 - (q ++ [x]).length < 1 := (List.getElem?_eq_some_iff.mp h2).1
        have hkl : k = q.length := by
          simp only [List.length_append, List.length_singleton] at h hlt
          omega
        rw [hkl, List.getElem?_append_left (by simp)] at h1
        simp at h1
        rw [← h1]
        exact hy
    · rcases List.mem_append.mp hu with h | h
      · exact hm u h
      · rw [List.mem_singleton.mp h]; exact sucs_lt ok hy
theorem atI_neg1 {q : List D} {z : D} : atI (q ++ [z]) (-1) = some z := by
  have h1 : ixN (q ++ [z]).length (-1) = some q.length := by
    unfold ixN
    rw [if_neg (by decide), if_pos (by simp; omega)]
    simp
    omega
  unfold atI
  rw [h1]
  simp
theorem blsD_t {α : Type} : ∀ xs : List α, blsD (xs.map fun _ => D.bl true) = some (xs.map fun _ => true)
  | [] => rfl
  | a :: xs => by
    rw [List.map_cons]
    simp only [blsD, blsD_t xs, Option.map_some, List.map_cons]
theorem gAll_t {α : Type} {t : Tg} (xs : List α) : gAll (fun bs => bs.all id) t (.lst (xs.map fun _ => D.bl true)) = some (.fz, .bl true) := by
  unfold gAll
  simp only [blsD_t]
  simp
theorem inN (v : Nat) (l : List Nat) : inD (encN v) (encK l) = some (decide (v ∈ l)) := inD_map (fun _ => rfl) (fun _ => rfl) (fun a b => by
  show eqD (.int (a : Int)) (.int (b : Int)) = _
  rw [eqD_int]
  by_cases h : a = b <;> simp [h]
  omega) v l
theorem l_isway {W : Wy} (ok : okW W) {p : List Nat} {x : Nat} (h : Pth W p x) (hl : p.length ≤ 61) : g__law_is_way [encW W, encK p, encN x] = some (.fz, .bl true) := by
  obtain ⟨⟨q, hq⟩, h0, hk, hm⟩ := h.facts ok
  have hle := ok.le
  refine runF_rt (t := .fz) ?_
  show t__law_is_way [some ⟨0, encW W⟩, some ⟨0, encK p⟩, some ⟨0, encN x⟩, none, none] = _
  have hpl : 0 < p.length := by rw [hq]; simp
  have h0D : (p.map encN)[0]? = some (encN 0) := by rw [List.getElem?_map, h0]; rfl
  refine seq_ifr (b := false) ?_ (fun h => by cases h) fun _ => ?_
  · refine (or_of (a := false) (b := false) (not_of (b := true) (tru_of (d0 := .bl true) (b1 fv rfl))) fun _ => or_of (a := false) (b := false) (asB_of (t := .fz) (b2 (fv (d0 := .lst (p.map encN))) rfl ?_)) fun _ => or_of (a := false) (b := false) (asB_of (t := .fz) (b2 (b2 (fv (d0 := .lst (p.map encN))) rfl (ix_l (j := 0) h0D (Nat.zero_le 1))) rfl ?_)) fun _ => asB_of (t := .fz) (b2 (b2 (fv (d0 := .lst (p.map encN))) rfl (r := some (.fz, encN x)) ?_) fv ?_)).trans rfl
    · rw [gEq_d (okNs p) rfl, eqD_lst]
      cases p with
      | nil => simp at hpl
      | cons a p =>
        rw [List.map_cons]
        show some (Tg.fz, D.bl (eqDs (encN a :: p.map encN) [])) = _
        rw [eqDs_cn]
    · rfl
    · show gIx .fz (.lst (p.map encN)) .fz (.int (-1)) = _
      rw [gIx_l, hq, List.map_append]
      rw [show (List.map encN [x]) = [encN x] from rfl, atI_neg1]
      rfl
    · show gNe .fz (.int (x : Int)) .fz (.int (x : Int)) = _
      rw [gNe_i]
      simp
  refine seq_ifr (b := false) ?_ (fun h => by cases h) fun _ => ?_
  · have e1 : (lcF 0 [4] (itF true (fVar 1)) (setE 4) (fun _ => some true) (callF g__law_whole (fCons (fVar 4) fNil))) [some ⟨0, encW W⟩, some ⟨0, encK p⟩, some ⟨0, encN x⟩, none, none] = some (.fr 1, .lst (p.map fun _ => D.bl true)) := by
      refine lcF_of (ds := p.map encN) (by rfl) (by rw [List.length_map]; omega) ?_
      refine (lcGo_map (α := Nat) encN (fun _ => true) (fun _ => .bl true) p fun a _ => ⟨_, rfl, rfl, fun _ => ⟨.fz, call_1 (fv (d0 := encN a)) (whole_n a), rfl⟩⟩).trans ?_
      rw [List.filter_eq_self.mpr fun _ _ => rfl]
    exact not_of (b := true) (tru_of (b1 e1 (gAll_t p)))
  have hr : (itR2 (fC (.int 1)) (bind1 (fVar 1) gLen)) [some ⟨0, encW W⟩, some ⟨0, encK p⟩, some ⟨0, encN x⟩, none, none] = some ((List.range (p.length - 1)).map fun (k : Nat) => .int (1 + (k : Int))) := by
    have e : (bind1 (fVar 1) gLen) [some ⟨0, encW W⟩, some ⟨0, encK p⟩, some ⟨0, encN x⟩, none, none] = some (.fz, .int ((p.map encN).length : Nat)) := b1 (fv (d0 := .lst (p.map encN))) gLen_l
    unfold itR2
    rw [e, List.length_map]
    have : (okR 1 && okR ((p.length : Nat) : Int)) = true := by
      unfold okR
      simp
      omega
    simp only [fC_e, this, if_true]
    rw [show ((p.length : Int) - 1).toNat = p.length - 1 by omega]
  refine seq_inv (fun _ env => ∃ z, env = [some ⟨0, encW W⟩, some ⟨0, encK p⟩, some ⟨0, encN x⟩, z, none]) _ hr ⟨none, rfl⟩ ?_ ?_
  · rintro i d env hd ⟨z, rfl⟩
    rw [List.getElem?_map] at hd
    by_cases hi : i < p.length - 1
    · rw [List.getElem?_range hi] at hd
      cases hd
      have hu : p[i]? = some p[i] := List.getElem?_eq_getElem (by omega)
      have hv : p[i + 1]? = some p[i + 1] := List.getElem?_eq_getElem (by omega)
      have huD : (p.map encN)[i]? = some (encN p[i]) := by rw [List.getElem?_map, hu]; rfl
      have hvD : (p.map encN)[i + 1]? = some (encN p[i + 1]) := by rw [List.getElem?_map, hv]; rfl
      have hmem := hk i _ _ hu hv
      have hul := hm _ (List.mem_of_getElem? hu)
      have e1 : (1 : Int) + (i : Int) = ((i + 1 : Nat) : Int) := by omega
      refine ⟨_, [some ⟨0, encW W⟩, some ⟨0, encK p⟩, some ⟨0, encN x⟩, some ⟨0, .int (1 + (i : Int))⟩, none], rfl, .inl (if_ff ?_ nilS_e), _, rfl⟩
      have e0 : VL.gSub .fz (.int (1 + (i : Int))) .fz (.int 1) = some (.fz, .int (i : Int)) := by
        rw [gSub_i, show (1 + (i : Int)) - 1 = (i : Int) by omega]
      have s1 : (bind2 (fVar 3) (fC (.int 1)) VL.gSub) [some ⟨0, encW W⟩, some ⟨0, encK p⟩, some ⟨0, encN x⟩, some ⟨0, .int (1 + (i : Int))⟩, none] = some (.fz, .int (i : Int)) := b2 fv rfl e0
      have s2 : (bind2 (fVar 1) (fVar 3) gIx) [some ⟨0, encW W⟩, some ⟨0, encK p⟩, some ⟨0, encN x⟩, some ⟨0, .int (1 + (i : Int))⟩, none] = some (.fz, encN p[i + 1]) := b2 (fv (d0 := .lst (p.map encN))) fv (by rw [e1]; exact ix_l hvD (Nat.zero_le 1))
      refine asB_of (t := .fz) (b2 s2 (b2 fv (b2 (fv (d0 := .lst (p.map encN))) s1 (ix_l huD (Nat.zero_le 1))) (ix_l (enc_sucs hul) (Nat.zero_le 1))) ?_)
      rw [gNotIn_e, inN]
      simp [hmem]
    · rw [List.getElem?_eq_none (by simpa using hi)] at hd
      cases hd
  · rintro env' ⟨z, rfl⟩
    rfl
end Lw
namespace Lw
open PySem PySem.Spec PyProof.Rows L2 VL
theorem okKn (l : List Nat) : okD 59 (encK l) = true := by
  simp only [encK, okD]
  exact okDs_map fun a _ => rfl
theorem okKs (C : List (List Nat)) : okD 60 (.lst (C.map encK)) = true := by
  simp only [okD]
  exact okDs_map fun l _ => okKn l
theorem eqKs (C : List (List Nat)) : eqD (.lst (C.map encK)) (.lst (C.map encK)) = true := by
  rw [eqD_lst]
  exact eqDs_self eqK C
theorem okI (l : List Int) : okD 60 (.lst (l.map D.int)) = true := by
  simp only [okD]
  exact okDs_map fun a _ => rfl
theorem eqI (l : List Int) : eqD (.lst (l.map D.int)) (.lst (l.map D.int)) = true := by
  rw [eqD_lst]
  exact eqDs_self (fun a => by simp [eqD_int]) l
def mkL (l : List Nat) (x : Nat) : D := .lst (l.map encN ++ [.int (1000 + (x : Int))])
theorem mkL_i (l : List Nat) (x : Nat) : mkL l x = .lst ((l.map (fun (k : Nat) => (k : Int)) ++ [1000 + (x : Int)]).map D.int) := by
  unfold mkL
  rw [List.map_append, List.map_map]
  rfl
theorem idx_mk : ∀ (l : List Nat) (x : Nat), (∀ u ∈ l, u < 1000) → idxD (.int (1000 + (x : Int))) (l.map encN ++ [.int (1000 + (x : Int))]) = some l.length
  | [], x, _ => by simp [idxD, eqD_int]
  | a :: l, x, h => by
    have ih := idx_mk l x fun u hu => h u (List.mem_cons_of_mem _ hu)
    have ha := h a List.mem_cons_self
    have e : eqD (encN a) (.int (1000 + (x : Int))) = false := by
      show eqD (.int (a : Int)) _ = _
      rw [eqD_int]
      simp
      omega
    rw [List.map_cons, List.cons_append]
    simp only [idxD, e, ih]
    simp
theorem list_rng {α β : Type} {f : α → β} {d : α} : ∀ {l : List α} {n : Nat}, l.length = n → l.map f = (List.range n).map fun x => f (l.getD x d) := by
  intro l n h
  refine List.ext_getElem? fun k => ?_
  by_cases hk : k < n
  · have hl : l[k]? = some l[k] := List.getElem?_eq_getElem (by omega)
    rw [List.getElem?_map, List.getElem?_map, List.getElem?_range hk, hl]
    simp [List.getD_eq_getElem?_getD, hl]
  · rw [List.getElem?_eq_none (by rw [List.length_map]; omega), List.getElem?_eq_none (by simpa using hk)]
def eQ (ns : List Int) (W : Wy) (nf : Nat) (Fd : D) (nt : Nat) (Cd : D) (T : List Nat) (nd : Nat) (Dd : D) (z7 z8 z9 : Option Sl) : Ev := [some ⟨0, .scr ns⟩, some ⟨0, encW W⟩, some ⟨0, encW W⟩, some ⟨nf, Fd⟩, some ⟨nt, Cd⟩, some ⟨0, encT T⟩, some ⟨nd, Dd⟩, z7, z8, z9]
def eD (ns : List Int) (W : Wy) (Fd Cd : D) (T : List Nat) (z9 : Option Sl) (b : Nat) (L : List (List Nat)) (z : Option Sl) : Ev := eQ ns W 2 Fd 2 Cd T 2 (.lst (L.map encK)) (some ⟨0, encN b⟩) z z9
theorem for_D {W : Wy} (ok : okW W) {b : Nat} (hb : b < W.length) {ns : List Int} {Fd Cd : D} {T : List Nat} {z9 : Option Sl} {L : List (List Nat)} {c : Nat} {z : Option Sl} (hL : L.length = W.length) (hc : ∀ l ∈ L, l.length ≤ c) (hcc : c ≤ 1000) :
    ∃ z', forS (itF false (bind2 (fVar 1) (fVar 7) gIx)) (setE 8) (appS1 6 (fVar 8) (fVar 7)) (eD ns W Fd Cd T z9 b L z) = some (.nx (eD ns W Fd Cd T z9 b (addAll W b L) z')) := by
  obtain ⟨e', k1, z', rfl⟩ := for_inv (env := eD ns W Fd Cd T z9 b L z) (tgt := setE 8) (s := appS1 6 (fVar 8) (fVar 7)) (fun i env => ∃ z, env = eD ns W Fd Cd T z9 b (((sucs W b).take i).foldl (addB b) L) z) ((sucs W b).map encN) (it_sucs (i := 1) (k := 7) hb rfl rfl) ⟨z, rfl⟩ (by
    rintro i d env hd ⟨z, rfl⟩
    rw [List.getElem?_map] at hd
    cases hy : (sucs W b)[i]? with
    | none => rw [hy] at hd; cases hd
    | some y =>
      rw [hy] at hd
      cases hd
      have hyl := sucs_lt ok (List.mem_of_getElem? hy)
      obtain ⟨a1, a2⟩ := add_ok (b := b) ((sucs W b).take i) L c hc
      have hsl := sucs_len ok hb
      obtain ⟨s1, s2⟩ := add_step (W := W) (L := ((sucs W b).take i).foldl (addB b) L) (b := b) (y := y) (by rw [a1, hL]; exact hyl)
      have hln : ((((sucs W b).take i).foldl (addB b) L).getD y []).length ≤ 1004 := by
        have hl : y < (((sucs W b).take i).foldl (addB b) L).length := by rw [a1, hL]; exact hyl
        rw [List.getD_eq_getElem?_getD, List.getElem?_eq_getElem hl]
        have := a2 _ (List.getElem_mem hl)
        have h4 : ((sucs W b).take i).length ≤ 4 := Nat.le_trans (by simp; omega) hsl
        simp only [Option.getD_some]
        omega
      refine ⟨_, eD ns W Fd Cd T z9 b (((sucs W b).take (i + 1)).foldl (addB b) L) (some ⟨0, encN y⟩), rfl, .inl ((app1_nx (n := 0) (t := .fz) (d0 := encN b) (j := y) rfl rfl rfl s1 rfl (by rw [List.length_map]; omega)).trans ?_), _, rfl⟩
      rw [s2]
      have : (sucs W b).take (i + 1) = (sucs W b).take i ++ [y] := by rw [List.take_add_one, hy]; rfl
      rw [this, List.foldl_append]
      rfl)
  rw [List.length_map, List.take_length] at k1
  exact ⟨z', k1⟩

noncomputable def bdyA : SF := seqS (appS1 4 (fVar 7) (bind2 (fC (.int 1000)) (fVar 7) gAdd)) (ifS (asB (bind2 (bind2 (fVar 3) (fVar 7) gIx) (fC .non) gIsNot)) (appS1 3 (fVar 7) (bind2 (fC (.int 1000)) (fVar 7) gAdd)) nilS)
def fA (Fo : Nat → Option (List Nat)) (i : Nat) (x : Nat) : D := match Fo x with
  | none => .non
  | some p => if x < i then mkL p x else encK p
def cA (Co : Nat → List Nat) (i : Nat) (x : Nat) : D := if x < i then mkL (Co x) x else encK (Co x)
theorem low2 {t1 : Tg} {xs : List D} {j : Nat} {z : D} (h : xs[j]? = some z) : gIx (.fr 2) (.lst xs) t1 (.int (j : Int)) = some (if isSc z = true then .fz else .pk 1, z) := by
  rw [gIx_l, atI_nat h]
  rfl
theorem bdyA_step {ns : List Int} {W : Wy} {T : List Nat} {Dd : D} {Fo : Nat → Option (List Nat)} {Co : Nat → List Nat} {i : Nat} {z8 z9 : Option Sl} (hi : i < W.length) (hF : ∀ p, Fo i = some p → p.length ≤ 1000) (hC : (Co i).length ≤ 1000) :
    bdyA (eQ ns W 2 (.lst ((List.range W.length).map (fA Fo i))) 2 (.lst ((List.range W.length).map (cA Co i))) T 0 Dd (some ⟨0, .int (i : Int)⟩) z8 z9) = some (.nx (eQ ns W 2 (.lst ((List.range W.length).map (fA Fo (i + 1)))) 2 (.lst ((List.range W.length).map (cA Co (i + 1)))) T 0 Dd (some ⟨0, .int (i : Int)⟩) z8 z9)) := by
  have hc1 : ((List.range W.length).map (cA Co i))[i]? = some (.lst ((Co i).map encN)) := by
    rw [get_rng hi]
    unfold cA
    rw [if_neg (Nat.lt_irrefl i)]
    rfl
  have hc2 : ((List.range W.length).map (cA Co i)).set i (.lst ((Co i).map encN ++ [.int (1000 + (i : Int))])) = (List.range W.length).map (cA Co (i + 1)) := by
    rw [set_rng]
    refine List.map_congr_left fun x _ => ?_
    by_cases hx : x = i
    · subst hx; simp [cA, mkL]
    · have : (x < i + 1) = (x < i) := propext (by omega)
      simp [cA, hx, this]
  have k1 : appS1 4 (fVar 7) (bind2 (fC (.int 1000)) (fVar 7) gAdd) (eQ ns W 2 (.lst ((List.range W.length).map (fA Fo i))) 2 (.lst ((List.range W.length).map (cA Co i))) T 0 Dd (some ⟨0, .int (i : Int)⟩) z8 z9) = some (.nx (eQ ns W 2 (.lst ((List.range W.length).map (fA Fo i))) 2 (.lst ((List.range W.length).map (cA Co (i + 1)))) T 0 Dd (some ⟨0, .int (i : Int)⟩) z8 z9)) := by
    refine (app1_nx (n := 0) (t := .fz) (d0 := .int (1000 + (i : Int))) fv (b2 rfl fv gAdd_i) rfl hc1 rfl (by rw [List.length_map]; omega)).trans ?_
    rw [hc2]
    rfl
  refine seq_nx k1 ?_
  have hf1 : ((List.range W.length).map (fA Fo i))[i]? = some (encP (Fo i)) := by
    rw [get_rng hi]
    unfold fA
    cases Fo i with
    | none => rfl
    | some p => simp [encP]
  have hcc : (asB (bind2 (bind2 (fVar 3) (fVar 7) gIx) (fC .non) gIsNot)) (eQ ns W 2 (.lst ((List.range W.length).map (fA Fo i))) 2 (.lst ((List.range W.length).map (cA Co (i + 1)))) T 0 Dd (some ⟨0, .int (i : Int)⟩) z8 z9) = some (Fo i).isSome := asB_of (b2 (b2 fvp fv (ix2 hf1)) rfl isnot_o)
  cases hfo : Fo i with
  | none =>
    rw [hfo] at hcc
    refine (if_ff hcc nilS_e).trans ?_
    have : (List.range W.length).map (fA Fo i) = (List.range W.length).map (fA Fo (i + 1)) := by
      refine List.map_congr_left fun x _ => ?_
      by_cases hx : x = i
      · subst hx; simp [fA, hfo]
      · have : (x < i + 1) = (x < i) := propext (by omega)
        simp [fA, this]
    rw [this]
  | some p =>
    rw [hfo] at hcc hf1
    have hf2 : ((List.range W.length).map (fA Fo i)).set i (.lst (p.map encN ++ [.int (1000 + (i : Int))])) = (List.range W.length).map (fA Fo (i + 1)) := by
      rw [set_rng]
      refine List.map_congr_left fun x _ => ?_
      by_cases hx : x = i
      · subst hx; simp [fA, mkL, hfo]
      · have : (x < i + 1) = (x < i) := propext (by omega)
        simp [fA, hx, this]
    have := hF p hfo
    refine (if_tt hcc (app1_nx (n := 0) (t := .fz) (d0 := .int (1000 + (i : Int))) fv (b2 rfl fv gAdd_i) rfl hf1 rfl (by rw [List.length_map]; omega))).trans ?_
    rw [hf2]
    rfl
end Lw
namespace Lw
open PySem PySem.Spec PyProof.Rows L2 VL
noncomputable def bdyS : SF := seqS (ifS (asB (bind2 (bind2 (bind2 (fVar 3) (fVar 7) gIx) (fC .non) gIsNot) (bind2 (fVar 7) (fVar 5) gIn) gNe)) (retS (fC (.bl false))) nilS) (ifS (asB (bind2 (fVar 7) (fVar 5) gIn)) (seqS (ifS (fNot (fTru (callF g__law_is_way (fCons (fVar 1) (fCons (bind2 (fVar 3) (fVar 7) gIx) (fCons (fVar 7) fNil)))))) (retS (fC (.bl false))) nilS) (forS (itF false (bind2 (fVar 1) (fVar 7) gIx)) (setE 8) (appS1 6 (fVar 8) (fVar 7)))) nilS)
theorem bdyS_step {ns : List Int} {W : Wy} (ok : okW W) {F : List (Option (List Nat))} {Cd : D} {T : List Nat} {i : Nat} {z8 z9 : Option Sl} (f2 : F.length = W.length) (f3 : ∀ x : Nat, (∃ p, F[x]? = some (some p)) ↔ Rch W none x) (f4 : ∀ (x : Nat) (p : List Nat), F[x]? = some (some p) → Pth W p x) (f5 : ∀ (x : Nat) (p : List Nat), F[x]? = some (some p) → p.length ≤ W.length)
    (hT : ∀ x : Nat, x ∈ T ↔ Rch W none x) (hi : i < W.length) :
    ∃ z8', bdyS (eQ ns W 2 (.lst (F.map encP)) 2 Cd T 2 (.lst ((comT W i).map encK)) (some ⟨0, .int (i : Int)⟩) z8 z9) = some (.nx (eQ ns W 2 (.lst (F.map encP)) 2 Cd T 2 (.lst ((comT W (i + 1)).map encK)) (some ⟨0, .int (i : Int)⟩) z8' z9)) := by
  obtain ⟨o, ho, hoD, hoR⟩ := sel f2 f3 hi
  obtain ⟨c1, c2⟩ := comT_ok ok i (by omega)
  have hle := ok.le
  have hin : (bind2 (fVar 7) (fVar 5) gIn) (eQ ns W 2 (.lst (F.map encP)) 2 Cd T 2 (.lst ((comT W i).map encK)) (some ⟨0, .int (i : Int)⟩) z8 z9) = some (.fz, .bl (decide (i ∈ T))) := b2 fv fv (by rw [gIn_e, inT])
  have hTR : decide (i ∈ T) = dR W none i := by
    rw [Bool.eq_iff_iff, dR_iff, ← hT i]
    simp
  have cA0 : (asB (bind2 (bind2 (bind2 (fVar 3) (fVar 7) gIx) (fC .non) gIsNot) (bind2 (fVar 7) (fVar 5) gIn) gNe)) (eQ ns W 2 (.lst (F.map encP)) 2 Cd T 2 (.lst ((comT W i).map encK)) (some ⟨0, .int (i : Int)⟩) z8 z9) = some false := by
    refine asB_of (t := .fz) (b2 (b2 (b2 fvp fv (ix2 hoD)) rfl isnot_o) hin ?_)
    rw [gNe_d rfl rfl, eqD_bl, hoR, hTR]
    simp
  rw [hTR] at hin
  refine Exists.imp (fun z h => seq_nx (if_ff cA0 nilS_e) h) ?_
  cases hR : dR W none i with
  | false =>
    rw [hR] at hin
    refine ⟨z8, (if_ff (asB_of hin) nilS_e).trans ?_⟩
    rw [comT_s, if_neg (by rw [hR]; decide)]
  | true =>
    rw [hR] at hin
    cases o with
    | none => rw [hR] at hoR; cases hoR
    | some p =>
      have hp := f4 i p ho
      have hpl := f5 i p ho
      obtain ⟨z', hz'⟩ := for_D ok hi (ns := ns) (Fd := .lst (F.map encP)) (Cd := Cd) (T := T) (z9 := z9) (z := z8) c1 c2 (by omega)
      have hcall : callF g__law_is_way (fCons (fVar 1) (fCons (bind2 (fVar 3) (fVar 7) gIx) (fCons (fVar 7) fNil))) (eQ ns W 2 (.lst (F.map encP)) 2 Cd T 2 (.lst ((comT W i).map encK)) (some ⟨0, .int (i : Int)⟩) z8 z9) = some (.fz, .bl true) :=
        call_3 (t2 := .pk 1) (d2 := encK p) (d3 := encN i) fv (b2 fvp fv (ix2 hoD)) fv (l_isway ok hp (by omega))
      refine ⟨z', (if_tt (asB_of hin) (seq_nx (if_ff (not_of (b := true) (tru_of hcall)) nilS_e) hz')).trans ?_⟩
      rw [comT_s, if_pos hR]
      rfl
noncomputable def bdyH : SF := forS (itF false (bind2 (fVar 1) (fVar 7) gIx)) (setE 8) (ifS (asB (bind2 (bind1 (bind2 (fVar 3) (fVar 8) gIx) gLen) (bind2 (bind1 (bind2 (fVar 3) (fVar 7) gIx) gLen) (fC (.int 1)) gAdd) gGt)) (retS (fC (.bl false))) nilS)
theorem len2 {env : Ev} {F : List (Option (List Nat))} {k x : Nat} {p : List Nat} (h1 : env[3]? = some (some ⟨2, .lst (F.map encP)⟩)) (h2 : env[k]? = some (some ⟨0, encN x⟩)) (hp : F[x]? = some (some p)) : (bind1 (bind2 (fVar 3) (fVar k) gIx) gLen) env = some (.fz, .int (p.length : Nat)) := by
  have hD : (F.map encP)[x]? = some (encP (some p)) := by rw [List.getElem?_map, hp]; rfl
  refine b1 (b2 (fvp h1) (fv h2) (ix2 hD)) ?_
  show gLen (.pk 1) (.lst (p.map encN)) = _
  rw [gLen_l, List.length_map]
theorem bdyH_step {ns : List Int} {W : Wy} (ok : okW W) {F : List (Option (List Nat))} {Cd Dd : D} {T : List Nat} {x : Nat} {z8 z9 : Option Sl} {p : List Nat} (hx : x < W.length) (hp : F[x]? = some (some p)) (f6 : ∀ (x : Nat) (p : List Nat), F[x]? = some (some p) → ∀ y, y ∈ sucs W x → ∃ q, F[y]? = some (some q) ∧ q.length ≤ p.length + 1) :
    ∃ z8', bdyH (eQ ns W 2 (.lst (F.map encP)) 2 Cd T 2 Dd (some ⟨0, encN x⟩) z8 z9) = some (.nx (eQ ns W 2 (.lst (F.map encP)) 2 Cd T 2 Dd (some ⟨0, encN x⟩) z8' z9)) := by
  obtain ⟨e', k1, z', rfl⟩ := for_inv (env := eQ ns W 2 (.lst (F.map encP)) 2 Cd T 2 Dd (some ⟨0, encN x⟩) z8 z9) (tgt := setE 8) (s := ifS (asB (bind2 (bind1 (bind2 (fVar 3) (fVar 8) gIx) gLen) (bind2 (bind1 (bind2 (fVar 3) (fVar 7) gIx) gLen) (fC (.int 1)) gAdd) gGt)) (retS (fC (.bl false))) nilS)
    (fun _ env => ∃ z, env = eQ ns W 2 (.lst (F.map encP)) 2 Cd T 2 Dd (some ⟨0, encN x⟩) z z9) ((sucs W x).map encN) (it_sucs (i := 1) (k := 7) hx rfl rfl) ⟨z8, rfl⟩ (by
      rintro i d env hd ⟨z, rfl⟩
      rw [List.getElem?_map] at hd
      cases hy : (sucs W x)[i]? with
      | none => rw [hy] at hd; cases hd
      | some y =>
        rw [hy] at hd
        cases hd
        obtain ⟨q, hq, hql⟩ := f6 x p hp y (List.mem_of_getElem? hy)
        refine ⟨_, eQ ns W 2 (.lst (F.map encP)) 2 Cd T 2 Dd (some ⟨0, encN x⟩) (some ⟨0, encN y⟩) z9, rfl, .inl (if_ff ?_ nilS_e), _, rfl⟩
        refine asB_of (t := .fz) (b2 (len2 (k := 8) rfl rfl hq) (b2 (len2 (k := 7) rfl rfl hp) rfl gAdd_i) ?_)
        rw [gGt_i]
        have : ¬ ((p.length : Int) + 1 < (q.length : Int)) := by omega
        simp [this])
  exact ⟨z', k1⟩
theorem bor_is {ns : List Int} {W : Wy} {nf nt nd : Nat} {Fd Dd : D} {C : List (List Nat)} {T : List Nat} {z7 z8 z9 : Option Sl} (hC : C.length ≤ 61) :
    (fBor (bind1 (lcF 0 [9] (itF true (fVar 4)) (setE 9) (fun _ => some true) (bind1 (fVar 9) (gIsi "list"))) (gAll fun bs => bs.all id))) (eQ ns W nf Fd nt (.lst (C.map encK)) T nd Dd z7 z8 z9) = some (.fz, .bl true) := by
  obtain ⟨z7', z8', z9', hz⟩ : ∃ z7' z8' z9', frzAll (eQ ns W nf Fd nt (.lst (C.map encK)) T nd Dd z7 z8 z9) = eQ ns W 0 Fd 0 (.lst (C.map encK)) T 0 Dd z7' z8' z9' := ⟨_, _, _, rfl⟩
  have e1 : (lcF 0 [9] (itF true (fVar 4)) (setE 9) (fun _ => some true) (bind1 (fVar 9) (gIsi "list"))) (eQ ns W 0 Fd 0 (.lst (C.map encK)) T 0 Dd z7' z8' z9') = some (.fr 1, .lst (C.map fun _ => D.bl true)) := by
    refine lcF_of (ds := C.map encK) (by rfl) (by rw [List.length_map]; omega) ?_
    refine (lcGo_map (α := List Nat) encK (fun _ => true) (fun _ => .bl true) C fun a _ => ⟨_, rfl, rfl, fun _ => ⟨.fz, b1 (fv (d0 := encK a)) (by simp [encK, tyD]), rfl⟩⟩).trans ?_
    rw [List.filter_eq_self.mpr fun _ _ => rfl]
  have e2 := b1 (h := gAll fun bs => bs.all id) e1 (gAll_t C)
  unfold fBor
  rw [hz, e2]
  rfl
theorem forIf_is {ns : List Int} {W : Wy} {nf nt nd : Nat} {Fd Dd : D} {C : List (List Nat)} {T : List Nat} {z7 z8 z9 : Option Sl} (hC : ∀ l ∈ C, l.length ≤ 1000) :
    (forIf 9 (itF false (fVar 4)) (fNot (fTru (bind1 (lcF 0 [7] (itF true (fVar 9)) (setE 7) (fun _ => some true) (callF g__law_whole (fCons (fVar 7) fNil))) (gAll fun bs => bs.all id))))) (eQ ns W nf Fd nt (.lst (C.map encK)) T nd Dd z7 z8 z9) = some (.nx (eQ ns W nf Fd nt (.lst (C.map encK)) T nd Dd z7 z8 none)) := by
  obtain ⟨z7', z8', z9', hz⟩ : ∃ z7' z8' z9', frzAll (eQ ns W nf Fd nt (.lst (C.map encK)) T nd Dd z7 z8 z9) = eQ ns W 0 Fd 0 (.lst (C.map encK)) T 0 Dd z7' z8' z9' := ⟨_, _, _, rfl⟩
  have hi : (itF false (fVar 4)) (eQ ns W 0 Fd 0 (.lst (C.map encK)) T 0 Dd z7' z8' z9') = some (C.map encK) := rfl
  unfold forIf
  rw [hz, hi]
  simp only
  rw [if_pos]
  · rfl
  refine ⟨?_, by simp [eQ]⟩
  rw [List.all_eq_true]
  intro d hd
  obtain ⟨l, hl, rfl⟩ := List.mem_map.mp hd
  have hll := hC l hl
  have e1 : (lcF 0 [7] (itF true (fVar 9)) (setE 7) (fun _ => some true) (callF g__law_whole (fCons (fVar 7) fNil))) (eQ ns W 0 Fd 0 (.lst (C.map encK)) T 0 Dd z7' z8' (some ⟨0, encK l⟩)) = some (.fr 1, .lst (l.map fun _ => D.bl true)) := by
    refine lcF_of (ds := l.map encN) (by rfl) (by rw [List.length_map]; omega) ?_
    refine (lcGo_map (α := Nat) encN (fun _ => true) (fun _ => .bl true) l fun a _ => ⟨_, rfl, rfl, fun _ => ⟨.fz, call_1 (fv (d0 := encN a)) (whole_n a), rfl⟩⟩).trans ?_
    rw [List.filter_eq_self.mpr fun _ _ => rfl]
  have e2 : (fNot (fTru (bind1 (lcF 0 [7] (itF true (fVar 9)) (setE 7) (fun _ => some true) (callF g__law_whole (fCons (fVar 7) fNil))) (gAll fun bs => bs.all id)))) ((eQ ns W 0 Fd 0 (.lst (C.map encK)) T 0 Dd z7' z8' z9').set 9 (some ⟨0, encK l⟩)) = some false := not_of (b := true) (tru_of (b1 e1 (gAll_t l)))
  rw [e2]
  rfl
noncomputable def bdyL : SF := seqS (ifS (asB (bind2 (bind2 (fVar 4) (fVar 7) gIx) (bind2 (bind2 (fVar 6) (fVar 7) gIx) (fLst (fCons (bind2 (fC (.int 1000)) (fVar 7) gAdd) fNil)) gAdd) gNe)) (retS (fC (.bl false))) nilS) (ifS (fAnd (asB (bind2 (bind2 (fVar 3) (fVar 7) gIx) (fC .non) gIsNot)) (asB (bind2 (bind2 (bind2 (fVar 3) (fVar 7) gIx) (bind2 (fC (.int 1000)) (fVar 7) gAdd) gIdx) (bind2 (bind1 (bind2 (fVar 3) (fVar 7) gIx) gLen) (fC (.int 1)) VL.gSub) gNe))) (retS (fC (.bl false))) nilS)
theorem bdyL_step {ns : List Int} {W : Wy} {T : List Nat} {Fo : Nat → Option (List Nat)} {Co : Nat → List Nat} {i : Nat} {z8 z9 : Option Sl} (hi : i < W.length) (hF : ∀ p, Fo i = some p → ∀ u ∈ p, u < 1000) (hC : (Co i).length ≤ 1000) :
    bdyL (eQ ns W 0 (.lst ((List.range W.length).map (fA Fo W.length))) 0 (.lst ((List.range W.length).map (cA Co W.length))) T 0 (.lst ((List.range W.length).map fun x => encK (Co x))) (some ⟨0, .int (i : Int)⟩) z8 z9) = some (.nx (eQ ns W 0 (.lst ((List.range W.length).map (fA Fo W.length))) 0 (.lst ((List.range W.length).map (cA Co W.length))) T 0 (.lst ((List.range W.length).map fun x => encK (Co x))) (some ⟨0, .int (i : Int)⟩) z8 z9)) := by
  have h4 : ((List.range W.length).map (cA Co W.length))[i]? = some (mkL (Co i) i) := by rw [get_rng hi]; unfold cA; rw [if_pos hi]
  have h6 : ((List.range W.length).map fun x => encK (Co x))[i]? = some (encK (Co i)) := get_rng hi
  have h3 : ((List.range W.length).map (fA Fo W.length))[i]? = some (match Fo i with
    | none => D.non
    | some p => mkL p i) := by
    rw [get_rng hi]
    unfold fA
    cases Fo i with
    | none => rfl
    | some p => simp [hi]
  have hadd : gAdd .fz (encK (Co i)) (.fr 1) (.lst [.int (1000 + (i : Int))]) = some (.fr 1, mkL (Co i) i) := by
    show gAdd .fz (.lst ((Co i).map encN)) (.fr 1) (.lst [.int (1000 + (i : Int))]) = _
    simp [gAdd_l, lvl, sizeLine_eq, mkL]
    omega
  have hne : gNe .fz (mkL (Co i) i) (.fr 1) (mkL (Co i) i) = some (.fz, .bl false) := by
    rw [mkL_i, gNe_d (okI _) (okI _), eqI]
    rfl
  refine seq_nx (if_ff (asB_of (b2 (b2 fv fv (ix_l h4 (Nat.zero_le 1))) (b2 (b2 fv fv (ix_l h6 (Nat.zero_le 1))) rfl hadd) hne)) nilS_e) ?_
  refine if_ff ?_ nilS_e
  cases hfo : Fo i with
  | none =>
    rw [hfo] at h3
    exact and_of (a := false) (b := false) (asB_of (b2 (b2 fv fv (ix_l h3 (Nat.zero_le 1))) rfl (by rw [gIsNot_n]; rfl))) fun h => by cases h
  | some p =>
    rw [hfo] at h3
    have hpu := hF p hfo
    have hix : gIdx .fz (mkL p i) .fz (.int (1000 + (i : Int))) = some (.fz, .int (p.length : Nat)) := by
      unfold gIdx mkL
      have hs : (isSc (D.int (1000 + (i : Int))) && (p.map encN ++ [D.int (1000 + (i : Int))]).all isSc) = true := by
        rw [Bool.and_eq_true_iff]
        refine ⟨rfl, ?_⟩
        rw [List.all_eq_true]
        intro d hd
        rcases List.mem_append.mp hd with h | h
        · obtain ⟨k, _, rfl⟩ := List.mem_map.mp h
          rfl
        · rw [List.mem_singleton.mp h]; rfl
      simp only [hs, if_true, idx_mk p i hpu]
    have hlen : gLen .fz (mkL p i) = some (.fz, .int ((p.length + 1 : Nat) : Int)) := by
      unfold mkL
      rw [gLen_l]
      simp
    have hsub : VL.gSub .fz (.int ((p.length + 1 : Nat) : Int)) .fz (.int 1) = some (.fz, .int (p.length : Nat)) := by
      rw [gSub_i, show ((p.length + 1 : Nat) : Int) - 1 = (p.length : Nat) by omega]
    have hne2 : gNe .fz (.int (p.length : Nat)) .fz (.int (p.length : Nat)) = some (.fz, .bl false) := by
      rw [gNe_i]
      simp
    exact and_of (a := true) (b := false) (asB_of (b2 (b2 fv fv (ix_l h3 (Nat.zero_le 1))) rfl (by rw [gIsNot_n]; rfl))) fun _ => asB_of (b2 (b2 (b2 fv fv (ix_l h3 (Nat.zero_le 1))) (b2 rfl fv gAdd_i) hix) (b2 (b1 (b2 fv fv (ix_l h3 (Nat.zero_le 1))) hlen) rfl hsub) hne2)
end Lw
namespace Lw
open PySem PySem.Spec PyProof.Rows L2 VL
theorem raise_of {f : Ev → R} {env : Ev} {k : Nat} {d : D} (h : f env = some (.fr k, d)) : fRaise k f env = some (.fr k, d) := by
  unfold fRaise
  rw [h]
  simp
theorem l_law (ns : List Int) : g_law [.scr ns] = some (.fz, .bl true) := by
  obtain ⟨W, ok, hW⟩ := l_waysby ns
  have hle := ok.le
  have hpos := ok.pos
  obtain ⟨F, f1, f2, f3, f4, f5, f6, f7⟩ := l_reached0 ok
  have hC := l_comes ok
  obtain ⟨T, t1, t2, t3⟩ := l_reach ok none
  obtain ⟨C, hCd⟩ : ∃ C, C = comT W W.length := ⟨_, rfl⟩
  rw [← hCd] at hC
  obtain ⟨cl1, cl2⟩ := comT_ok ok W.length (Nat.le_refl _)
  rw [← hCd] at cl1 cl2
  refine runF_rt (t := .fz) ?_
  show t_law [some ⟨0, .scr ns⟩, none, none, none, none, none, none, none, none, none] = _
  refine seq_nx (asg_fz (call_1 fv hW)) ?_
  refine seq_nx (e' := [some ⟨0, .scr ns⟩, some ⟨0, encW W⟩, some ⟨0, encW W⟩, none, none, none, none, none, none, none]) ?_ ?_
  · have e1 : (lcF 0 [9] (itF true (fVar 1)) (setE 9) (fun _ => some true) (bind1 (fVar 9) gList)) [some ⟨0, .scr ns⟩, some ⟨0, encW W⟩, none, none, none, none, none, none, none, none] = some (.fr 1, encW W) := by
      refine lcF_of (ds := W.map encK) (by rfl) (by rw [List.length_map]; omega) ?_
      refine (lcGo_map (α := List Nat) encK (fun _ => true) encK W fun a _ => ⟨_, rfl, rfl, fun _ => ⟨.fr 1, ?_, rfl⟩⟩).trans ?_
      · exact b1 (fv (d0 := encK a)) (by show gList .fz (.lst (a.map encN)) = _; rw [gList_l]; rfl)
      · rw [List.filter_eq_self.mpr fun _ _ => rfl]
    have e2 : asgS 2 (lcF 0 [9] (itF true (fVar 1)) (setE 9) (fun _ => some true) (bind1 (fVar 9) gList)) [some ⟨0, .scr ns⟩, some ⟨0, encW W⟩, none, none, none, none, none, none, none, none] = some (.nx [some ⟨0, .scr ns⟩, some ⟨0, encW W⟩, some ⟨1, encW W⟩, none, none, none, none, none, none, none]) := asg_fr e1
    exact fzS_nx e2
  refine seq_nx (asg_fr (n := 2) (raise_of (call_1 fv f1))) ?_
  refine seq_nx (asg_fr (n := 2) (raise_of (call_1 fv hC))) ?_
  refine seq_ifr (b := false) ?_ (fun h => by cases h) fun _ => ?_
  · refine (or_of (a := false) (b := false) (not_of (b := true) (tru_of (d0 := .bl true) (b1 fvp rfl))) fun _ => or_of (a := false) (b := false) ?_ fun _ => ?_).trans rfl
    · refine asB_of (t := .fz) (b2 (b1 fvp (gLen_l (a := F.map encP))) (b1 fv (gLen_l (a := W.map encK))) ?_)
      rw [List.length_map, List.length_map, f2, gNe_i]
      simp
    · exact asB_of (t := .fz) (b2 fv fv (by rw [gNe_d (okW60 W) (okW60 W), eqW]; rfl))
  refine seq_nx (asg_fz (call_2 fv (t2 := .fz) (d2 := encO none) rfl t1)) ?_
  refine seq_nx (e' := eQ ns W 2 (.lst (F.map encP)) 2 (.lst (C.map encK)) T 2 (.lst ((comT W 0).map encK)) none none none) ?_ ?_
  · have e1 : (lcF 1 [7] (itF true (fVar 1)) (setE 7) (fun _ => some true) (fLst fNil)) [some ⟨0, .scr ns⟩, some ⟨0, encW W⟩, some ⟨0, encW W⟩, some ⟨2, .lst (F.map encP)⟩, some ⟨2, .lst (C.map encK)⟩, some ⟨0, encT T⟩, none, none, none, none] = some (.fr 2, .lst ((comT W 0).map encK)) := by
      refine lcF_of (ds := W.map encK) (by rfl) (by rw [List.length_map]; omega) ?_
      refine (lcGo_map (α := List Nat) encK (fun _ => true) (fun _ => .lst []) W fun a _ => ⟨_, rfl, rfl, fun _ => ⟨.fr 1, rfl, rfl⟩⟩).trans ?_
      simp [comT, List.map_const', encK]
    exact asg_fr (n := 2) e1
  refine seq_inv (fun i env => ∃ z7 z8, env = eQ ns W 2 (.lst (F.map encP)) 2 (.lst (C.map encK)) T 2 (.lst ((comT W i).map encK)) z7 z8 none) _ (rng_of (i := 1) ok rfl) ⟨none, none, rfl⟩ ?_ ?_
  · rintro i d env hd ⟨z7, z8, rfl⟩
    obtain ⟨hi, rfl⟩ := range_at hd
    obtain ⟨z8', hz⟩ := bdyS_step ok (ns := ns) (Cd := .lst (C.map encK)) (T := T) (z8 := z8) (z9 := none) f2 f3 f4 f5 t3 hi
    exact ⟨_, _, rfl, .inl hz, _, _, rfl⟩
  rintro env1 ⟨z7, z8, rfl⟩
  simp only [List.length_map, List.length_range]
  rw [← hCd]
  have hit : (itF false (bind1 (fVar 5) gList)) (eQ ns W 2 (.lst (F.map encP)) 2 (.lst (C.map encK)) T 2 (.lst (C.map encK)) z7 z8 none) = some (T.map encN) := by
    have e : (bind1 (fVar 5) gList) (eQ ns W 2 (.lst (F.map encP)) 2 (.lst (C.map encK)) T 2 (.lst (C.map encK)) z7 z8 none) = some (.fr 1, .lst (T.map encN)) := by
      refine b1 fv ?_
      simp [encT, gList, encN, Function.comp_def]
    unfold itF
    rw [e]
    rfl
  refine seq_inv (fun _ env => ∃ z7 z8, env = eQ ns W 2 (.lst (F.map encP)) 2 (.lst (C.map encK)) T 2 (.lst (C.map encK)) z7 z8 none) _ hit ⟨z7, z8, rfl⟩ ?_ ?_
  · rintro i d env hd ⟨z7, z8, rfl⟩
    rw [List.getElem?_map] at hd
    cases hy : T[i]? with
    | none => rw [hy] at hd; cases hd
    | some x =>
      rw [hy] at hd
      cases hd
      have hR := (t3 x).mp (List.mem_of_getElem? hy)
      obtain ⟨p, hp⟩ := (f3 x).mpr hR
      obtain ⟨z8', hz⟩ := bdyH_step ok (ns := ns) (Cd := .lst (C.map encK)) (Dd := .lst (C.map encK)) (T := T) (z8 := z8) (z9 := none) (hR.lt ok) hp f6
      exact ⟨_, _, rfl, .inl hz, _, _, rfl⟩
  rintro env2 ⟨y7, y8, rfl⟩
  refine seq_ifr (b := false) ?_ (fun h => by cases h) fun _ => ?_
  · refine (or_of (a := false) (b := false) (not_of (b := true) (tru_of (d0 := .bl true) (b1 fvp rfl))) fun _ => or_of (a := false) (b := false) (asB_of (t := .fz) (b2 fvp (fv (d0 := .lst (C.map encK))) ?_)) fun _ => not_of (b := true) (tru_of (bor_is (ns := ns) (W := W) (nf := 2) (nt := 2) (nd := 0) (Fd := .lst (F.map encP)) (Dd := .lst (C.map encK)) (C := C) (T := T) (z7 := y7) (z8 := y8) (z9 := none) (by omega)))).trans rfl
    rw [gNe_d (okKs C) (okKs C), eqKs]
    rfl
  refine seq_nx (forIf_is (ns := ns) (W := W) (nf := 2) (nt := 2) (nd := 0) (Fd := .lst (F.map encP)) (Dd := .lst (C.map encK)) (C := C) (T := T) (z7 := y7) (z8 := y8) (z9 := none) fun l hl => by have := cl2 l hl; omega) ?_
  obtain ⟨Fo, hFo⟩ : ∃ Fo : Nat → Option (List Nat), Fo = fun x => F.getD x none := ⟨_, rfl⟩
  obtain ⟨Co, hCo⟩ : ∃ Co : Nat → List Nat, Co = fun x => C.getD x [] := ⟨_, rfl⟩
  have hF0 : F.map encP = (List.range W.length).map (fA Fo 0) := by
    rw [list_rng (f := encP) (d := none) f2]
    refine List.map_congr_left fun x _ => ?_
    have hx : Fo x = F.getD x none := by rw [hFo]
    unfold fA
    rw [hx]
    cases F.getD x none with
    | none => rfl
    | some p => simp [encP]
  have hC0 : C.map encK = (List.range W.length).map (cA Co 0) := by
    rw [list_rng (f := encK) (d := []) cl1]
    refine List.map_congr_left fun x _ => ?_
    rw [hCo]
    simp [cA]
  have hC1 : C.map encK = (List.range W.length).map fun x => encK (Co x) := by
    rw [list_rng (f := encK) (d := []) cl1, hCo]
  have hFo' : ∀ x p, x < W.length → Fo x = some p → F[x]? = some (some p) := fun x p hx h => by
    rw [hFo] at h
    have hg : F[x]? = some F[x] := List.getElem?_eq_getElem (by omega)
    simp only [List.getD_eq_getElem?_getD, hg, Option.getD_some] at h
    rw [hg, h]
  have hCl : ∀ x, (Co x).length ≤ 1000 := fun x => by
    rw [hCo]
    simp only [List.getD_eq_getElem?_getD]
    cases hx : C[x]? with
    | none => simp
    | some l => have := cl2 l (List.mem_of_getElem? hx); simp; omega
  refine seq_inv (fun i env => ∃ z7 z8, env = eQ ns W 2 (.lst ((List.range W.length).map (fA Fo i))) 2 (.lst ((List.range W.length).map (cA Co i))) T 0 (.lst (C.map encK)) z7 z8 none) _ (rng_of (i := 1) ok rfl) ⟨y7, y8, by rw [← hF0, ← hC0]⟩ ?_ ?_
  · rintro i d env hd ⟨z7, z8, rfl⟩
    obtain ⟨hi, rfl⟩ := range_at hd
    exact ⟨_, _, rfl, .inl (bdyA_step hi (fun p hp => by have := f5 i p (hFo' i p hi hp); omega) (hCl i)), _, _, rfl⟩
  rintro env3 ⟨x7, x8, rfl⟩
  simp only [List.length_map, List.length_range]
  show seqS _ _ (eQ ns W 0 (.lst ((List.range W.length).map (fA Fo W.length))) 0 (.lst ((List.range W.length).map (cA Co W.length))) T 0 (.lst (C.map encK)) x7 x8 none) = _
  refine seq_inv (fun _ env => ∃ z7 z8, env = eQ ns W 0 (.lst ((List.range W.length).map (fA Fo W.length))) 0 (.lst ((List.range W.length).map (cA Co W.length))) T 0 (.lst (C.map encK)) z7 z8 none) _ (rng_of (i := 1) ok rfl) ⟨x7, x8, rfl⟩ ?_ ?_
  · rintro i d env hd ⟨z7, z8, rfl⟩
    obtain ⟨hi, rfl⟩ := range_at hd
    have h := bdyL_step (ns := ns) (W := W) (T := T) (Fo := Fo) (Co := Co) (z8 := z8) (z9 := none) hi (fun p hp u hu => by have := ((f4 i p (hFo' i p hi hp)).facts ok).2.2.2 u hu; omega) (hCl i)
    rw [← hC1] at h
    exact ⟨_, _, rfl, .inl h, _, _, rfl⟩
  rintro env4 ⟨w7, w8, rfl⟩
  obtain ⟨p0, hp0⟩ := (f3 0).mpr (.base (by simp))
  have h0 : (F.map encP)[0]? = some (encK [0]) := by
    rw [List.getElem?_map, hp0, f7 p0 hp0]
    rfl
  show retS _ (eQ ns W 0 (.lst ((List.range W.length).map (fA Fo W.length))) 0 (.lst ((List.range W.length).map (cA Co W.length))) T 0 (.lst (C.map encK)) w7 w8 none) = _
  have g1 : gEq (.pk 1) (encK [0]) (.fr 1) (.lst [.int 0]) = some (.fz, .bl true) := by
    show gEq (.pk 1) (encK [0]) (.fr 1) (encK [0]) = _
    have : okD 60 (encK [0]) = true := rfl
    rw [gEq_d this this, eqK]
  have g2 : gEq (.fr 2) (.lst (C.map encK)) .fz (.lst (C.map encK)) = some (.fz, .bl true) := by rw [gEq_d (okKs C) (okKs C), eqKs]
  have g3 : gEq .fz (encW W) .fz (encW W) = some (.fz, .bl true) := by rw [gEq_d (okW60 W) (okW60 W), eqW]
  exact ret_fz (andV_t (b2 (b2 (call_1 fv f1) rfl (low2 (j := 0) h0)) rfl g1) (andV_t (b2 (call_1 fv hC) fv g2) (b2 fv fv g3)))
end Lw
/-! ### the top -/
namespace Lw
open PySem PySem.Spec PyProof.Rows L2 VL
def spTop (K : PySem.W.Frag) : Sp := fun vs H Q _ =>
  ∃ (a : Addr) (ns : List Int), vs = [.ref a] ∧ SqL K H a (ns.map V.int) ∧ ns.length ≤ 63 ∧
    ∀ H', Q (.bl true) H'
theorem top_sp {K : PySem.W.Frag} (vs : List V) (H : Hp) (Q : VK) (E : XK) (h : spTop K vs H Q E) : spV K g_law vs H Q E := by
  obtain ⟨a, ns, rfl, hS, hl, q⟩ := h
  refine ⟨H, [.scr ns], .fz, .bl true, Ex.refl H, .cons (.scr hS) .nil, l_law ns, ?_⟩
  intro F' H' v fp _ hv _ _
  obtain ⟨hd, -⟩ := hv
  cases hd
  exact q H'
end Lw
open PySem PySem.W PyProof.Rows
set_option maxHeartbeats 0 in
theorem PySem.Challenge.cw_boxwright_k06_what_is_reached_holds : PySem.Challenge.rw_boxwright_k06_what_is_reached.Holds := by
  w_on
  o_law
  k_head
  (case hw => w_witness2)
  k_fill
  refine L2.walk_of (l := PySem.Challenge.rw_boxwright_k06_what_is_reached) (n := 63) (k := 4) (x := "script") (CX := fun _ => L2.CX0)
    (sp := fun w => Lw.spTop _) rfl (by decide) rfl ⟨rfl, by decide, by decide⟩ (fun w h Y => PySem.W.kIn_of Y) ?F
    (fun _ _ a ns hl _ hS => ⟨a, ns, rfl, hS, hl, fun _ => rfl⟩) (fun _ _ _ _ _ h => h)
  case F =>
    intro w mg fa h KX G hmg
    obtain ⟨fd, hb, hf⟩ : ∃ fd : FuncData, (∀ (s : Shared) (v : Value), BindsTo s fd ⟨[v], []⟩ [("script", v)]) ∧ ∀ base : Heap, _ → _ → L2.FnOk (PySem.Challenge.rw_boxwright_k06_what_is_reached).prog w _ mg base L2.CX0 4 fa fd ["script"] (VL.spV _ Lw.g_law) := by
      refine' Lw.all_mk (l := PySem.Challenge.rw_boxwright_k06_what_is_reached) KX G hmg ?a__law_cell_at ?l__law_cell_at ?c__law_cell_at ?k__law_cell_at ?a__law_ways_by ?l__law_ways_by ?c__law_ways_by ?k__law_ways_by ?a_ways_from ?l_ways_from ?c_ways_from ?k_ways_from ?a_reached ?l_reached ?c_reached ?k_reached ?a_comes ?l_comes ?c_comes ?k_comes ?a__law_reached ?l__law_reached ?c__law_reached ?k__law_reached ?a__law_whole ?l__law_whole ?c__law_whole ?k__law_whole ?a__law_is_way ?l__law_is_way ?c__law_is_way ?k__law_is_way ?a_law ?l_law ?c_law ?k_law ?z_all ?z_bool ?z_int ?z_isinstance ?z_len ?z_list ?z_range
      (case a__law_cell_at => k_is)
      (case l__law_cell_at => k_is)
      (case c__law_cell_at => k_is)
      (case k__law_cell_at => k_is)
      (case a__law_ways_by => k_is)
      (case l__law_ways_by => k_is)
      (case c__law_ways_by => k_is)
      (case k__law_ways_by => k_is)
      (case a_ways_from => k_is)
      (case l_ways_from => k_is)
      (case c_ways_from => k_is)
      (case k_ways_from => k_is)
      (case a_reached => k_is)
      (case l_reached => k_is)
      (case c_reached => k_is)
      (case k_reached => k_is)
      (case a_comes => k_is)
      (case l_comes => k_is)
      (case c_comes => k_is)
      (case k_comes => k_is)
      (case a__law_reached => k_is)
      (case l__law_reached => k_is)
      (case c__law_reached => k_is)
      (case k__law_reached => k_is)
      (case a__law_whole => k_is)
      (case l__law_whole => k_is)
      (case c__law_whole => k_is)
      (case k__law_whole => k_is)
      (case a__law_is_way => k_is)
      (case l__law_is_way => k_is)
      (case c__law_is_way => k_is)
      (case k__law_is_way => k_is)
      (case a_law => k_is)
      (case l_law => k_is)
      (case c_law => k_is)
      (case k_law => k_is)
      (case z_all => k_is)
      (case z_bool => k_is)
      (case z_int => k_is)
      (case z_isinstance => k_is)
      (case z_len => k_is)
      (case z_list => k_is)
      (case z_range => k_is)
    exact ⟨fd, hb, fun base k1 k2 => (hf base k1 k2).imp Lw.top_sp⟩

