import PyProof.Rows.All
import Wide.All
import OpenK.AllK
import Wide.FinOn
import HandS.ForMost
import PySem.Str
import HandS.ForExc
import HandS.TupAny
import HandS.IsInst
import HandS.More
import HandS.DictComp
import HandS.Walk
import HandS.Style
import HandS.ExcIs
import HandS.TryMany
import PySem.Challenge.RW_joinedends_k18_whole_flat_form
import KE.KSortedM
import PyProof.FitsReplace
import PyProof.ReprRoads
import PyProof.ReprText
import PyProof.StrLawsRepr
import PyProof.P3Eq
set_option linter.all false
/-! Terms, positions, substitutions, chains of steps: plain Lean, no program in sight. -/
namespace K18
open PySem
inductive Tm where
  | var (i : Int)
  | app (f : Str) (as : List Tm)
theorem Tm.ind {P : Tm → Prop} (hv : ∀ i, P (.var i)) (ha : ∀ f as, (∀ a ∈ as, P a) → P (.app f as)) (t : Tm) : P t :=
  Tm.rec (motive_1 := P) (motive_2 := fun as => ∀ a ∈ as, P a) hv (fun f as h => ha f as h) (fun _ h => nomatch h)
    (fun a r h1 h2 b hb => by
      rcases List.mem_cons.mp hb with e | e
      · rw [e]; exact h1
      · exact h2 b e) t
mutual
def dep : Tm → Nat
  | .var _ => 1
  | .app _ as => depL as + 1
def depL : List Tm → Nat
  | [] => 0
  | a :: r => max (dep a) (depL r)
end
mutual
def siz : Tm → Nat
  | .var _ => 1
  | .app _ as => sizL as + 1
def sizL : List Tm → Nat
  | [] => 0
  | a :: r => siz a + sizL r
end
mutual
def sub (s : Int → Tm) : Tm → Tm
  | .var i => s i
  | .app f as => .app f (subL s as)
def subL (s : Int → Tm) : List Tm → List Tm
  | [] => []
  | a :: r => sub s a :: subL s r
end
mutual
def Occ (i : Int) : Tm → Prop
  | .var j => i = j
  | .app _ as => OccL i as
def OccL (i : Int) : List Tm → Prop
  | [] => False
  | a :: r => Occ i a ∨ OccL i r
end
/-- a short name of plain letters -/
def Chr (z : Str) : Prop := ∀ c ∈ z.cps.toList, c < 4294967296
def Nm (f : Str) : Prop := f.length ≤ 7 ∧ Chr f
theorem chr_app {a b : Str} (h1 : Chr a) (h2 : Chr b) : Chr (a ++ b) := fun c hc => by
  have hc : c ∈ (a.cps ++ b.cps).toList := hc
  rw [Array.toList_append] at hc
  rcases List.mem_append.mp hc with h | h
  · exact h1 c h
  · exact h2 c h
theorem chr_join {sep : Str} (hs : Chr sep) : ∀ {ys : List Str}, (∀ y ∈ ys, Chr y) → Chr (Str.join sep ys)
  | [], _ => fun c hc => by
    have hc : c ∈ ([] : List Nat) := hc
    cases hc
  | [x], h => h x List.mem_cons_self
  | x :: y :: r, h => chr_app (chr_app (h x List.mem_cons_self) hs) (chr_join hs fun z hz => h z (List.mem_cons_of_mem _ hz))
mutual
def Nam : Tm → Prop
  | .var _ => True
  | .app f as => Nm f ∧ NamL as
def NamL : List Tm → Prop
  | [] => True
  | a :: r => Nam a ∧ NamL r
end
theorem subL_map (s : Int → Tm) : ∀ as, subL s as = as.map (sub s)
  | [] => rfl
  | a :: r => by rw [subL, subL_map s r, List.map_cons]
theorem subL_length (s : Int → Tm) (as : List Tm) : (subL s as).length = as.length := by rw [subL_map, List.length_map]
theorem occL_iff {i : Int} : ∀ {as : List Tm}, OccL i as ↔ ∃ a ∈ as, Occ i a
  | [] => ⟨fun h => h.elim, fun ⟨_, h, _⟩ => nomatch h⟩
  | a :: r => by
    show (Occ i a ∨ OccL i r) ↔ _
    rw [occL_iff (as := r)]
    constructor
    · rintro (h | ⟨b, hb, h⟩)
      · exact ⟨a, List.mem_cons_self, h⟩
      · exact ⟨b, List.mem_cons_of_mem _ hb, h⟩
    · rintro ⟨b, hb, h⟩
      rcases List.mem_cons.mp hb with e | e
      · subst e; exact .inl h
      · exact .inr ⟨b, e, h⟩
theorem namL_iff : ∀ {as : List Tm}, NamL as ↔ ∀ a ∈ as, Nam a
  | [] => ⟨fun _ _ h => (nomatch h), fun _ => trivial⟩
  | a :: r => by
    show (Nam a ∧ NamL r) ↔ _
    rw [namL_iff (as := r)]
    constructor
    · rintro ⟨h1, h2⟩ b hb
      rcases List.mem_cons.mp hb with e | e
      · subst e; exact h1
      · exact h2 b e
    · exact fun h => ⟨h a List.mem_cons_self, fun b hb => h b (List.mem_cons_of_mem _ hb)⟩
theorem dep_le_depL : ∀ {as : List Tm} {a : Tm}, a ∈ as → dep a ≤ depL as
  | b :: r, a, h => by
    show dep a ≤ max (dep b) (depL r)
    rcases List.mem_cons.mp h with e | e
    · subst e; omega
    · have := dep_le_depL e; omega
theorem depL_le {n : Nat} : ∀ {as : List Tm}, (∀ a ∈ as, dep a ≤ n) → depL as ≤ n
  | [], _ => Nat.zero_le _
  | b :: r, h => by
    show max (dep b) (depL r) ≤ n
    have h1 := h b List.mem_cons_self
    have h2 := depL_le (as := r) fun a ha => h a (List.mem_cons_of_mem _ ha)
    omega
theorem siz_le_sizL : ∀ {as : List Tm} {a : Tm}, a ∈ as → siz a ≤ sizL as
  | b :: r, a, h => by
    show siz a ≤ siz b + sizL r
    rcases List.mem_cons.mp h with e | e
    · subst e; omega
    · have := siz_le_sizL e; omega
theorem siz_pos : ∀ t : Tm, 1 ≤ siz t
  | .var _ => Nat.le_refl _
  | .app _ as => by show 1 ≤ sizL as + 1; omega
theorem dep_pos : ∀ t : Tm, 1 ≤ dep t
  | .var _ => Nat.le_refl _
  | .app _ as => by show 1 ≤ depL as + 1; omega
theorem length_le_sizL : ∀ as : List Tm, as.length ≤ sizL as
  | [] => Nat.le_refl _
  | a :: r => by
    show r.length + 1 ≤ siz a + sizL r
    have := siz_pos a
    have := length_le_sizL r
    omega
/-! ### substitution -/
theorem sub_congr {s r : Int → Tm} : ∀ t : Tm, (∀ i, Occ i t → s i = r i) → sub s t = sub r t := by
  intro t
  induction t using Tm.ind with
  | hv i => exact fun h => h i rfl
  | ha f as ih =>
    intro h
    show Tm.app f (subL s as) = Tm.app f (subL r as)
    rw [subL_map, subL_map]
    congr 1
    refine List.map_congr_left fun a ha => ih a ha fun i hi => h i ?_
    exact occL_iff.mpr ⟨a, ha, hi⟩
theorem sub_id : ∀ t : Tm, sub Tm.var t = t := by
  intro t
  induction t using Tm.ind with
  | hv i => rfl
  | ha f as ih =>
    show Tm.app f (subL Tm.var as) = _
    rw [subL_map]
    have z : as.map (sub Tm.var) = as.map id := List.map_congr_left fun a ha => ih a ha
    rw [z, List.map_id]
theorem sub_sub (s r : Int → Tm) : ∀ t : Tm, sub s (sub r t) = sub (fun i => sub s (r i)) t := by
  intro t
  induction t using Tm.ind with
  | hv i => rfl
  | ha f as ih =>
    show Tm.app f (subL s (subL r as)) = Tm.app f (subL _ as)
    rw [subL_map, subL_map, subL_map, List.map_map]
    congr 1
    exact List.map_congr_left fun a ha => ih a ha
theorem occ_sub {s : Int → Tm} {i : Int} : ∀ t : Tm, Occ i (sub s t) → ∃ j, Occ j t ∧ Occ i (s j) := by
  intro t
  induction t using Tm.ind with
  | hv j => exact fun h => ⟨j, rfl, h⟩
  | ha f as ih =>
    intro h
    have h : OccL i (subL s as) := h
    rw [subL_map] at h
    obtain ⟨b, hb, ho⟩ := occL_iff.mp h
    obtain ⟨a, ha, e⟩ := List.mem_map.mp hb
    subst e
    obtain ⟨j, h1, h2⟩ := ih a ha ho
    exact ⟨j, occL_iff.mpr ⟨a, ha, h1⟩, h2⟩
theorem nam_sub {s : Int → Tm} : ∀ t : Tm, Nam t → (∀ i, Occ i t → Nam (s i)) → Nam (sub s t) := by
  intro t
  induction t using Tm.ind with
  | hv j => exact fun _ h => h j rfl
  | ha f as ih =>
    rintro ⟨h1, h2⟩ h
    refine ⟨h1, ?_⟩
    rw [subL_map]
    refine namL_iff.mpr fun b hb => ?_
    obtain ⟨a, ha, e⟩ := List.mem_map.mp hb
    subst e
    exact ih a ha (namL_iff.mp h2 a ha) fun i hi => h i (occL_iff.mpr ⟨a, ha, hi⟩)
theorem sizL_subL {s : Int → Tm} {m : Nat} : ∀ as : List Tm, (∀ a ∈ as, siz (sub s a) ≤ siz a * m) → sizL (subL s as) ≤ sizL as * m
  | [], _ => Nat.zero_le _
  | a :: r, h => by
    show siz (sub s a) + sizL (subL s r) ≤ (siz a + sizL r) * m
    have h1 := h a List.mem_cons_self
    have h2 := sizL_subL r fun b hb => h b (List.mem_cons_of_mem _ hb)
    rw [Nat.add_mul]
    omega
theorem siz_sub {s : Int → Tm} {m : Nat} (hm : 1 ≤ m) : ∀ t : Tm, (∀ i, Occ i t → siz (s i) ≤ m) → siz (sub s t) ≤ siz t * m := by
  intro t
  induction t using Tm.ind with
  | hv j => exact fun h => by show siz (s j) ≤ 1 * m; have := h j rfl; omega
  | ha f as ih =>
    intro h
    show sizL (subL s as) + 1 ≤ (sizL as + 1) * m
    have := sizL_subL (s := s) (m := m) as fun a ha => ih a ha fun i hi => h i (occL_iff.mpr ⟨a, ha, hi⟩)
    rw [Nat.add_mul]
    omega
theorem depL_subL {s : Int → Tm} {m : Nat} : ∀ as : List Tm, (∀ a ∈ as, dep (sub s a) ≤ dep a + m) → depL (subL s as) ≤ depL as + m
  | [], _ => Nat.zero_le _
  | a :: r, h => by
    show max (dep (sub s a)) (depL (subL s r)) ≤ max (dep a) (depL r) + m
    have h1 := h a List.mem_cons_self
    have h2 := depL_subL r fun b hb => h b (List.mem_cons_of_mem _ hb)
    omega
theorem dep_sub {s : Int → Tm} {m : Nat} : ∀ t : Tm, (∀ i, Occ i t → dep (s i) ≤ m + 1) → dep (sub s t) ≤ dep t + m := by
  intro t
  induction t using Tm.ind with
  | hv j => exact fun h => by show dep (s j) ≤ 1 + m; have := h j rfl; omega
  | ha f as ih =>
    intro h
    show depL (subL s as) + 1 ≤ depL as + 1 + m
    have := depL_subL (s := s) (m := m) as fun a ha => ih a ha fun i hi => h i (occL_iff.mpr ⟨a, ha, hi⟩)
    omega
/-! ### positions -/
def get : List Nat → Tm → Option Tm
  | [], t => some t
  | k :: p, t => match t, k with
    | .app _ as, j + 1 => match as[j]? with
      | none => none
      | some a => get p a
    | _, _ => none
def put : List Nat → Tm → Tm → Tm
  | [], _, x => x
  | k :: p, t, x => match t, k with
    | .app f as, j + 1 => match as[j]? with
      | none => .app f as
      | some a => .app f (as.set j (put p a x))
    | t, _ => t
/-- what a position that goes down is -/
theorem get_cons {k : Nat} {p : List Nat} {t u : Tm} (h : get (k :: p) t = some u) : ∃ j f as a, k = j + 1 ∧ t = .app f as ∧ as[j]? = some a ∧ get p a = some u := by
  cases t with
  | var i => cases h
  | app f as =>
    cases k with
    | zero => cases h
    | succ j =>
      have h : (match as[j]? with
        | none => none
        | some a => get p a) = some u := h
      cases e : as[j]? with
      | none =>
        rw [e] at h
        cases h
      | some a =>
        rw [e] at h
        exact ⟨j, f, as, a, rfl, rfl, e, h⟩
theorem get_step {j : Nat} {p : List Nat} {f : Str} {as : List Tm} {a : Tm} (e : as[j]? = some a) : get ((j + 1) :: p) (.app f as) = get p a := by
  show (match as[j]? with
    | none => none
    | some a => get p a) = _
  rw [e]
theorem put_step {j : Nat} {p : List Nat} {f : Str} {as : List Tm} {a x : Tm} (e : as[j]? = some a) : put ((j + 1) :: p) (.app f as) x = .app f (as.set j (put p a x)) := by
  show (match as[j]? with
    | none => Tm.app f as
    | some a => Tm.app f (as.set j (put p a x))) = _
  rw [e]
theorem lt_of_get {α : Type} {l : List α} {i : Nat} {a : α} (e : l[i]? = some a) : i < l.length := (List.getElem?_eq_some_iff.mp e).1
theorem get_put : ∀ {p : List Nat} {t u x : Tm}, get p t = some u → get p (put p t x) = some x
  | [], _, _, _, _ => rfl
  | k :: p, t, u, x, h => by
    obtain ⟨j, f, as, a, rfl, rfl, e, h'⟩ := get_cons h
    rw [put_step e, get_step (a := put p a x) (List.getElem?_set_self (lt_of_get e))]
    exact get_put h'
theorem put_put : ∀ {p : List Nat} {t u x y : Tm}, get p t = some u → put p (put p t x) y = put p t y
  | [], _, _, _, _, _ => rfl
  | k :: p, t, u, x, y, h => by
    obtain ⟨j, f, as, a, rfl, rfl, e, h'⟩ := get_cons h
    rw [put_step e, put_step (a := put p a x) (List.getElem?_set_self (lt_of_get e)), put_step e, put_put h', List.set_set]
theorem set_get {α : Type} : ∀ {l : List α} {i : Nat} {a : α}, l[i]? = some a → l.set i a = l
  | [], _, _, h => by simp at h
  | b :: r, 0, a, h => by
    have e : b = a := by simpa using h
    rw [e]; rfl
  | b :: r, i + 1, a, h => by
    show b :: r.set i a = b :: r
    rw [set_get (l := r) (i := i) (a := a) (by simpa using h)]
theorem put_get : ∀ {p : List Nat} {t u : Tm}, get p t = some u → put p t u = t
  | [], _, _, h => (Option.some.inj h).symm
  | k :: p, t, u, h => by
    obtain ⟨j, f, as, a, rfl, rfl, e, h'⟩ := get_cons h
    rw [put_step e, put_get h', set_get e]
theorem get_sub {s : Int → Tm} : ∀ {p : List Nat} {t u : Tm}, get p t = some u → get p (sub s t) = some (sub s u)
  | [], _, _, h => by rw [Option.some.inj h]; rfl
  | k :: p, t, u, h => by
    obtain ⟨j, f, as, a, rfl, rfl, e, h'⟩ := get_cons h
    show get ((j + 1) :: p) (.app f (subL s as)) = _
    rw [get_step (a := sub s a) (by rw [subL_map, List.getElem?_map, e]; rfl)]
    exact get_sub h'
theorem put_sub {s : Int → Tm} : ∀ {p : List Nat} {t u x : Tm}, get p t = some u → put p (sub s t) (sub s x) = sub s (put p t x)
  | [], _, _, _, _ => rfl
  | k :: p, t, u, x, h => by
    obtain ⟨j, f, as, a, rfl, rfl, e, h'⟩ := get_cons h
    rw [put_step e]
    show put ((j + 1) :: p) (.app f (subL s as)) _ = .app f (subL s (as.set j (put p a x)))
    rw [put_step (a := sub s a) (by rw [subL_map, List.getElem?_map, e]; rfl), put_sub h', subL_map, subL_map, List.map_set]
theorem get_append : ∀ {p q : List Nat} {t u : Tm}, get p t = some u → get (p ++ q) t = get q u
  | [], _, _, _, h => by rw [Option.some.inj h]; rfl
  | k :: p, q, t, u, h => by
    obtain ⟨j, f, as, a, rfl, rfl, e, h'⟩ := get_cons h
    show get ((j + 1) :: (p ++ q)) _ = _
    rw [get_step e]
    exact get_append h'
theorem put_append : ∀ {p q : List Nat} {t u x : Tm}, get p t = some u → put (p ++ q) t x = put p t (put q u x)
  | [], _, _, _, _, h => by rw [Option.some.inj h]; rfl
  | k :: p, q, t, u, x, h => by
    obtain ⟨j, f, as, a, rfl, rfl, e, h'⟩ := get_cons h
    show put ((j + 1) :: (p ++ q)) _ _ = _
    rw [put_step e, put_step e, put_append h']
theorem occ_get {i : Int} : ∀ {p : List Nat} {t u : Tm}, get p t = some u → Occ i u → Occ i t
  | [], _, _, h, o => by rw [Option.some.inj h]; exact o
  | k :: p, t, u, h, o => by
    obtain ⟨j, f, as, a, rfl, rfl, e, h'⟩ := get_cons h
    exact occL_iff.mpr ⟨a, List.mem_of_getElem? e, occ_get h' o⟩
theorem nam_get : ∀ {p : List Nat} {t u : Tm}, get p t = some u → Nam t → Nam u
  | [], _, _, h, o => by rw [← Option.some.inj h]; exact o
  | k :: p, t, u, h, o => by
    obtain ⟨j, f, as, a, rfl, rfl, e, h'⟩ := get_cons h
    exact nam_get h' (namL_iff.mp o.2 a (List.mem_of_getElem? e))
theorem mem_set {α : Type} : ∀ {l : List α} {i : Nat} {a b : α}, b ∈ l.set i a → b = a ∨ b ∈ l
  | [], _, _, _, h => by simp at h
  | c :: r, 0, a, b, h => by
    have h : b ∈ a :: r := h
    rcases List.mem_cons.mp h with e | e
    · exact .inl e
    · exact .inr (List.mem_cons_of_mem _ e)
  | c :: r, i + 1, a, b, h => by
    have h : b ∈ c :: r.set i a := h
    rcases List.mem_cons.mp h with e | e
    · exact .inr (by rw [e]; exact List.mem_cons_self)
    · rcases mem_set e with e | e
      · exact .inl e
      · exact .inr (List.mem_cons_of_mem _ e)
theorem occ_put {i : Int} : ∀ {p : List Nat} {t u x : Tm}, get p t = some u → Occ i (put p t x) → Occ i t ∨ Occ i x
  | [], _, _, _, _, o => .inr o
  | k :: p, t, u, x, h, o => by
    obtain ⟨j, f, as, a, rfl, rfl, e, h'⟩ := get_cons h
    rw [put_step e] at o
    obtain ⟨b, hb, ob⟩ := occL_iff.mp (show OccL i _ from o)
    rcases mem_set hb with e' | e'
    · subst e'
      rcases occ_put h' ob with q | q
      · exact .inl (occL_iff.mpr ⟨a, List.mem_of_getElem? e, q⟩)
      · exact .inr q
    · exact .inl (occL_iff.mpr ⟨b, e', ob⟩)
theorem occ_put_new {i : Int} : ∀ {p : List Nat} {t u x : Tm}, get p t = some u → Occ i x → Occ i (put p t x) := by
  intro p t u x h o
  exact occ_get (get_put h) o
theorem nam_put : ∀ {p : List Nat} {t u x : Tm}, get p t = some u → Nam t → Nam x → Nam (put p t x)
  | [], _, _, _, _, _, n => n
  | k :: p, t, u, x, h, o, n => by
    obtain ⟨j, f, as, a, rfl, rfl, e, h'⟩ := get_cons h
    rw [put_step e]
    refine ⟨o.1, namL_iff.mpr fun b hb => ?_⟩
    rcases mem_set hb with e' | e'
    · subst e'
      exact nam_put h' (namL_iff.mp o.2 a (List.mem_of_getElem? e)) n
    · exact namL_iff.mp o.2 b e'
theorem sizL_set : ∀ {as : List Tm} {j : Nat} {a b : Tm}, as[j]? = some a → sizL (as.set j b) + siz a = sizL as + siz b
  | [], _, _, _, h => by simp at h
  | c :: r, 0, a, b, h => by
    have e : c = a := by simpa using h
    subst e
    show siz b + sizL r + siz c = siz c + sizL r + siz b
    omega
  | c :: r, j + 1, a, b, h => by
    have ih := sizL_set (as := r) (j := j) (a := a) (b := b) (by simpa using h)
    show siz c + sizL (r.set j b) + siz a = siz c + sizL r + siz b
    omega
theorem siz_put : ∀ {p : List Nat} {t u x : Tm}, get p t = some u → siz (put p t x) + siz u = siz t + siz x
  | [], t, u, x, h => by
    rw [Option.some.inj h]
    exact Nat.add_comm _ _
  | k :: p, t, u, x, h => by
    obtain ⟨j, f, as, a, rfl, rfl, e, h'⟩ := get_cons h
    rw [put_step e]
    show sizL (as.set j (put p a x)) + 1 + siz u = sizL as + 1 + siz x
    have h1 := sizL_set (b := put p a x) e
    have h2 := siz_put (x := x) h'
    omega
theorem siz_get {p : List Nat} {t u : Tm} (h : get p t = some u) : siz u ≤ siz t := by
  have h1 := siz_put (x := .var 0) h
  have h2 := siz_pos (put p t (.var 0))
  have h3 : siz (.var 0) = 1 := rfl
  omega
theorem dep_get : ∀ {p : List Nat} {t u : Tm}, get p t = some u → p.length + dep u ≤ dep t
  | [], _, _, h => by rw [Option.some.inj h]; exact Nat.le_of_eq (Nat.zero_add _)
  | k :: p, t, u, h => by
    obtain ⟨j, f, as, a, rfl, rfl, e, h'⟩ := get_cons h
    have h1 := dep_get h'
    have h2 := dep_le_depL (List.mem_of_getElem? e)
    show p.length + 1 + dep u ≤ depL as + 1
    omega
theorem dep_put : ∀ {p : List Nat} {t u x : Tm}, get p t = some u → dep (put p t x) ≤ max (dep t) (p.length + dep x)
  | [], t, u, x, _ => by show dep x ≤ max (dep t) (0 + dep x); omega
  | k :: p, t, u, x, h => by
    obtain ⟨j, f, as, a, rfl, rfl, e, h'⟩ := get_cons h
    rw [put_step e]
    show depL (as.set j (put p a x)) + 1 ≤ max (depL as + 1) (p.length + 1 + dep x)
    have h1 := dep_put (x := x) h'
    have h2 := dep_le_depL (List.mem_of_getElem? e)
    have h3 : depL (as.set j (put p a x)) ≤ max (depL as) (p.length + dep x) := depL_le fun b hb => by
      rcases mem_set hb with e' | e'
      · subst e'; omega
      · have := dep_le_depL e'; omega
    omega
/-! ### substitutions as lists -/
abbrev Sb := List (Int × Tm)
def lk : Sb → Int → Tm
  | [], i => .var i
  | (j, t) :: r, i => if j = i then t else lk r i
def keys (ps : Sb) : List Int := ps.map (·.1)
theorem lk_mem : ∀ {ps : Sb} {i : Int}, i ∈ keys ps → (i, lk ps i) ∈ ps
  | [], _, h => nomatch h
  | (j, t) :: r, i, h => by
    by_cases e : j = i
    · subst e
      rw [lk, if_pos rfl]
      exact List.mem_cons_self
    · rw [lk, if_neg e]
      have h : i ∈ j :: keys r := h
      rcases List.mem_cons.mp h with q | q
      · exact absurd q.symm e
      · exact List.mem_cons_of_mem _ (lk_mem q)
theorem lk_not : ∀ {ps : Sb} {i : Int}, ¬ i ∈ keys ps → lk ps i = .var i
  | [], _, _ => rfl
  | (j, t) :: r, i, h => by
    have h : ¬ i ∈ j :: keys r := h
    rw [lk, if_neg fun e => h (by rw [e]; exact List.mem_cons_self)]
    exact lk_not fun q => h (List.mem_cons_of_mem _ q)
theorem lk_append_left : ∀ {ps qs : Sb} {i : Int}, i ∈ keys ps → lk (ps ++ qs) i = lk ps i
  | [], _, _, h => nomatch h
  | (j, t) :: r, qs, i, h => by
    show lk ((j, t) :: (r ++ qs)) i = _
    rw [lk, lk]
    by_cases e : j = i
    · rw [if_pos e, if_pos e]
    · rw [if_neg e, if_neg e]
      have h : i ∈ j :: keys r := h
      rcases List.mem_cons.mp h with q | q
      · exact absurd q.symm e
      · exact lk_append_left q
theorem lk_append_right : ∀ {ps qs : Sb} {i : Int}, ¬ i ∈ keys ps → lk (ps ++ qs) i = lk qs i
  | [], _, _, _ => rfl
  | (j, t) :: r, qs, i, h => by
    have h : ¬ i ∈ j :: keys r := h
    show lk ((j, t) :: (r ++ qs)) i = _
    rw [lk, if_neg fun e => h (by rw [e]; exact List.mem_cons_self)]
    exact lk_append_right fun q => h (List.mem_cons_of_mem _ q)
def inst (s : Int → Tm) (ps : Sb) : Sb := ps.map fun p => (p.1, sub s p.2)
theorem keys_inst (s : Int → Tm) (ps : Sb) : keys (inst s ps) = keys ps := by
  unfold keys inst
  rw [List.map_map]
  rfl
theorem lk_inst {s : Int → Tm} : ∀ {ps : Sb} {i : Int}, i ∈ keys ps → lk (inst s ps) i = sub s (lk ps i)
  | [], _, h => nomatch h
  | (j, t) :: r, i, h => by
    show lk ((j, sub s t) :: inst s r) i = _
    rw [lk, lk]
    by_cases e : j = i
    · rw [if_pos e, if_pos e]
    · rw [if_neg e, if_neg e]
      have h : i ∈ j :: keys r := h
      rcases List.mem_cons.mp h with q | q
      · exact absurd q.symm e
      · exact lk_inst q
/-! ### steps -/
structure Stp where
  giv : Bool
  ix : Nat
  fwd : Bool
  pos : List Nat
  sb : Sb
abbrev Eqn := Tm × Tm
def src (e : Eqn) (b : Bool) : Tm := if b then e.1 else e.2
/-- the keys are the variables of the equation -/
def Keys (e : Eqn) (ps : Sb) : Prop := (keys ps).Nodup ∧ ∀ i, i ∈ keys ps ↔ (Occ i e.1 ∨ Occ i e.2)
/-- the step leads from t to u by the equation e -/
def Does (e : Eqn) (s : Stp) (t u : Tm) : Prop := get s.pos t = some (sub (lk s.sb) (src e s.fwd)) ∧ u = put s.pos t (sub (lk s.sb) (src e (!s.fwd)))
def Stp.rev (s : Stp) : Stp := { s with fwd := !s.fwd }
def Stp.ins (f : Int → Tm) (s : Stp) : Stp := { s with sb := inst f s.sb }
def Stp.mov (q : List Nat) (s : Stp) : Stp := { s with pos := q ++ s.pos }
theorem Does.rev {e : Eqn} {s : Stp} {t u : Tm} (h : Does e s t u) : Does e s.rev u t := by
  obtain ⟨h1, rfl⟩ := h
  refine ⟨get_put h1, ?_⟩
  show t = put s.pos (put s.pos t _) (sub (lk s.sb) (src e (!(!s.fwd))))
  rw [put_put h1, Bool.not_not, put_get h1]
theorem occ_src {e : Eqn} {b : Bool} {i : Int} (h : Occ i (src e b)) : Occ i e.1 ∨ Occ i e.2 := by
  cases b with
  | true => exact .inl h
  | false => exact .inr h
theorem sub_inst {e : Eqn} {ps : Sb} (k : Keys e ps) (f : Int → Tm) (b : Bool) : sub (lk (inst f ps)) (src e b) = sub f (sub (lk ps) (src e b)) := by
  rw [sub_sub]
  exact sub_congr _ fun i hi => lk_inst ((k.2 i).mpr (occ_src hi))
theorem Does.ins {e : Eqn} {s : Stp} {t u : Tm} (k : Keys e s.sb) (f : Int → Tm) (h : Does e s t u) : Does e (s.ins f) (sub f t) (sub f u) := by
  obtain ⟨h1, rfl⟩ := h
  refine ⟨?_, ?_⟩
  · show get s.pos (sub f t) = some (sub (lk (inst f s.sb)) (src e s.fwd))
    rw [sub_inst k]
    exact get_sub h1
  · show sub f (put s.pos t _) = put s.pos (sub f t) (sub (lk (inst f s.sb)) (src e (!s.fwd)))
    rw [sub_inst k, put_sub h1]
theorem Does.mov {e : Eqn} {s : Stp} {t u T : Tm} {q : List Nat} (hq : get q T = some t) (h : Does e s t u) : Does e (s.mov q) T (put q T u) := by
  obtain ⟨h1, rfl⟩ := h
  exact ⟨(get_append hq).trans h1, (put_append hq).symm⟩
/-- a chain of given steps -/
def Leads (G : List Eqn) : List Stp → Tm → Tm → Prop
  | [], t, u => t = u
  | s :: r, t, u => s.giv = true ∧ ∃ e, G[s.ix]? = some e ∧ Keys e s.sb ∧ ∃ v, Does e s t v ∧ Leads G r v u
section
variable {G : List Eqn}
theorem Leads.app : ∀ {a b : List Stp} {t u v : Tm}, Leads G a t u → Leads G b u v → Leads G (a ++ b) t v
  | [], b, t, u, v, h1, h2 => by
    have e : t = u := h1
    rw [e]
    exact h2
  | s :: r, b, t, u, v, ⟨g, e, he, k, w, d, h1⟩, h2 => ⟨g, e, he, k, w, d, Leads.app h1 h2⟩
theorem Leads.rev : ∀ {a : List Stp} {t u : Tm}, Leads G a t u → Leads G (a.reverse.map Stp.rev) u t
  | [], t, u, h => (show t = u from h).symm
  | s :: r, t, u, ⟨g, e, he, k, w, d, h⟩ => by
    rw [List.reverse_cons, List.map_append]
    exact Leads.app (Leads.rev h) ⟨g, e, he, k, t, d.rev, rfl⟩
theorem Leads.ins (f : Int → Tm) : ∀ {a : List Stp} {t u : Tm}, Leads G a t u → Leads G (a.map (Stp.ins f)) (sub f t) (sub f u)
  | [], t, u, h => by
    have h : t = u := h
    rw [h]
    rfl
  | s :: r, t, u, ⟨g, e, he, k, w, d, h⟩ => ⟨g, e, he, ⟨by
      show (keys (inst f s.sb)).Nodup
      rw [keys_inst]
      exact k.1, fun i => by
      show i ∈ keys (inst f s.sb) ↔ _
      rw [keys_inst]
      exact k.2 i⟩, sub f w, d.ins k f, Leads.ins f h⟩
theorem Leads.mov {q : List Nat} : ∀ {a : List Stp} {t u T : Tm}, get q T = some t → Leads G a t u → Leads G (a.map (Stp.mov q)) T (put q T u)
  | [], t, u, T, hq, h => by
    have h : t = u := h
    subst h
    exact (put_get hq).symm
  | s :: r, t, u, T, hq, ⟨g, e, he, k, w, d, h⟩ => ⟨g, e, he, k, put q T w, d.mov hq, by
      have z := Leads.mov (get_put (x := w) hq) h
      rw [put_put hq] at z
      exact z⟩
end
end K18
set_option linter.all false
namespace K18
open PySem
theorem sizL_append : ∀ as bs : List Tm, sizL (as ++ bs) = sizL as + sizL bs
  | [], bs => (Nat.zero_add _).symm
  | a :: r, bs => by
    show siz a + sizL (r ++ bs) = siz a + sizL r + sizL bs
    rw [sizL_append r bs]
    omega
theorem depL_append : ∀ as bs : List Tm, depL (as ++ bs) = max (depL as) (depL bs)
  | [], bs => by show depL bs = max 0 (depL bs); omega
  | a :: r, bs => by
    show max (dep a) (depL (r ++ bs)) = max (max (dep a) (depL r)) (depL bs)
    rw [depL_append r bs]
    omega
theorem take_more {α : Type} {l : List α} {i : Nat} {a : α} (h : l[i]? = some a) : l.take (i + 1) = l.take i ++ [a] := by
  rw [List.take_add_one, h]
  rfl
theorem sizL_take {as : List Tm} {i : Nat} {a : Tm} (h : as[i]? = some a) : sizL (as.take (i + 1)) = sizL (as.take i) + siz a := by
  rw [take_more h, sizL_append]
  rfl
theorem depL_take {as : List Tm} {i : Nat} {a : Tm} (h : as[i]? = some a) : depL (as.take (i + 1)) = max (depL (as.take i)) (dep a) := by
  rw [take_more h, depL_append]
  show max _ (max (dep a) 0) = _
  rw [Nat.max_zero]
theorem subL_take {s : Int → Tm} {as : List Tm} {i : Nat} {a : Tm} (h : as[i]? = some a) : subL s (as.take (i + 1)) = subL s (as.take i) ++ [sub s a] := by
  rw [take_more h, subL_map, subL_map, List.map_append]
  rfl
theorem take_all {α : Type} {l : List α} {n : Nat} (h : n = l.length) : l.take n = l := List.take_of_length_le (by omega)
end K18
set_option linter.all false
/-! The flat form, its length; that it leads from left to right. -/
namespace K18
open PySem
structure Stg where
  l : Tm
  r : Tm
  ss : List Stp
/-! ### a list made item by item, each from those before it -/
def build {α β : Type} (st : List β → α → β) (gs : List α) : List β := gs.foldl (fun acc g => acc ++ [st acc g]) []
section
variable {α β γ : Type} {st : List β → α → β}
theorem build_nil : build st [] = [] := rfl
theorem build_snoc (gs : List α) (g : α) : build st (gs ++ [g]) = build st gs ++ [st (build st gs) g] := by
  unfold build
  rw [List.foldl_append]
  rfl
theorem build_len : ∀ (n : Nat) (gs : List α), gs.length = n → (build st gs).length = n
  | 0, gs, h => by
    rw [List.length_eq_zero_iff.mp h]
    rfl
  | n + 1, gs, h => by
    have e : gs = gs.take n ++ [gs[n]'(by omega)] := by
      rw [List.take_append_getElem, List.take_of_length_le (by omega)]
    rw [e, build_snoc, List.length_append, build_len n _ (by rw [List.length_take]; omega)]
    rfl
theorem build_length (gs : List α) : (build st gs).length = gs.length := build_len _ gs rfl
theorem build_more {gs : List α} {i : Nat} {g : α} (h : gs[i]? = some g) : build st (gs.take (i + 1)) = build st (gs.take i) ++ [st (build st (gs.take i)) g] := by
  rw [take_more h, build_snoc]
theorem build_app (gs : List α) : ∀ hs : List α, ∃ r, build st (gs ++ hs) = build st gs ++ r := by
  intro hs
  unfold build
  rw [List.foldl_append]
  generalize gs.foldl (fun acc g => acc ++ [st acc g]) [] = acc
  induction hs generalizing acc with
  | nil => exact ⟨[], (List.append_nil _).symm⟩
  | cons h r ih =>
    obtain ⟨q, e⟩ := ih (acc ++ [st acc h])
    exact ⟨[st acc h] ++ q, by rw [List.foldl_cons, e, List.append_assoc]⟩
theorem build_take (gs : List α) (i : Nat) (hi : i ≤ gs.length) : (build st gs).take i = build st (gs.take i) := by
  obtain ⟨r, e⟩ := build_app (st := st) (gs.take i) (gs.drop i)
  rw [List.take_append_drop] at e
  rw [e, List.take_append_of_le_length (by rw [build_length, List.length_take]; omega), List.take_of_length_le (by rw [build_length, List.length_take]; omega)]
theorem build_get {gs : List α} {i : Nat} {g : α} (h : gs[i]? = some g) : (build st gs)[i]? = some (st (build st (gs.take i)) g) := by
  have hi := lt_of_get h
  have e : (build st gs).take (i + 1) = build st (gs.take i) ++ [st (build st (gs.take i)) g] := by
    rw [build_take gs (i + 1) hi, build_more h]
  have e2 : ((build st gs).take (i + 1))[i]? = (build st gs)[i]? := List.getElem?_take_of_lt (Nat.lt_succ_self i)
  rw [← e2, e, List.getElem?_append_right (by rw [build_length, List.length_take]; omega)]
  rw [build_length, List.length_take, show i - min i gs.length = 0 by omega]
  rfl
theorem build_map {f : β → γ} {su : List γ → α → γ} (h : ∀ F g, f (st F g) = su (F.map f) g) (gs : List α) : (build st gs).map f = build su gs := by
  unfold build
  suffices ∀ (acc : List β), (gs.foldl (fun acc g => acc ++ [st acc g]) acc).map f = gs.foldl (fun acc g => acc ++ [su acc g]) (acc.map f) from this []
  induction gs with
  | nil => intro acc; rfl
  | cons g r ih =>
    intro acc
    rw [List.foldl_cons, List.foldl_cons, ih, List.map_append, ← h]
    rfl
end
/-! ### lengths -/
def slen (L : List Nat) (s : Stp) : Nat := if s.giv then 1 else L.getD s.ix 0
def flen (L : List Nat) (ss : List Stp) : Nat := (ss.map (slen L)).sum
def lens (gs : List Stg) : List Nat := build (fun L g => flen L g.ss) gs
def lastLen (gs : List Stg) : Nat := (lens gs).getD (gs.length - 1) 0
theorem flen_more {L : List Nat} {ss : List Stp} {i : Nat} {s : Stp} (h : ss[i]? = some s) : flen L (ss.take (i + 1)) = flen L (ss.take i) + slen L s := by
  unfold flen
  rw [take_more h, List.map_append, List.sum_append]
  simp
/-! ### the flat form -/
def flatOne (F : List (List Stp)) (s : Stp) : List Stp :=
  if s.giv then [s] else ((if s.fwd then F.getD s.ix [] else (F.getD s.ix []).reverse.map Stp.rev).map (Stp.ins (lk s.sb))).map (Stp.mov s.pos)
def flatS (F : List (List Stp)) (ss : List Stp) : List Stp := ss.flatMap (flatOne F)
def fl (gs : List Stg) : List (List Stp) := build (fun F g => flatS F g.ss) gs
theorem flatS_more {F : List (List Stp)} {ss : List Stp} {i : Nat} {s : Stp} (h : ss[i]? = some s) : flatS F (ss.take (i + 1)) = flatS F (ss.take i) ++ flatOne F s := by
  unfold flatS
  rw [take_more h, List.flatMap_append]
  simp
theorem flatOne_len (F : List (List Stp)) (s : Stp) : (flatOne F s).length = slen (F.map List.length) s := by
  unfold flatOne slen
  cases s.giv with
  | true => rfl
  | false =>
    simp only [Bool.false_eq_true, if_false, List.length_map]
    have e : (F.map List.length).getD s.ix 0 = (F.getD s.ix []).length := by
      rw [List.getD_eq_getElem?_getD, List.getD_eq_getElem?_getD, List.getElem?_map]
      cases F[s.ix]? <;> rfl
    rw [e]
    cases s.fwd with
    | true => rfl
    | false => simp only [Bool.false_eq_true, if_false, List.length_map, List.length_reverse]
theorem flatS_len (F : List (List Stp)) (ss : List Stp) : (flatS F ss).length = flen (F.map List.length) ss := by
  induction ss with
  | nil => rfl
  | cons s r ih =>
    show (flatOne F s ++ flatS F r).length = _
    rw [List.length_append, ih, flatOne_len]
    unfold flen
    rw [List.map_cons, List.sum_cons]
theorem fl_lens (gs : List Stg) : (fl gs).map List.length = lens gs := build_map (fun F g => flatS_len F g.ss) gs
theorem fl_length (gs : List Stg) : (fl gs).length = gs.length := build_length gs
theorem lens_length (gs : List Stg) : (lens gs).length = gs.length := build_length gs
theorem fl_last (gs : List Stg) : ((fl gs).getD (gs.length - 1) []).length = lastLen gs := by
  unfold lastLen
  rw [← fl_lens, List.getD_eq_getElem?_getD, List.getD_eq_getElem?_getD, List.getElem?_map]
  cases (fl gs)[gs.length - 1]? <;> rfl
/-- the flat forms of what a step names decide -/
theorem flatOne_congr {F F' : List (List Stp)} {s : Stp} (h : s.giv = false → F.getD s.ix [] = F'.getD s.ix []) : flatOne F s = flatOne F' s := by
  unfold flatOne
  cases e : s.giv with
  | true => rfl
  | false => rw [h e]
theorem flatS_congr {F F' : List (List Stp)} : ∀ {ss : List Stp}, (∀ s ∈ ss, s.giv = false → F.getD s.ix [] = F'.getD s.ix []) → flatS F ss = flatS F' ss
  | [], _ => rfl
  | s :: r, h => by
    show flatOne F s ++ flatS F r = flatOne F' s ++ flatS F' r
    rw [flatOne_congr (h s List.mem_cons_self), flatS_congr fun q hq => h q (List.mem_cons_of_mem _ hq)]
theorem flatOne_giv {F : List (List Stp)} {s f : Stp} (hF : ∀ q ∈ F.getD s.ix [], q.giv = true) (h : f ∈ flatOne F s) : f.giv = true := by
  unfold flatOne at h
  cases e : s.giv with
  | true =>
    rw [e] at h
    rw [List.mem_singleton.mp h]
    exact e
  | false =>
    rw [e] at h
    simp only [Bool.false_eq_true, if_false] at h
    obtain ⟨q, hq, rfl⟩ := List.mem_map.mp h
    obtain ⟨q2, hq2, rfl⟩ := List.mem_map.mp hq
    show q2.giv = true
    cases e2 : s.fwd with
    | true =>
      rw [e2] at hq2
      exact hF q2 hq2
    | false =>
      rw [e2] at hq2
      simp only [Bool.false_eq_true, if_false] at hq2
      obtain ⟨q3, hq3, rfl⟩ := List.mem_map.mp hq2
      exact hF q3 (List.mem_reverse.mp hq3)
/-! ### stages that lead -/
def OneS (G : List Eqn) (S : List Stg) (s : Stp) (t v : Tm) : Prop :=
  (s.giv = true ∧ ∃ e, G[s.ix]? = some e ∧ Keys e s.sb ∧ Does e s t v) ∨ (s.giv = false ∧ ∃ g, S[s.ix]? = some g ∧ Does (g.l, g.r) s t v)
def LeadsS (G : List Eqn) (S : List Stg) : List Stp → Tm → Tm → Prop
  | [], t, u => t = u
  | s :: r, t, u => ∃ v, OneS G S s t v ∧ LeadsS G S r v u
theorem LeadsS.app {G : List Eqn} {S : List Stg} : ∀ {a b : List Stp} {t u v : Tm}, LeadsS G S a t u → LeadsS G S b u v → LeadsS G S (a ++ b) t v
  | [], b, t, u, v, h1, h2 => by
    have e : t = u := h1
    rw [e]
    exact h2
  | s :: r, b, t, u, v, ⟨w, o, h1⟩, h2 => ⟨w, o, LeadsS.app h1 h2⟩
theorem get_app {α : Type} {l m : List α} {i : Nat} {a : α} (h : l[i]? = some a) : (l ++ m)[i]? = some a := by
  rw [List.getElem?_append_left (lt_of_get h)]
  exact h
theorem LeadsS.mono {G G' : List Eqn} {S : List Stg} : ∀ {a : List Stp} {t u : Tm}, LeadsS G S a t u → LeadsS (G ++ G') S a t u
  | [], _, _, h => h
  | s :: r, t, u, ⟨v, o, h⟩ => ⟨v, by
    rcases o with ⟨g, e, he, k⟩ | o
    · exact .inl ⟨g, e, get_app he, k⟩
    · exact .inr o, LeadsS.mono h⟩
theorem Leads.giv {G : List Eqn} : ∀ {a : List Stp} {t u : Tm}, Leads G a t u → ∀ s ∈ a, s.giv = true
  | [], _, _, _, _, h => nomatch h
  | s :: r, t, u, ⟨g, e, he, k, w, d, h⟩, q, hq => by
    rcases List.mem_cons.mp hq with z | z
    · rw [z]
      exact g
    · exact Leads.giv h q z
theorem leads_one {G : List Eqn} {S : List Stg} {F : List (List Stp)} {s : Stp} {t v : Tm} (o : OneS G S s t v) (h : s.giv = false → ∀ g, S[s.ix]? = some g → Leads G (F.getD s.ix []) g.l g.r) : Leads G (flatOne F s) t v := by
  unfold flatOne
  rcases o with ⟨g, e, he, k, d⟩ | ⟨g, q, hq, d⟩
  · rw [if_pos g]
    exact ⟨g, e, he, k, v, d, rfl⟩
  · rw [if_neg (by rw [g]; exact Bool.false_ne_true)]
    have hl := h g q hq
    obtain ⟨d1, rfl⟩ := d
    cases e : s.fwd with
    | true =>
      rw [e] at d1
      exact Leads.mov d1 (Leads.ins (lk s.sb) hl)
    | false =>
      rw [e] at d1
      exact Leads.mov d1 (Leads.ins (lk s.sb) hl.rev)
theorem leads_flatS {G : List Eqn} {S : List Stg} {F : List (List Stp)} : ∀ {ss : List Stp} {t u : Tm}, LeadsS G S ss t u → (∀ s ∈ ss, s.giv = false → ∀ g, S[s.ix]? = some g → Leads G (F.getD s.ix []) g.l g.r) → Leads G (flatS F ss) t u
  | [], _, _, h, _ => h
  | s :: r, t, u, ⟨v, o, h⟩, hF => by
    show Leads G (flatOne F s ++ flatS F r) t u
    exact Leads.app (leads_one o (hF s List.mem_cons_self)) (leads_flatS h fun q hq => hF q (List.mem_cons_of_mem _ hq))
/-- each stage leads by given equations and the stages before it -/
def Der (G : List Eqn) (gs : List Stg) : Prop := ∀ (k : Nat) (g : Stg), gs[k]? = some g → LeadsS G (gs.take k) g.ss g.l g.r
theorem OneS.ix {G : List Eqn} {S : List Stg} {s : Stp} {t v : Tm} (o : OneS G S s t v) (h : s.giv = false) : s.ix < S.length := by
  rcases o with ⟨g, _⟩ | ⟨_, q, hq, _⟩
  · rw [h] at g
    cases g
  · exact lt_of_get hq
theorem LeadsS.ix {G : List Eqn} {S : List Stg} : ∀ {a : List Stp} {t u : Tm}, LeadsS G S a t u → ∀ s ∈ a, s.giv = false → s.ix < S.length
  | [], _, _, _, _, h, _ => nomatch h
  | s :: r, t, u, ⟨v, o, h⟩, q, hq, g => by
    rcases List.mem_cons.mp hq with z | z
    · rw [z] at g ⊢
      exact o.ix g
    · exact LeadsS.ix h q z g
def Wf (gs : List Stg) : Prop := ∀ (k : Nat) (g : Stg), gs[k]? = some g → ∀ s : Stp, s ∈ g.ss → s.giv = false → s.ix < k
theorem Der.wf {G : List Eqn} {gs : List Stg} (d : Der G gs) : Wf gs := fun k g h s hs e => by
  have := (d k g h).ix s hs e
  rw [List.length_take] at this
  omega
theorem fl_get {gs : List Stg} {k : Nat} {g : Stg} (h : gs[k]? = some g) : (fl gs)[k]? = some (flatS (fl (gs.take k)) g.ss) := build_get h
theorem fl_take {gs : List Stg} {k : Nat} (h : k ≤ gs.length) : (fl gs).take k = fl (gs.take k) := build_take gs k h
theorem getD_take {α : Type} {l : List α} {i k : Nat} {d : α} (h : i < k) : (l.take k).getD i d = l.getD i d := by
  rw [List.getD_eq_getElem?_getD, List.getD_eq_getElem?_getD, List.getElem?_take_of_lt h]
theorem fl_leads {G : List Eqn} {gs : List Stg} (d : Der G gs) : ∀ k g, gs[k]? = some g → Leads G ((fl gs).getD k []) g.l g.r := by
  intro k
  induction k using Nat.strongRecOn with
  | ind k ih =>
    intro g h
    have hk := lt_of_get h
    rw [List.getD_eq_getElem?_getD, fl_get h]
    refine leads_flatS (d k g h) fun s hs hg q hq => ?_
    have hi : s.ix < k := d.wf k g h s hs hg
    rw [List.getElem?_take_of_lt hi] at hq
    rw [← fl_take (Nat.le_of_lt hk), getD_take hi]
    exact ih s.ix hi q hq
end K18
set_option linter.all false
/-! One step of a drawn chain: plain Lean. -/
namespace K18
open PySem
def Vr (t : Tm) : Prop := ∀ i, Occ i t → 0 ≤ i ∧ i < 9
/-- 9 stands for u, each other variable for itself -/
def Pat (ps : Sb) (u : Tm) : Prop := lk ps 9 = u ∧ ∀ i, i ≠ 9 → lk ps i = .var i
theorem vr_no9 {t : Tm} (h : Vr t) : ¬ Occ 9 t := fun o => absurd (h 9 o).2 (by decide)
theorem vr_get {p : List Nat} {t u : Tm} (g : get p t = some u) (h : Vr t) : Vr u := fun i o => h i (occ_get g o)
theorem vr_sub {s : Int → Tm} {t : Tm} (h : ∀ i, Occ i t → Vr (s i)) : Vr (sub s t) := fun i o => by
  obtain ⟨j, oj, oi⟩ := occ_sub t o
  exact h j oj i oi
theorem vr_put {p : List Nat} {t u x : Tm} (g : get p t = some u) (h : Vr t) (hx : Vr x) : Vr (put p t x) := fun i o => (occ_put g o).elim (h i) (hx i)
/-- the pattern's values give the term back -/
theorem sub_pat {p : List Nat} {t u : Tm} {ps : Sb} (g : get p t = some u) (h9 : ¬ Occ 9 t) (h : Pat ps u) : sub (lk ps) (put p t (.var 9)) = t := by
  rw [← put_sub g]
  have e1 : sub (lk ps) t = t := by
    rw [sub_congr (r := Tm.var) t fun i hi => h.2 i fun e => h9 (by rw [← e]; exact hi)]
    exact sub_id t
  rw [e1]
  show put p t (lk ps 9) = t
  rw [h.1]
  exact put_get g
/-- the drawn values of the variables that are new -/
structure Vals9 (ps ps' : Sb) : Prop where
  old : ∀ i, i ∈ keys ps → lk ps' i = lk ps i
  new : ∀ i, ¬ i ∈ keys ps → i ≠ 9 → siz (lk ps' i) ≤ 4 ∧ dep (lk ps' i) ≤ 2 ∧ Nam (lk ps' i) ∧ (Vr (lk ps' i) ∨ lk ps' i = .var i)
/-- a term of bounded size, depth -/
structure Tg (b d : Nat) (t : Tm) : Prop where
  sz : siz t ≤ b
  dp : dep t ≤ d
  nm : Nam t
  vr : Vr t
theorem Tg.up {b d b' d' : Nat} {t : Tm} (h : Tg b d t) (hb : b ≤ b') (hd : d ≤ d') : Tg b' d' t := ⟨Nat.le_trans h.sz hb, Nat.le_trans h.dp hd, h.nm, h.vr⟩
theorem get_le : ∀ {p : List Nat} {t u : Tm}, get p t = some u → ∀ k, k ∈ p → k ≤ siz t
  | [], _, _, _, _, h => nomatch h
  | k :: p, t, u, g, j, h => by
    obtain ⟨i, f, as, a, rfl, rfl, e, g'⟩ := get_cons g
    have h1 := lt_of_get e
    have h2 := length_le_sizL as
    have h3 := siz_le_sizL (List.mem_of_getElem? e)
    rcases List.mem_cons.mp h with z | z
    · rw [z]
      show i + 1 ≤ sizL as + 1
      omega
    · have h4 := get_le g' j z
      show j ≤ sizL as + 1
      omega
/-- the values of a step -/
structure SOk (b d : Nat) (s : Stp) : Prop where
  nd : (keys s.sb).Nodup
  rg : ∀ i, i ∈ keys s.sb → 0 ≤ i ∧ i < 10
  pl : s.pos.length ≤ d
  pk : ∀ k, k ∈ s.pos → k ≤ b
  vl : ∀ p : Int × Tm, p ∈ s.sb → siz p.2 ≤ b ∧ dep p.2 ≤ d ∧ Nam p.2 ∧ Vr p.2
theorem SOk.up {b d b' d' : Nat} {s : Stp} (h : SOk b d s) (hb : b ≤ b') (hd : d ≤ d') : SOk b' d' s :=
  ⟨h.nd, h.rg, Nat.le_trans h.pl hd, fun k hk => Nat.le_trans (h.pk k hk) hb, fun p hp => ⟨Nat.le_trans (h.vl p hp).1 hb, Nat.le_trans (h.vl p hp).2.1 hd, (h.vl p hp).2.2⟩⟩
theorem mem_sb {ps : Sb} (hn : (keys ps).Nodup) : ∀ {p : Int × Tm}, p ∈ ps → p.1 ∈ keys ps ∧ lk ps p.1 = p.2 := by
  induction ps with
  | nil => intro p h; cases h
  | cons q r ih =>
    intro p h
    obtain ⟨j, t⟩ := q
    have hn : (j :: keys r).Nodup := hn
    obtain ⟨h1, h2⟩ := List.nodup_cons.mp hn
    rcases List.mem_cons.mp h with e | e
    · rw [e]
      exact ⟨List.mem_cons_self, by rw [lk, if_pos rfl]⟩
    · obtain ⟨i1, i2⟩ := ih h2 e
      refine ⟨List.mem_cons_of_mem _ i1, ?_⟩
      rw [lk, if_neg fun z => h1 (by rw [z]; exact i1)]
      exact i2
/-- what a drawn step does: the term t, the position p of the step, the pattern's position q, the new side n, the values -/
theorem step_law {b d : Nat} {t inner u n0 n : Tm} {p q : List Nat} {ps ps' : Sb} (ht : Tg b d t) (hp : get p t = some inner) (hq : get q inner = some u) (hpat : Pat ps u) (hk : ∀ i, i ∈ keys ps ↔ Occ i (put q inner (.var 9)))
    (hn0 : siz n0 ≤ 4 ∧ dep n0 ≤ 2 ∧ Nam n0 ∧ Vr n0) (hn : n = n0 ∨ ∃ r x, get r n0 = some x ∧ n = put r n0 (.var 9)) (hv : Vals9 ps ps') (hkk : ∀ i, i ∈ keys ps' ↔ Occ i (put q inner (.var 9)) ∨ Occ i n) (hnd : (keys ps').Nodup) (hb : 4 ≤ b) (hd : 2 ≤ d) (src : Nat) (f : Bool) :
    Does (if f then (put q inner (.var 9), n) else (n, put q inner (.var 9))) ⟨true, src, f, p, ps'⟩ t (put p t (sub (lk ps') n)) ∧ Keys (if f then (put q inner (.var 9), n) else (n, put q inner (.var 9))) ps' ∧
      Tg (b + 16) (d + 2) (put p t (sub (lk ps') n)) ∧ SOk b d ⟨true, src, f, p, ps'⟩ ∧ siz n ≤ 4 ∧ dep n ≤ 2 := by
  have hin : ¬ Occ 9 inner := vr_no9 (vr_get hp ht.vr)
  have h9k : (9 : Int) ∈ keys ps := (hk 9).mpr (occ_put_new hq rfl)
  have e9 : lk ps' 9 = u := by rw [hv.old 9 h9k, hpat.1]
  have eold : sub (lk ps') (put q inner (.var 9)) = inner := by
    rw [sub_congr (r := lk ps) _ fun i hi => hv.old i ((hk i).mpr hi)]
    exact sub_pat hq hin hpat
  have hsz : ∀ i, i ≠ 9 → siz (lk ps' i) ≤ 4 ∧ dep (lk ps' i) ≤ 2 ∧ Nam (lk ps' i) ∧ (Vr (lk ps' i) ∨ lk ps' i = .var i) := fun i hi => by
    by_cases z : i ∈ keys ps
    · rw [hv.old i z, hpat.2 i hi]
      exact ⟨by show 1 ≤ 4; decide, by show 1 ≤ 2; decide, trivial, .inr rfl⟩
    · exact hv.new i z hi
  have hsu : siz u ≤ siz inner := siz_get hq
  have hsi : siz inner ≤ siz t := siz_get hp
  have hdi := dep_get hp
  have hdu := dep_get hq
  have hup := dep_pos u
  have h91 : dep (.var 9) = 1 := rfl
  have h91s : siz (.var 9) = 1 := rfl
  have no9 : ∀ i, Occ i n0 → i ≠ 9 := fun i hi e => (vr_no9 hn0.2.2.2) (by rw [← e]; exact hi)
  have s0 : siz (sub (lk ps') n0) ≤ 16 := by
    have := siz_sub (s := lk ps') (m := 4) (by decide) n0 fun i hi => (hsz i (no9 i hi)).1
    have h4 := hn0.1
    omega
  have d0 : dep (sub (lk ps') n0) ≤ 3 := by
    have := dep_sub (s := lk ps') (m := 1) n0 fun i hi => (hsz i (no9 i hi)).2.1
    have h4 := hn0.2.1
    omega
  have vr0 : ∀ i, Occ i n0 → Vr (lk ps' i) := fun i hi => by
    rcases (hsz i (no9 i hi)).2.2.2 with z | z
    · exact z
    · rw [z]
      intro j oj
      rw [show j = i from oj]
      exact hn0.2.2.2 i hi
  have v0 : Vr (sub (lk ps') n0) := vr_sub vr0
  have m0 : Nam (sub (lk ps') n0) := nam_sub n0 hn0.2.2.1 fun i hi => (hsz i (no9 i hi)).2.2.1
  have huv : Vr u := vr_get hq (vr_get hp ht.vr)
  have hun : Nam u := nam_get hq (nam_get hp ht.nm)
  -- the new term at the position
  have key : siz (sub (lk ps') n) ≤ 16 + siz inner ∧ p.length + dep (sub (lk ps') n) ≤ d + 2 ∧ Vr (sub (lk ps') n) ∧ Nam (sub (lk ps') n) ∧ siz n ≤ 4 ∧ dep n ≤ 2 := by
    have hd' := ht.dp
    rcases hn with rfl | ⟨r, x, hr, rfl⟩
    · exact ⟨by omega, by have := dep_pos inner; omega, v0, m0, hn0.1, hn0.2.1⟩
    · rw [← put_sub hr, show sub (lk ps') (.var 9) = u from e9]
      have g := get_sub (s := lk ps') hr
      have h1 := siz_put (x := u) g
      have h2 := siz_pos (sub (lk ps') x)
      have h3 := dep_put (x := u) g
      have h4 := dep_get hr
      have h5 := dep_pos x
      have h6 := siz_put (x := .var 9) hr
      have h7 := siz_pos x
      have h8 := dep_put (x := .var 9) hr
      have h9 := hn0.1
      have h10 := hn0.2.1
      exact ⟨by omega, by omega, vr_put g v0 huv, nam_put g m0 hun, by omega, by omega⟩
  obtain ⟨k1, k2, k3, k4, k5, k6⟩ := key
  have hT : Tg (b + 16) (d + 2) (put p t (sub (lk ps') n)) := by
    have h1 := siz_put (x := sub (lk ps') n) hp
    have h2 := dep_put (x := sub (lk ps') n) hp
    have h3 := ht.sz
    have h4 := ht.dp
    have h5 := siz_pos inner
    exact ⟨by omega, by omega, nam_put hp ht.nm k4, vr_put hp ht.vr k3⟩
  refine ⟨?_, ?_, hT, ⟨hnd, fun i hi => ?_, ?_, fun k hk => ?_, fun w hw => ?_⟩, k5, k6⟩
  · cases f with
    | true => exact ⟨by show get p t = some (sub (lk ps') (put q inner (.var 9))); rw [eold]; exact hp, rfl⟩
    | false => exact ⟨by show get p t = some (sub (lk ps') (put q inner (.var 9))); rw [eold]; exact hp, rfl⟩
  · cases f with
    | true => exact ⟨hnd, hkk⟩
    | false => exact ⟨hnd, fun i => (hkk i).trans ⟨Or.symm, Or.symm⟩⟩
  · rcases (hkk i).mp hi with o | o
    · rcases occ_put hq o with z | z
      · have := (vr_get hp ht.vr) i z
        omega
      · rw [show i = 9 from z]
        decide
    · rcases hn with rfl | ⟨r, x, hr, rfl⟩
      · have := hn0.2.2.2 i o
        omega
      · rcases occ_put hr o with z | z
        · have := hn0.2.2.2 i z
          omega
        · rw [show i = 9 from z]
          decide
  · show p.length ≤ d
    have := dep_pos inner
    have := ht.dp
    omega
  · have := get_le hp k hk
    have := ht.sz
    omega
  · obtain ⟨w1, w2⟩ := mem_sb hnd hw
    rw [← w2]
    by_cases z : w.1 = 9
    · rw [z, e9]
      have h1 := ht.sz
      have h2 := ht.dp
      exact ⟨by omega, by omega, hun, huv⟩
    · have h1 := hsz _ z
      refine ⟨by omega, by omega, h1.2.2.1, ?_⟩
      rcases h1.2.2.2 with y | y
      · exact y
      · rw [y]
        intro j oj
        rw [show j = w.1 from oj]
        rcases (hkk _).mp w1 with o | o
        · rcases occ_put hq o with x | x
          · exact (vr_get hp ht.vr) _ x
          · exact absurd x z
        · rcases hn with rfl | ⟨r, x, hr, rfl⟩
          · exact hn0.2.2.2 _ o
          · rcases occ_put hr o with x | x
            · exact hn0.2.2.2 _ x
            · exact absurd x z
end K18
set_option linter.all false
/-! The drawn stages: what they are worth. Plain Lean. -/
namespace K18
open PySem
def nm (ss : List Stp) : List Nat := (ss.filter (·.giv)).map (·.ix)
def named (gs : List Stg) : List Nat := gs.flatMap fun g => nm g.ss
theorem nm_app (a b : List Stp) : nm (a ++ b) = nm a ++ nm b := by
  unfold nm
  rw [List.filter_append, List.map_append]
theorem named_snoc (gs : List Stg) (g : Stg) : named (gs ++ [g]) = named gs ++ nm g.ss := by
  unfold named
  rw [List.flatMap_append]
  simp
def EqL (b d : Nat) (e : Eqn) : Prop := siz e.1 ≤ b ∧ dep e.1 ≤ d ∧ siz e.2 ≤ b ∧ dep e.2 ≤ d
theorem EqL.up {b d b' d' : Nat} {e : Eqn} (h : EqL b d e) (hb : b ≤ b') (hd : d ≤ d') : EqL b' d' e := ⟨Nat.le_trans h.1 hb, Nat.le_trans h.2.1 hd, Nat.le_trans h.2.2.1 hb, Nat.le_trans h.2.2.2 hd⟩
/-- a chain of given steps, each term of bounded size -/
def LeadsM (G : List Eqn) (b d : Nat) : List Stp → Tm → Tm → Prop
  | [], t, u => t = u ∧ siz t ≤ b ∧ dep t ≤ d
  | s :: r, t, u => s.giv = true ∧ (siz t ≤ b ∧ dep t ≤ d) ∧ ∃ e, G[s.ix]? = some e ∧ Keys e s.sb ∧ ∃ v, Does e s t v ∧ LeadsM G b d r v u
section
variable {G : List Eqn} {b d : Nat}
theorem LeadsM.first : ∀ {a : List Stp} {t u : Tm}, LeadsM G b d a t u → siz t ≤ b ∧ dep t ≤ d
  | [], _, _, h => h.2
  | _ :: _, _, _, h => h.2.1
theorem LeadsM.app : ∀ {a c : List Stp} {t u v : Tm}, LeadsM G b d a t u → LeadsM G b d c u v → LeadsM G b d (a ++ c) t v
  | [], c, t, u, v, h1, h2 => by
    rw [h1.1]
    exact h2
  | s :: r, c, t, u, v, ⟨g, z, e, he, k, w, q, h1⟩, h2 => ⟨g, z, e, he, k, w, q, LeadsM.app h1 h2⟩
theorem LeadsM.up {b' d' : Nat} (hb : b ≤ b') (hd : d ≤ d') : ∀ {a : List Stp} {t u : Tm}, LeadsM G b d a t u → LeadsM G b' d' a t u
  | [], _, _, ⟨e, h1, h2⟩ => ⟨e, Nat.le_trans h1 hb, Nat.le_trans h2 hd⟩
  | s :: r, t, u, ⟨g, ⟨h1, h2⟩, e, he, k, w, q, h⟩ => ⟨g, ⟨Nat.le_trans h1 hb, Nat.le_trans h2 hd⟩, e, he, k, w, q, LeadsM.up hb hd h⟩
theorem LeadsM.mono {G' : List Eqn} : ∀ {a : List Stp} {t u : Tm}, LeadsM G b d a t u → LeadsM (G ++ G') b d a t u
  | [], _, _, h => h
  | s :: r, t, u, ⟨g, z, e, he, k, w, q, h⟩ => ⟨g, z, e, get_app he, k, w, q, LeadsM.mono h⟩
theorem LeadsM.rev : ∀ {a : List Stp} {t u : Tm}, LeadsM G b d a t u → LeadsM G b d (a.reverse.map Stp.rev) u t
  | [], t, u, h => by
    have e : t = u := h.1
    rw [← e]
    exact ⟨rfl, h.2⟩
  | s :: r, t, u, ⟨g, z, e, he, k, w, q, h⟩ => by
    rw [List.reverse_cons, List.map_append]
    exact LeadsM.app (LeadsM.rev h) ⟨g, h.first, e, he, k, t, q.rev, rfl, z⟩
theorem LeadsM.ins {f : Int → Tm} {m : Nat} (hm : 1 ≤ m) (hf : ∀ i, siz (f i) ≤ m ∧ dep (f i) ≤ 2) : ∀ {a : List Stp} {t u : Tm}, LeadsM G b d a t u → LeadsM G (b * m) (d + 1) (a.map (Stp.ins f)) (sub f t) (sub f u) := by
  have key : ∀ t : Tm, siz t ≤ b ∧ dep t ≤ d → siz (sub f t) ≤ b * m ∧ dep (sub f t) ≤ d + 1 := fun t h => by
    have e1 := siz_sub (s := f) hm t fun i _ => (hf i).1
    have e2 := dep_sub (s := f) (m := 1) t fun i _ => (hf i).2
    have e3 : siz t * m ≤ b * m := Nat.mul_le_mul_right _ h.1
    exact ⟨by omega, by omega⟩
  intro a
  induction a with
  | nil =>
    intro t u h
    exact ⟨by rw [h.1], key t h.2⟩
  | cons s r ih =>
    intro t u h
    obtain ⟨g, z, e, he, k, w, q, h⟩ := h
    exact ⟨g, key t z, e, he, ⟨by
      show (keys (inst f s.sb)).Nodup
      rw [keys_inst]
      exact k.1, fun i => by
      show i ∈ keys (inst f s.sb) ↔ _
      rw [keys_inst]
      exact k.2 i⟩, sub f w, q.ins k f, ih h⟩
theorem LeadsM.mov {q : List Nat} {t0 u0 : Tm} (h0 : get q t0 = some u0) {b' d' : Nat} (hb : siz t0 + b ≤ b' + 1) (hd1 : dep t0 ≤ d') (hd2 : q.length + d ≤ d') : ∀ {a : List Stp} {t u : Tm}, LeadsM G b d a t u → LeadsM G b' d' (a.map (Stp.mov q)) (put q t0 t) (put q t0 u) := by
  have key : ∀ t : Tm, siz t ≤ b ∧ dep t ≤ d → siz (put q t0 t) ≤ b' ∧ dep (put q t0 t) ≤ d' := fun t h => by
    have e1 := siz_put (x := t) h0
    have e2 := dep_put (x := t) h0
    have e3 := siz_pos u0
    exact ⟨by omega, by omega⟩
  intro a
  induction a with
  | nil =>
    intro t u h
    exact ⟨by rw [h.1], key t h.2⟩
  | cons s r ih =>
    intro t u h
    obtain ⟨g, z, e, he, k, w, dd, h⟩ := h
    have dm := dd.mov (T := put q t0 t) (get_put h0)
    rw [put_put h0] at dm
    exact ⟨g, key t z, e, he, k, put q t0 w, dm, ih h⟩
theorem LeadsM.giv : ∀ {a : List Stp} {t u : Tm}, LeadsM G b d a t u → ∀ s : Stp, s ∈ a → s.giv = true
  | [], _, _, _, _, h => nomatch h
  | s :: r, t, u, ⟨g, z, e, he, k, w, dd, h⟩, q, hq => by
    rcases List.mem_cons.mp hq with z | z
    · rw [z]
      exact g
    · exact LeadsM.giv h q z
end
/-- a drawn chain: its equations behind the first ones, its steps, where it leads -/
structure Ch (first b d : Nat) (t : Tm) (es : List Eqn) (ss : List Stp) (t' : Tm) : Prop where
  len : ss.length = es.length
  nmd : nm ss = (List.range es.length).map fun j => first + j
  leads : ∀ (G : List Eqn) (S : List Stg), G.length = first → LeadsS (G ++ es) S ss t t'
  mid : ∀ G : List Eqn, G.length = first → LeadsM (G ++ es) b d ss t t'
  tg : Tg b d t'
  ok : ∀ s : Stp, s ∈ ss → SOk b d s
  giv : ∀ s : Stp, s ∈ ss → s.giv = true
  eqs : ∀ e : Eqn, e ∈ es → EqL b d e
theorem Ch.start {first b d : Nat} {t : Tm} (h : Tg b d t) : Ch first b d t [] [] t := ⟨rfl, rfl, fun _ _ _ => rfl, fun _ _ => ⟨rfl, h.sz, h.dp⟩, h, fun _ z => (nomatch z), fun _ z => (nomatch z), fun _ z => (nomatch z)⟩
theorem Ch.snoc {first b d : Nat} {t t' t2 : Tm} {es : List Eqn} {ss : List Stp} {e : Eqn} {s : Stp} (c : Ch first b d t es ss t') (hg : s.giv = true) (hi : s.ix = first + es.length) (hd : Does e s t' t2) (hk : Keys e s.sb) (ht : Tg (b + 16) (d + 2) t2) (hs : SOk b d s)
    (he : EqL b d e) : Ch first (b + 16) (d + 2) t (es ++ [e]) (ss ++ [s]) t2 := by
  have hget : ∀ G : List Eqn, G.length = first → (G ++ (es ++ [e]))[s.ix]? = some e := fun G hG => by
    rw [← List.append_assoc, hi, ← hG, List.getElem?_append_right (by rw [List.length_append]; omega), List.length_append]
    simp
  refine ⟨by rw [List.length_append, List.length_append, c.len]; rfl, ?_, fun G S hG => ?_, fun G hG => ?_, ht, fun q hq => ?_, fun q hq => ?_, fun q hq => ?_⟩
  · rw [nm_app, c.nmd, List.length_append]
    show _ ++ nm [s] = (List.range (es.length + 1)).map _
    have e1 : nm [s] = [s.ix] := by
      unfold nm
      simp [hg]
    rw [e1, List.range_succ, List.map_append, hi]
    rfl
  · have hge := hget G hG
    rw [← List.append_assoc] at hge ⊢
    exact LeadsS.app (LeadsS.mono (c.leads G S hG)) ⟨t2, .inl ⟨hg, e, hge, hk, hd⟩, rfl⟩
  · have hge := hget G hG
    rw [← List.append_assoc] at hge ⊢
    exact LeadsM.app (LeadsM.up (by omega) (by omega) (LeadsM.mono (c.mid G hG))) ⟨hg, ⟨Nat.le_trans c.tg.sz (by omega), Nat.le_trans c.tg.dp (by omega)⟩, e, hge, hk, t2, hd, rfl, ht.sz, ht.dp⟩
  · rcases List.mem_append.mp hq with z | z
    · exact (c.ok q z).up (by omega) (by omega)
    · rw [List.mem_singleton.mp z]
      exact hs.up (by omega) (by omega)
  · rcases List.mem_append.mp hq with z | z
    · exact c.giv q z
    · rw [List.mem_singleton.mp z]
      exact hg
  · rcases List.mem_append.mp hq with z | z
    · exact (c.eqs q z).up (by omega) (by omega)
    · rw [List.mem_singleton.mp z]
      exact he.up (by omega) (by omega)
theorem nd_sub_len : ∀ {a b : List Int}, a.Nodup → (∀ i, i ∈ a → i ∈ b) → a.length ≤ b.length
  | [], _, _, _ => Nat.zero_le _
  | x :: r, b, hn, h => by
    obtain ⟨h1, h2⟩ := List.nodup_cons.mp hn
    have hx := h x List.mem_cons_self
    have ih := nd_sub_len (a := r) (b := b.erase x) h2 fun i hi => (List.mem_erase_of_ne (fun e => h1 (by rw [← e]; exact hi))).mpr (h i (List.mem_cons_of_mem _ hi))
    rw [List.length_erase_of_mem hx] at ih
    have := List.length_pos_of_mem hx
    rw [List.length_cons]
    omega
theorem keys_len {ps : Sb} (hn : (keys ps).Nodup) (h : ∀ i, i ∈ keys ps → 0 ≤ i ∧ i < 10) : ps.length ≤ 10 := by
  have := nd_sub_len (b := (List.range 10).map fun (n : Nat) => (n : Int)) hn fun i hi => by
    obtain ⟨h1, h2⟩ := h i hi
    exact List.mem_map.mpr ⟨i.toNat, List.mem_range.mpr (by omega), by omega⟩
  rw [List.length_map, List.length_range] at this
  unfold keys at this
  rw [List.length_map] at this
  exact this
/-- a flat step -/
structure FOk (b d : Nat) (s : Stp) : Prop where
  nd : (keys s.sb).Nodup
  len : s.sb.length ≤ 10
  pos : s.pos.length ≤ d
  val : ∀ p : Int × Tm, p ∈ s.sb → siz p.2 ≤ b ∧ dep p.2 ≤ d
theorem FOk.up {b d b' d' : Nat} {s : Stp} (h : FOk b d s) (hb : b ≤ b') (hd : d ≤ d') : FOk b' d' s := ⟨h.nd, h.len, Nat.le_trans h.pos hd, fun p hp => ⟨Nat.le_trans (h.val p hp).1 hb, Nat.le_trans (h.val p hp).2 hd⟩⟩
theorem SOk.flat {b d : Nat} {s : Stp} (h : SOk b d s) : FOk b d s := ⟨h.nd, keys_len h.nd h.rg, h.pl, fun p hp => ⟨(h.vl p hp).1, (h.vl p hp).2.1⟩⟩
def bs : Nat → Nat
  | 0 => 45
  | 1 => 45
  | n + 2 => 225 + 45 * n
theorem bs_up (n : Nat) : bs n ≤ bs (n + 1) := by
  match n with
  | 0 => exact Nat.le_refl _
  | 1 => show 45 ≤ 225 + 45 * 0; omega
  | n + 2 => show 225 + 45 * n ≤ 225 + 45 * (n + 1); omega
/-- how much a by-stage value can grow a term -/
def mu (n : Nat) : Nat := if n < 2 then 4 else 1
theorem bs_mu {n : Nat} (h : 0 < n) : bs n * mu n + 44 ≤ bs (n + 1) := by
  match n, h with
  | 1, _ => show 45 * 4 + 44 ≤ 225 + 45 * 0; omega
  | n + 2, _ =>
    have e : mu (n + 2) = 1 := if_neg (by omega)
    rw [e]
    show (225 + 45 * n) * 1 + 44 ≤ 225 + 45 * (n + 1)
    omega
theorem bs_45 (n : Nat) : 45 ≤ bs (n + 1) := by
  match n with
  | 0 => exact Nat.le_refl _
  | n + 1 => show 45 ≤ 225 + 45 * n; omega
structure SInv (G : List Eqn) (gs : List Stg) : Prop where
  der : Der G gs
  nmd : named gs = List.range G.length
  gl : G.length ≤ 2 * gs.length
  stg : ∀ g : Stg, g ∈ gs → Tg (bs gs.length) (7 * gs.length) g.l ∧ Tg (bs gs.length) (7 * gs.length) g.r ∧ g.ss.length ≤ 3 ∧ ∀ s : Stp, s ∈ g.ss → SOk (bs gs.length) (7 * gs.length) s
  fls : ∀ f : List Stp, f ∈ fl gs → f.length ≤ 2 * gs.length ∧ ∀ s : Stp, s ∈ f → FOk (bs gs.length) (7 * gs.length) s
  eqs : ∀ e : Eqn, e ∈ G → EqL (bs gs.length) (7 * gs.length) e
  mid : ∀ (k : Nat) (g : Stg), gs[k]? = some g → LeadsM G (bs gs.length) (7 * gs.length) ((fl gs).getD k []) g.l g.r
theorem SInv.start : SInv [] [] := ⟨fun k g h => by simp at h, rfl, Nat.zero_le _, fun g h => (nomatch h), fun f h => (nomatch (show f ∈ ([] : List (List Stp)) from h)), fun e h => (nomatch h), fun k g h => by simp at h⟩
/-- a step by the stage j that leads from the start to t1 -/
structure By (gs : List Stg) (t0 : Tm) (s : Stp) (start t1 : Tm) : Prop where
  giv : s.giv = false
  stg : ∃ (g : Stg) (u : Tm), gs[s.ix]? = some g ∧ get s.pos t0 = some u ∧ start = put s.pos t0 (sub (lk s.sb) (src (g.l, g.r) s.fwd)) ∧ t1 = put s.pos t0 (sub (lk s.sb) (src (g.l, g.r) (!s.fwd))) ∧ ∀ i, i ∈ keys s.sb ↔ (Occ i g.l ∨ Occ i g.r)
  nd : (keys s.sb).Nodup
  val : ∀ i, i ∈ keys s.sb → siz (lk s.sb i) ≤ mu gs.length ∧ dep (lk s.sb i) ≤ 2 ∧ Nam (lk s.sb i) ∧ Vr (lk s.sb i)
theorem By.lkv {gs : List Stg} {t0 start t1 : Tm} {s : Stp} (b : By gs t0 s start t1) (i : Int) : siz (lk s.sb i) ≤ mu gs.length ∧ dep (lk s.sb i) ≤ 2 ∧ Nam (lk s.sb i) ∧ (Vr (lk s.sb i) ∨ lk s.sb i = .var i) := by
  by_cases z : i ∈ keys s.sb
  · obtain ⟨h1, h2, h3, h4⟩ := b.val i z
    exact ⟨h1, h2, h3, .inl h4⟩
  · rw [lk_not z]
    refine ⟨?_, by show 1 ≤ 2; decide, trivial, .inr rfl⟩
    show 1 ≤ mu gs.length
    unfold mu
    split <;> decide
theorem mu_pos (n : Nat) : 1 ≤ mu n := by
  unfold mu
  split <;> decide
theorem By.does {gs : List Stg} {t0 start t1 : Tm} {s : Stp} (b : By gs t0 s start t1) : ∃ g, gs[s.ix]? = some g ∧ Does (g.l, g.r) s start t1 := by
  obtain ⟨g, u, h1, h2, rfl, rfl, _⟩ := b.stg
  exact ⟨g, h1, get_put h2, (put_put h2).symm⟩
theorem By.tg {G : List Eqn} {gs : List Stg} {t0 start t1 : Tm} {s : Stp} (I : SInv G gs) (ht : Tg 13 3 t0) (b : By gs t0 s start t1) : Tg (bs gs.length * mu gs.length + 12) (7 * gs.length + 3) start ∧ Tg (bs gs.length * mu gs.length + 12) (7 * gs.length + 3) t1 := by
  obtain ⟨g, u, h1, h2, h3, h4, _⟩ := b.stg
  obtain ⟨i1, i2, _⟩ := I.stg g (List.mem_of_getElem? h1)
  have key : ∀ x : Tm, Tg (bs gs.length) (7 * gs.length) x → Tg (bs gs.length * mu gs.length + 12) (7 * gs.length + 3) (put s.pos t0 (sub (lk s.sb) x)) := fun x hx => by
    have e1 := siz_sub (s := lk s.sb) (m := mu gs.length) (mu_pos _) x fun i _ => (b.lkv i).1
    have e2 := dep_sub (s := lk s.sb) (m := 1) x fun i _ => (b.lkv i).2.1
    have e3 := siz_put (x := sub (lk s.sb) x) h2
    have e4 := dep_put (x := sub (lk s.sb) x) h2
    have e5 := siz_pos u
    have e6 := dep_pos u
    have e7 := dep_get h2
    have e8 := ht.sz
    have e9 := ht.dp
    have e10 := hx.dp
    have e11 : siz x * mu gs.length ≤ bs gs.length * mu gs.length := Nat.mul_le_mul_right _ hx.sz
    refine ⟨by omega, by omega, nam_put h2 ht.nm (nam_sub x hx.nm fun i _ => (b.lkv i).2.2.1), vr_put h2 ht.vr (vr_sub fun i hi => ?_)⟩
    rcases (b.lkv i).2.2.2 with z | z
    · exact z
    · rw [z]
      intro j oj
      rw [show j = i from oj]
      exact hx.vr i hi
  rw [h3, h4]
  cases s.fwd with
  | true => exact ⟨key _ i1, key _ i2⟩
  | false => exact ⟨key _ i2, key _ i1⟩
theorem By.sok {G : List Eqn} {gs : List Stg} {t0 start t1 : Tm} {s : Stp} (I : SInv G gs) (ht : Tg 13 3 t0) (b : By gs t0 s start t1) : SOk 13 3 s ∧ s.pos.length ≤ 2 := by
  obtain ⟨g, u, h1, h2, _, _, h3⟩ := b.stg
  obtain ⟨i1, i2, _⟩ := I.stg g (List.mem_of_getElem? h1)
  have e1 := dep_get h2
  have e2 := dep_pos u
  have e3 := ht.dp
  have e4 := ht.sz
  have e5 : mu gs.length ≤ 4 := by
    unfold mu
    split <;> decide
  refine ⟨⟨b.nd, fun i hi => ?_, by omega, fun k hk => by have := get_le h2 k hk; omega, fun p hp => ?_⟩, by omega⟩
  · rcases (h3 i).mp hi with o | o
    · have := i1.vr i o
      omega
    · have := i2.vr i o
      omega
  · obtain ⟨w1, w2⟩ := mem_sb b.nd hp
    have := b.val _ w1
    rw [w2] at this
    exact ⟨by omega, by omega, this.2.2⟩
/-- the flat form of a by-stage step -/
theorem By.flat {G : List Eqn} {gs : List Stg} {t0 start t1 : Tm} {s : Stp} (I : SInv G gs) (ht : Tg 13 3 t0) (b : By gs t0 s start t1) : ∀ q : Stp, q ∈ flatOne (fl gs) s → FOk (bs gs.length * mu gs.length) (7 * gs.length + 2) q := by
  intro q hq
  unfold flatOne at hq
  rw [if_neg (by rw [b.giv]; exact Bool.false_ne_true)] at hq
  obtain ⟨q1, hq1, rfl⟩ := List.mem_map.mp hq
  obtain ⟨q2, hq2, rfl⟩ := List.mem_map.mp hq1
  have h2 := (b.sok I ht).2
  have hf : ∀ z : Stp, z ∈ (fl gs).getD s.ix [] → FOk (bs gs.length) (7 * gs.length) z := fun z hz => by
    rw [List.getD_eq_getElem?_getD] at hz
    cases e : (fl gs)[s.ix]? with
    | none =>
      rw [e] at hz
      cases hz
    | some f =>
      rw [e] at hz
      exact (I.fls f (List.mem_of_getElem? e)).2 z hz
  have hq3 : FOk (bs gs.length) (7 * gs.length) q2 := by
    cases e : s.fwd with
    | true =>
      rw [e] at hq2
      exact hf q2 hq2
    | false =>
      rw [e] at hq2
      simp only [Bool.false_eq_true, if_false] at hq2
      obtain ⟨z, hz, rfl⟩ := List.mem_map.mp hq2
      have := hf z (List.mem_reverse.mp hz)
      exact ⟨this.nd, this.len, this.pos, this.val⟩
  refine ⟨?_, ?_, ?_, fun p hp => ?_⟩
  · show (keys (inst (lk s.sb) q2.sb)).Nodup
    rw [keys_inst]
    exact hq3.nd
  · show (inst (lk s.sb) q2.sb).length ≤ 10
    unfold inst
    rw [List.length_map]
    exact hq3.len
  · show (s.pos ++ q2.pos).length ≤ _
    rw [List.length_append]
    have := hq3.pos
    omega
  · have hp : p ∈ inst (lk s.sb) q2.sb := hp
    unfold inst at hp
    obtain ⟨p0, hp0, rfl⟩ := List.mem_map.mp hp
    obtain ⟨v1, v2⟩ := hq3.val p0 hp0
    have e1 := siz_sub (s := lk s.sb) (m := mu gs.length) (mu_pos _) p0.2 fun i _ => (b.lkv i).1
    have e2 := dep_sub (s := lk s.sb) (m := 1) p0.2 fun i _ => (b.lkv i).2.1
    have e3 : siz p0.2 * mu gs.length ≤ bs gs.length * mu gs.length := Nat.mul_le_mul_right _ v1
    exact ⟨by show siz (sub _ p0.2) ≤ _; omega, by show dep (sub _ p0.2) ≤ _; omega⟩
theorem By.mid {G : List Eqn} {gs : List Stg} {t0 start t1 : Tm} {s : Stp} (I : SInv G gs) (ht : Tg 13 3 t0) (b : By gs t0 s start t1) : LeadsM G (bs gs.length * mu gs.length + 12) (7 * gs.length + 3) (flatOne (fl gs) s) start t1 := by
  obtain ⟨g, u, h1, h2, h3, h4, _⟩ := b.stg
  have hM := I.mid _ g h1
  have hp := (b.sok I ht).2
  have e1 := ht.sz
  have e2 := ht.dp
  have e3 : ∀ {x y : Tm} {a : List Stp}, LeadsM G (bs gs.length) (7 * gs.length) a x y → LeadsM G (bs gs.length * mu gs.length + 12) (7 * gs.length + 3) ((a.map (Stp.ins (lk s.sb))).map (Stp.mov s.pos)) (put s.pos t0 (sub (lk s.sb) x)) (put s.pos t0 (sub (lk s.sb) y)) := fun {x y a} h =>
    LeadsM.mov h2 (by omega) (by omega) (by omega) (LeadsM.ins (mu_pos _) (fun i => ⟨(b.lkv i).1, (b.lkv i).2.1⟩) h)
  rw [h3, h4]
  unfold flatOne
  rw [if_neg (by rw [b.giv]; exact Bool.false_ne_true)]
  cases s.fwd with
  | true => exact e3 hM
  | false => exact e3 hM.rev
theorem getD_len {F : List (List Stp)} {n i : Nat} (h : ∀ f : List Stp, f ∈ F → f.length ≤ n) : (F.map List.length).getD i 0 ≤ n := by
  rw [List.getD_eq_getElem?_getD, List.getElem?_map]
  cases e : F[i]? with
  | none => exact Nat.zero_le _
  | some f => exact h f (List.mem_of_getElem? e)
/-- the steps of a stage: a chain, or a by-stage step and a chain -/
theorem SInv.snoc {G : List Eqn} {gs : List Stg} (I : SInv G gs) {t0 start t1 t2 : Tm} {pre ss : List Stp} {es : List Eqn} {b d : Nat} (ht : Tg 13 3 t0) (hpre : (pre = [] ∧ start = t0 ∧ t1 = t0 ∧ b ≤ 45 ∧ d ≤ 7) ∨ (0 < gs.length ∧ (∃ s, pre = [s] ∧ By gs t0 s start t1) ∧ b ≤ bs gs.length * mu gs.length + 44 ∧ d ≤ 7 * gs.length + 7))
    (c : Ch G.length b d t1 es ss t2) (hn : es.length ≤ 2) : SInv (G ++ es) (gs ++ [⟨start, t2, pre ++ ss⟩]) := by
  have hbs := bs_up gs.length
  have h45 := bs_45 gs.length
  have hbd : b ≤ bs (gs.length + 1) ∧ d ≤ 7 * (gs.length + 1) := by
    rcases hpre with ⟨_, _, _, h1, h2⟩ | ⟨h0, _, h1, h2⟩
    · exact ⟨by omega, by omega⟩
    · have := bs_mu h0
      exact ⟨by omega, by omega⟩
  have el : (gs ++ [(⟨start, t2, pre ++ ss⟩ : Stg)]).length = gs.length + 1 := by
    rw [List.length_append]
    rfl
  have hss2 : ss.length ≤ 2 := by rw [c.len]; exact hn
  have hstart : Tg (bs (gs.length + 1)) (7 * (gs.length + 1)) start := by
    rcases hpre with ⟨_, e, _, _⟩ | ⟨h0, ⟨s, _, hby⟩, _⟩
    · rw [e]
      exact ht.up (by omega) (by omega)
    · have := bs_mu h0
      exact (hby.tg I ht).1.up (by omega) (by omega)
  have hpl : pre.length ≤ 1 := by
    rcases hpre with ⟨e, _⟩ | ⟨_, ⟨s, e, _⟩, _⟩
    · rw [e]; exact Nat.zero_le _
    · rw [e]; exact Nat.le_refl _
  have ess : flatS (fl gs) ss = ss := by
    have : ∀ l : List Stp, (∀ s : Stp, s ∈ l → s.giv = true) → flatS (fl gs) l = l := by
      intro l
      induction l with
      | nil => intro _; rfl
      | cons q r ih =>
        intro h
        show flatOne (fl gs) q ++ flatS (fl gs) r = q :: r
        rw [ih fun s hs => h s (List.mem_cons_of_mem _ hs)]
        unfold flatOne
        rw [if_pos (h q List.mem_cons_self)]
        rfl
    exact this ss c.giv
  have esp : flatS (fl gs) (pre ++ ss) = flatS (fl gs) pre ++ flatS (fl gs) ss := List.flatMap_append
  have ef : fl (gs ++ [(⟨start, t2, pre ++ ss⟩ : Stg)]) = fl gs ++ [flatS (fl gs) (pre ++ ss)] := build_snoc gs _
  refine ⟨fun k g hg => ?_, ?_, ?_, fun g hg => ?_, fun f hf => ?_, fun e he => ?_, fun k g hg => ?_⟩
  · by_cases hk : k < gs.length
    · rw [List.getElem?_append_left hk] at hg
      rw [List.take_append_of_le_length (Nat.le_of_lt hk)]
      exact LeadsS.mono (I.der k g hg)
    · have hk2 : k = gs.length := by
        have := lt_of_get hg
        omega
      subst hk2
      rw [List.getElem?_append_right (Nat.le_refl _), Nat.sub_self] at hg
      cases hg
      rw [List.take_left]
      refine LeadsS.app ?_ (c.leads G gs rfl)
      rcases hpre with ⟨e1, e2, e3, _⟩ | ⟨_, ⟨s, e, hby⟩, _⟩
      · rw [e1]
        show start = t1
        rw [e2, e3]
      · rw [e]
        obtain ⟨g, h1, h2⟩ := hby.does
        exact ⟨t1, .inr ⟨hby.giv, g, h1, h2⟩, rfl⟩
  · rw [named_snoc, I.nmd]
    show _ ++ nm (pre ++ ss) = _
    have e1 : nm pre = [] := by
      rcases hpre with ⟨e, _⟩ | ⟨_, ⟨s, e, hby⟩, _⟩
      · rw [e]; rfl
      · rw [e]
        unfold nm
        simp [hby.giv]
    rw [nm_app, e1, c.nmd, List.nil_append, List.length_append, List.range_add]
  · rw [el, List.length_append]
    have := I.gl
    omega
  · rw [el]
    rcases List.mem_append.mp hg with z | z
    · obtain ⟨h1, h2, h3, h4⟩ := I.stg g z
      exact ⟨h1.up hbs (by omega), h2.up hbs (by omega), h3, fun s hs => (h4 s hs).up hbs (by omega)⟩
    · rw [List.mem_singleton.mp z]
      refine ⟨hstart, c.tg.up hbd.1 hbd.2, by show (pre ++ ss).length ≤ 3; rw [List.length_append]; omega, fun s hs => ?_⟩
      rcases List.mem_append.mp (show s ∈ pre ++ ss from hs) with y | y
      · rcases hpre with ⟨e, _⟩ | ⟨_, ⟨s', e, hby⟩, _⟩
        · rw [e] at y
          cases y
        · rw [e] at y
          rw [List.mem_singleton.mp y]
          exact (hby.sok I ht).1.up (by omega) (by omega)
      · exact (c.ok s y).up hbd.1 hbd.2
  · rw [el]
    rw [ef] at hf
    rcases List.mem_append.mp hf with z | z
    · obtain ⟨h1, h2⟩ := I.fls f z
      exact ⟨by omega, fun s hs => (h2 s hs).up hbs (by omega)⟩
    · rw [List.mem_singleton.mp z]
      rw [esp, ess]
      refine ⟨?_, fun s hs => ?_⟩
      · have h1 : (flatS (fl gs) pre).length ≤ 2 * gs.length := by
          rcases hpre with ⟨e, _⟩ | ⟨_, ⟨s, e, hby⟩, _⟩
          · rw [e]; exact Nat.zero_le _
          · rw [e]
            show (flatOne (fl gs) s ++ []).length ≤ _
            rw [List.append_nil, flatOne_len]
            unfold slen
            rw [if_neg (by rw [hby.giv]; exact Bool.false_ne_true)]
            exact getD_len fun f hf => (I.fls f hf).1
        rw [List.length_append]
        omega
      · rcases List.mem_append.mp hs with y | y
        · rcases hpre with ⟨e, _⟩ | ⟨h0, ⟨s', e, hby⟩, _⟩
          · rw [e] at y
            cases y
          · rw [e] at y
            have y : s ∈ flatOne (fl gs) s' ++ [] := y
            rw [List.append_nil] at y
            have := bs_mu h0
            exact (hby.flat I ht s y).up (by omega) (by omega)
        · exact ((c.ok s y).up hbd.1 hbd.2).flat
  · rw [el]
    rcases List.mem_append.mp he with z | z
    · exact (I.eqs e z).up hbs (by omega)
    · exact (c.eqs e z).up hbd.1 hbd.2
  · rw [el, ef]
    by_cases hk : k < gs.length
    · rw [List.getElem?_append_left hk] at hg
      rw [List.getD_eq_getElem?_getD, List.getElem?_append_left (by rw [fl_length]; exact hk), ← List.getD_eq_getElem?_getD]
      exact LeadsM.up hbs (by omega) (LeadsM.mono (I.mid k g hg))
    · have hk2 : k = gs.length := by
        have := lt_of_get hg
        omega
      subst hk2
      rw [List.getElem?_append_right (Nat.le_refl _), Nat.sub_self] at hg
      cases hg
      rw [List.getD_eq_getElem?_getD, List.getElem?_append_right (by rw [fl_length]; exact Nat.le_refl _), fl_length, Nat.sub_self]
      show LeadsM (G ++ es) _ _ (flatS (fl gs) (pre ++ ss)) start t2
      rw [esp, ess]
      refine LeadsM.app ?_ (LeadsM.up hbd.1 hbd.2 (c.mid G rfl))
      rcases hpre with ⟨e1, e2, e3, _⟩ | ⟨h0, ⟨s, e, hby⟩, _⟩
      · rw [e1]
        exact ⟨by rw [e2, e3], hstart.sz, hstart.dp⟩
      · rw [e]
        have := bs_mu h0
        show LeadsM _ _ _ (flatOne (fl gs) s ++ []) _ _
        rw [List.append_nil]
        exact LeadsM.mono (LeadsM.up (by omega) (by omega) (hby.mid I ht))
end K18
set_option Elab.async false
set_option linter.all false
set_option maxRecDepth 100000
/-! Terms, dicts, steps in the abstract heap. -/
namespace K18
open PySem PySem.Spec L2
mutual
def At (H : Hp) : Tm → V → Prop
  | .var i, v => v = .int i
  | .app f as, v => ∃ a vs, v = .ref a ∧ H a = some (.tup (.str f :: vs)) ∧ AtL H as vs
def AtL (H : Hp) : List Tm → List V → Prop
  | [], vs => vs = []
  | t :: r, vs => ∃ v ws, vs = v :: ws ∧ At H t v ∧ AtL H r ws
end
/-- no list that begins with an int -/
def Pl : HO → Prop
  | .lst (.int _ :: _) => False
  | _ => True
/-- all is kept but lists that begin with an int -/
def Kp (H H' : Hp) : Prop := ∀ b o, Pl o → H b = some o → H' b = some o
theorem Kp.refl (H : Hp) : Kp H H := fun _ _ _ h => h
theorem Kp.trans {H H1 H2 : Hp} (a : Kp H H1) (b : Kp H1 H2) : Kp H H2 := fun c o p h => b c o p (a c o p h)
theorem kp_of {H H' : Hp} (h : Same H H') : Kp H H' := fun b o _ e => h b o e
theorem Kp.tup {H H' : Hp} (k : Kp H H') {a : Addr} {xs : List V} (h : H a = some (.tup xs)) : H' a = some (.tup xs) := k a _ trivial h
theorem same_new {H : Hp} {p : Addr} {o : HO} (h : H p = none) : Same H (upd H p o) := fun b u e => by
  rw [upd_ne (ne_of_none e h)]
  exact e
/-- the tuples are kept -/
def Tk (H H' : Hp) : Prop := ∀ a xs, H a = some (.tup xs) → H' a = some (.tup xs)
theorem Kp.tk {H H' : Hp} (k : Kp H H') : Tk H H' := fun _ _ h => k.tup h
theorem tk_of {H H' : Hp} (h : Same H H') : Tk H H' := fun a _ e => h a _ e
mutual
theorem At.tk {H H' : Hp} (k : Tk H H') : ∀ {t : Tm} {v : V}, At H t v → At H' t v
  | .var _, _, h => h
  | .app _ as, _, ⟨a, vs, e, h, r⟩ => ⟨a, vs, e, k _ _ h, AtL.tk k r⟩
theorem AtL.tk {H H' : Hp} (k : Tk H H') : ∀ {as : List Tm} {vs : List V}, AtL H as vs → AtL H' as vs
  | [], _, h => h
  | t :: r, _, ⟨v, ws, e, h, q⟩ => ⟨v, ws, e, At.tk k h, AtL.tk k q⟩
end
theorem At.kp {H H' : Hp} (k : Kp H H') {t : Tm} {v : V} (h : At H t v) : At H' t v := h.tk k.tk
theorem AtL.kp {H H' : Hp} (k : Kp H H') {as : List Tm} {vs : List V} (h : AtL H as vs) : AtL H' as vs := h.tk k.tk
theorem At.sm {H H' : Hp} (k : Same H H') {t : Tm} {v : V} (h : At H t v) : At H' t v := h.tk (tk_of k)
theorem AtL.sm {H H' : Hp} (k : Same H H') {as : List Tm} {vs : List V} (h : AtL H as vs) : AtL H' as vs := h.tk (tk_of k)
theorem AtL.len {H : Hp} : ∀ {as : List Tm} {vs : List V}, AtL H as vs → vs.length = as.length
  | [], _, h => by rw [show _ = [] from h]; rfl
  | t :: r, _, ⟨v, ws, e, h, q⟩ => by rw [e, List.length_cons, List.length_cons, AtL.len q]
theorem AtL.get {H : Hp} : ∀ {as : List Tm} {vs : List V} {i : Nat} {t : Tm}, AtL H as vs → as[i]? = some t → ∃ v, vs[i]? = some v ∧ At H t v
  | [], _, _, _, _, e => by simp at e
  | a :: r, _, 0, t, ⟨v, ws, e, h, q⟩, e2 => by
    have e3 : a = t := by simpa using e2
    subst e3
    exact ⟨v, by rw [e]; rfl, h⟩
  | a :: r, _, i + 1, t, ⟨v, ws, e, h, q⟩, e2 => by
    obtain ⟨w, h1, h2⟩ := AtL.get (i := i) q (by simpa using e2)
    exact ⟨w, by rw [e]; simpa using h1, h2⟩
theorem AtL.ofget {H : Hp} {as : List Tm} {vs : List V} {i : Nat} {v : V} (h : AtL H as vs) (e : vs[i]? = some v) : ∃ t, as[i]? = some t ∧ At H t v := by
  have hl : i < as.length := by rw [← h.len]; exact lt_of_get e
  obtain ⟨w, h1, h2⟩ := h.get (List.getElem?_eq_getElem hl)
  rw [e] at h1
  cases h1
  exact ⟨_, List.getElem?_eq_getElem hl, h2⟩
theorem AtL.set {H : Hp} {x : Tm} {w : V} (hx : At H x w) : ∀ {as : List Tm} {vs : List V} (i : Nat), AtL H as vs → AtL H (as.set i x) (vs.set i w)
  | [], _, i, h => by
    rw [show _ = [] from h]
    rfl
  | a :: r, _, 0, ⟨v, ws, e, h, q⟩ => by
    rw [e]
    exact ⟨w, ws, rfl, hx, q⟩
  | a :: r, _, i + 1, ⟨v, ws, e, h, q⟩ => by
    rw [e]
    exact ⟨v, ws.set i w, rfl, h, AtL.set hx i q⟩
theorem AtL.snoc {H : Hp} {x : Tm} {w : V} (hx : At H x w) : ∀ {as : List Tm} {vs : List V}, AtL H as vs → AtL H (as ++ [x]) (vs ++ [w])
  | [], _, h => by
    rw [show _ = [] from h]
    exact ⟨w, [], rfl, hx, rfl⟩
  | a :: r, _, ⟨v, ws, e, h, q⟩ => by
    rw [e]
    exact ⟨v, ws ++ [w], rfl, h, AtL.snoc hx q⟩
def isv : Tm → Bool
  | .var _ => true
  | .app _ _ => false
theorem same_mut {H H' : Hp} {r : Addr} {o : HO} (k : Same H H') (h : H r = none) : Same H (upd H' r o) := fun b u e => by
  rw [upd_ne (ne_of_none e h)]
  exact k b u e
/-! ### pairs -/
theorem pr_mono {α β : Type} {F G : α → β → Prop} {l1 : List α} {l2 : List β} (h : Paired F l1 l2) (f : ∀ a b, F a b → G a b) : Paired G l1 l2 := Paired.mapP h f
theorem pr_get {α β : Type} {F : α → β → Prop} : ∀ {l1 : List α} {l2 : List β} {i : Nat} {a : α}, Paired F l1 l2 → l1[i]? = some a → ∃ b, l2[i]? = some b ∧ F a b
  | _, _, _, _, .nil, e => by simp at e
  | _, _, 0, a, .cons (b := b) h _, e => by
    cases e
    exact ⟨b, rfl, h⟩
  | _, _, i + 1, a, .cons _ r, e => by
    obtain ⟨b, h1, h2⟩ := pr_get (i := i) r (by simpa using e)
    exact ⟨b, by simpa using h1, h2⟩
theorem pr_ofget {α β : Type} {F : α → β → Prop} {l1 : List α} {l2 : List β} {i : Nat} {b : β} (h : Paired F l1 l2) (e : l2[i]? = some b) : ∃ a, l1[i]? = some a ∧ F a b := by
  have hl : i < l1.length := by rw [Paired.length h]; exact lt_of_get e
  obtain ⟨c, h1, h2⟩ := pr_get h (List.getElem?_eq_getElem hl)
  rw [e] at h1
  cases h1
  exact ⟨_, List.getElem?_eq_getElem hl, h2⟩
theorem pr_app {α β : Type} {F : α → β → Prop} : ∀ {a1 b1 : List α} {a2 b2 : List β}, Paired F a1 a2 → Paired F b1 b2 → Paired F (a1 ++ b1) (a2 ++ b2)
  | _, _, _, _, .nil, h => h
  | _, _, _, _, .cons h r, h2 => .cons h (pr_app r h2)
theorem pr_snoc {α β : Type} {F : α → β → Prop} {a1 : List α} {a2 : List β} {x : α} {y : β} (h : Paired F a1 a2) (q : F x y) : Paired F (a1 ++ [x]) (a2 ++ [y]) := pr_app h (.cons q .nil)
/-! ### dicts -/
def DRel (H : Hp) : Sb → List (Key × V) → Prop := Paired fun p kv => kv.1 = Sum.inl p.1 ∧ At H p.2 kv.2
def DAt (H : Hp) (ps : Sb) (d : Addr) : Prop := ∃ kvs, H d = some (.dK kvs) ∧ DRel H ps kvs
/-- .. or it is locked -/
def DRd (H : Hp) (ps : Sb) (d : Addr) : Prop := ∃ kvs, Rd H d (.dK kvs) ∧ DRel H ps kvs
theorem DRel.tk {H H' : Hp} {ps : Sb} {kvs : List (Key × V)} (k : Tk H H') (h : DRel H ps kvs) : DRel H' ps kvs := pr_mono h fun _ _ z => ⟨z.1, z.2.tk k⟩
theorem DAt.kp {H H' : Hp} {ps : Sb} {d : Addr} (k : Kp H H') : DAt H ps d → DAt H' ps d := fun ⟨kvs, h, r⟩ => ⟨kvs, k _ _ trivial h, r.tk k.tk⟩
theorem DAt.sm {H H' : Hp} {ps : Sb} {d : Addr} (k : Same H H') (h : DAt H ps d) : DAt H' ps d := h.kp (kp_of k)
theorem DAt.rd {H : Hp} {ps : Sb} {d : Addr} : DAt H ps d → DRd H ps d := fun ⟨kvs, h, r⟩ => ⟨kvs, .inl h, r⟩
theorem DRd.sm {H H' : Hp} {ps : Sb} {d : Addr} (k : Same H H') : DRd H ps d → DRd H' ps d := fun ⟨kvs, h, r⟩ => ⟨kvs, by
  rcases h with h | ⟨o, h⟩
  · exact .inl (k _ _ h)
  · exact .inr ⟨o, k _ _ h⟩, r.tk (tk_of k)⟩
theorem tk_lock {H : Hp} {d : Addr} {od : Obj} {kvs : List (Key × V)} (h : H d = some (.dK kvs)) : Tk H (upd H d (.frz od (.dK kvs))) := fun a xs e => by
  rw [upd_ne (ne_of e h (by intro z; cases z))]
  exact e
theorem DAt.lock {H : Hp} {ps : Sb} {d e : Addr} {od : Obj} {kvs : List (Key × V)} (h : H d = some (.dK kvs)) : DAt H ps e → DRd (upd H d (.frz od (.dK kvs))) ps e := fun ⟨ks, h2, r⟩ => ⟨ks, by
  by_cases z : e = d
  · subst z
    rw [h] at h2
    cases h2
    exact .inr ⟨od, upd_same⟩
  · exact .inl (by rw [upd_ne z]; exact h2), r.tk (tk_lock h)⟩
theorem same_unlock {H H' : Hp} {d : Addr} {od : Obj} {u : HO} (h : H d = some u) (k : Same (upd H d (.frz od u)) H') : Same H (upd H' d u) := fun b o e => by
  by_cases z : b = d
  · subst z
    rw [h] at e
    rw [upd_same, e]
  · rw [upd_ne z]
    exact k b o (by rw [upd_ne z]; exact e)
theorem drel_val {H : Hp} : ∀ {ps : Sb} {kvs : List (Key × V)} {i : Int}, DRel H ps kvs → (i ∈ keys ps → ∃ v, valV kvs (Sum.inl i) = some v ∧ At H (lk ps i) v) ∧ (¬ i ∈ keys ps → valV kvs (Sum.inl i) = none)
  | _, _, i, .nil => ⟨fun h => (nomatch h), fun _ => rfl⟩
  | _, _, i, .cons (a := (j, t)) (b := (k, v)) h r => by
    obtain ⟨e, ht⟩ := h
    have e : k = Sum.inl j := e
    subst e
    have ih := drel_val (i := i) r
    by_cases q : j = i
    · subst q
      refine ⟨fun _ => ⟨v, valV_pos (p := (Sum.inl j, v)) rfl, ?_⟩, fun z => absurd List.mem_cons_self z⟩
      rw [lk, if_pos rfl]
      exact ht
    · have q2 : ¬ ((Sum.inl j : Key) = Sum.inl i) := fun z => q (Sum.inl.inj z)
      rw [valV_neg (p := ((Sum.inl j : Key), v)) q2, lk, if_neg q]
      refine ⟨fun z => ih.1 ?_, fun z => ih.2 fun y => z (List.mem_cons_of_mem _ y)⟩
      have z : i ∈ j :: keys _ := z
      rcases List.mem_cons.mp z with y | y
      · exact absurd y.symm q
      · exact y
theorem DRel.put {H : Hp} {ps : Sb} {kvs : List (Key × V)} {i : Int} {t : Tm} {v : V} (h : DRel H ps kvs) (hi : ¬ i ∈ keys ps) (ht : At H t v) : DRel H (ps ++ [(i, t)]) (putK kvs (Sum.inl i) v) := by
  rw [putK_new v ((drel_val h).2 hi)]
  exact pr_snoc h ⟨rfl, ht⟩
theorem DRel.isSome {H : Hp} {ps : Sb} {kvs : List (Key × V)} {i : Int} (h : DRel H ps kvs) : (valV kvs (Sum.inl i)).isSome = decide (i ∈ keys ps) := by
  by_cases z : i ∈ keys ps
  · obtain ⟨v, e, _⟩ := (drel_val h).1 z
    rw [e, decide_eq_true z]
    rfl
  · rw [(drel_val h).2 z, decide_eq_false z]
    rfl
/-! ### positions, steps, equations, stages -/
def pint (p : List Nat) : List V := p.map fun (k : Nat) => V.int (k : Int)
def srcS (g : Bool) : Str := if g then "given" else "stage"
def StpAt (H : Hp) (s : Stp) (v : V) : Prop := ∃ a sa pa da, v = .ref a ∧ H a = some (.tup [.ref sa, .bl s.fwd, .ref pa, .ref da]) ∧ H sa = some (.tup [.str (srcS s.giv), .int (s.ix : Int)]) ∧ H pa = some (.tup (pint s.pos)) ∧ DAt H s.sb da
def StpsAt (H : Hp) (ss : List Stp) (L : Addr) : Prop := ∃ vs, H L = some (.lst vs) ∧ Paired (StpAt H) ss vs
def EqnAt (H : Hp) (e : Eqn) (v : V) : Prop := ∃ a v1 v2, v = .ref a ∧ H a = some (.tup [v1, v2]) ∧ At H e.1 v1 ∧ At H e.2 v2
def EqnsAt (H : Hp) (es : List Eqn) (L : Addr) : Prop := ∃ vs, H L = some (.lst vs) ∧ Paired (EqnAt H) es vs
def StgAt (H : Hp) (g : Stg) (v : V) : Prop := ∃ a v1 v2 L, v = .ref a ∧ H a = some (.tup [v1, v2, .ref L]) ∧ At H g.l v1 ∧ At H g.r v2 ∧ StpsAt H g.ss L
def StgsAt (H : Hp) (gs : List Stg) (L : Addr) : Prop := ∃ vs, H L = some (.lst vs) ∧ Paired (StgAt H) gs vs
theorem pl_ref {a : Addr} {vs : List V} : Pl (.lst (.ref a :: vs)) := trivial
theorem pl_of {α : Type} {F : α → V → Prop} (f : ∀ a v, F a v → ∃ p, v = .ref p) {l : List α} {vs : List V} (h : Paired F l vs) : Pl (.lst vs) := by
  cases h with
  | nil => trivial
  | cons q _ =>
    obtain ⟨p, e⟩ := f _ _ q
    subst e
    trivial
section
variable {H H' : Hp}
theorem StpAt.kp (k : Kp H H') {s : Stp} {v : V} : StpAt H s v → StpAt H' s v := fun ⟨a, sa, pa, da, e, h1, h2, h3, h4⟩ => ⟨a, sa, pa, da, e, k.tup h1, k.tup h2, k.tup h3, h4.kp k⟩
theorem StpsAt.kp (k : Kp H H') {ss : List Stp} {L : Addr} : StpsAt H ss L → StpsAt H' ss L := fun ⟨vs, h, r⟩ => ⟨vs, k _ _ (pl_of (fun _ _ ⟨a, _, _, _, e, _⟩ => ⟨a, e⟩) r) h, pr_mono r fun _ _ z => z.kp k⟩
theorem EqnAt.kp (k : Kp H H') {e : Eqn} {v : V} : EqnAt H e v → EqnAt H' e v := fun ⟨a, v1, v2, e, h, h1, h2⟩ => ⟨a, v1, v2, e, k.tup h, h1.kp k, h2.kp k⟩
theorem EqnsAt.kp (k : Kp H H') {es : List Eqn} {L : Addr} : EqnsAt H es L → EqnsAt H' es L := fun ⟨vs, h, r⟩ => ⟨vs, k _ _ (pl_of (fun _ _ ⟨a, _, _, e, _⟩ => ⟨a, e⟩) r) h, pr_mono r fun _ _ z => z.kp k⟩
theorem StgAt.kp (k : Kp H H') {g : Stg} {v : V} : StgAt H g v → StgAt H' g v := fun ⟨a, v1, v2, L, e, h, h1, h2, h3⟩ => ⟨a, v1, v2, L, e, k.tup h, h1.kp k, h2.kp k, h3.kp k⟩
theorem StgsAt.kp (k : Kp H H') {gs : List Stg} {L : Addr} : StgsAt H gs L → StgsAt H' gs L := fun ⟨vs, h, r⟩ => ⟨vs, k _ _ (pl_of (fun _ _ ⟨a, _, _, _, e, _⟩ => ⟨a, e⟩) r) h, pr_mono r fun _ _ z => z.kp k⟩
end
/-! ### all but lists is kept -/
def NL (u : HO) : Prop := ∀ xs, u ≠ .lst xs
def Kd (H H' : Hp) : Prop := ∀ b u, NL u → H b = some u → H' b = some u
theorem Kd.refl (H : Hp) : Kd H H := fun _ _ _ h => h
theorem Kd.trans {H H1 H2 : Hp} (a : Kd H H1) (b : Kd H1 H2) : Kd H H2 := fun c o p h => b c o p (a c o p h)
theorem Kd.tup {H H' : Hp} (k : Kd H H') {a : Addr} {xs : List V} (h : H a = some (.tup xs)) : H' a = some (.tup xs) := k a _ (by intro xs z; cases z) h
theorem Kd.tk {H H' : Hp} (k : Kd H H') : Tk H H' := fun _ _ h => k.tup h
theorem Kp.kd {H H' : Hp} (k : Kp H H') : Kd H H' := fun b u n h => k b u (by
  cases u <;> try trivial
  rename_i xs
  exact absurd rfl (n xs)) h
theorem kd_of {H H' : Hp} (h : Same H H') : Kd H H' := (kp_of h).kd
/-- a list is changed -/
theorem kd_lst {H : Hp} {r : Addr} {xs : List V} {o : HO} (h : H r = some (.lst xs)) : Kd H (upd H r o) := fun b u n e => by
  rw [upd_ne]
  · exact e
  · intro z
    subst z
    rw [h] at e
    cases e
    exact n xs rfl
section
variable {H H' : Hp}
theorem DAt.kd (k : Kd H H') {ps : Sb} {d : Addr} : DAt H ps d → DAt H' ps d := fun ⟨kvs, h, r⟩ => ⟨kvs, k _ _ (by intro xs z; cases z) h, r.tk k.tk⟩
theorem StpAt.kd (k : Kd H H') {s : Stp} {v : V} : StpAt H s v → StpAt H' s v := fun ⟨a, sa, pa, da, e, h1, h2, h3, h4⟩ => ⟨a, sa, pa, da, e, k.tup h1, k.tup h2, k.tup h3, h4.kd k⟩
theorem EqnAt.kd (k : Kd H H') {e : Eqn} {v : V} : EqnAt H e v → EqnAt H' e v := fun ⟨a, v1, v2, e, h, h1, h2⟩ => ⟨a, v1, v2, e, k.tup h, h1.tk k.tk, h2.tk k.tk⟩
theorem StpAt.sm (k : Same H H') {s : Stp} {v : V} (h : StpAt H s v) : StpAt H' s v := h.kd (kd_of k)
theorem StpsAt.sm (k : Same H H') {ss : List Stp} {L : Addr} (h : StpsAt H ss L) : StpsAt H' ss L := h.kp (kp_of k)
theorem StgsAt.sm (k : Same H H') {ss : List Stg} {L : Addr} (h : StgsAt H ss L) : StgsAt H' ss L := h.kp (kp_of k)
theorem EqnsAt.sm (k : Same H H') {ss : List Eqn} {L : Addr} (h : EqnsAt H ss L) : EqnsAt H' ss L := h.kp (kp_of k)
theorem StpAt.mk {s : Stp} {p sa pa q : Addr} (hp : H p = none) (h1 : H sa = some (.tup [.str (srcS s.giv), .int (s.ix : Int)])) (h2 : H pa = some (.tup (pint s.pos))) (h3 : DAt H s.sb q) :
    StpAt (upd H p (.tup [.ref sa, .bl s.fwd, .ref pa, .ref q])) s (.ref p) :=
  have k := same_new (o := .tup [.ref sa, .bl s.fwd, .ref pa, .ref q]) hp
  ⟨p, sa, pa, q, rfl, upd_same, k _ _ h1, k _ _ h2, h3.sm k⟩
end
/-! ### readings -/
section
variable {K : PySem.W.Frag} {H : Hp} {Q : VK}
theorem rd_isInt {t : Tm} {v : V} (h : At H t v) (q : Q (.bl (isv t)) H) : rIsi K [v, .ty "int"] H Q := by
  cases t with
  | var i =>
    have h : v = .int i := h
    subst h
    exact ⟨_, _, _, _, true, rfl, .ty "int", .base (.int i), kit_ty (by decide +kernel), q⟩
  | app f as =>
    obtain ⟨a, vs, rfl, ha, _⟩ := h
    exact ⟨_, _, _, _, false, rfl, .ty "int", .base (.tup ha), kit_ty (by decide +kernel), q⟩
theorem cut_tail (x : V) (vs : List V) : cutV (x :: vs) (some 1) none = vs := by
  unfold cutV
  rw [show HT.sIx (x :: vs).length 0 (some 1) = min 1 (x :: vs).length from HT.sIx_nat (x :: vs).length 0 1, HT.sIx_none]
  rw [show min 1 (x :: vs).length = 1 by rw [List.length_cons]; omega]
  show List.take ((x :: vs).length - 1) vs = vs
  rw [List.length_cons, Nat.add_sub_cancel]
  exact List.take_length
theorem rd_tail {a : Addr} {x : V} {vs : List V} (h : H a = some (.tup (x :: vs))) (q : ∀ p, H p = none → Q (.ref p) (upd H p (.tup vs))) : rSlA K (.ref a) (some 1) none H Q := by
  refine ⟨a, x :: vs, rfl, SqT.of h, fun z => ?_, fun _ p hp => ?_⟩
  · have z1 := z.1
    rw [show HT.sIx (x :: vs).length 0 (some 1) = min 1 (x :: vs).length from HT.sIx_nat (x :: vs).length 0 1, List.length_cons] at z1
    omega
  · rw [cut_tail]
    exact q p hp
theorem atI_neg1 {α : Type} {xs : List α} {v : α} (h : xs[xs.length - 1]? = some v) : atI xs (-1) = some v := by
  have hl := lt_of_get h
  have e : ixN xs.length (-1) = some (xs.length - 1) := by
    unfold ixN
    rw [if_neg (by omega), if_pos (by omega)]
    congr 1
    omega
  unfold atI
  rw [e]
  exact h
theorem ixN_neg1 {n : Nat} (h : 0 < n) : ixN n (-1) = some (n - 1) := by
  unfold ixN
  rw [if_neg (by omega), if_pos (by omega)]
  congr 1
  omega
theorem ixN_at {n j : Nat} (h : j < n) : ixN n (j : Int) = some j := by
  unfold ixN
  rw [if_pos (by omega), if_pos (by omega)]
  congr 1
theorem srcS_given (b : Bool) : decide (srcS b = ("given" : Str)) = b := by cases b <;> decide
theorem srcS_stage (b : Bool) : decide (srcS b = ("stage" : Str)) = !b := by cases b <;> decide
/-- d.get(i, i) -/
theorem rd_lk {ps : Sb} {d : Addr} {i : Int} (h : DRd H ps d) (q : ∀ v, At H (lk ps i) v → Q v H) : ∃ o, DGet H d (.int i) o ∧ Q (o.getD (.int i)) H := by
  obtain ⟨kvs, hd, r⟩ := h
  refine ⟨valV kvs (Sum.inl i), .inl ⟨kvs, Sum.inl i, hd, rfl, rfl⟩, ?_⟩
  by_cases z : i ∈ keys ps
  · obtain ⟨v, e, a⟩ := (drel_val r).1 z
    rw [e]
    exact q v a
  · rw [(drel_val r).2 z]
    refine q _ ?_
    rw [lk_not z]
    rfl
theorem DRd.isD {ps : Sb} {d : Addr} (h : DRd H ps d) : IsD H d := by
  obtain ⟨kvs, hd, r⟩ := h
  exact .inl ⟨kvs, hd⟩
/-- i in d, by its answer -/
theorem rd_dget {ps : Sb} {d : Addr} {i : Int} (h : DRd H ps d) : ∃ o, DGet H d (.int i) o ∧ o.isSome = decide (i ∈ keys ps) := by
  obtain ⟨kvs, hd, r⟩ := h
  exact ⟨valV kvs (Sum.inl i), .inl ⟨kvs, Sum.inl i, hd, rfl, rfl⟩, r.isSome⟩
end
end K18
set_option Elab.async false
set_option linter.all false
set_option maxRecDepth 100000
/-! The text by places, what the top holds, a def by its promise. -/
namespace K18
open PySem PySem.Spec L2
def top (i : Nat) : Stmt := PySem.Challenge.pw_joinedends_k18_whole_flat_form.main.body.getD i (.Pass ⟨0, 0, 0, 0⟩)
/-- built-in names that the program leaves alone, the two constants -/
structure Bi (mg : Str → Option Value) : Prop where
  m_isinstance : mg "isinstance" = none
  m_int : mg "int" = none
  m_len : mg "len" = none
  m_list : mg "list" = none
  m_tuple : mg "tuple" = none
  m_dict : mg "dict" = none
  m_range : mg "range" = none
  m_max : mg "max" = none
  m_str : mg "str" = none
  m_sorted : mg "sorted" = none
  m_repr : mg "repr" = none
  m_bool : mg "bool" = none
  m_enumerate : mg "enumerate" = none
  m_reversed : mg "reversed" = none
  m_ValueError : mg "ValueError" = none
  g_WIDE_SIZE : ∃ t, mg "WIDE_SIZE" = some (.int 4000 t)
  g_WIDE_DEPTH : ∃ t, mg "WIDE_DEPTH" = some (.int 120 t)
section
variable {X : Cx} {x : Str} {pos : Pos}
theorem pe_int_glob {i : Int} (h : ∃ t, X.mg x = some (.int i t)) (hg : Gl X x := by rfl) (hd : (x == ("__debug__" : Str)) = false := by decide) : PE X (.Name x pos) (tC (.int i)) := by
  obtain ⟨t, e⟩ := h
  exact pe_glob hg e ⟨_, rfl⟩ hd
theorem pe_ty {n : String} (hm : X.mg x = none) (hv : bootBuiltins x = some (.type n)) (hg : Gl X x := by rfl) (hn : x ≠ "__name__" := by decide) (hd : (x == ("__debug__" : Str)) = false := by decide) : PE X (.Name x pos) (tC (.ty n)) :=
  pe_bltn hg hm hv rfl hn hd
end
/-- within a comprehension's block: the written part named -/
theorem ixlK {X : Cx} {K : PySem.W.Frag} (h : X.K = K) : IxR X (rIxL K) := h ▸ ix_list
theorem opinK {X : Cx} {K : PySem.W.Frag} (h : X.K = K) : OpR X (compareOp .In) (rIn K false) := h ▸ op_in_seq
/-- the def of the module's name x keeps the promise sp -/
structure Kn (P : Program) (w : World) (K : PySem.W.Frag) (mg : Str → Option Value) (base : Heap) (CX : CXT) (k : Nat) (x : Str) (ps : List Str) (sp : Sp) : Prop where
  ex : ∃ (f : Addr) (fd : FuncData), FnOk P w K mg base CX k f fd ps sp ∧ mg x = some (.ref f) ∧ PySem.W.keepIn K (.ref f) = true ∧ Binds K fd ps []
theorem Kn.mono {P : Program} {w : World} {K : PySem.W.Frag} {mg : Str → Option Value} {base : Heap} {CX : CXT} {j k : Nat} {x : Str} {ps : List Str} {sp : Sp} (n : Kn P w K mg base CX j x ps sp) (h : j ≤ k) : Kn P w K mg base CX k x ps sp := by
  obtain ⟨f, fd, F, r⟩ := n.ex
  exact ⟨f, fd, F.mono h, r⟩
theorem Kn.imp {P : Program} {w : World} {K : PySem.W.Frag} {mg : Str → Option Value} {base : Heap} {CX : CXT} {k : Nat} {x : Str} {ps : List Str} {sp sp' : Sp} (n : Kn P w K mg base CX k x ps sp) (h : ∀ vs H Q E, sp' vs H Q E → sp vs H Q E) : Kn P w K mg base CX k x ps sp' := by
  obtain ⟨f, fd, F, r⟩ := n.ex
  exact ⟨f, fd, F.imp h, r⟩
section
variable {X : Cx} {k : Nat} {x : Str} {ps : List Str} {sp : Sp} {e : Expr} {es : List Expr} {t : TA} {p pos : Pos}
theorem pe_kn (kn : Kn X.prog X.w X.K X.mg X.base CX0 k x ps sp) (hr : Room k X.A) (ha : PA X (e :: es) t) (hg : Gl X x := by rfl) (hdb : (x == ("__debug__" : Str)) = false := by decide)
    (he : starEach (e :: es) X.env = (false, eval e X.env) :: starEach es X.env := by rfl) (hpl : (backTo pos (starEach es X.env)).any (·.1) = false := by rfl) :
    PE X (.Call (.Name x p) (e :: es) [] pos) (tCall sp [] E0 t) := by
  obtain ⟨f, fd, F, hm, hk, hb⟩ := kn.ex
  exact pe_call F hr hg hm hk hb .nil pass0 ha hdb he hpl
end
/-- where a def stands -/
structure De (K : PySem.W.Frag) (mg : Str → Option Value) (x : Str) (st : Stmt) (ps : List Str) : Prop where
  ex : ∃ (f : Addr) (fd : FuncData), Fun K x x st f fd ∧ mg x = some (.ref f) ∧ Binds K fd ps []
section
variable {P : Program} {w : World} {K : PySem.W.Frag} {mg : Str → Option Value} {base : Heap}
theorem De.ok {x : Str} {st : Stmt} {N ps : List Str} {k : Nat} {sp : Sp} (F : De K mg x st ps) (S : FnScope N ps (defScope st)) (len : ∀ vs H Q E, sp vs H Q E → vs.length = ps.length)
    (hbody : ∀ (f : Addr) (cdv : Value) (A : Around) (outer : List Env) (s : Shared) (H : Hp) (vs : List V) (Q : VK) (E : XK), Room k (A.deeper (PyProof.Rows.envOfC x (defScope st) s.heap.objs.size f cdv)) → sp vs H Q E →
      ∃ t, PSs (cxOf CX0 P w K mg base N x (defScope st) f cdv A outer s H E).nox (defBody st) t ∧ t { nx := fun _ H' => Q .non H', rt := Q } (start N vs) H) : Kn P w K mg base CX0 (k + 1) x ps sp := by
  obtain ⟨f, fd, F1, hm, hb⟩ := F.ex
  exact ⟨f, fd, F1.ok S len fun cdv A outer s H vs Q E hr h => hbody f cdv A outer s H vs Q E hr h, hm, F1.kp, hb⟩
theorem De.okX {x : Str} {st : Stmt} {N ps : List Str} {k : Nat} {sp : Sp} (F : De K mg x st ps) (S : FnScope N ps (defScope st)) (len : ∀ vs H Q E, sp vs H Q E → vs.length = ps.length)
    (hbody : ∀ (f : Addr) (cdv : Value) (A : Around) (outer : List Env) (s : Shared) (H : Hp) (vs : List V) (Q : VK) (E : XK), Room k (A.deeper (PyProof.Rows.envOfC x (defScope st) s.heap.objs.size f cdv)) → sp vs H Q E →
      ∃ t, PSs (cxOf (L2.CX P w) P w K mg base N x (defScope st) f cdv A outer s H E) (defBody st) t ∧ t { nx := fun _ H' => Q .non H', rt := Q } (start N vs) H) : Kn P w K mg base (L2.CX P w) (k + 1) x ps sp := by
  obtain ⟨f, fd, F1, hm, hb⟩ := F.ex
  exact ⟨f, fd, F1.okX S len fun cdv A outer s H vs Q E hr h => hbody f cdv A outer s H vs Q E hr h, hm, F1.kp, hb⟩
/-- a promise that asks what can't be -/
theorem De.none {x : Str} {st : Stmt} {ps : List Str} {k : Nat} {sp : Sp} {CX : CXT} (F : De K mg x st ps) (no : ∀ vs H Q E, ¬ sp vs H Q E) : Kn P w K mg base CX k x ps sp := by
  obtain ⟨f, fd, F1, hm, hb⟩ := F.ex
  exact ⟨f, fd, ⟨fun vs H Q E h => absurd h (no vs H Q E), fun A outer s H args us vs Q E _ _ _ _ h => absurd h (no vs H Q E)⟩, hm, F1.kp, hb⟩
end
end K18
set_option Elab.async false
set_option linter.all false
set_option maxRecDepth 100000
/-! Readings step by step: each combinator by one lemma, so that a with_reducible refine finds it by its head. -/
namespace K18
open PySem PySem.Spec L2
section
variable {K : PySem.W.Frag} {σ : St} {H : Hp} {Q : VK} {R : Bool → Hp → Prop} {S : List V → Hp → Prop} {D : Ends} {ta tb tc te tl : TE} {t u : TT} {tr : TA} {T U : TS} {v x y : V} {i j k : Int} {n m : Nat} {r r' : R2} {b : Bool}
theorem rd_var (h : σ[n]? = some (some v)) (q : Q v H) : tVar n σ H Q := ⟨v, h, q⟩
theorem rd_c (q : Q v H) : tC v σ H Q := q
theorem rd_op (q : ta σ H fun x H1 => tb σ H1 fun y H2 => r x y H2 Q) : tOp r ta tb σ H Q := q
theorem rd_un {r : V → Hp → VK → Prop} (q : ta σ H fun x H1 => r x H1 Q) : tUn r ta σ H Q := q
theorem rd_U {g : Int → V} (q : Q (g i) H) : rU g (.int i) H Q := ⟨i, rfl, q⟩
theorem rd_I0 {g : Int → Int → V} (q : Q (g i j) H) : rI0 g (.int i) (.int j) H Q := ⟨i, j, rfl, rfl, q⟩
theorem rd_I {C : Int → Int → Prop} {g : Int → Int → V} (c : C i j) (q : Q (g i j) H) : rI C g (.int i) (.int j) H Q := ⟨i, j, rfl, rfl, c, q⟩
theorem rd_eqI (q : Q (.bl (decide (i = j))) H) : rEq (.int i) (.int j) H Q := ⟨rfl, by
  have e : decide (V.int i = V.int j) = decide (i = j) := by
    by_cases h : i = j
    · rw [decide_eq_true h, decide_eq_true (congrArg V.int h)]
    · rw [decide_eq_false h, decide_eq_false fun z => h (V.int.inj z)]
  rw [e]
  exact q⟩
theorem rd_neI (q : Q (.bl (!decide (i = j))) H) : rNe (.int i) (.int j) H Q := ⟨rfl, by
  have e : decide (V.int i = V.int j) = decide (i = j) := by
    by_cases h : i = j
    · rw [decide_eq_true h, decide_eq_true (congrArg V.int h)]
    · rw [decide_eq_false h, decide_eq_false fun z => h (V.int.inj z)]
  rw [e]
  exact q⟩
theorem rd_eqS {a b : Str} (q : Q (.bl (decide (a = b))) H) : rEq (.str a) (.str b) H Q := ⟨rfl, by
  have e : decide (V.str a = V.str b) = decide (a = b) := by
    by_cases h : a = b
    · rw [decide_eq_true h, decide_eq_true (congrArg V.str h)]
    · rw [decide_eq_false h, decide_eq_false fun z => h (V.str.inj z)]
  rw [e]
  exact q⟩
theorem rd_neS {a b : Str} (q : Q (.bl (!decide (a = b))) H) : rNe (.str a) (.str b) H Q := ⟨rfl, by
  have e : decide (V.str a = V.str b) = decide (a = b) := by
    by_cases h : a = b
    · rw [decide_eq_true h, decide_eq_true (congrArg V.str h)]
    · rw [decide_eq_false h, decide_eq_false fun z => h (V.str.inj z)]
  rw [e]
  exact q⟩
theorem rd_ixT {a : Addr} {xs : List V} (h : SqT K H a xs) (e : atI xs i = some v) (q : Q v H) : rIxT K (.ref a) (.int i) H Q := ⟨a, xs, i, v, rfl, rfl, h, e, q⟩
theorem rd_ixL {a : Addr} {xs : List V} (h : SqL K H a xs) (e : atI xs i = some v) (q : Q v H) : rIxL K (.ref a) (.int i) H Q := ⟨a, xs, i, v, rfl, rfl, h, e, q⟩
theorem rd_nil (q : S [] H) : tNil σ H S := q
theorem rd_cons (q : ta σ H fun x H1 => tr σ H1 fun xs H2 => S (x :: xs) H2) : tCons ta tr σ H S := q
theorem rd_call {sp : Sp} {dvs : List V} {E : XK} (q : tr σ H fun vs H1 => sp (vs ++ dvs) H1 Q E) : tCall sp dvs E tr σ H Q := q
theorem rd_callS {sp : Sp} {E : St → XK} (q : tr σ H fun vs H1 => sp vs H1 Q (E σ)) : tCallS sp E tr σ H Q := q
theorem rd_cb {r : List V → Hp → VK → Prop} (q : tr σ H fun vs H1 => r vs H1 Q) : tCB r tr σ H Q := q
theorem rd_bm {Ty : String} {r : V → List V → Hp → VK → Prop} (q : ta σ H fun x H1 => tyV K Ty x H1 ∧ tr σ H1 fun xs H2 => r x xs H2 Q) : tBM K Ty r ta tr σ H Q := q
theorem rd_tup (q : tr σ H fun xs H1 => xs.length ≤ sizeLine ∧ ∀ p, H1 p = none → Q (.ref p) (upd H1 p (.tup xs))) : tTup tr σ H Q := q
theorem rd_lst (q : tr σ H fun xs H1 => xs.length ≤ sizeLine ∧ ∀ p, H1 p = none → Q (.ref p) (upd H1 p (.lst xs))) : tLst tr σ H Q := q
theorem rd_sl {r : V → Option Int → Option Int → Hp → VK → Prop} {tlo thi : TO} (q : te σ H fun x H1 => tlo σ H1 fun l H2 => thi σ H2 fun u H3 => r x l u H3 Q) : tSl r te tlo thi σ H Q := q
theorem rd_part {F : Option Int → Hp → Prop} (q : te σ H fun x H1 => ∃ i, x = .int i ∧ F (some i) H1) : tPart te σ H F := q
theorem rd_nopart {F : Option Int → Hp → Prop} (q : F none H) : tNoPart σ H F := q
theorem rd_exI {P : Int → Prop} (q : P i) : ∃ k, V.int i = V.int k ∧ P k := ⟨i, rfl, q⟩
theorem rd_exB {P : Bool → Prop} (q : P b) : ∃ k, V.bl b = V.bl k ∧ P k := ⟨b, rfl, q⟩
theorem rd_exR {a : Addr} {P : Addr → Prop} (q : P a) : ∃ k, V.ref a = V.ref k ∧ P k := ⟨a, rfl, q⟩
theorem rd_test (q : te σ H fun x H1 => ∃ k, x = .bl k ∧ R k H1) : tTest te σ H R := q
theorem rd_B (q : te σ H fun x H1 => ∃ k, x = .bl k ∧ R k H1) : tB te σ H R := q
theorem rd_and (q : t σ H fun c H1 => if c = true then u σ H1 R else R false H1) : tAnd t u σ H R := q
theorem rd_or (q : t σ H fun c H1 => if c = true then R true H1 else u σ H1 R) : tOr t u σ H R := q
theorem rd_not (q : t σ H fun c H1 => R (!c) H1) : tNot t σ H R := q
theorem rd_andV (q : ta σ H fun x H1 => ∃ c, x = .bl c ∧ if c = true then tb σ H1 Q else Q (.bl false) H1) : tAndV ta tb σ H Q := q
theorem rd_orV (q : ta σ H fun x H1 => ∃ c, x = .bl c ∧ if c = true then Q (.bl true) H1 else tb σ H1 Q) : tOrV ta tb σ H Q := q
theorem rd_notV (q : ta σ H fun x H1 => ∃ c, x = .bl c ∧ Q (.bl (!c)) H1) : tNotV ta σ H Q := q
theorem rd_ifE (q : t σ H fun c H1 => if c = true then ta σ H1 Q else tb σ H1 Q) : tIf t ta tb σ H Q := q
theorem rd_chain (q : ta σ H fun x H1 => tb σ H1 fun y H2 => r x y H2 fun z H3 => ∃ k, z = .bl k ∧ (if k = true then tc σ H3 fun w' H4 => r' y w' H4 Q else Q (.bl false) H3)) : tChain r r' ta tb tc σ H Q := q
theorem rd_dget2 {td ty tx : TE} (q : td σ H fun x H1 => ∃ a, x = .ref a ∧ IsD H1 a ∧ ty σ H1 fun y H2 => tx σ H2 fun z H3 => ∃ o, DGet H3 a y o ∧ Q (o.getD z) H3) : tDGet2 td ty tx σ H Q := q
theorem rd_dnotin {td ty : TE} (q : ty σ H fun y H1 => td σ H1 fun x H2 => ∃ a o, x = .ref a ∧ DGet H2 a y o ∧ Q (.bl (!o.isSome)) H2) : tDNotIn ty td σ H Q := q
theorem rd_seq (q : T { D with nx := U D } σ H) : tSeq T U D σ H := q
theorem rd_next (q : D.nx σ H) : tNext D σ H := q
theorem rd_ifS (q : t σ H fun c H1 => if c = true then T D σ H1 else U D σ H1) : tIfS t T U D σ H := q
theorem rd_asg {g : TG} (q : te σ H fun x H1 => g x σ H1 D.nx) : tAsg te g D σ H := q
theorem rd_name {F : St → Hp → Prop} (q : F (σ.set n (some v)) H) : gName n v σ H F := q
theorem rd_gtup {F : St → Hp → Prop} {tg : TGs} {a : Addr} {xs : List V} (h : SqT K H a xs) (hl : xs.length = n) (q : tg xs σ H F) : gTup K n tg (.ref a) σ H F := ⟨a, xs, rfl, h, hl, q⟩
theorem rd_gcons {F : St → Hp → Prop} {g : TG} {gs : TGs} {vs : List V} (q : g v σ H fun σ' H' => gs vs σ' H' F) : gCons g gs (v :: vs) σ H F := ⟨v, vs, rfl, q⟩
theorem rd_gnil {F : St → Hp → Prop} (q : F σ H) : gNil [] σ H F := ⟨rfl, q⟩
theorem rd_gsub {F : St → Hp → Prop} {ts : TSet} (q : ta σ H fun o H1 => tb σ H1 fun i H2 => ts o i v H2 fun H3 => F σ H3) : gSub ta tb ts v σ H F := q
theorem rd_drop (q : te σ H fun _ H1 => D.nx σ H1) : tDrop te D σ H := q
theorem rd_ret (q : te σ H D.rt) : tRet te D σ H := q
theorem rd_retN (q : D.rt .non H) : tRetN D σ H := q
theorem rd_aug {ti : TIp} (h : σ[n]? = some (some x)) (q : te σ H fun y H1 => ti x y H1 fun z H2 => D.nx (σ.set n (some z)) H2) : tAug n te ti D σ H := ⟨x, h, q⟩
theorem rd_ipI {f : Int → Int → Int} (q : Q (.int (f i j)) H) : ipI f (.int i) (.int j) H Q := ⟨i, j, rfl, rfl, q⟩
theorem rd_par (q : tr σ H fun vs H1 => ∃ v w, vs = [v, w] ∧ D.nx ((σ.set n (some v)).set m (some w)) H1) : tPar n m tr D σ H := q
theorem rd_for {wi : TI} {g : TG} {tb : TS} (q : wi σ H fun J H1 => ∃ W : Nat → Nat → St → Hp → Prop, (∃ m, W 0 m σ H1) ∧ ∀ i m σ H, W i m σ H →
  (J.stop i H ∧ D.nx σ H) ∨ (J.go i H ∧ ∃ N : St → Hp → Prop, (∀ σ' H', N σ' H' → ∃ m', m' < m ∧ W (i + 1) m' σ' H') ∧ ∀ x H', J.yld i H x H' → g x σ H' fun σ2 H2 => tb { D with nx := N, ct := N, bk := D.nx } σ2 H2)) : tFor wi g tb D σ H := q
theorem rd_iList {F : It → Hp → Prop} (q : te σ H fun x H1 => ∃ a, x = .ref a ∧ (∃ xs, SqL K H1 a xs) ∧ F (Itl K a) H1) : iList K te σ H F := q
theorem rd_iTup {F : It → Hp → Prop} (q : te σ H fun x H1 => ∃ a, x = .ref a ∧ (∃ xs, SqT K H1 a xs) ∧ F (Itt K a) H1) : iTup K te σ H F := q
theorem rd_iRng1 {F : It → Hp → Prop} (q : tr σ H fun vs H1 => ∃ j : Int, vs = [.int j] ∧ -(2 ^ 62) ≤ j ∧ j < 2 ^ 62 ∧ F (Itr 0 j.toNat) H1) : iRng1 tr σ H F := q
theorem rd_iRng2 {F : It → Hp → Prop} (q : tr σ H fun vs H1 => ∃ i j : Int, vs = [.int i, .int j] ∧ (-(2 ^ 62) ≤ i ∧ i < 2 ^ 62 ∧ -(2 ^ 62) ≤ j ∧ j < 2 ^ 62) ∧ F (Itr i (j - i).toNat) H1) : iRng2 tr σ H F := q
theorem rd_iRng3 {F : It → Hp → Prop} (q : tr σ H fun vs H1 => ∃ (i j c : Int) (n : Nat), vs = [.int i, .int j, .int c] ∧ RgC i j c n ∧ F (Itc i c n) H1) : iRng3 tr σ H F := q
theorem rd_lock (q : ∃ d u, H d = some u ∧ Mut (some u) ∧ ∀ od, T ⟨fun σ' H' => H' d = some (.frz od u) ∧ D.nx σ' (upd H' d u), fun v H' => H' d = some (.frz od u) ∧ D.rt v (upd H' d u), fun σ' H' => H' d = some (.frz od u) ∧ D.bk σ' (upd H' d u), fun σ' H' => H' d = some (.frz od u) ∧ D.ct σ' (upd H' d u)⟩ σ (upd H d (.frz od u))) : tLock T D σ H := q
theorem rd_m1 {r : V → List V → Hp → VK → Prop} (q : ta σ H fun x H1 => (∃ a, x = .str a) ∧ te σ H1 fun y H2 => r x [y] H2 Q) : tM1 r ta te σ H Q := q
theorem rd_disp {tk tv : TE} (q : ∀ p, H p = none → tk σ (upd H p (.dK [])) fun x H1 => tv σ H1 fun y H2 => H2 p = some (.dK []) ∧ ∃ kvs : List (Key × V), [(x, y)] = kvs.map (fun kv => (kV kv.1, kv.2)) ∧ kvs.length ≤ 15 ∧ Q (.ref p) (upd H2 p (.dK (mergeK [] kvs)))) : tDisp [(tk, tv)] σ H Q := q
theorem rd_iRev {F : It → Hp → Prop} (q : tr σ H fun vs H1 => ∃ (a : Addr) (xs : List V), vs = [.ref a] ∧ SqL K H1 a xs ∧ F (Itv K a xs.length) H1) : iRev K tr σ H F := q
theorem rd_iEnum {F : It → Hp → Prop} (q : tr σ H fun vs H1 => ∃ a xs, vs = [.ref a] ∧ SqL K H1 a xs ∧ F (Ite K a) H1) : iEnum K tr σ H F := q
theorem rd_dput {td ty tv : TE} (q : tv σ H fun v H1 => td σ H1 fun x H2 => ty σ H2 fun y H3 => ∃ a H4, x = .ref a ∧ DPut H3 a y v H4 ∧ D.nx σ H4) : sDPut td ty tv D σ H := q
/-- what follows a loop, a test: as it is written -/
theorem rd_nx {F : St → Hp → Prop} {G1 : VK} {G2 G3 : St → Hp → Prop} (q : F σ H) : (Ends.nx ⟨F, G1, G2, G3⟩) σ H := q
theorem rd_rt {F : St → Hp → Prop} {G1 : VK} {G2 G3 : St → Hp → Prop} (q : G1 v H) : (Ends.rt ⟨F, G1, G2, G3⟩) v H := q
theorem rd_yes (q : R true H) : tYes σ H R := q
theorem rd_dc {wi : TI} {g : TG} {tk tv : TE} {vs : List Nat} (q : wi σ H fun J H1 => ∀ D, H1 D = none → ∃ W : Nat → Nat → Hp → Prop, (∃ m, W 0 m (upd H1 D (.dK []))) ∧ ∀ i m H, W i m H →
  (J.stop i H ∧ Q (.ref D) H) ∨ (J.go i H ∧ ∃ Nx : Hp → Prop, (∀ H', Nx H' → ∃ m', m' < m ∧ W (i + 1) m' H') ∧ ∀ x H', J.yld i H x H' → g x (wipe σ vs) H' fun σ2 H2 => wipe σ2 vs = wipe σ vs ∧ t σ2 H2 fun b H3 =>
    if b = true then tk σ2 H3 fun y H4 => tv σ2 H4 fun z H5 => ∃ kvs k, y = kV k ∧ H5 D = some (.dK kvs) ∧ kvs.length < sizeLine ∧ Nx (upd H5 D (.dK (putK kvs k z))) else Nx H3)) : tDc wi g t tk tv vs σ H Q := q
theorem rd_lc {wi : TI} {g : TG} {vs : List Nat} (q : wi σ H fun J H1 => ∀ D, H1 D = none → ∃ W : Nat → Nat → Hp → Prop, (∃ m, W 0 m (upd H1 D (.lst []))) ∧ ∀ i m H, W i m H →
  (J.stop i H ∧ Q (.ref D) H) ∨ (J.go i H ∧ ∃ Nx : Hp → Prop, (∀ H', Nx H' → ∃ m', m' < m ∧ W (i + 1) m' H') ∧ ∀ x H', J.yld i H x H' → g x (wipe σ vs) H' fun σ2 H2 => wipe σ2 vs = wipe σ vs ∧ t σ2 H2 fun b H3 =>
    if b = true then te σ2 H3 fun y H4 => ∃ acc, H4 D = some (.lst acc) ∧ acc.length < sizeLine ∧ Nx (upd H4 D (.lst (acc ++ [y]))) else Nx H3)) : tLc wi g t te vs σ H Q := q
theorem rd_iItems {F : It → Hp → Prop} (q : te σ H fun x H1 => ∃ d o kvs, x = .ref d ∧ H1 d = some (.frz o (.dK kvs)) ∧ F (Iti d o kvs) H1) : iItems te σ H F := q
theorem rd_iVals {F : It → Hp → Prop} (q : te σ H fun x H1 => ∃ d o kvs, x = .ref d ∧ H1 d = some (.frz o (.dK kvs)) ∧ F (Itd d o kvs) H1) : iVals te σ H F := q
/-- a dict comprehension over a walk -/
theorem dc_it {J : It} {n : Nat} {G : Hp → Prop} {Y : Nat → Hp → V → Hp → Prop} (w : Walk J n G Y) {g : TG} {tk tv : TE} {vs : List Nat} {H1 : Hp} {E : Addr} {Qd : Hp → Prop} (Pv : Nat → Hp → Prop) (h0 : Pv 0 (upd H1 E (.dK []))) (hG : ∀ i H, i ≤ n → Pv i H → G H)
    (hs : ∀ i x H H', i < n → Pv i H → Y i H x H' → g x (wipe σ vs) H' fun σ2 H2 => wipe σ2 vs = wipe σ vs ∧ t σ2 H2 fun b H3 =>
      if b = true then tk σ2 H3 fun y H4 => tv σ2 H4 fun z H5 => ∃ kvs k, y = kV k ∧ H5 E = some (.dK kvs) ∧ kvs.length < sizeLine ∧ Pv (i + 1) (upd H5 E (.dK (putK kvs k z))) else Pv (i + 1) H3) (hd : ∀ H, Pv n H → Qd H) :
    ∃ W : Nat → Nat → Hp → Prop, (∃ m, W 0 m (upd H1 E (.dK []))) ∧ ∀ i m H, W i m H →
      (J.stop i H ∧ Qd H) ∨ (J.go i H ∧ ∃ Nx : Hp → Prop, (∀ H', Nx H' → ∃ m', m' < m ∧ W (i + 1) m' H') ∧ ∀ x H', J.yld i H x H' → g x (wipe σ vs) H' fun σ2 H2 => wipe σ2 vs = wipe σ vs ∧ t σ2 H2 fun b H3 =>
        if b = true then tk σ2 H3 fun y H4 => tv σ2 H4 fun z H5 => ∃ kvs k, y = kV k ∧ H5 E = some (.dK kvs) ∧ kvs.length < sizeLine ∧ Nx (upd H5 E (.dK (putK kvs k z))) else Nx H3) := by
  refine ⟨fun i m H => m = n - i ∧ i ≤ n ∧ Pv i H, ⟨n, by simp, Nat.zero_le _, h0⟩, ?_⟩
  rintro i m H ⟨rfl, hi, p⟩
  have q := hG i H hi p
  by_cases hlt : i < n
  · refine .inr ⟨w.goes i H hlt q, Pv (i + 1), fun H' p' => ⟨n - (i + 1), by omega, rfl, hlt, p'⟩, fun x H' y => hs i x H H' hlt p (w.yields i H x H' hlt q y)⟩
  · have e : i = n := by omega
    subst e
    exact .inl ⟨w.stops H q, hd H p⟩
end
end K18
set_option Elab.async false
set_option linter.all false
set_option maxRecDepth 100000
set_option maxHeartbeats 4000000
/-! The defs of terms: is_variable, size, depth, substitute; is_wide. -/
namespace K18
open PySem PySem.Spec L2
local macro_rules | `(tactic| walk_at "go1") => `(tactic| with_reducible first
  | refine rd_seq ?_ | refine rd_ifS ?_ | refine rd_asg ?_ | refine rd_name ?_ | refine rd_ret ?_ | refine rd_drop ?_ | refine rd_next ?_ | refine rd_retN ?_
  | refine rd_c ?_ | refine rd_op ?_ | refine rd_un ?_ | refine rd_U ?_ | refine rd_I0 ?_ | refine rd_eqI ?_ | refine rd_neI ?_ | refine rd_eqS ?_ | refine rd_neS ?_
  | refine rd_nil ?_ | refine rd_cons ?_ | refine rd_call ?_ | refine rd_cb ?_ | refine rd_bm ?_ | refine rd_tup ?_ | refine rd_lst ?_ | refine rd_sl ?_ | refine rd_part ?_ | refine rd_nopart ?_
  | refine rd_exI ?_ | refine rd_exB ?_ | refine rd_exR ?_ | refine rd_test ?_ | refine rd_B ?_ | refine rd_and ?_ | refine rd_or ?_ | refine rd_not ?_ | refine rd_andV ?_ | refine rd_orV ?_ | refine rd_notV ?_ | refine rd_ifE ?_ | refine rd_chain ?_
  | refine rd_dget2 ?_ | refine rd_dnotin ?_ | refine rd_gcons ?_ | refine rd_gnil ?_ | refine rd_gsub ?_ | refine rd_ipI ?_ | refine rd_par ?_ | refine rd_for ?_ | refine rd_iList ?_ | refine rd_iTup ?_ | refine rd_iRng1 ?_ | refine rd_iRng2 ?_
  | refine rd_iRev ?_ | refine rd_iEnum ?_ | refine rd_dput ?_ | refine rd_nx ?_ | refine rd_rt ?_ | refine rd_yes ?_ | refine rd_dc ?_ | refine rd_lc ?_ | refine rd_iItems ?_ | refine rd_iVals ?_ | refine rd_iRng3 ?_ | refine rd_m1 ?_)
local macro_rules | `(tactic| walk_at "go") => `(tactic| repeat (first | walk_at "go1" | ((with_reducible refine' rd_var ?h1 ?_); (case h1 => exact rfl)) | ((with_reducible refine' rd_aug ?h1 ?_); (case h1 => exact rfl))))

section
variable {P : Program} {w : World} {K : PySem.W.Frag} {mg : Str → Option Value} {base : Heap}
abbrev s_is_variable : Stmt := top 5
theorem sc_is_variable : FnScope ["term"] ["term"] (defScope s_is_variable) := ⟨rfl, rfl, rfl, by decide +kernel, rfl, by decide +kernel, by decide +kernel⟩
def sp_is_variable : Sp := fun vs H Q _ => ∃ t v, vs = [v] ∧ At H t v ∧ Q (.bl (isv t)) H
theorem ok_is_variable (B : Bi mg) (F : De K mg "is_variable" s_is_variable ["term"]) : Kn P w K mg base CX0 1 "is_variable" ["term"] sp_is_variable := by
  refine F.ok sc_is_variable (fun vs H Q E h => ?_) (fun f cdv A outer s H vs Q E hr h => ?_)
  · obtain ⟨t, v, rfl, _⟩ := h
    rfl
  obtain ⟨t, v, rfl, hv, q⟩ := h
  refine ⟨_, (pss_one (ps_ret (pe_callB call_isi (by rfl) B.m_isinstance (by decide +kernel) (pa_cons (pv 0) (pa_cons (pe_ty (n := "int") B.m_int (by decide +kernel)) pa_nil))))), ?_⟩
  walk_at "go"
  exact rd_isInt hv q
abbrev s_size : Stmt := top 6
theorem sc_size : FnScope ["term", "total", "argument"] ["term"] (defScope s_size) := ⟨rfl, rfl, rfl, by decide +kernel, rfl, by decide +kernel, by decide +kernel⟩
def sp_size (n : Nat) : Sp := fun vs H Q _ => ∃ t v, vs = [v] ∧ At H t v ∧ dep t ≤ n ∧ ∀ H', Same H H' → Q (.int (siz t)) H'
theorem ok_size1 {n : Nat} (F : De K mg "size" s_size ["term"]) (k_is_variable : Kn P w K mg base CX0 1 "is_variable" ["term"] sp_is_variable) (k_size : Kn P w K mg base CX0 (n + 1) "size" ["term"] (sp_size n)) :
    Kn P w K mg base CX0 (n + 2) "size" ["term"] (sp_size (n + 1)) := by
  refine F.ok sc_size (fun vs H Q E h => ?_) (fun f cdv A outer s H vs Q E hr h => ?_)
  · obtain ⟨t, v, rfl, _⟩ := h
    rfl
  obtain ⟨t, v, rfl, hv, hd, q⟩ := h
  refine ⟨_, (pss_cons (ps_if (pt_val (pe_kn k_is_variable (hr.mono (by omega)) (pa_cons (pv 0) pa_nil))) (pss_one (ps_ret pe_int)) pss_nil)
      (pss_cons (ps_set (i := 1) sc_size.nd rfl (.inl rfl) pe_int)
      (pss_cons (ps_for PassesOwn.never rfl (pi_tup (pe_slice sl_tupA (pv 0) (po_some pe_int) po_none)) (pg_name (i := 2) sc_size.nd rfl (.inl rfl)) (pss_one (ps_aug (i := 1) sc_size.nd rfl (.inl rfl) (pe_kn k_size (hr.mono (by omega)) (pa_cons (pv 2) pa_nil)) ip_add)))
      (pss_one (ps_ret (pv 1)))))), ?_⟩
  walk_at "go"
  refine ⟨t, v, rfl, hv, ?_⟩
  walk_at "go"
  cases t with
  | var i =>
    refine iteT ?_
    walk_at "go"
    exact q H (Same.refl H)
  | app f as =>
    obtain ⟨a, ws, rfl, ha, hw⟩ := hv
    refine iteF ?_
    walk_at "go"
    refine rd_tail ha fun p hp => ?_
    walk_at "go"
    refine ⟨⟨_, SqT.of upd_same⟩, for_tup (xs := ws) (fun i σ H' => ∃ y, σ = [some (.ref a), some (.int (1 + (sizL (as.take i) : Nat))), y] ∧ Same H H' ∧ H' p = some (.tup ws)) ⟨none, rfl, same_new hp, upd_same⟩ (fun i σ H' _ ⟨_, _, _, e⟩ => SqT.of e) ?_ ?_⟩
    · rintro i x σ H' hi ⟨y, rfl, sm, e⟩
      obtain ⟨b, hb, hx⟩ := (hw.sm sm).ofget hi
      walk_at "go"
      have hdb : dep b ≤ n := by
        have h1 := dep_le_depL (List.mem_of_getElem? hb)
        have h2 : depL as + 1 ≤ n + 1 := hd
        omega
      refine ⟨b, x, rfl, hx, hdb, fun H2 sm2 => ?_⟩
      walk_at "go"
      refine ⟨some x, ?_, sm.trans sm2, sm2 _ _ e⟩
      have z : (1 : Int) + ((sizL (as.take i) : Nat) : Int) + ((siz b : Nat) : Int) = 1 + ((sizL (as.take i) + siz b : Nat) : Int) := by omega
      rw [sizL_take hb, ← z]
      rfl
    · rintro σ H' ⟨y, rfl, sm, e⟩
      walk_at "go"
      rw [take_all hw.len]
      have z : (1 : Int) + (sizL as : Nat) = ((siz (.app f as) : Nat) : Int) := by
        show (1 : Int) + (sizL as : Nat) = ((sizL as + 1 : Nat) : Int)
        omega
      rw [z]
      exact q _ sm
theorem ok_size (F : De K mg "size" s_size ["term"]) (k_is_variable : Kn P w K mg base CX0 1 "is_variable" ["term"] sp_is_variable) : ∀ n, Kn P w K mg base CX0 (n + 1) "size" ["term"] (sp_size n)
  | 0 => F.none fun vs H Q E ⟨t, v, _, _, h, _⟩ => by
    have := dep_pos t
    omega
  | n + 1 => ok_size1 F k_is_variable (ok_size F k_is_variable n)
abbrev s_depth : Stmt := top 7
theorem sc_depth : FnScope ["term", "deepest", "argument"] ["term"] (defScope s_depth) := ⟨rfl, rfl, rfl, by decide +kernel, rfl, by decide +kernel, by decide +kernel⟩
def sp_depth (n : Nat) : Sp := fun vs H Q _ => ∃ t v, vs = [v] ∧ At H t v ∧ dep t ≤ n ∧ ∀ H', Same H H' → Q (.int (dep t)) H'
theorem ok_depth1 (B : Bi mg) {n : Nat} (F : De K mg "depth" s_depth ["term"]) (k_is_variable : Kn P w K mg base CX0 1 "is_variable" ["term"] sp_is_variable) (k_depth : Kn P w K mg base CX0 (n + 1) "depth" ["term"] (sp_depth n)) :
    Kn P w K mg base CX0 (n + 2) "depth" ["term"] (sp_depth (n + 1)) := by
  refine F.ok sc_depth (fun vs H Q E h => ?_) (fun f cdv A outer s H vs Q E hr h => ?_)
  · obtain ⟨t, v, rfl, _⟩ := h
    rfl
  obtain ⟨t, v, rfl, hv, hd, q⟩ := h
  refine ⟨_, (pss_cons (ps_if (pt_val (pe_kn k_is_variable (hr.mono (by omega)) (pa_cons (pv 0) pa_nil))) (pss_one (ps_ret pe_int)) pss_nil)
      (pss_cons (ps_set (i := 1) sc_depth.nd rfl (.inl rfl) pe_int)
      (pss_cons (ps_for PassesOwn.never rfl (pi_tup (pe_slice sl_tupA (pv 0) (po_some pe_int) po_none)) (pg_name (i := 2) sc_depth.nd rfl (.inl rfl)) (pss_one (ps_set (i := 1) sc_depth.nd rfl (.inl rfl) (pe_callB (call_max2 rfl) (by rfl) B.m_max (by decide +kernel) (pa_cons (pv 1) (pa_cons (pe_kn k_depth (hr.mono (by omega)) (pa_cons (pv 2) pa_nil)) pa_nil))))))
      (pss_one (ps_ret (pe_op op_add pe_int (pv 1))))))), ?_⟩
  walk_at "go"
  refine ⟨t, v, rfl, hv, ?_⟩
  walk_at "go"
  cases t with
  | var i =>
    refine iteT ?_
    walk_at "go"
    exact q H (Same.refl H)
  | app f as =>
    obtain ⟨a, ws, rfl, ha, hw⟩ := hv
    refine iteF ?_
    walk_at "go"
    refine rd_tail ha fun p hp => ?_
    walk_at "go"
    refine ⟨⟨_, SqT.of upd_same⟩, for_tup (xs := ws) (fun i σ H' => ∃ y, σ = [some (.ref a), some (.int (depL (as.take i) : Nat)), y] ∧ Same H H' ∧ H' p = some (.tup ws)) ⟨none, rfl, same_new hp, upd_same⟩ (fun i σ H' _ ⟨_, _, _, e⟩ => SqT.of e) ?_ ?_⟩
    · rintro i x σ H' hi ⟨y, rfl, sm, e⟩
      obtain ⟨b, hb, hx⟩ := (hw.sm sm).ofget hi
      walk_at "go"
      have hdb : dep b ≤ n := by
        have h1 := dep_le_depL (List.mem_of_getElem? hb)
        have h2 : depL as + 1 ≤ n + 1 := hd
        omega
      refine ⟨b, x, rfl, hx, hdb, fun H2 sm2 => ?_⟩
      walk_at "go"
      refine ⟨_, _, rfl, ?_⟩
      walk_at "go"
      refine ⟨some x, ?_, sm.trans sm2, sm2 _ _ e⟩
      have z : (if ((dep b : Nat) : Int) > ((depL (as.take i) : Nat) : Int) then ((dep b : Nat) : Int) else ((depL (as.take i) : Nat) : Int)) = ((max (depL (as.take i)) (dep b) : Nat) : Int) := by
        split <;> omega
      rw [depL_take hb, ← z]
      rfl
    · rintro σ H' ⟨y, rfl, sm, e⟩
      walk_at "go"
      rw [take_all hw.len]
      have z : (1 : Int) + (depL as : Nat) = ((dep (.app f as) : Nat) : Int) := by
        show (1 : Int) + (depL as : Nat) = ((depL as + 1 : Nat) : Int)
        omega
      rw [z]
      exact q _ sm
theorem ok_depth (B : Bi mg) (F : De K mg "depth" s_depth ["term"]) (k_is_variable : Kn P w K mg base CX0 1 "is_variable" ["term"] sp_is_variable) : ∀ n, Kn P w K mg base CX0 (n + 1) "depth" ["term"] (sp_depth n)
  | 0 => F.none fun vs H Q E ⟨t, v, _, _, h, _⟩ => by
    have := dep_pos t
    omega
  | n + 1 => ok_depth1 B F k_is_variable (ok_depth B F k_is_variable n)
abbrev s_is_wide : Stmt := top 12
theorem sc_is_wide : FnScope ["term"] ["term"] (defScope s_is_wide) := ⟨rfl, rfl, rfl, by decide +kernel, rfl, by decide +kernel, by decide +kernel⟩
def sp_is_wide : Sp := fun vs H Q _ => ∃ t v, vs = [v] ∧ At H t v ∧ dep t ≤ 40 ∧ siz t ≤ 4000 ∧ ∀ H', Same H H' → Q (.bl false) H'
theorem ok_is_wide (B : Bi mg) (F : De K mg "is_wide" s_is_wide ["term"]) (k_size : Kn P w K mg base CX0 41 "size" ["term"] (sp_size 40)) (k_depth : Kn P w K mg base CX0 41 "depth" ["term"] (sp_depth 40)) : Kn P w K mg base CX0 42 "is_wide" ["term"] sp_is_wide := by
  refine F.ok sc_is_wide (fun vs H Q E h => ?_) (fun f cdv A outer s H vs Q E hr h => ?_)
  · obtain ⟨t, v, rfl, _⟩ := h
    rfl
  obtain ⟨t, v, rfl, hv, hd, hs, q⟩ := h
  refine ⟨_, (pss_one (ps_ret (pe_or (pe_cmpR op_gt (pe_kn k_depth (hr.mono (by omega)) (pa_cons (pv 0) pa_nil)) (pe_int_glob B.g_WIDE_DEPTH) (nomark _)) (pe_one (pe_cmpR op_gt (pe_kn k_size (hr.mono (by omega)) (pa_cons (pv 0) pa_nil)) (pe_int_glob B.g_WIDE_SIZE) (nomark _)))))), ?_⟩
  walk_at "go"
  refine ⟨t, v, rfl, hv, hd, fun H1 sm1 => ?_⟩
  walk_at "go"
  rw [decide_eq_false (show ¬ ((120 : Int) < (dep t : Nat)) by omega)]
  refine iteF ?_
  walk_at "go"
  refine ⟨t, v, rfl, hv.sm sm1, hd, fun H2 sm2 => ?_⟩
  walk_at "go"
  rw [decide_eq_false (show ¬ ((4000 : Int) < (siz t : Nat)) by omega)]
  exact q _ (sm1.trans sm2)
abbrev s_substitute : Stmt := top 8
theorem sc_substitute : FnScope ["term", "substitution", "result", "argument"] ["term", "substitution"] (defScope s_substitute) := ⟨rfl, rfl, rfl, by decide +kernel, rfl, by decide +kernel, by decide +kernel⟩
def sp_sub (n : Nat) : Sp := fun vs H Q _ => ∃ t v ps d, vs = [v, .ref d] ∧ At H t v ∧ DRd H ps d ∧ dep t ≤ n ∧ siz t ≤ 100000 ∧ ∀ x H', Same H H' → At H' (sub (lk ps) t) x → Q x H'
theorem ok_substitute1 (B : Bi mg) {n : Nat} (F : De K mg "substitute" s_substitute ["term", "substitution"]) (k_is_variable : Kn P w K mg base CX0 1 "is_variable" ["term"] sp_is_variable) (k_substitute : Kn P w K mg base CX0 (n + 1) "substitute" ["term", "substitution"] (sp_sub n)) :
    Kn P w K mg base CX0 (n + 2) "substitute" ["term", "substitution"] (sp_sub (n + 1)) := by
  refine F.ok sc_substitute (fun vs H Q E h => ?_) (fun f cdv A outer s H vs Q E hr h => ?_)
  · obtain ⟨t, v, ps, d, rfl, _⟩ := h
    rfl
  obtain ⟨t, v, ps, d, rfl, hv, hp, hd, hs, q⟩ := h
  refine ⟨_, (pss_cons (ps_if (pt_val (pe_kn k_is_variable (hr.mono (by omega)) (pa_cons (pv 0) pa_nil))) (pss_one (ps_ret (pe_dget2 (hu_of hr) (pv 1) (pv 0) (pv 0) ⟨rfl, rfl, rfl, rfl⟩))) pss_nil)
      (pss_cons (ps_set (i := 2) sc_substitute.nd rfl (.inl rfl) (pe_lst (pa_cons (pe_ix ix_tup (pv 0) pe_int (fun _ _ => rfl)) pa_nil)))
      (pss_cons (ps_for PassesOwn.never rfl (pi_tup (pe_slice sl_tupA (pv 0) (po_some pe_int) po_none)) (pg_name (i := 3) sc_substitute.nd rfl (.inl rfl)) (pss_one (ps_expr (pe_bm PySem.F.plainAttrs_list PySem.F.slot_list_append PySem.F.type_list_append mt_append (pv 2) (pa_cons (pe_kn k_substitute (hr.mono (by omega)) (pa_cons (pv 3) (pa_cons (pv 1) pa_nil))) pa_nil)))))
      (pss_one (ps_ret (pe_callTy call_tuple_of (by rfl) B.m_tuple (by decide +kernel) (pa_cons (pv 2) pa_nil))))))), ?_⟩
  walk_at "go"
  refine ⟨t, v, rfl, hv, ?_⟩
  walk_at "go"
  cases t with
  | var i =>
    have hv : v = .int i := hv
    subst hv
    refine iteT ?_
    walk_at "go"
    refine ⟨hp.isD, ?_⟩
    walk_at "go"
    exact rd_lk hp fun x hx => q x H (Same.refl H) hx
  | app f as =>
    obtain ⟨a, ws, rfl, ha, hw⟩ := hv
    have hlen : as.length + 1 ≤ 100000 := by
      have h1 := length_le_sizL as
      have h2 : sizL as + 1 ≤ 100000 := hs
      omega
    refine iteF ?_
    walk_at "go"
    refine rd_ixT (SqT.of ha) (atI_nat (j := 0) rfl) ?_
    walk_at "go"
    refine ⟨(by show 1 ≤ sizeLine; decide), fun r hr0 => ?_⟩
    walk_at "go"
    refine rd_tail ((same_new hr0) _ _ ha) fun p hp0 => ?_
    walk_at "go"
    have npr : p ≠ r := (ne_of_none upd_same hp0).symm
    refine ⟨⟨_, SqT.of upd_same⟩, for_tup (xs := ws) (fun i σ H' => ∃ y rs, σ = [some (.ref a), some (.ref d), some (.ref r), y] ∧ Same H H' ∧ H' p = some (.tup ws) ∧ H' r = some (.lst (.str f :: rs)) ∧ AtL H' (subL (lk ps) (as.take i)) rs)
      ⟨none, [], rfl, (same_new hr0).trans (same_new hp0), upd_same, by rw [upd_ne npr.symm, upd_same], rfl⟩ (fun i σ H' _ ⟨_, _, _, _, e, _⟩ => SqT.of e) ?_ ?_⟩
    · rintro i x σ H' hi ⟨y, rs, rfl, sm, e, er, hrs⟩
      obtain ⟨b, hb, hx⟩ := (hw.sm sm).ofget hi
      have hm := List.mem_of_getElem? hb
      have hdb : dep b ≤ n := by
        have h1 := dep_le_depL hm
        have h2 : depL as + 1 ≤ n + 1 := hd
        omega
      have hsb : siz b ≤ 100000 := by
        have h1 := siz_le_sizL hm
        have h2 : sizL as + 1 ≤ 100000 := hs
        omega
      have hrl : rs.length ≤ as.length := by
        rw [hrs.len, subL_length, List.length_take]
        omega
      walk_at "go"
      refine ⟨.inl ⟨rfl, _, SqL.of er⟩, ?_⟩
      walk_at "go"
      refine ⟨b, x, ps, d, rfl, hx, hp.sm sm, hdb, hsb, fun z H2 sm2 hz => ?_⟩
      walk_at "go"
      have hlt : (V.str f :: rs).length < sizeLine := by
        rw [List.length_cons, sizeLine_eq]
        omega
      refine ⟨r, _, _, rfl, rfl, sm2 _ _ er, hlt, ?_⟩
      walk_at "go"
      have sm3 : Tk H2 (upd H2 r (.lst (V.str f :: rs ++ [z]))) := fun b u e2 => by
        rw [upd_ne (ne_of e2 (sm2 _ _ er) (by intro z; cases z))]
        exact e2
      refine ⟨some x, rs ++ [z], rfl, same_mut (sm.trans sm2) hr0, ?_, upd_same, ?_⟩
      · rw [upd_ne npr]
        exact sm2 _ _ e
      · rw [subL_take hb]
        exact AtL.snoc (hz.tk sm3) ((hrs.sm sm2).tk sm3)
    · rintro σ H' ⟨y, rs, rfl, sm, e, er, hrs⟩
      walk_at "go"
      rw [take_all hw.len] at hrs
      refine ⟨r, _, rfl, .inl ⟨SqL.of er, fun l hl => ?_⟩⟩
      refine q _ _ (sm.trans (same_new hl)) ⟨l, rs, rfl, upd_same, hrs.sm (same_new hl)⟩
theorem ok_substitute (B : Bi mg) (F : De K mg "substitute" s_substitute ["term", "substitution"]) (k_is_variable : Kn P w K mg base CX0 1 "is_variable" ["term"] sp_is_variable) : ∀ n, Kn P w K mg base CX0 (n + 1) "substitute" ["term", "substitution"] (sp_sub n)
  | 0 => F.none fun vs H Q E ⟨t, v, _, _, _, _, _, h, _⟩ => by
    have := dep_pos t
    omega
  | n + 1 => ok_substitute1 B F k_is_variable (ok_substitute B F k_is_variable n)
end
end K18
set_option Elab.async false
set_option linter.all false
set_option maxRecDepth 100000
set_option maxHeartbeats 4000000
/-! Lists of steps: reverse, moved, compose, instantiated. -/
namespace K18
open PySem PySem.Spec L2
local macro_rules | `(tactic| walk_at "go1") => `(tactic| with_reducible first
  | refine rd_seq ?_ | refine rd_ifS ?_ | refine rd_asg ?_ | refine rd_name ?_ | refine rd_ret ?_ | refine rd_drop ?_ | refine rd_next ?_ | refine rd_retN ?_
  | refine rd_c ?_ | refine rd_op ?_ | refine rd_un ?_ | refine rd_U ?_ | refine rd_I0 ?_ | refine rd_eqI ?_ | refine rd_neI ?_ | refine rd_eqS ?_ | refine rd_neS ?_
  | refine rd_nil ?_ | refine rd_cons ?_ | refine rd_call ?_ | refine rd_cb ?_ | refine rd_bm ?_ | refine rd_tup ?_ | refine rd_lst ?_ | refine rd_sl ?_ | refine rd_part ?_ | refine rd_nopart ?_
  | refine rd_exI ?_ | refine rd_exB ?_ | refine rd_exR ?_ | refine rd_test ?_ | refine rd_B ?_ | refine rd_and ?_ | refine rd_or ?_ | refine rd_not ?_ | refine rd_andV ?_ | refine rd_orV ?_ | refine rd_notV ?_ | refine rd_ifE ?_ | refine rd_chain ?_
  | refine rd_dget2 ?_ | refine rd_dnotin ?_ | refine rd_gcons ?_ | refine rd_gnil ?_ | refine rd_gsub ?_ | refine rd_ipI ?_ | refine rd_par ?_ | refine rd_for ?_ | refine rd_iList ?_ | refine rd_iTup ?_ | refine rd_iRng1 ?_ | refine rd_iRng2 ?_
  | refine rd_iRev ?_ | refine rd_iEnum ?_ | refine rd_dput ?_ | refine rd_nx ?_ | refine rd_rt ?_ | refine rd_yes ?_ | refine rd_dc ?_ | refine rd_lc ?_ | refine rd_iItems ?_ | refine rd_iVals ?_ | refine rd_iRng3 ?_ | refine rd_m1 ?_)
local macro_rules | `(tactic| walk_at "go") => `(tactic| repeat (first | walk_at "go1" | ((with_reducible refine' rd_var ?h1 ?_); (case h1 => exact rfl)) | ((with_reducible refine' rd_aug ?h1 ?_); (case h1 => exact rfl))))

section
variable {P : Program} {w : World} {K : PySem.W.Frag} {mg : Str → Option Value} {base : Heap}
abbrev s_reverse : Stmt := top 13
theorem sc_reverse : FnScope ["steps", "result", "source", "is_forward", "position", "substitution"] ["steps"] (defScope s_reverse) := ⟨rfl, rfl, rfl, by decide +kernel, rfl, by decide +kernel, by decide +kernel⟩
def sp_reverse : Sp := fun vs H Q _ => ∃ ss L, vs = [.ref L] ∧ StpsAt H ss L ∧ ss.length ≤ 1000 ∧ ∀ M H', Same H H' → StpsAt H' (ss.reverse.map Stp.rev) M → Q (.ref M) H'
theorem rev_take {ss : List Stp} {i : Nat} {s : Stp} (hi : i < ss.length) (h : ss[ss.length - 1 - i]? = some s) : (ss.reverse.take (i + 1)).map Stp.rev = (ss.reverse.take i).map Stp.rev ++ [s.rev] := by
  have e : ss.reverse[i]? = some s := by
    rw [List.getElem?_reverse hi]
    exact h
  rw [take_more e, List.map_append]
  rfl
theorem ok_reverse (B : Bi mg) (F : De K mg "reverse" s_reverse ["steps"]) : Kn P w K mg base CX0 1 "reverse" ["steps"] sp_reverse := by
  refine F.ok sc_reverse (fun vs H Q E h => ?_) (fun f cdv A outer s H vs Q E hr h => ?_)
  · obtain ⟨ss, L, rfl, _⟩ := h
    rfl
  obtain ⟨ss, L, rfl, ⟨ws, hL, hw⟩, hlen, q⟩ := h
  refine ⟨_, (pss_cons (ps_set (i := 1) sc_reverse.nd rfl (.inl rfl) (pe_lst pa_nil))
      (pss_cons (ps_for PassesOwn.never rfl (pi_reversed (by rfl) B.m_reversed (pa_cons (pv 0) pa_nil)) (pg_tup rfl (pgs_cons (pg_name (i := 2) sc_reverse.nd rfl (.inl rfl)) (pgs_cons (pg_name (i := 3) sc_reverse.nd rfl (.inl rfl)) (pgs_cons (pg_name (i := 4) sc_reverse.nd rfl (.inl rfl)) (pgs_cons (pg_name (i := 5) sc_reverse.nd rfl (.inl rfl)) pgs_nil))))) (pss_one (ps_expr (pe_bm PySem.F.plainAttrs_list PySem.F.slot_list_append PySem.F.type_list_append mt_append (pv 1) (pa_cons (pe_tup (pa_cons (pv 2) (pa_cons (pe_not (pv 3)) (pa_cons (pv 4) (pa_cons (pe_callTy call_dictD (by rfl) B.m_dict (by decide +kernel) (pa_cons (pv 5) pa_nil)) pa_nil))))) pa_nil)))))
      (pss_one (ps_ret (pv 1))))), ?_⟩
  walk_at "go"
  refine ⟨Nat.zero_le _, fun r hr0 => ?_⟩
  walk_at "go"
  have sm0 := same_new (o := .lst []) hr0
  refine ⟨L, ws, rfl, SqL.of (sm0 _ _ hL), for_it walk_rev (fun i σ H' => ∃ y2 y3 y4 y5 rs, σ = [some (.ref L), some (.ref r), y2, y3, y4, y5] ∧ Same H H' ∧ H' r = some (.lst rs) ∧ Paired (StpAt H') ((ss.reverse.take i).map Stp.rev) rs) ⟨none, none, none, none, [], rfl, sm0, upd_same, .nil⟩ (fun i σ H' _ ⟨_, _, _, _, _, _, sm, _⟩ => SqL.of (sm _ _ hL)) ?_ ?_⟩
  · rintro i x σ H0 H' hi ⟨y2, y3, y4, y5, rs, rfl, sm, er, hrs⟩ ⟨rfl, hx⟩
    obtain ⟨st, hst, a, sa, pa, da, rfl, ha, hsa, hpa, kvs, hda, hk⟩ := pr_ofget (pr_mono hw fun _ _ z => z.sm sm) hx
    refine rd_gtup (SqT.of ha) rfl ?_
    walk_at "go"
    refine ⟨.inl ⟨rfl, _, SqL.of er⟩, ?_⟩
    walk_at "go"
    refine ⟨da, kvs, rfl, .inl hda, fun d hd => ?_⟩
    have s1 := same_new (o := .dK kvs) hd
    refine ⟨by show 4 ≤ sizeLine; decide, fun p hp => ?_⟩
    have s2 := same_new (o := .tup [.ref sa, .bl (!st.fwd), .ref pa, .ref d]) hp
    have hnew : StpAt (upd (upd H' d (.dK kvs)) p (.tup [.ref sa, .bl (!st.fwd), .ref pa, .ref d])) st.rev (.ref p) :=
      StpAt.mk (s := st.rev) hp (s1 _ _ hsa) (s1 _ _ hpa) ⟨kvs, upd_same, hk.tk (tk_of s1)⟩
    have er2 := s2 _ _ (s1 _ _ er)
    have hl : rs.length < sizeLine := by
      have z := Paired.length hrs
      rw [List.length_map, List.length_take, List.length_reverse] at z
      rw [sizeLine_eq]
      omega
    refine ⟨r, rs, _, rfl, rfl, er2, hl, ?_⟩
    walk_at "go"
    have k3 := kd_lst (o := .lst (rs ++ [.ref p])) er2
    refine ⟨_, _, _, _, _, rfl, same_mut ((sm.trans s1).trans s2) hr0, upd_same, ?_⟩
    have hi' : i < ss.length := by
      have := Paired.length hw
      omega
    rw [rev_take hi' (by rw [Paired.length hw]; exact hst)]
    exact pr_snoc (pr_mono hrs fun _ _ z => (z.sm (s1.trans s2)).kd k3) (hnew.kd k3)
  · rintro σ H' ⟨y2, y3, y4, y5, rs, rfl, sm, er, hrs⟩
    walk_at "go"
    rw [take_all (by rw [List.length_reverse, Paired.length hw])] at hrs
    exact q r H' sm ⟨rs, er, hrs⟩
abbrev s_moved : Stmt := top 14
theorem sc_moved : FnScope ["steps", "position", "result", "source", "is_forward", "inner", "substitution"] ["steps", "position"] (defScope s_moved) := ⟨rfl, rfl, rfl, by decide +kernel, rfl, by decide +kernel, by decide +kernel⟩
def sp_moved : Sp := fun vs H Q _ => ∃ ss L q b, vs = [.ref L, .ref b] ∧ StpsAt H ss L ∧ H b = some (.tup (pint q)) ∧ ss.length ≤ 1000 ∧ q.length ≤ 1000 ∧ (∀ s ∈ ss, s.pos.length ≤ 1000) ∧ ∀ M H', Same H H' → StpsAt H' (ss.map (Stp.mov q)) M → Q (.ref M) H'
theorem map_take {α β : Type} {f : α → β} {l : List α} {i : Nat} {a : α} (h : l[i]? = some a) : (l.take (i + 1)).map f = (l.take i).map f ++ [f a] := by
  rw [take_more h, List.map_append]
  rfl
theorem pint_app (p q : List Nat) : pint (p ++ q) = pint p ++ pint q := List.map_append
theorem pint_nil {p : List Nat} (h : pint p = []) : p = [] := List.map_eq_nil_iff.mp h
theorem pint_len (p : List Nat) : (pint p).length = p.length := List.length_map _
/-- position + position -/
theorem rd_catP {H : Hp} {Q : VK} {a b : Addr} {p q : List Nat} (ha : H a = some (.tup (pint p))) (hb : H b = some (.tup (pint q))) (hl : p.length + q.length ≤ 100000)
    (k : ∀ c H', Same H H' → H' c = some (.tup (pint (p ++ q))) → Q (.ref c) H') : rCatA K (.ref a) (.ref b) H Q := by
  refine ⟨a, b, _, _, rfl, rfl, SqT.of ha, SqT.of hb, ?_, fun z => ?_, fun _ z => ?_, fun _ _ c hc => ?_⟩
  · rw [pint_len, pint_len, sizeLine_eq]
    omega
  · have z := pint_nil z
    subst z
    exact k b H (Same.refl H) hb
  · have z := pint_nil z
    subst z
    exact k a H (Same.refl H) (by rw [List.append_nil]; exact ha)
  · exact k c _ (same_new hc) (by rw [upd_same, pint_app])
theorem ok_moved (B : Bi mg) (F : De K mg "moved" s_moved ["steps", "position"]) : Kn P w K mg base CX0 1 "moved" ["steps", "position"] sp_moved := by
  refine F.ok sc_moved (fun vs H Q E h => ?_) (fun f cdv A outer s H vs Q E hr h => ?_)
  · obtain ⟨ss, L, q, b, rfl, _⟩ := h
    rfl
  obtain ⟨ss, L, q, b, rfl, ⟨ws, hL, hw⟩, hb, hlen, hq, hps, k⟩ := h
  refine ⟨_, (pss_cons (ps_set (i := 2) sc_moved.nd rfl (.inl rfl) (pe_lst pa_nil))
      (pss_cons (ps_for PassesOwn.never rfl (pi_list (pv 0)) (pg_tup rfl (pgs_cons (pg_name (i := 3) sc_moved.nd rfl (.inl rfl)) (pgs_cons (pg_name (i := 4) sc_moved.nd rfl (.inl rfl)) (pgs_cons (pg_name (i := 5) sc_moved.nd rfl (.inl rfl)) (pgs_cons (pg_name (i := 6) sc_moved.nd rfl (.inl rfl)) pgs_nil))))) (pss_one (ps_expr (pe_bm PySem.F.plainAttrs_list PySem.F.slot_list_append PySem.F.type_list_append mt_append (pv 2) (pa_cons (pe_tup (pa_cons (pv 3) (pa_cons (pv 4) (pa_cons (pe_op op_catA (pv 1) (pv 5)) (pa_cons (pe_callTy call_dictD (by rfl) B.m_dict (by decide +kernel) (pa_cons (pv 6) pa_nil)) pa_nil))))) pa_nil)))))
      (pss_one (ps_ret (pv 2))))), ?_⟩
  walk_at "go"
  refine ⟨Nat.zero_le _, fun r hr0 => ?_⟩
  walk_at "go"
  have sm0 := same_new (o := .lst []) hr0
  refine ⟨⟨_, SqL.of (sm0 _ _ hL)⟩, for_list (xs := ws) (fun i σ H' => ∃ y2 y3 y4 y5 rs, σ = [some (.ref L), some (.ref b), some (.ref r), y2, y3, y4, y5] ∧ Same H H' ∧ H' r = some (.lst rs) ∧ Paired (StpAt H') ((ss.take i).map (Stp.mov q)) rs) ⟨none, none, none, none, [], rfl, sm0, upd_same, .nil⟩ (fun i σ H' _ ⟨_, _, _, _, _, _, sm, _⟩ => SqL.of (sm _ _ hL)) ?_ ?_⟩
  · rintro i x σ H' hx ⟨y2, y3, y4, y5, rs, rfl, sm, er, hrs⟩
    obtain ⟨st, hst, a, sa, pa, da, rfl, ha, hsa, hpa, kvs, hda, hk⟩ := pr_ofget (pr_mono hw fun _ _ z => z.sm sm) hx
    refine rd_gtup (SqT.of ha) rfl ?_
    walk_at "go"
    refine ⟨.inl ⟨rfl, _, SqL.of er⟩, ?_⟩
    walk_at "go"
    refine rd_catP (sm _ _ hb) hpa (by have := hps st (List.mem_of_getElem? hst); omega) fun c H1 s0 hc => ?_
    walk_at "go"
    refine ⟨da, kvs, rfl, .inl (s0 _ _ hda), fun d hd => ?_⟩
    have s1 := same_new (o := .dK kvs) hd
    refine ⟨by show 4 ≤ sizeLine; decide, fun p hp => ?_⟩
    have s2 := same_new (o := .tup [.ref sa, .bl st.fwd, .ref c, .ref d]) hp
    have hnew : StpAt (upd (upd H1 d (.dK kvs)) p (.tup [.ref sa, .bl st.fwd, .ref c, .ref d])) (st.mov q) (.ref p) :=
      StpAt.mk (s := st.mov q) hp (s1 _ _ (s0 _ _ hsa)) (s1 _ _ hc) ⟨kvs, upd_same, hk.tk (tk_of (s0.trans s1))⟩
    have er2 := s2 _ _ (s1 _ _ (s0 _ _ er))
    have hl : rs.length < sizeLine := by
      have z := Paired.length hrs
      rw [List.length_map, List.length_take] at z
      rw [sizeLine_eq]
      omega
    refine ⟨r, rs, _, rfl, rfl, er2, hl, ?_⟩
    walk_at "go"
    have k3 := kd_lst (o := .lst (rs ++ [.ref p])) er2
    refine ⟨_, _, _, _, _, rfl, same_mut (((sm.trans s0).trans s1).trans s2) hr0, upd_same, ?_⟩
    rw [map_take hst]
    exact pr_snoc (pr_mono hrs fun _ _ z => (z.sm ((s0.trans s1).trans s2)).kd k3) (hnew.kd k3)
  · rintro σ H' ⟨y2, y3, y4, y5, rs, rfl, sm, er, hrs⟩
    walk_at "go"
    rw [take_all (Paired.length hw).symm] at hrs
    exact k r H' sm ⟨rs, er, hrs⟩
abbrev s_compose : Stmt := top 15
theorem sc_compose : FnScope ["values", "substitution", "variable", "value"] ["values", "substitution"] (defScope s_compose) := ⟨rfl, rfl, rfl, by decide +kernel, rfl, by decide +kernel, by decide +kernel⟩
def sp_compose : Sp := fun vs H Q _ => ∃ ps qs d e, vs = [.ref d, .ref e] ∧ DAt H ps d ∧ DAt H qs e ∧ (keys ps).Nodup ∧ ps.length ≤ 1000 ∧ (∀ p ∈ ps, dep p.2 ≤ 40 ∧ siz p.2 ≤ 100000) ∧ ∀ D H', Same H H' → DAt H' (inst (lk qs) ps) D → Q (.ref D) H'
theorem inst_take {f : Int → Tm} {ps : Sb} {i : Nat} {p : Int × Tm} (h : ps[i]? = some p) : inst f (ps.take (i + 1)) = inst f (ps.take i) ++ [(p.1, sub f p.2)] := map_take h
theorem nodup_take {ps : Sb} {i : Nat} {p : Int × Tm} (h : (keys ps).Nodup) (hp : ps[i]? = some p) : ¬ p.1 ∈ keys (ps.take i) := by
  intro z
  obtain ⟨q, hq, e⟩ := List.mem_map.mp z
  obtain ⟨j, hj⟩ := List.mem_iff_getElem?.mp hq
  have hj1 : j < i := by
    have := lt_of_get hj
    rw [List.length_take] at this
    omega
  rw [List.getElem?_take_of_lt hj1] at hj
  have h1 : (keys ps)[j]? = some p.1 := by
    unfold keys
    rw [List.getElem?_map, hj, ← e]
    rfl
  have h2 : (keys ps)[i]? = some p.1 := by
    unfold keys
    rw [List.getElem?_map, hp]
    rfl
  have e2 := nd_ix h h1 h2
  omega
theorem ok_compose (B : Bi mg) (F : De K mg "compose" s_compose ["values", "substitution"]) (k_substitute : Kn P w K mg base CX0 41 "substitute" ["term", "substitution"] (sp_sub 40)) : Kn P w K mg base CX0 42 "compose" ["values", "substitution"] sp_compose := by
  refine F.ok sc_compose (fun vs H Q E h => ?_) (fun f cdv A outer s H vs Q E hr h => ?_)
  · obtain ⟨ps, qs, d, e, rfl, _⟩ := h
    rfl
  obtain ⟨ps, qs, d, e, rfl, ⟨kvs, hd, hk⟩, he, hnd, hlen, hb, k⟩ := h
  refine ⟨_, (pss_one (ps_ret (pe_lock (pe_dc (own := [("variable", 2), ("value", 3)]) (g := gTup K 2 (gCons (gName 2) (gCons (gName 3) gNil))) rfl sc_compose.nd (pi_items (pv 0)) (blkOk_by (N := ["values", "substitution", "variable", "value"]) (sc := defScope s_compose) (by decide +kernel)) (fun _ _ _ _ _ => pg_tup rfl (pgs_cons (pg_name (i := 2) sc_compose.nd rfl (Or.inl rfl) (Or.inr rfl)) (pgs_cons (pg_name (i := 3) sc_compose.nd rfl (Or.inl rfl) (Or.inr rfl)) pgs_nil))) (fun _ _ _ _ _ => pts_nil) (fun _ _ _ _ _ => (pv 2)) (fun _ _ _ _ _ => (pe_kn k_substitute (hr.mono (by omega)) (pa_cons (pv 3) (pa_cons (pv 1) pa_nil)))))))), ?_⟩
  walk_at "go"
  refine ⟨d, .dK kvs, hd, trivial, fun od => ?_⟩
  have tl := tk_lock (od := od) hd
  walk_at "go"
  refine ⟨d, _, kvs, rfl, upd_same, fun D hD => ?_⟩
  have sD := same_new (o := .dK []) hD
  have he' := DAt.lock (od := od) hd he
  refine dc_it walk_items (fun i H' => ∃ ks, Same (upd H d (.frz od (.dK kvs))) H' ∧ H' D = some (.dK ks) ∧ DRel H' (inst (lk qs) (ps.take i)) ks) ⟨[], sD, upd_same, .nil⟩ (fun i H' _ ⟨_, sm, _⟩ => sm _ _ upd_same) ?_ ?_
  · rintro i x H0 H' hi ⟨ks, sm, eD, hks⟩ ⟨T, x1, x2, rfl, hT, rfl, e1, e2⟩
    have sT := same_new (o := .tup [x1, x2]) hT
    obtain ⟨kv, hkv⟩ : ∃ kv, kvs[i]? = some kv := ⟨_, List.getElem?_eq_getElem hi⟩
    obtain ⟨p, hp, hp1, hp2⟩ := pr_ofget hk hkv
    have e1 : kvs[i]?.map (fun kv => kV kv.1) = some x1 := e1
    have e2 : kvs[i]?.map Prod.snd = some x2 := e2
    rw [hkv] at e1 e2
    have e1 : kV kv.1 = x1 := Option.some.inj e1
    have e2 : kv.2 = x2 := Option.some.inj e2
    rw [hp1] at e1
    subst e1 e2
    refine rd_gtup (SqT.of upd_same) rfl ?_
    walk_at "go"
    refine ⟨rfl, ?_⟩
    walk_at "go"
    refine iteT ?_
    walk_at "go"
    have hpm := List.mem_of_getElem? hp
    refine ⟨p.2, kv.2, qs, e, rfl, (hp2.tk tl).sm (sm.trans sT), he'.sm (sm.trans sT), (hb p hpm).1, (hb p hpm).2, fun z H2 s2 hz => ?_⟩
    have hl : ks.length < sizeLine := by
      have z := Paired.length hks
      unfold inst at z
      rw [List.length_map, List.length_take] at z
      rw [sizeLine_eq]
      omega
    refine ⟨ks, Sum.inl p.1, rfl, s2 _ _ (sT _ _ eD), hl, _, same_mut ((sm.trans sT).trans s2) hD, upd_same, ?_⟩
    rw [inst_take hp]
    have hDne : Tk H2 (upd H2 D (.dK (putK ks (Sum.inl p.1) z))) := fun b u eb => by
      rw [upd_ne (ne_of eb (s2 _ _ (sT _ _ eD)) (by intro y; cases y))]
      exact eb
    refine DRel.put ((hks.tk (tk_of (sT.trans s2))).tk hDne) ?_ (hz.tk hDne)
    rw [keys_inst]
    exact nodup_take hnd hp
  · rintro H' ⟨ks, sm, eD, hks⟩
    refine ⟨sm _ _ upd_same, ?_⟩
    rw [take_all (Paired.length hk).symm] at hks
    have hfz : H' d = some (.frz od (.dK kvs)) := sm _ _ upd_same
    refine k D _ (same_unlock hd sm) ⟨ks, ?_, hks.tk fun b u eb => ?_⟩
    · rw [upd_ne]
      · exact eD
      · intro z
        rw [z, hfz] at eD
        cases eD
    · rw [upd_ne (ne_of eb hfz (by intro y; cases y))]
      exact eb
abbrev s_instantiated : Stmt := top 16
theorem sc_instantiated : FnScope ["steps", "substitution", "result", "source", "is_forward", "position", "values"] ["steps", "substitution"] (defScope s_instantiated) := ⟨rfl, rfl, rfl, by decide +kernel, rfl, by decide +kernel, by decide +kernel⟩
def sp_inst : Sp := fun vs H Q _ => ∃ ss L qs e, vs = [.ref L, .ref e] ∧ StpsAt H ss L ∧ DAt H qs e ∧ ss.length ≤ 1000 ∧ (∀ s ∈ ss, (keys s.sb).Nodup ∧ s.sb.length ≤ 1000 ∧ ∀ p ∈ s.sb, dep p.2 ≤ 40 ∧ siz p.2 ≤ 100000) ∧ ∀ M H', Same H H' → StpsAt H' (ss.map (Stp.ins (lk qs))) M → Q (.ref M) H'
theorem ok_instantiated (B : Bi mg) (F : De K mg "instantiated" s_instantiated ["steps", "substitution"]) (k_compose : Kn P w K mg base CX0 42 "compose" ["values", "substitution"] sp_compose) : Kn P w K mg base CX0 43 "instantiated" ["steps", "substitution"] sp_inst := by
  refine F.ok sc_instantiated (fun vs H Q E h => ?_) (fun f cdv A outer s H vs Q E hr h => ?_)
  · obtain ⟨ss, L, q, b, rfl, _⟩ := h
    rfl
  obtain ⟨ss, L, qs, e, rfl, ⟨ws, hL, hw⟩, he, hlen, hss, k⟩ := h
  refine ⟨_, (pss_cons (ps_set (i := 2) sc_instantiated.nd rfl (.inl rfl) (pe_lst pa_nil))
      (pss_cons (ps_for PassesOwn.never rfl (pi_list (pv 0)) (pg_tup rfl (pgs_cons (pg_name (i := 3) sc_instantiated.nd rfl (.inl rfl)) (pgs_cons (pg_name (i := 4) sc_instantiated.nd rfl (.inl rfl)) (pgs_cons (pg_name (i := 5) sc_instantiated.nd rfl (.inl rfl)) (pgs_cons (pg_name (i := 6) sc_instantiated.nd rfl (.inl rfl)) pgs_nil))))) (pss_one (ps_expr (pe_bm PySem.F.plainAttrs_list PySem.F.slot_list_append PySem.F.type_list_append mt_append (pv 2) (pa_cons (pe_tup (pa_cons (pv 3) (pa_cons (pv 4) (pa_cons (pv 5) (pa_cons (pe_kn k_compose (hr.mono (by omega)) (pa_cons (pv 6) (pa_cons (pv 1) pa_nil))) pa_nil))))) pa_nil)))))
      (pss_one (ps_ret (pv 2))))), ?_⟩
  walk_at "go"
  refine ⟨Nat.zero_le _, fun r hr0 => ?_⟩
  walk_at "go"
  have sm0 := same_new (o := .lst []) hr0
  refine ⟨⟨_, SqL.of (sm0 _ _ hL)⟩, for_list (xs := ws) (fun i σ H' => ∃ y2 y3 y4 y5 rs, σ = [some (.ref L), some (.ref e), some (.ref r), y2, y3, y4, y5] ∧ Same H H' ∧ H' r = some (.lst rs) ∧ Paired (StpAt H') ((ss.take i).map (Stp.ins (lk qs))) rs) ⟨none, none, none, none, [], rfl, sm0, upd_same, .nil⟩ (fun i σ H' _ ⟨_, _, _, _, _, _, sm, _⟩ => SqL.of (sm _ _ hL)) ?_ ?_⟩
  · rintro i x σ H' hx ⟨y2, y3, y4, y5, rs, rfl, sm, er, hrs⟩
    obtain ⟨st, hst, a, sa, pa, da, rfl, ha, hsa, hpa, hda⟩ := pr_ofget (pr_mono hw fun _ _ z => z.sm sm) hx
    refine rd_gtup (SqT.of ha) rfl ?_
    walk_at "go"
    refine ⟨.inl ⟨rfl, _, SqL.of er⟩, ?_⟩
    walk_at "go"
    have hm := hss st (List.mem_of_getElem? hst)
    refine ⟨st.sb, qs, da, e, rfl, hda, he.sm sm, hm.1, hm.2.1, hm.2.2, fun d H1 s1 hd => ?_⟩
    refine ⟨by show 4 ≤ sizeLine; decide, fun p hp => ?_⟩
    have s2 := same_new (o := .tup [.ref sa, .bl st.fwd, .ref pa, .ref d]) hp
    have hnew : StpAt (upd H1 p (.tup [.ref sa, .bl st.fwd, .ref pa, .ref d])) (st.ins (lk qs)) (.ref p) :=
      StpAt.mk (s := st.ins (lk qs)) hp (s1 _ _ hsa) (s1 _ _ hpa) hd
    have er2 := s2 _ _ (s1 _ _ er)
    have hl : rs.length < sizeLine := by
      have z := Paired.length hrs
      rw [List.length_map, List.length_take] at z
      rw [sizeLine_eq]
      omega
    refine ⟨r, rs, _, rfl, rfl, er2, hl, ?_⟩
    walk_at "go"
    have k3 := kd_lst (o := .lst (rs ++ [.ref p])) er2
    refine ⟨_, _, _, _, _, rfl, same_mut ((sm.trans s1).trans s2) hr0, upd_same, ?_⟩
    rw [map_take hst]
    exact pr_snoc (pr_mono hrs fun _ _ z => (z.sm (s1.trans s2)).kd k3) (hnew.kd k3)
  · rintro σ H' ⟨y2, y3, y4, y5, rs, rfl, sm, er, hrs⟩
    walk_at "go"
    rw [take_all (Paired.length hw).symm] at hrs
    exact k r H' sm ⟨rs, er, hrs⟩
end
end K18
set_option Elab.async false
set_option linter.all false
set_option maxRecDepth 100000
set_option maxHeartbeats 4000000
/-! flat_length, needed_stages, check_values, used. -/
namespace K18
open PySem PySem.Spec L2
local macro_rules | `(tactic| walk_at "go1") => `(tactic| with_reducible first
  | refine rd_seq ?_ | refine rd_ifS ?_ | refine rd_asg ?_ | refine rd_name ?_ | refine rd_ret ?_ | refine rd_drop ?_ | refine rd_next ?_ | refine rd_retN ?_
  | refine rd_c ?_ | refine rd_op ?_ | refine rd_un ?_ | refine rd_U ?_ | refine rd_I0 ?_ | refine rd_eqI ?_ | refine rd_neI ?_ | refine rd_eqS ?_ | refine rd_neS ?_
  | refine rd_nil ?_ | refine rd_cons ?_ | refine rd_call ?_ | refine rd_cb ?_ | refine rd_bm ?_ | refine rd_tup ?_ | refine rd_lst ?_ | refine rd_sl ?_ | refine rd_part ?_ | refine rd_nopart ?_
  | refine rd_exI ?_ | refine rd_exB ?_ | refine rd_exR ?_ | refine rd_test ?_ | refine rd_B ?_ | refine rd_and ?_ | refine rd_or ?_ | refine rd_not ?_ | refine rd_andV ?_ | refine rd_orV ?_ | refine rd_notV ?_ | refine rd_ifE ?_ | refine rd_chain ?_
  | refine rd_dget2 ?_ | refine rd_dnotin ?_ | refine rd_gcons ?_ | refine rd_gnil ?_ | refine rd_gsub ?_ | refine rd_ipI ?_ | refine rd_par ?_ | refine rd_for ?_ | refine rd_iList ?_ | refine rd_iTup ?_ | refine rd_iRng1 ?_ | refine rd_iRng2 ?_
  | refine rd_iRev ?_ | refine rd_iEnum ?_ | refine rd_dput ?_ | refine rd_nx ?_ | refine rd_rt ?_ | refine rd_yes ?_ | refine rd_dc ?_ | refine rd_lc ?_ | refine rd_iItems ?_ | refine rd_iVals ?_ | refine rd_iRng3 ?_ | refine rd_m1 ?_)
local macro_rules | `(tactic| walk_at "go") => `(tactic| repeat (first | walk_at "go1" | ((with_reducible refine' rd_var ?h1 ?_); (case h1 => exact rfl)) | ((with_reducible refine' rd_aug ?h1 ?_); (case h1 => exact rfl))))

section
variable {P : Program} {w : World} {K : PySem.W.Frag} {mg : Str → Option Value} {base : Heap}
def nints (l : List Nat) : List V := l.map fun (n : Nat) => V.int (n : Int)
theorem nints_len (l : List Nat) : (nints l).length = l.length := List.length_map _
theorem nints_get {l : List Nat} {i n : Nat} (h : l[i]? = some n) : (nints l)[i]? = some (.int (n : Int)) := by
  unfold nints
  rw [List.getElem?_map, h]
  rfl
theorem nints_snoc (l : List Nat) (n : Nat) : nints (l ++ [n]) = nints l ++ [.int (n : Int)] := List.map_append
theorem lens_at {gs : List Stg} {i : Nat} (h : i < gs.length) : (lens gs)[i]? = some ((lens gs).getD i 0) := by
  rw [List.getD_eq_getElem?_getD, List.getElem?_eq_getElem (by rw [lens_length]; exact h)]
  rfl
abbrev s_flat_length : Stmt := top 17
theorem sc_flat_length : FnScope ["stages", "lengths", "_", "steps", "total", "step", "kind", "index"] ["stages"] (defScope s_flat_length) := ⟨rfl, rfl, rfl, by decide +kernel, rfl, by decide +kernel, by decide +kernel⟩
def sp_flat_length : Sp := fun vs H Q _ => ∃ gs L, vs = [.ref L] ∧ StgsAt H gs L ∧ gs ≠ [] ∧ Wf gs ∧ gs.length ≤ 1000 ∧ ∀ H', Same H H' → Q (.int (lastLen gs : Nat)) H'
theorem ok_flat_length (F : De K mg "flat_length" s_flat_length ["stages"]) : Kn P w K mg base CX0 1 "flat_length" ["stages"] sp_flat_length := by
  refine F.ok sc_flat_length (fun vs H Q E h => ?_) (fun f cdv A outer s H vs Q E hr h => ?_)
  · obtain ⟨gs, L, rfl, _⟩ := h
    rfl
  obtain ⟨gs, L, rfl, ⟨ws, hL, hw⟩, hne, hwf, hlen, q⟩ := h
  refine ⟨_, (pss_cons (ps_set (i := 1) sc_flat_length.nd rfl (.inl rfl) (pe_lst pa_nil))
      (pss_cons (ps_for PassesOwn.never rfl (pi_list (pv 0)) (pg_tup rfl (pgs_cons (pg_name (i := 2) sc_flat_length.nd rfl (.inl rfl)) (pgs_cons (pg_name (i := 2) sc_flat_length.nd rfl (.inl rfl)) (pgs_cons (pg_name (i := 3) sc_flat_length.nd rfl (.inl rfl)) pgs_nil)))) (pss_cons (ps_set (i := 4) sc_flat_length.nd rfl (.inl rfl) pe_int)
      (pss_cons (ps_for PassesOwn.never rfl (pi_list (pv 3)) (pg_name (i := 5) sc_flat_length.nd rfl (.inl rfl)) (pss_cons (ps_asg (pe_ix ix_tup (pv 5) pe_int (fun _ _ => rfl)) (pg_tup rfl (pgs_cons (pg_name (i := 6) sc_flat_length.nd rfl (.inl rfl)) (pgs_cons (pg_name (i := 7) sc_flat_length.nd rfl (.inl rfl)) pgs_nil))))
      (pss_one (ps_aug (i := 4) sc_flat_length.nd rfl (.inl rfl) (pe_ifExp (pt_cmpR op_eq (pv 6) pe_str (nomark _)) pe_int (pe_ix ix_list (pv 1) (pv 7) (fun _ _ => rfl))) ip_add))))
      (pss_one (ps_expr (pe_bm PySem.F.plainAttrs_list PySem.F.slot_list_append PySem.F.type_list_append mt_append (pv 1) (pa_cons (pv 4) pa_nil)))))))
      (pss_one (ps_ret (pe_ix ix_list (pv 1) (pe_un un_neg pe_int) (fun _ _ => rfl)))))), ?_⟩
  walk_at "go"
  refine ⟨Nat.zero_le _, fun r hr0 => ?_⟩
  walk_at "go"
  have sm0 := same_new (o := .lst []) hr0
  refine ⟨⟨_, SqL.of (sm0 _ _ hL)⟩, for_list (xs := ws) (fun i σ H' => ∃ y2 y3 y4 y5 y6 y7, σ = [some (.ref L), some (.ref r), y2, y3, y4, y5, y6, y7] ∧ Same H H' ∧ H' r = some (.lst (nints (lens (gs.take i))))) ⟨none, none, none, none, none, none, rfl, sm0, upd_same⟩ (fun i σ H' _ ⟨_, _, _, _, _, _, _, sm, _⟩ => SqL.of (sm _ _ hL)) ?_ ?_⟩
  · rintro i x σ H' hx ⟨y2, y3, y4, y5, y6, y7, rfl, sm, er⟩
    obtain ⟨g, hg, a, v1, v2, M, rfl, ha, h1, h2, us, hM, hus⟩ := pr_ofget (pr_mono hw fun _ _ z => z.kp (kp_of sm)) hx
    have hi := lt_of_get hg
    refine rd_gtup (SqT.of ha) rfl ?_
    walk_at "go"
    refine ⟨⟨_, SqL.of hM⟩, for_list (xs := us) (fun j σ H2 => H2 = H' ∧ ∃ y5 y6 y7, σ = [some (.ref L), some (.ref r), some v2, some (.ref M), some (.int (flen (lens (gs.take i)) (g.ss.take j) : Nat)), y5, y6, y7]) ⟨rfl, y5, y6, y7, rfl⟩ (fun j σ H2 _ ⟨e, _⟩ => by rw [e]; exact SqL.of hM) ?_ ?_⟩
    · rintro j x σ H2 hx2 ⟨rfl, z5, z6, z7, rfl⟩
      obtain ⟨st, hst, b, sa, pa, da, rfl, hb, hsa, hpa, hda⟩ := pr_ofget hus hx2
      walk_at "go"
      refine rd_ixT (SqT.of hb) (atI_nat (j := 0) rfl) ?_
      refine rd_gtup (SqT.of hsa) rfl ?_
      walk_at "go"
      rw [srcS_given]
      have key : (flen (lens (gs.take i)) (g.ss.take (j + 1)) : Int) = flen (lens (gs.take i)) (g.ss.take j) + slen (lens (gs.take i)) st := by
        rw [flen_more hst]
        omega
      cases e : st.giv with
      | true =>
        refine iteT ?_
        walk_at "go"
        refine ⟨rfl, some (.ref b), some (.str (srcS true)), some (.int (st.ix : Int)), ?_⟩
        rw [key, show slen (lens (gs.take i)) st = 1 by unfold slen; rw [e]; rfl]
        rfl
      | false =>
        refine iteF ?_
        have hix : st.ix < i := hwf i g hg st (List.mem_of_getElem? hst) e
        have hlt : st.ix < (gs.take i).length := by
          rw [List.length_take]
          omega
        walk_at "go"
        refine rd_ixL (SqL.of er) (atI_nat (nints_get (lens_at hlt))) ?_
        walk_at "go"
        refine ⟨rfl, some (.ref b), some (.str (srcS false)), some (.int (st.ix : Int)), ?_⟩
        rw [key, show slen (lens (gs.take i)) st = (lens (gs.take i)).getD st.ix 0 by unfold slen; rw [e]; rfl]
        rfl
    · rintro σ H2 ⟨rfl, z5, z6, z7, rfl⟩
      walk_at "go"
      refine ⟨.inl ⟨rfl, _, SqL.of er⟩, ?_⟩
      walk_at "go"
      have hl : (nints (lens (gs.take i))).length < sizeLine := by
        rw [nints_len, lens_length, List.length_take, sizeLine_eq]
        omega
      refine ⟨r, _, _, rfl, rfl, er, hl, ?_⟩
      walk_at "go"
      refine ⟨_, _, _, _, _, _, rfl, same_mut sm hr0, ?_⟩
      rw [upd_same, take_all (Paired.length hus).symm]
      have e2 : lens (gs.take (i + 1)) = lens (gs.take i) ++ [flen (lens (gs.take i)) g.ss] := build_more hg
      rw [e2, nints_snoc]
  · rintro σ H' ⟨y2, y3, y4, y5, y6, y7, rfl, sm, er⟩
    walk_at "go"
    rw [take_all (Paired.length hw).symm] at er
    have hn : 0 < gs.length := by
      cases gs with
      | nil => exact absurd rfl hne
      | cons g r => exact Nat.succ_pos _
    refine rd_ixL (SqL.of er) (atI_neg1 (v := .int (lastLen gs : Nat)) ?_) ?_
    · rw [nints_len, lens_length]
      exact nints_get (lens_at (by omega))
    walk_at "go"
    exact q H' sm
abbrev s_check_values : Stmt := top 19
theorem sc_check_values : FnScope ["steps", "step", "value"] ["steps"] (defScope s_check_values) := ⟨rfl, rfl, rfl, by decide +kernel, rfl, by decide +kernel, by decide +kernel⟩
def sp_check : Sp := fun vs H Q _ => ∃ ss L, vs = [.ref L] ∧ StpsAt H ss L ∧ (∀ s : Stp, s ∈ ss → ∀ p ∈ s.sb, dep p.2 ≤ 40 ∧ siz p.2 ≤ 4000) ∧ ∀ H', Same H H' → Q .non H'
theorem ok_check_values (F : De K mg "check_values" s_check_values ["steps"]) (k_is_wide : Kn P w K mg base CX0 42 "is_wide" ["term"] sp_is_wide) : Kn P w K mg base CX0 43 "check_values" ["steps"] sp_check := by
  refine F.ok sc_check_values (fun vs H Q E h => ?_) (fun f cdv A outer s H vs Q E hr h => ?_)
  · obtain ⟨ss, L, rfl, _⟩ := h
    rfl
  obtain ⟨ss, L, rfl, ⟨ws, hL, hw⟩, hb, q⟩ := h
  refine ⟨_, (pss_one (ps_for PassesOwn.never rfl (pi_list (pv 0)) (pg_name (i := 1) sc_check_values.nd rfl (.inl rfl)) (pss_one (ps_lock (ps_for PassesOwn.never rfl (pi_values (pe_ix ix_tup (pv 1) pe_int (fun _ _ => rfl))) (pg_name (i := 2) sc_check_values.nd rfl (.inl rfl)) (pss_one (ps_if (pt_val (pe_kn k_is_wide (hr.mono (by omega)) (pa_cons (pv 2) pa_nil))) (pss_one ps_never) pss_nil))))))), ?_⟩
  walk_at "go"
  refine ⟨⟨_, SqL.of hL⟩, for_list (xs := ws) (fun i σ H' => ∃ y1 y2, σ = [some (.ref L), y1, y2] ∧ Same H H') ⟨none, none, rfl, Same.refl H⟩ (fun i σ H' _ ⟨_, _, _, sm⟩ => SqL.of (sm _ _ hL)) ?_ ?_⟩
  · rintro i x σ H' hx ⟨y1, y2, rfl, sm⟩
    obtain ⟨st, hst, a, sa, pa, da, rfl, ha, hsa, hpa, kvs, hda, hk⟩ := pr_ofget (pr_mono hw fun _ _ z => z.sm sm) hx
    walk_at "go"
    refine rd_lock ⟨da, .dK kvs, hda, trivial, fun od => ?_⟩
    have tl := tk_lock (od := od) hda
    walk_at "go"
    refine rd_ixT (SqT.of (tl _ _ ha)) (atI_nat (j := 3) rfl) ?_
    refine ⟨da, _, kvs, rfl, upd_same, for_it walk_values (fun j σ H2 => ∃ y2, σ = [some (.ref L), some (.ref a), y2] ∧ Same (upd H' da (.frz od (.dK kvs))) H2) ⟨_, rfl, Same.refl _⟩ (fun j σ H2 _ ⟨_, _, sm2⟩ => sm2 _ _ upd_same) ?_ ?_⟩
    · rintro j x σ H0 H2 hj ⟨z2, rfl, sm2⟩ ⟨rfl, k, hkx⟩
      obtain ⟨p, hp, hp1, hp2⟩ := pr_ofget hk hkx
      have hbp := hb st (List.mem_of_getElem? hst) p (List.mem_of_getElem? hp)
      walk_at "go"
      refine ⟨p.2, x, rfl, (hp2.tk tl).sm sm2, hbp.1, hbp.2, fun H3 sm3 => ?_⟩
      walk_at "go"
      refine iteF ?_
      walk_at "go"
      exact ⟨_, rfl, sm2.trans sm3⟩
    · rintro σ H2 ⟨z2, rfl, sm2⟩
      walk_at "go"
      exact ⟨sm2 _ _ upd_same, _, _, rfl, sm.trans (same_unlock hda sm2)⟩
  · rintro σ H' ⟨y1, y2, rfl, sm⟩
    exact q H' sm
abbrev s_used : Stmt := top 22
theorem sc_used : FnScope ["stages", "found", "_", "steps", "step"] ["stages"] (defScope s_used) := ⟨rfl, rfl, rfl, by decide +kernel, rfl, by decide +kernel, by decide +kernel⟩
theorem nm_more {ss : List Stp} {i : Nat} {s : Stp} (h : ss[i]? = some s) : nm (ss.take (i + 1)) = nm (ss.take i) ++ if s.giv then [s.ix] else [] := by
  unfold nm
  rw [take_more h, List.filter_append, List.map_append]
  cases e : s.giv with
  | true => simp [e]
  | false => simp [e]
theorem named_more {gs : List Stg} {i : Nat} {g : Stg} (h : gs[i]? = some g) : named (gs.take (i + 1)) = named (gs.take i) ++ nm g.ss := by
  unfold named
  rw [take_more h, List.flatMap_append]
  simp
/-- what is named next was not named before -/
theorem named_new {gs : List Stg} {m i j : Nat} {g : Stg} {s : Stp} (hn : named gs = List.range m) (hg : gs[i]? = some g) (hs : g.ss[j]? = some s) (e : s.giv = true) : ¬ s.ix ∈ named (gs.take i) ++ nm (g.ss.take j) := by
  have h1 : named gs = named (gs.take (i + 1)) ++ named (gs.drop (i + 1)) := by
    unfold named
    rw [← List.flatMap_append, List.take_append_drop]
  have h2 : nm g.ss = nm (g.ss.take (j + 1)) ++ nm (g.ss.drop (j + 1)) := by
    unfold nm
    rw [← List.map_append, ← List.filter_append, List.take_append_drop]
  rw [named_more hg, h2, nm_more hs, if_pos e] at h1
  have h3 : (named gs).Nodup := by
    rw [hn]
    exact List.nodup_range
  rw [h1] at h3
  intro z
  have h4 : (((named (gs.take i) ++ nm (g.ss.take j)) ++ [s.ix]) ++ (nm (g.ss.drop (j + 1)) ++ named (gs.drop (i + 1)))).Nodup := by
    simpa [List.append_assoc] using h3
  have h5 := (List.nodup_append.mp (List.nodup_append.mp h4).1).2.2
  exact h5 _ z _ List.mem_cons_self rfl
theorem named_le {gs : List Stg} {m i j : Nat} {g : Stg} (hn : named gs = List.range m) (hg : gs[i]? = some g) : (named (gs.take i) ++ nm (g.ss.take j)).length ≤ m := by
  have h1 : named gs = named (gs.take (i + 1)) ++ named (gs.drop (i + 1)) := by
    unfold named
    rw [← List.flatMap_append, List.take_append_drop]
  have h2 : nm g.ss = nm (g.ss.take j) ++ nm (g.ss.drop j) := by
    unfold nm
    rw [← List.map_append, ← List.filter_append, List.take_append_drop]
  rw [named_more hg, h2, hn] at h1
  have h3 := congrArg List.length h1
  rw [List.length_range] at h3
  simp only [List.length_append] at h3 ⊢
  omega
def kvT (l : List Nat) : List (Key × V) := l.map fun (n : Nat) => ((Sum.inl (n : Int) : Key), V.bl true)
theorem kvT_none {l : List Nat} {n : Nat} (h : ¬ n ∈ l) : valV (kvT l) (Sum.inl (n : Int)) = none := by
  cases e : valV (kvT l) (Sum.inl (n : Int)) with
  | none => rfl
  | some v =>
    obtain ⟨p, hp, e2⟩ := List.mem_map.mp (valV_in e)
    obtain ⟨k, hk, rfl⟩ := List.mem_map.mp hp
    have e3 : ((k : Nat) : Int) = (n : Int) := Sum.inl.inj e2
    have e4 : k = n := by omega
    rw [e4] at hk
    exact absurd hk h
theorem kvT_put {l : List Nat} {n : Nat} (h : ¬ n ∈ l) : putK (kvT l) (Sum.inl (n : Int)) (V.bl true) = kvT (l ++ [n]) := by
  rw [putK_new _ (kvT_none h)]
  unfold kvT
  rw [List.map_append]
  rfl
def sp_used : Sp := fun vs H Q _ => ∃ gs L m, vs = [.ref L] ∧ StgsAt H gs L ∧ named gs = List.range m ∧ m < 64 ∧ ∀ H' M, Same H H' → H' M = some (.lst (nints (List.range m))) → Q (.ref M) H'
theorem range_sorted (m : Nat) : ((List.range m).map fun (n : Nat) => (n : Int)).Pairwise (· ≤ ·) := by
  rw [List.pairwise_map]
  refine List.Pairwise.imp ?_ List.pairwise_lt_range
  intro a b h
  omega
theorem ok_used (B : Bi mg) (F : De K mg "used" s_used ["stages"]) : Kn P w K mg base CX0 2 "used" ["stages"] sp_used := by
  refine F.ok sc_used (fun vs H Q E h => ?_) (fun f cdv A outer s H vs Q E hr h => ?_)
  · obtain ⟨gs, L, m, rfl, _⟩ := h
    rfl
  obtain ⟨gs, L, m, rfl, ⟨ws, hL, hw⟩, hn, hm, q⟩ := h
  refine ⟨_, (pss_cons (ps_set (i := 1) sc_used.nd rfl (.inl rfl) pe_dnewK)
      (pss_cons (ps_for PassesOwn.never rfl (pi_list (pv 0)) (pg_tup rfl (pgs_cons (pg_name (i := 2) sc_used.nd rfl (.inl rfl)) (pgs_cons (pg_name (i := 2) sc_used.nd rfl (.inl rfl)) (pgs_cons (pg_name (i := 3) sc_used.nd rfl (.inl rfl)) pgs_nil)))) (pss_one (ps_for PassesOwn.never rfl (pi_list (pv 3)) (pg_name (i := 4) sc_used.nd rfl (.inl rfl)) (pss_one (ps_if (pt_cmpR op_eq (pe_ix ix_tup (pe_ix ix_tup (pv 4) pe_int (fun _ _ => rfl)) pe_int (fun _ _ => rfl)) pe_str (nomark _)) (pss_one (ps_dput (hu_of hr) (pv 1) (pe_ix ix_tup (pe_ix ix_tup (pv 4) pe_int (fun _ _ => rfl)) pe_int (fun _ _ => rfl)) pe_bl rfl)) pss_nil)))))
      (pss_one (ps_ret (pe_callB cr_sorted (by rfl) B.m_sorted (by decide +kernel) (pa_cons (pe_callTy (call_listD rfl) (by rfl) B.m_list (by decide +kernel) (pa_cons (pv 1) pa_nil)) pa_nil)))))), ?_⟩
  walk_at "go"
  refine fun d hd0 => ?_
  walk_at "go"
  have sm0 := same_new (o := .dK []) hd0
  refine ⟨⟨_, SqL.of (sm0 _ _ hL)⟩, for_list (xs := ws) (fun i σ H' => ∃ y2 y3 y4, σ = [some (.ref L), some (.ref d), y2, y3, y4] ∧ Same H H' ∧ H' d = some (.dK (kvT (named (gs.take i))))) ⟨none, none, none, rfl, sm0, upd_same⟩ (fun i σ H' _ ⟨_, _, _, _, sm, _⟩ => SqL.of (sm _ _ hL)) ?_ ?_⟩
  · rintro i x σ H' hx ⟨y2, y3, y4, rfl, sm, ed⟩
    obtain ⟨g, hg, a, v1, v2, M, rfl, ha, h1, h2, us, hM, hus⟩ := pr_ofget hw hx
    refine rd_gtup (SqT.of (sm _ _ ha)) rfl ?_
    walk_at "go"
    refine ⟨⟨_, SqL.of (sm _ _ hM)⟩, for_list (xs := us) (fun j σ H2 => ∃ y4, σ = [some (.ref L), some (.ref d), some v2, some (.ref M), y4] ∧ Same H H2 ∧ H2 d = some (.dK (kvT (named (gs.take i) ++ nm (g.ss.take j))))) ⟨y4, rfl, sm, by rw [ed, show nm (g.ss.take 0) = [] from rfl, List.append_nil]⟩ (fun j σ H2 _ ⟨_, _, sm2, _⟩ => SqL.of (sm2 _ _ hM)) ?_ ?_⟩
    · rintro j x σ H2 hx2 ⟨z4, rfl, sm2, ed2⟩
      obtain ⟨st, hst, b, sa, pa, da, rfl, hb, hsa, hpa, hda⟩ := pr_ofget (pr_mono hus fun _ _ z => z.sm sm2) hx2
      walk_at "go"
      refine rd_ixT (SqT.of hb) (atI_nat (j := 0) rfl) ?_
      walk_at "go"
      refine rd_ixT (SqT.of hsa) (atI_nat (j := 0) rfl) ?_
      walk_at "go"
      rw [srcS_given]
      cases e : st.giv with
      | true =>
        refine iteT ?_
        walk_at "go"
        refine rd_ixT (SqT.of hb) (atI_nat (j := 0) rfl) ?_
        walk_at "go"
        refine rd_ixT (SqT.of hsa) (atI_nat (j := 1) rfl) ?_
        have hnew := named_new hn hg hst e
        refine ⟨d, _, rfl, DPut.k (k := Sum.inl (st.ix : Int)) ed2 ?_, ?_⟩
        · show ((named (gs.take i) ++ nm (g.ss.take j)).map _).length < sizeLine
          rw [List.length_map, sizeLine_eq]
          have := named_le (j := j) hn hg
          omega
        refine ⟨_, rfl, same_mut sm2 hd0, ?_⟩
        rw [upd_same, kvT_put hnew, nm_more hst, if_pos e, List.append_assoc]
      | false =>
        refine iteF ?_
        walk_at "go"
        refine ⟨_, rfl, sm2, ?_⟩
        rw [nm_more hst, if_neg (by rw [e]; exact Bool.false_ne_true), List.append_nil]
        exact ed2
    · rintro σ H2 ⟨z4, rfl, sm2, ed2⟩
      refine ⟨_, _, _, rfl, sm2, ?_⟩
      rw [named_more hg, ed2, take_all (Paired.length hus).symm]
  · rintro σ H' ⟨y2, y3, y4, rfl, sm, ed⟩
    walk_at "go"
    rw [take_all (Paired.length hw).symm, hn] at ed
    refine ⟨d, _, rfl, .inl ed, fun l hl => ?_⟩
    have s1 := same_new (o := .lst ((kvT (List.range m)).map fun kv => kV kv.1)) hl
    have e1 : ((kvT (List.range m)).map fun kv => kV kv.1) = ((List.range m).map fun (n : Nat) => (n : Int)).map V.int := by
      unfold kvT
      rw [List.map_map, List.map_map]
      rfl
    refine ⟨l, (List.range m).map fun (n : Nat) => (n : Int), rfl, SqL.of (by rw [upd_same, e1]), by rw [List.length_map, List.length_range]; exact hm, fun ns' p hp hs hpn => ?_⟩
    have e2 := PySem.W.ksm_same hp hs (range_sorted m)
    subst e2
    refine q _ p ((sm.trans s1).trans (same_new hpn)) ?_
    rw [upd_same, List.map_map]
    rfl
end
end K18
set_option Elab.async false
set_option linter.all false
set_option maxRecDepth 100000
set_option maxHeartbeats 4000000
/-! needed_stages, flat_steps. -/
namespace K18
open PySem PySem.Spec L2
local macro_rules | `(tactic| walk_at "go1") => `(tactic| with_reducible first
  | refine rd_seq ?_ | refine rd_ifS ?_ | refine rd_asg ?_ | refine rd_name ?_ | refine rd_ret ?_ | refine rd_drop ?_ | refine rd_next ?_ | refine rd_retN ?_
  | refine rd_c ?_ | refine rd_op ?_ | refine rd_un ?_ | refine rd_U ?_ | refine rd_I0 ?_ | refine rd_eqI ?_ | refine rd_neI ?_ | refine rd_eqS ?_ | refine rd_neS ?_
  | refine rd_nil ?_ | refine rd_cons ?_ | refine rd_call ?_ | refine rd_cb ?_ | refine rd_bm ?_ | refine rd_tup ?_ | refine rd_lst ?_ | refine rd_sl ?_ | refine rd_part ?_ | refine rd_nopart ?_
  | refine rd_exI ?_ | refine rd_exB ?_ | refine rd_exR ?_ | refine rd_test ?_ | refine rd_B ?_ | refine rd_and ?_ | refine rd_or ?_ | refine rd_not ?_ | refine rd_andV ?_ | refine rd_orV ?_ | refine rd_notV ?_ | refine rd_ifE ?_ | refine rd_chain ?_
  | refine rd_dget2 ?_ | refine rd_dnotin ?_ | refine rd_gcons ?_ | refine rd_gnil ?_ | refine rd_gsub ?_ | refine rd_ipI ?_ | refine rd_par ?_ | refine rd_for ?_ | refine rd_iList ?_ | refine rd_iTup ?_ | refine rd_iRng1 ?_ | refine rd_iRng2 ?_
  | refine rd_iRev ?_ | refine rd_iEnum ?_ | refine rd_dput ?_ | refine rd_nx ?_ | refine rd_rt ?_ | refine rd_yes ?_ | refine rd_dc ?_ | refine rd_lc ?_ | refine rd_iItems ?_ | refine rd_iVals ?_ | refine rd_iRng3 ?_ | refine rd_m1 ?_)
local macro_rules | `(tactic| walk_at "go") => `(tactic| repeat (first | walk_at "go1" | ((with_reducible refine' rd_var ?h1 ?_); (case h1 => exact rfl)) | ((with_reducible refine' rd_aug ?h1 ?_); (case h1 => exact rfl))))

section
variable {P : Program} {w : World} {K : PySem.W.Frag} {mg : Str → Option Value} {base : Heap}
def bls (l : List Bool) : List V := l.map V.bl
theorem bls_len (l : List Bool) : (bls l).length = l.length := List.length_map _
theorem bls_get {l : List Bool} {i : Nat} {b : Bool} (h : l[i]? = some b) : (bls l)[i]? = some (.bl b) := by
  unfold bls
  rw [List.getElem?_map, h]
  rfl
theorem bls_set (l : List Bool) (i : Nat) (b : Bool) : (bls l).set i (.bl b) = bls (l.set i b) := by
  unfold bls
  rw [List.map_set]
/-- what a needed stage names is needed, from the stage n on -/
def Clo (gs : List Stg) (nb : List Bool) (n : Nat) : Prop := ∀ (k : Nat) (g : Stg), n ≤ k → gs[k]? = some g → nb.getD k false = true → ∀ s : Stp, s ∈ g.ss → s.giv = false → nb.getD s.ix false = true
theorem getD_set {l : List Bool} {i j : Nat} (h : i < l.length) : (l.set i true).getD j false = if j = i then true else l.getD j false := by
  rw [List.getD_eq_getElem?_getD, List.getElem?_set]
  by_cases e : i = j
  · subst e
    rw [if_pos rfl, if_pos h, if_pos rfl]
    rfl
  · rw [if_neg e, if_neg (fun z => e z.symm), List.getD_eq_getElem?_getD]
theorem getD_at {l : List Bool} {i : Nat} (h : i < l.length) : l[i]? = some (l.getD i false) := by
  rw [List.getD_eq_getElem?_getD, List.getElem?_eq_getElem h]
  rfl
abbrev s_needed_stages : Stmt := top 18
theorem sc_needed_stages : FnScope ["stages", "needed", "number", "step", "kind", "index", "_"] ["stages"] (defScope s_needed_stages) := ⟨rfl, rfl, rfl, by decide +kernel, rfl, by decide +kernel, by decide +kernel⟩
def sp_needed : Sp := fun vs H Q _ => ∃ gs L, vs = [.ref L] ∧ StgsAt H gs L ∧ gs ≠ [] ∧ Wf gs ∧ gs.length ≤ 1000 ∧
  ∀ nb M H', Same H H' → H' M = some (.lst (bls nb)) → nb.length = gs.length → nb.getD (gs.length - 1) false = true → Clo gs nb 0 → Q (.ref M) H'
theorem ok_needed_stages (B : Bi mg) (F : De K mg "needed_stages" s_needed_stages ["stages"]) : Kn P w K mg base CX0 1 "needed_stages" ["stages"] sp_needed := by
  refine F.ok sc_needed_stages (fun vs H Q E h => ?_) (fun f cdv A outer s H vs Q E hr h => ?_)
  · obtain ⟨gs, L, rfl, _⟩ := h
    rfl
  obtain ⟨gs, L, rfl, ⟨ws, hL, hw⟩, hne, hwf, hlen, q⟩ := h
  have hn : 0 < gs.length := by
    cases gs with
    | nil => exact absurd rfl hne
    | cons g r => exact Nat.succ_pos _
  have hwl : ws.length = gs.length := (Paired.length hw).symm
  refine ⟨_, (pss_cons (ps_setLc (i := 1) (own := [("_", 6)]) (g := gName 6) rfl sc_needed_stages.nd rfl rfl (sw_true rfl rfl rfl (by decide +kernel)) (pi_list (pv 0)) (blkOk_by (N := ["stages", "needed", "number", "step", "kind", "index", "_"]) (sc := defScope s_needed_stages) (by decide +kernel)) (fun _ _ _ _ _ => pg_name (i := 6) sc_needed_stages.nd rfl (Or.inl rfl) (Or.inr rfl)) (fun _ _ _ _ _ => pts_nil) (fun _ _ _ _ _ => pe_bl))
      (pss_cons (ps_asg pe_bl (pg_sub (pv 1) (pe_un un_neg pe_int) set_list))
      (pss_cons (ps_for PassesOwn.never rfl (pi_range3 rfl B.m_range (pa_cons (pe_op op_sub (pe_callB call_len_seq (by rfl) B.m_len PySem.boot_len (pa_cons (pv 0) pa_nil)) pe_int) (pa_cons (pe_un un_neg pe_int) (pa_cons (pe_un un_neg pe_int) pa_nil)))) (pg_name (i := 2) sc_needed_stages.nd rfl (.inl rfl)) (pss_one (ps_if (pt_val (pe_ix ix_list (pv 1) (pv 2) (fun _ _ => rfl))) (pss_one (ps_for PassesOwn.never rfl (pi_list (pe_ix ix_tup (pe_ix ix_list (pv 0) (pv 2) (fun _ _ => rfl)) pe_int (fun _ _ => rfl))) (pg_name (i := 3) sc_needed_stages.nd rfl (.inl rfl)) (pss_cons (ps_asg (pe_ix ix_tup (pv 3) pe_int (fun _ _ => rfl)) (pg_tup rfl (pgs_cons (pg_name (i := 4) sc_needed_stages.nd rfl (.inl rfl)) (pgs_cons (pg_name (i := 5) sc_needed_stages.nd rfl (.inl rfl)) pgs_nil))))
      (pss_one (ps_if (pt_cmpR op_eq (pv 4) pe_str (nomark _)) (pss_one (ps_asg pe_bl (pg_sub (pv 1) (pv 5) set_list))) pss_nil))))) pss_nil)))
      (pss_one (ps_ret (pv 1)))))), ?_⟩
  walk_at "go"
  refine ⟨⟨_, SqL.of hL⟩, fun M hM0 => ?_⟩
  refine lc_list (xs := ws) (fun i H' => Same H H' ∧ H' M = some (.lst (bls (List.replicate i false)))) ⟨same_new hM0, upd_same⟩ (fun i H' _ z => SqL.of (z.1 _ _ hL)) ?_ ?_
  · rintro i x H' hx ⟨sm, eM⟩
    walk_at "go"
    refine ⟨rfl, ?_⟩
    walk_at "go"
    refine iteT ?_
    walk_at "go"
    refine ⟨_, eM, ?_, same_mut sm hM0, ?_⟩
    · rw [bls_len, List.length_replicate, sizeLine_eq]
      have := lt_of_get hx
      omega
    · rw [upd_same]
      congr 2
      show bls _ ++ bls [false] = _
      unfold bls
      rw [← List.map_append, ← List.replicate_succ']
  · rintro H1 ⟨sm1, eM1⟩
    walk_at "go"
    refine ⟨M, _, -1, ws.length - 1, rfl, rfl, eM1, ?_, ?_⟩
    · rw [bls_len, List.length_replicate]
      exact ixN_neg1 (by omega)
    rw [bls_set, hwl]
    have sm2 := same_mut (o := .lst (bls ((List.replicate gs.length false).set (gs.length - 1) true))) sm1 hM0
    walk_at "go"
    refine ⟨L, ws, rfl, .inl (SqL.of (sm2 _ _ hL)), ?_⟩
    walk_at "go"
    refine ⟨_, _, _, (((ws.length : Nat) : Int) - 1 - (-1)).toNat, rfl, RgC.neg (by omega) (by omega) (by omega) (by omega), ?_⟩
    have en : (((ws.length : Nat) : Int) - 1 - (-1)).toNat = gs.length := by omega
    rw [en]
    refine for_rangeC (fun i σ H' => ∃ nb y2 y3 y4 y5, σ = [some (.ref L), some (.ref M), y2, y3, y4, y5, none] ∧ Same H H' ∧ H' M = some (.lst (bls nb)) ∧ nb.length = gs.length ∧ nb.getD (gs.length - 1) false = true ∧ Clo gs nb (gs.length - i))
      ⟨_, none, none, none, none, rfl, sm2, upd_same, by rw [List.length_set, List.length_replicate], ?_, ?_⟩ ?_ ?_
    · rw [getD_set (by rw [List.length_replicate]; omega), if_pos rfl]
    · intro k g hk hg
      have := lt_of_get hg
      omega
    · rintro i σ H' hi ⟨nb, y2, y3, y4, y5, rfl, sm, eM, hl, hlast, hc⟩
      obtain ⟨g, hg⟩ : ∃ g, gs[gs.length - 1 - i]? = some g := ⟨_, List.getElem?_eq_getElem (by omega)⟩
      have ez : ((ws.length : Nat) : Int) - 1 + ((i : Nat) : Int) * (-1) = ((gs.length - 1 - i : Nat) : Int) := by omega
      rw [ez]
      walk_at "go"
      refine rd_ixL (SqL.of eM) (atI_nat (bls_get (getD_at (by omega)))) ?_
      walk_at "go"
      cases e : nb.getD (gs.length - 1 - i) false with
      | false =>
        refine iteF ?_
        walk_at "go"
        refine ⟨nb, _, _, _, _, rfl, sm, eM, hl, hlast, ?_⟩
        intro k g' hk hg' hb
        by_cases z : k = gs.length - 1 - i
        · rw [z, e] at hb
          cases hb
        · have := lt_of_get hg'
          exact hc k g' (by omega) hg' hb
      | true =>
        refine iteT ?_
        obtain ⟨v, hv, a, v1, v2, N, rfl, ha, h1, h2, us, hN, hus⟩ := pr_get hw hg
        walk_at "go"
        refine rd_ixL (SqL.of (sm _ _ hL)) (atI_nat hv) ?_
        walk_at "go"
        refine rd_ixT (SqT.of (sm _ _ ha)) (atI_nat (j := 2) rfl) ?_
        refine ⟨N, rfl, ⟨_, SqL.of (sm _ _ hN)⟩, for_list (xs := us) (fun j σ H2 => ∃ nc y3 y4 y5, σ = [some (.ref L), some (.ref M), some (.int ((gs.length - 1 - i : Nat) : Int)), y3, y4, y5, none] ∧ Same H H2 ∧ H2 M = some (.lst (bls nc)) ∧ nc.length = gs.length ∧ (∀ m, nb.getD m false = true → nc.getD m false = true) ∧ (∀ m, gs.length - 1 - i ≤ m → nc.getD m false = nb.getD m false) ∧ ∀ s : Stp, s ∈ g.ss.take j → s.giv = false → nc.getD s.ix false = true)
          ⟨nb, y3, y4, y5, rfl, sm, eM, hl, fun _ z => z, fun _ _ => rfl, fun s hs => absurd hs (by simp)⟩ (fun j σ H2 _ ⟨_, _, _, _, _, sm2, _⟩ => SqL.of (sm2 _ _ hN)) ?_ ?_⟩
        · rintro j x σ H2 hx2 ⟨nc, z3, z4, z5, rfl, sm2, eM2, hl2, hup, hhi, hdone⟩
          obtain ⟨st, hst, b, sa, pa, da, rfl, hb, hsa, hpa, hda⟩ := pr_ofget (pr_mono hus fun _ _ z => z.sm sm2) hx2
          have hix : st.giv = false → st.ix < gs.length - 1 - i := hwf _ g hg st (List.mem_of_getElem? hst)
          walk_at "go"
          refine rd_ixT (SqT.of hb) (atI_nat (j := 0) rfl) ?_
          refine rd_gtup (SqT.of hsa) rfl ?_
          walk_at "go"
          rw [srcS_stage]
          cases eg : st.giv with
          | true =>
            refine iteF ?_
            walk_at "go"
            refine ⟨nc, _, _, _, rfl, sm2, eM2, hl2, hup, hhi, fun s hs hsg => ?_⟩
            rw [take_more hst] at hs
            rcases List.mem_append.mp hs with z | z
            · exact hdone s z hsg
            · rw [List.mem_singleton.mp z, eg] at hsg
              cases hsg
          | false =>
            refine iteT ?_
            have hix := hix eg
            walk_at "go"
            refine ⟨M, _, _, st.ix, rfl, rfl, eM2, ixN_at (by rw [bls_len]; omega), ?_⟩
            rw [bls_set]
            have hset : ∀ m, (nc.set st.ix true).getD m false = if m = st.ix then true else nc.getD m false := fun m => getD_set (by omega)
            refine ⟨_, _, _, _, rfl, same_mut sm2 hM0, upd_same, by rw [List.length_set]; exact hl2, fun m hm => ?_, fun m hm => ?_, fun s hs hsg => ?_⟩
            · rw [hset]
              split
              · rfl
              · exact hup m hm
            · rw [hset, if_neg (by omega)]
              exact hhi m hm
            · rw [hset]
              split
              · rfl
              · rename_i hne2
                rw [take_more hst] at hs
                rcases List.mem_append.mp hs with z | z
                · exact hdone s z hsg
                · rw [List.mem_singleton.mp z] at hne2
                  exact absurd rfl hne2
        · rintro σ H2 ⟨nc, z3, z4, z5, rfl, sm2, eM2, hl2, hup, hhi, hdone⟩
          refine ⟨nc, _, _, _, _, rfl, sm2, eM2, hl2, hup _ hlast, ?_⟩
          rw [take_all (Paired.length hus).symm] at hdone
          intro k g' hk hg' hb s' hs' hsg'
          by_cases z : k = gs.length - 1 - i
          · rw [z, hg] at hg'
            cases hg'
            exact hdone s' hs' hsg'
          · have hkl := lt_of_get hg'
            rw [hhi k (by omega)] at hb
            exact hup _ (hc k g' (by omega) hg' hb s' hs' hsg')
    · rintro σ H' ⟨nb, y2, y3, y4, y5, rfl, sm, eM, hl, hlast, hc⟩
      walk_at "go"
      rw [Nat.sub_self] at hc
      exact q nb M H' sm eM hl hlast hc
end
end K18
set_option Elab.async false
set_option linter.all false
set_option maxRecDepth 100000
set_option maxHeartbeats 4000000
/-! flat_steps, flatten. -/
namespace K18
open PySem PySem.Spec L2
local macro_rules | `(tactic| walk_at "go1") => `(tactic| with_reducible first
  | refine rd_seq ?_ | refine rd_ifS ?_ | refine rd_asg ?_ | refine rd_name ?_ | refine rd_ret ?_ | refine rd_drop ?_ | refine rd_next ?_ | refine rd_retN ?_
  | refine rd_c ?_ | refine rd_op ?_ | refine rd_un ?_ | refine rd_U ?_ | refine rd_I0 ?_ | refine rd_eqI ?_ | refine rd_neI ?_ | refine rd_eqS ?_ | refine rd_neS ?_
  | refine rd_nil ?_ | refine rd_cons ?_ | refine rd_call ?_ | refine rd_cb ?_ | refine rd_bm ?_ | refine rd_tup ?_ | refine rd_lst ?_ | refine rd_sl ?_ | refine rd_part ?_ | refine rd_nopart ?_
  | refine rd_exI ?_ | refine rd_exB ?_ | refine rd_exR ?_ | refine rd_test ?_ | refine rd_B ?_ | refine rd_and ?_ | refine rd_or ?_ | refine rd_not ?_ | refine rd_andV ?_ | refine rd_orV ?_ | refine rd_notV ?_ | refine rd_ifE ?_ | refine rd_chain ?_
  | refine rd_dget2 ?_ | refine rd_dnotin ?_ | refine rd_gcons ?_ | refine rd_gnil ?_ | refine rd_gsub ?_ | refine rd_ipI ?_ | refine rd_par ?_ | refine rd_for ?_ | refine rd_iList ?_ | refine rd_iTup ?_ | refine rd_iRng1 ?_ | refine rd_iRng2 ?_
  | refine rd_iRev ?_ | refine rd_iEnum ?_ | refine rd_dput ?_ | refine rd_nx ?_ | refine rd_rt ?_ | refine rd_yes ?_ | refine rd_dc ?_ | refine rd_lc ?_ | refine rd_iItems ?_ | refine rd_iVals ?_ | refine rd_iRng3 ?_ | refine rd_m1 ?_)
local macro_rules | `(tactic| walk_at "go") => `(tactic| repeat (first | walk_at "go1" | ((with_reducible refine' rd_var ?h1 ?_); (case h1 => exact rfl)) | ((with_reducible refine' rd_aug ?h1 ?_); (case h1 => exact rfl))))

/-- X(), an own exception without an __init__ -/
theorem pmk_own0 {X : Cx} {C : Addr} {bmB : List Value} {B newId initId : String} {x : Str} {p pos : Pos} (F : ExcBaseFacts B newId initId bmB) (q : PySem.W.excIn X.K C bmB newId = true) (gC : X.mg x = some (.ref C)) (kC : PySem.W.keepIn X.K (.ref C) = true) (r : Raises X (.ref C)) (hg : Gl X x)
    (hdb : (x == ("__debug__" : Str)) = false := by decide) : PMk X (.Call (.Name x p) [] [] pos) (fun _ H Q => Q (.ref C) none H) := by
  intro pins s σ H Q I h
  refine wpAny_Call_Name_kw (ld_glob I hg gC ?_ hdb)
  refine PySem.W.callWith_K0 I.kIn kC ?_
  show wpAny _ _ (call (.ref C) []) _ _ _
  obtain ⟨bm, N, nm, qn, bs, hdct, sn, sub, ab, col, dd, k0, k1, k2, k3, k5, mN, hC, hN, hni, T⟩ := exc_obj I.kIn q
  obtain ⟨hp, g, dr, tk, os⟩ := s
  refine wpAny_call_exc_subT F T hC hN hni (fun h' e hm => ?_) (by show 0 ≤ sizeLine; rw [sizeLine_eq]; omega)
  exact mk_of I hm r h (I.hok.gone hm.new)
section
variable {P : Program} {w : World} {K : PySem.W.Frag} {mg : Str → Option Value} {base : Heap}
def FsAt (H : Hp) (F : List (List Stp)) (M : Addr) : Prop := ∃ vs, H M = some (.lst vs) ∧ Paired (fun ss v => ∃ L, v = .ref L ∧ L ≠ M ∧ StpsAt H ss L) F vs
theorem FsAt.sm {H H' : Hp} (k : Same H H') {F : List (List Stp)} {M : Addr} : FsAt H F M → FsAt H' F M := fun ⟨vs, h, r⟩ => ⟨vs, k _ _ h, pr_mono r fun _ _ ⟨L, e, n, z⟩ => ⟨L, e, n, z.sm k⟩⟩
structure Okp (s : Stp) : Prop where
  nd : (keys s.sb).Nodup
  len : s.sb.length ≤ 1000
  pos : s.pos.length ≤ 500
  val : ∀ p ∈ s.sb, dep p.2 ≤ 40 ∧ siz p.2 ≤ 4000
theorem flatS_le {F : List (List Stp)} : ∀ {ss : List Stp}, (∀ s ∈ ss, (flatOne F s).length ≤ 100) → (flatS F ss).length ≤ 100 * ss.length
  | [], _ => Nat.zero_le _
  | s :: r, h => by
    show (flatOne F s ++ flatS F r).length ≤ _
    have h1 := h s List.mem_cons_self
    have h2 := flatS_le (F := F) (ss := r) fun q hq => h q (List.mem_cons_of_mem _ hq)
    rw [List.length_append, List.length_cons]
    omega
theorem getD_mem {F : List (List Stp)} {i : Nat} {q : Stp} (h : q ∈ F.getD i []) : ∃ f, f ∈ F ∧ q ∈ f := by
  rw [List.getD_eq_getElem?_getD] at h
  cases e : F[i]? with
  | none =>
    rw [e] at h
    cases h
  | some f =>
    rw [e] at h
    exact ⟨f, List.mem_of_getElem? e, h⟩
theorem flatOne_le {F : List (List Stp)} (hF : ∀ f, f ∈ F → f.length ≤ 100) (s : Stp) : (flatOne F s).length ≤ 100 := by
  rw [flatOne_len]
  unfold slen
  split
  · omega
  · rw [List.getD_eq_getElem?_getD, List.getElem?_map]
    cases e : F[s.ix]? with
    | none => exact Nat.zero_le _
    | some f => exact hF f (List.mem_of_getElem? e)
abbrev s_flat_steps : Stmt := top 20
theorem sc_flat_steps : FnScope ["steps", "flats", "result", "source", "is_forward", "position", "substitution", "part", "inner"] ["steps", "flats"] (defScope s_flat_steps) := ⟨rfl, rfl, rfl, by decide +kernel, rfl, by decide +kernel, by decide +kernel⟩
def sp_flat_steps : Sp := fun vs H Q _ => ∃ ss L F M, vs = [.ref L, .ref M] ∧ StpsAt H ss L ∧ FsAt H F M ∧ (∀ s : Stp, s ∈ ss → s.giv = false → s.ix < F.length) ∧ (∀ f, f ∈ F → f.length ≤ 100 ∧ ∀ s : Stp, s ∈ f → Okp s) ∧
  (∀ s : Stp, s ∈ ss → s.pos.length ≤ 500 ∧ ∀ q, q ∈ flatOne F s → Okp q) ∧ ss.length ≤ 100 ∧ ∀ R H', H R = none → Same H H' → StpsAt H' (flatS F ss) R → Q (.ref R) H'
theorem ok_flat_steps (B : Bi mg) (F : De K mg "flat_steps" s_flat_steps ["steps", "flats"]) (k_reverse : Kn P w K mg base CX0 1 "reverse" ["steps"] sp_reverse) (k_moved : Kn P w K mg base CX0 1 "moved" ["steps", "position"] sp_moved)
    (k_instantiated : Kn P w K mg base CX0 43 "instantiated" ["steps", "substitution"] sp_inst) (k_check_values : Kn P w K mg base CX0 43 "check_values" ["steps"] sp_check) : Kn P w K mg base CX0 44 "flat_steps" ["steps", "flats"] sp_flat_steps := by
  refine F.ok sc_flat_steps (fun vs H Q E h => ?_) (fun f cdv A outer s H vs Q E hr h => ?_)
  · obtain ⟨ss, L, FF, M, rfl, _⟩ := h
    rfl
  obtain ⟨ss, L, FF, M, rfl, ⟨ws, hL, hw⟩, hF, hix, hok, hss, hlen, q⟩ := h
  refine ⟨_, (pss_cons (ps_set (i := 2) sc_flat_steps.nd rfl (.inl rfl) (pe_lst pa_nil))
      (pss_cons (ps_for PassesOwn.never rfl (pi_list (pv 0)) (pg_tup rfl (pgs_cons (pg_name (i := 3) sc_flat_steps.nd rfl (.inl rfl)) (pgs_cons (pg_name (i := 4) sc_flat_steps.nd rfl (.inl rfl)) (pgs_cons (pg_name (i := 5) sc_flat_steps.nd rfl (.inl rfl)) (pgs_cons (pg_name (i := 6) sc_flat_steps.nd rfl (.inl rfl)) pgs_nil))))) (pss_cons (ps_if (pt_cmpR op_eq (pe_ix ix_tup (pv 3) pe_int (fun _ _ => rfl)) pe_str (nomark _)) (pss_one (ps_set (i := 7) sc_flat_steps.nd rfl (.inl rfl) (pe_lst (pa_cons (pe_tup (pa_cons (pv 3) (pa_cons (pv 4) (pa_cons (pv 5) (pa_cons (pe_callTy call_dictD (by rfl) B.m_dict (by decide +kernel) (pa_cons (pv 6) pa_nil)) pa_nil))))) pa_nil)))) (pss_cons (ps_set (i := 8) sc_flat_steps.nd rfl (.inl rfl) (pe_ix ix_list (pv 1) (pe_ix ix_tup (pv 3) pe_int (fun _ _ => rfl)) (fun _ _ => rfl)))
      (pss_cons (ps_set (i := 7) sc_flat_steps.nd rfl (.inl rfl) (pe_ifExp (pt_val (pv 4)) (pv 8) (pe_kn k_reverse (hr.mono (by omega)) (pa_cons (pv 8) pa_nil))))
      (pss_one (ps_set (i := 7) sc_flat_steps.nd rfl (.inl rfl) (pe_kn k_moved (hr.mono (by omega)) (pa_cons (pe_kn k_instantiated (hr.mono (by omega)) (pa_cons (pv 7) (pa_cons (pv 6) pa_nil))) (pa_cons (pv 5) pa_nil))))))))
      (pss_cons (ps_expr (pe_kn k_check_values (hr.mono (by omega)) (pa_cons (pv 7) pa_nil)))
      (pss_one (ps_expr (pe_bm PySem.F.plainAttrs_list PySem.F.slot_list_extend PySem.F.type_list_extend mt_extend (pv 2) (pa_cons (pv 7) pa_nil)))))))
      (pss_one (ps_ret (pv 2))))), ?_⟩
  walk_at "go"
  refine ⟨Nat.zero_le _, fun r hr0 => ?_⟩
  walk_at "go"
  have sm0 := same_new (o := .lst []) hr0
  refine ⟨⟨_, SqL.of (sm0 _ _ hL)⟩, for_list (xs := ws) (fun i σ H' => ∃ y3 y4 y5 y6 y7 y8 rs, σ = [some (.ref L), some (.ref M), some (.ref r), y3, y4, y5, y6, y7, y8] ∧ Same H H' ∧ H' r = some (.lst rs) ∧ Paired (StpAt H') (flatS FF (ss.take i)) rs) ⟨none, none, none, none, none, none, [], rfl, sm0, upd_same, .nil⟩ (fun i σ H' _ ⟨_, _, _, _, _, _, _, _, sm, _⟩ => SqL.of (sm _ _ hL)) ?_ ?_⟩
  · rintro i x σ H' hx ⟨y3, y4, y5, y6, y7, y8, rs, rfl, sm, er, hrs⟩
    obtain ⟨st, hst, a, sa, pa, da, rfl, ha, hsa, hpa, hda⟩ := pr_ofget (pr_mono hw fun _ _ z => z.sm sm) hx
    have hm := List.mem_of_getElem? hst
    have hb : ∀ q, q ∈ flatOne FF st → Okp q := (hss st hm).2
    -- behind the if: check_values(part), result.extend(part)
    have hfin : ∀ (N : Addr) (H1 H2 : Hp), Same H' H1 → StpsAt H1 (flatOne FF st) N → Same H1 H2 → True →
        (∃ (l b : Addr) (xs zs : List V), V.ref r = .ref l ∧ [V.ref N] = [V.ref b] ∧ H2 l = some (.lst xs) ∧ H2 b = some (.lst zs) ∧ xs.length + zs.length ≤ sizeLine ∧ Same H (upd H2 l (.lst (xs ++ zs))) ∧ (upd H2 l (.lst (xs ++ zs))) r = some (.lst (rs ++ zs)) ∧ Paired (StpAt (upd H2 l (.lst (xs ++ zs)))) (flatS FF (ss.take (i + 1))) (rs ++ zs)) := by
      rintro N H1 H2 s1 ⟨zs, hN, hzs⟩ s2 _
      have er2 := s2 _ _ (s1 _ _ er)
      have k3 := kd_lst (o := .lst (rs ++ zs)) er2
      refine ⟨r, N, rs, zs, rfl, rfl, er2, s2 _ _ hN, ?_, same_mut ((sm.trans s1).trans s2) hr0, upd_same, ?_⟩
      · have h1 := Paired.length hrs
        have h2 := flatS_le (F := FF) (ss := ss.take i) fun s _ => flatOne_le (fun f hf => (hok f hf).1) s
        have h3 := Paired.length hzs
        have h4 := flatOne_le (F := FF) (fun f hf => (hok f hf).1) st
        rw [List.length_take] at h2
        rw [sizeLine_eq]
        omega
      · rw [flatS_more hst]
        exact pr_app (pr_mono hrs fun _ _ z => (z.sm (s1.trans s2)).kd k3) (pr_mono hzs fun _ _ z => (z.sm s2).kd k3)
    refine rd_gtup (SqT.of ha) rfl ?_
    walk_at "go"
    refine rd_ixT (SqT.of hsa) (atI_nat (j := 0) rfl) ?_
    walk_at "go"
    rw [srcS_given]
    cases eg : st.giv with
    | true =>
      refine iteT ?_
      obtain ⟨kvs, hd, hk⟩ := hda
      walk_at "go"
      refine ⟨da, kvs, rfl, .inl hd, fun d hd0 => ?_⟩
      have s1 := same_new (o := .dK kvs) hd0
      refine ⟨by show 4 ≤ sizeLine; decide, fun p hp => ?_⟩
      have s2 := same_new (o := .tup [.ref sa, .bl st.fwd, .ref pa, .ref d]) hp
      have hnew : StpAt (upd (upd H' d (.dK kvs)) p (.tup [.ref sa, .bl st.fwd, .ref pa, .ref d])) st (.ref p) :=
        StpAt.mk (s := st) hp (s1 _ _ hsa) (s1 _ _ hpa) ⟨kvs, upd_same, hk.tk (tk_of s1)⟩
      refine ⟨by show 1 ≤ sizeLine; decide, fun l hl => ?_⟩
      have s3 := same_new (o := .lst [.ref p]) hl
      have e1 : flatOne FF st = [st] := by
        unfold flatOne
        rw [if_pos eg]
      have hpart : StpsAt (upd (upd (upd H' d (.dK kvs)) p (.tup [.ref sa, .bl st.fwd, .ref pa, .ref d])) l (.lst [.ref p])) (flatOne FF st) l := by
        rw [e1]
        exact ⟨[.ref p], upd_same, .cons (hnew.sm s3) .nil⟩
      walk_at "go"
      refine ⟨_, l, rfl, hpart, fun s hs => (hb s hs).val, fun H2 s4 => ?_⟩
      walk_at "go"
      obtain ⟨l2, b2, xs, zs, e2, e3, h1, h2, h3, h4, h5, h6⟩ := hfin l _ H2 ((s1.trans s2).trans s3) hpart s4 trivial
      cases e2
      cases e3
      refine ⟨.inl ⟨rfl, _, SqL.of h1⟩, ?_⟩
      walk_at "go"
      refine ⟨r, l, xs, zs, rfl, rfl, h1, h2, h3, ?_⟩
      walk_at "go"
      exact ⟨_, _, _, _, _, _, _, rfl, h4, h5, h6⟩
    | false =>
      refine iteF ?_
      obtain ⟨us, hM, hus⟩ := hF.sm sm
      have hlt := hix st hm eg
      obtain ⟨v, hv, N, rfl, _, hN⟩ := pr_get hus (List.getElem?_eq_getElem hlt)
      have eF : FF.getD st.ix [] = FF[st.ix] := by
        rw [List.getD_eq_getElem?_getD, List.getElem?_eq_getElem hlt]
        rfl
      rw [← eF] at hN
      have hlen2 : (FF.getD st.ix []).length ≤ 100 := by
        rw [eF]
        exact (hok _ (List.getElem_mem hlt)).1
      have hokN : ∀ s : Stp, s ∈ FF.getD st.ix [] → Okp s := by
        rw [eF]
        exact (hok _ (List.getElem_mem hlt)).2
      walk_at "go"
      refine rd_ixT (SqT.of hsa) (atI_nat (j := 1) rfl) ?_
      refine rd_ixL (SqL.of hM) (atI_nat hv) ?_
      walk_at "go"
      have e1 : flatOne FF st = ((if st.fwd then FF.getD st.ix [] else (FF.getD st.ix []).reverse.map Stp.rev).map (Stp.ins (lk st.sb))).map (Stp.mov st.pos) := by
        unfold flatOne
        rw [if_neg (by rw [eg]; exact Bool.false_ne_true)]
      -- moved(instantiated(part, substitution), position)
      cases ef : st.fwd with
      | true =>
        refine iteT ?_
        walk_at "go"
        refine ⟨_, N, st.sb, da, rfl, hN, hda, by omega, fun s hs => ⟨(hokN s hs).nd, (hokN s hs).len, fun p hp => ⟨((hokN s hs).val p hp).1, by have := ((hokN s hs).val p hp).2; omega⟩⟩, fun N2 H1 s1 hN2 => ?_⟩
        walk_at "go"
        refine ⟨_, N2, st.pos, pa, rfl, hN2, s1 _ _ hpa, by rw [List.length_map]; omega, by have := (hss st hm).1; omega, fun s hs => ?_, fun N3 H2 s2 hN3 => ?_⟩
        · obtain ⟨s', hs', rfl⟩ := List.mem_map.mp hs
          have := (hokN s' hs').pos
          show s'.pos.length ≤ 1000
          omega
        have hpart : StpsAt H2 (flatOne FF st) N3 := by
          rw [e1, ef]
          exact hN3
        walk_at "go"
        refine ⟨_, N3, rfl, hpart, fun s hs => (hb s hs).val, fun H3 s4 => ?_⟩
        walk_at "go"
        obtain ⟨l2, b2, xs, zs, e2, e3, h1, h2, h3, h4, h5, h6⟩ := hfin N3 _ H3 (s1.trans s2) hpart s4 trivial
        cases e2
        cases e3
        refine ⟨.inl ⟨rfl, _, SqL.of h1⟩, ?_⟩
        walk_at "go"
        refine ⟨r, N3, xs, zs, rfl, rfl, h1, h2, h3, ?_⟩
        walk_at "go"
        exact ⟨_, _, _, _, _, _, _, rfl, h4, h5, h6⟩
      | false =>
        refine iteF ?_
        walk_at "go"
        refine ⟨_, N, rfl, hN, by omega, fun N1 H0 s0 hN1 => ?_⟩
        walk_at "go"
        have hokR : ∀ s : Stp, s ∈ (FF.getD st.ix []).reverse.map Stp.rev → Okp s := fun s hs => by
          obtain ⟨s', hs', rfl⟩ := List.mem_map.mp hs
          have z := hokN s' (List.mem_reverse.mp hs')
          exact ⟨z.nd, z.len, z.pos, z.val⟩
        refine ⟨_, N1, st.sb, da, rfl, hN1, hda.sm s0, by rw [List.length_map, List.length_reverse]; omega, fun s hs => ⟨(hokR s hs).nd, (hokR s hs).len, fun p hp => ⟨((hokR s hs).val p hp).1, by have := ((hokR s hs).val p hp).2; omega⟩⟩, fun N2 H1 s1 hN2 => ?_⟩
        walk_at "go"
        refine ⟨_, N2, st.pos, pa, rfl, hN2, s1 _ _ (s0 _ _ hpa), by rw [List.length_map, List.length_map, List.length_reverse]; omega, by have := (hss st hm).1; omega, fun s hs => ?_, fun N3 H2 s2 hN3 => ?_⟩
        · obtain ⟨s', hs', rfl⟩ := List.mem_map.mp hs
          have := (hokR s' hs').pos
          show s'.pos.length ≤ 1000
          omega
        have hpart : StpsAt H2 (flatOne FF st) N3 := by
          rw [e1, ef]
          exact hN3
        walk_at "go"
        refine ⟨_, N3, rfl, hpart, fun s hs => (hb s hs).val, fun H3 s4 => ?_⟩
        walk_at "go"
        obtain ⟨l2, b2, xs, zs, e2, e3, h1, h2, h3, h4, h5, h6⟩ := hfin N3 _ H3 ((s0.trans s1).trans s2) hpart s4 trivial
        cases e2
        cases e3
        refine ⟨.inl ⟨rfl, _, SqL.of h1⟩, ?_⟩
        walk_at "go"
        refine ⟨r, N3, xs, zs, rfl, rfl, h1, h2, h3, ?_⟩
        walk_at "go"
        exact ⟨_, _, _, _, _, _, _, rfl, h4, h5, h6⟩
  · rintro σ H' ⟨y3, y4, y5, y6, y7, y8, rs, rfl, sm, er, hrs⟩
    walk_at "go"
    rw [take_all (Paired.length hw).symm] at hrs
    exact q r H' hr0 sm ⟨rs, er, hrs⟩
end
end K18
set_option Elab.async false
set_option linter.all false
set_option maxRecDepth 100000
set_option maxHeartbeats 4000000
/-! flatten. -/
namespace K18
open PySem PySem.Spec L2
local macro_rules | `(tactic| walk_at "go1") => `(tactic| with_reducible first
  | refine rd_seq ?_ | refine rd_ifS ?_ | refine rd_asg ?_ | refine rd_name ?_ | refine rd_ret ?_ | refine rd_drop ?_ | refine rd_next ?_ | refine rd_retN ?_
  | refine rd_c ?_ | refine rd_op ?_ | refine rd_un ?_ | refine rd_U ?_ | refine rd_I0 ?_ | refine rd_eqI ?_ | refine rd_neI ?_ | refine rd_eqS ?_ | refine rd_neS ?_
  | refine rd_nil ?_ | refine rd_cons ?_ | refine rd_call ?_ | refine rd_cb ?_ | refine rd_bm ?_ | refine rd_tup ?_ | refine rd_lst ?_ | refine rd_sl ?_ | refine rd_part ?_ | refine rd_nopart ?_
  | refine rd_exI ?_ | refine rd_exB ?_ | refine rd_exR ?_ | refine rd_test ?_ | refine rd_B ?_ | refine rd_and ?_ | refine rd_or ?_ | refine rd_not ?_ | refine rd_andV ?_ | refine rd_orV ?_ | refine rd_notV ?_ | refine rd_ifE ?_ | refine rd_chain ?_
  | refine rd_dget2 ?_ | refine rd_dnotin ?_ | refine rd_gcons ?_ | refine rd_gnil ?_ | refine rd_gsub ?_ | refine rd_ipI ?_ | refine rd_par ?_ | refine rd_for ?_ | refine rd_iList ?_ | refine rd_iTup ?_ | refine rd_iRng1 ?_ | refine rd_iRng2 ?_
  | refine rd_iRev ?_ | refine rd_iEnum ?_ | refine rd_dput ?_ | refine rd_nx ?_ | refine rd_rt ?_ | refine rd_yes ?_ | refine rd_dc ?_ | refine rd_lc ?_ | refine rd_iItems ?_ | refine rd_iVals ?_ | refine rd_iRng3 ?_ | refine rd_m1 ?_)
local macro_rules | `(tactic| walk_at "go") => `(tactic| repeat (first | walk_at "go1" | ((with_reducible refine' rd_var ?h1 ?_); (case h1 => exact rfl)) | ((with_reducible refine' rd_aug ?h1 ?_); (case h1 => exact rfl))))

/-- what the top holds of StepLimit -/
structure Sl (K : PySem.W.Frag) (mg : Str → Option Value) (C : Addr) : Prop where
  gC : mg "StepLimit" = some (.ref C)
  xC : PySem.W.excIn K C [.type "ValueError", .type "Exception", .type "BaseException", .type "object"] "ValueError.__new__" = true
  kC : PySem.W.keepIn K (.ref C) = true
  bC : PySem.W.subIn K (.ref C) (.type "BaseException") = some true
  tC : PySem.W.typeIn K (.ref C) = some (.type "type")
  te : PySem.W.exmOne K (.ref C) (.ref C) = some true
  is : ExcC K C
  ve : PySem.W.kitOne K (.ref C) (.type "ValueError") = some true
section
variable {P : Program} {w : World} {K : PySem.W.Frag} {mg : Str → Option Value} {base : Heap}
abbrev s_flatten : Stmt := top 21
theorem sc_flatten : FnScope ["stages", "limit", "needed", "flats", "number", "stage"] ["stages", "limit"] (defScope s_flatten) := ⟨rfl, rfl, rfl, by decide +kernel, rfl, by decide +kernel, by decide +kernel⟩
def sp_flatten (C : Addr) : Sp := fun vs H Q E => ∃ gs L, ∃ lim : Int, vs = [.ref L, .int lim] ∧ StgsAt H gs L ∧ gs ≠ [] ∧ Wf gs ∧ gs.length ≤ 100 ∧ (∀ g, g ∈ gs → g.ss.length ≤ 100 ∧ ∀ s : Stp, s ∈ g.ss → s.pos.length ≤ 500) ∧ (∀ f, f ∈ fl gs → f.length ≤ 100 ∧ ∀ s : Stp, s ∈ f → Okp s) ∧
  (lim < (lastLen gs : Nat) → ∀ H', Same H H' → E (.ref C) none H') ∧ (((lastLen gs : Nat) : Int) ≤ lim → ∀ R H', Same H H' → StpsAt H' ((fl gs).getD (gs.length - 1) []) R → Q (.ref R) H')
theorem mem_flatS {F : List (List Stp)} {s q : Stp} {ss : List Stp} (hs : s ∈ ss) (hq : q ∈ flatOne F s) : q ∈ flatS F ss := List.mem_flatMap.mpr ⟨s, hs, hq⟩
theorem ok_flatten (B : Bi mg) {C : Addr} (S : Sl K mg C) (F : De K mg "flatten" s_flatten ["stages", "limit"]) (k_flat_length : Kn P w K mg base CX0 1 "flat_length" ["stages"] sp_flat_length) (k_needed_stages : Kn P w K mg base CX0 1 "needed_stages" ["stages"] sp_needed)
    (k_flat_steps : Kn P w K mg base CX0 44 "flat_steps" ["steps", "flats"] sp_flat_steps) : Kn P w K mg base (L2.CX P w) 45 "flatten" ["stages", "limit"] (sp_flatten C) := by
  refine F.okX sc_flatten (fun vs H Q E h => ?_) (fun f cdv A outer s H vs Q E hr h => ?_)
  · obtain ⟨gs, L, lim, rfl, _⟩ := h
    rfl
  obtain ⟨gs, L, lim, rfl, ⟨ws, hL, hw⟩, hne, hwf, hlen, hss, hok, hE, hQ⟩ := h
  have hn : 0 < gs.length := by
    cases gs with
    | nil => exact absurd rfl hne
    | cons g r => exact Nat.succ_pos _
  refine ⟨_, (pss_cons (ps_if (pt_cmpR op_gt (pe_kn k_flat_length (hr.mono (by omega)) (pa_cons (pv 0) pa_nil)) (pv 1) (nomark _)) (pss_one (ps_raise rfl (takes_of rfl rfl rfl rfl) (pmk_own0 PySem.F.excBase_ValueError S.xC S.gC S.kC (raises_own S.bC S.tC) rfl))) pss_nil)
      (PSs.nox (pss_cons (ps_set (i := 2) sc_flatten.nd rfl (.inl rfl) (pe_kn k_needed_stages (hr.mono (by omega)) (pa_cons (pv 0) pa_nil)))
      (pss_cons (ps_set (i := 3) sc_flatten.nd rfl (.inl rfl) (pe_lst pa_nil))
      (pss_cons (ps_for PassesOwn.never rfl (pi_enum (by rfl) B.m_enumerate (pa_cons (pv 0) pa_nil)) (pg_tup rfl (pgs_cons (pg_name (i := 4) sc_flatten.nd rfl (.inl rfl)) (pgs_cons (pg_name (i := 5) sc_flatten.nd rfl (.inl rfl)) pgs_nil))) (pss_one (ps_expr (pe_bm PySem.F.plainAttrs_list PySem.F.slot_list_append PySem.F.type_list_append mt_append (pv 3) (pa_cons (pe_ifExp (pt_val (pe_ix ix_list (pv 2) (pv 4) (fun _ _ => rfl))) (pe_kn k_flat_steps (hr.mono (by omega)) (pa_cons (pe_ix ix_tup (pv 5) pe_int (fun _ _ => rfl)) (pa_cons (pv 3) pa_nil))) (pe_lst pa_nil)) pa_nil)))))
      (pss_one (ps_ret (pe_ix ix_list (pv 3) (pe_un un_neg pe_int) (fun _ _ => rfl))))))))), ?_⟩
  walk_at "go"
  refine ⟨gs, L, rfl, ⟨ws, hL, hw⟩, hne, hwf, by omega, fun H1 sm1 => ?_⟩
  walk_at "go"
  by_cases hlim : lim < (lastLen gs : Nat)
  · rw [decide_eq_true hlim]
    refine iteT ?_
    exact hE hlim H1 sm1
  rw [decide_eq_false hlim]
  refine iteF ?_
  walk_at "go"
  refine ⟨gs, L, rfl, (StgsAt.sm sm1 ⟨ws, hL, hw⟩), hne, hwf, by omega, fun nb N H2 sm2 eN hnl hlast hc => ?_⟩
  walk_at "go"
  refine ⟨Nat.zero_le _, fun M hM0 => ?_⟩
  have s3 := same_new (o := .lst []) hM0
  walk_at "go"
  have smA : Same H (upd H2 M (.lst [])) := (sm1.trans sm2).trans s3
  have hM1 : H M = none := (sm1.trans sm2).free hM0
  refine ⟨L, ws, rfl, SqL.of (smA _ _ hL), for_it walk_enum (fun i σ H' => ∃ y4 y5 FF, σ = [some (.ref L), some (.int lim), some (.ref N), some (.ref M), y4, y5] ∧ Same H H' ∧ H' N = some (.lst (bls nb)) ∧ FsAt H' FF M ∧ FF.length = i ∧ ∀ j, j < i → FF.getD j [] = if nb.getD j false then (fl gs).getD j [] else [])
    ⟨none, none, [], rfl, smA, s3 _ _ eN, ⟨[], upd_same, .nil⟩, rfl, fun j hj => absurd hj (Nat.not_lt_zero _)⟩ (fun i σ H' _ ⟨_, _, _, _, sm, _⟩ => SqL.of (sm _ _ hL)) ?_ ?_⟩
  · rintro i x σ H0 H' hi ⟨y4, y5, FF, rfl, sm, eN', hF, hFl, hFj⟩ ⟨T, x1, x2, rfl, hT, rfl, e1, e2⟩
    have e1 : some (V.int ((i : Nat) : Int)) = some x1 := e1
    have e2 : ws[i]? = some x2 := e2
    cases e1
    have sT := same_new (o := .tup [.int ((i : Nat) : Int), x2]) hT
    have smT := sm.trans sT
    obtain ⟨g, hg, a, v1, v2, Ls, rfl, ha, h1, h2, hus⟩ := pr_ofget hw e2
    have hgl := lt_of_get hg
    have hgm := List.mem_of_getElem? hg
    refine rd_gtup (SqT.of upd_same) rfl ?_
    walk_at "go"
    obtain ⟨vs, eM, hvs⟩ := hF.sm sT
    have hvl : vs.length = i := by rw [← Paired.length hvs, hFl]
    refine ⟨.inl ⟨rfl, _, SqL.of eM⟩, ?_⟩
    walk_at "go"
    refine rd_ixL (SqL.of (sT _ _ eN')) (atI_nat (bls_get (getD_at (by omega)))) ?_
    walk_at "go"
    -- the list of what was flat so far grows by R
    have fin : ∀ (R : Addr) (H2 : Hp) (ss : List Stp), Same (upd H0 T (.tup [.int ((i : Nat) : Int), .ref a])) H2 → R ≠ M → StpsAt H2 ss R → ss = (if nb.getD i false then (fl gs).getD i [] else []) →
        H2 M = some (.lst vs) ∧ vs.length < sizeLine ∧ FsAt (upd H2 M (.lst (vs ++ [.ref R]))) (FF ++ [ss]) M ∧ (FF ++ [ss]).length = i + 1 ∧ ∀ j, j < i + 1 → (FF ++ [ss]).getD j [] = if nb.getD j false then (fl gs).getD j [] else [] := by
      intro R H2 ss s2 hRM hR ess
      have eM2 := s2 _ _ eM
      have kd := kd_lst (o := .lst (vs ++ [.ref R])) eM2
      have hst : ∀ {q : List Stp} {l : Addr}, l ≠ M → StpsAt H2 q l → StpsAt (upd H2 M (.lst (vs ++ [.ref R]))) q l := fun {q l} hl ⟨us, h, r⟩ => ⟨us, by rw [upd_ne hl]; exact h, pr_mono r fun _ _ z => z.kd kd⟩
      refine ⟨eM2, by rw [hvl, sizeLine_eq]; omega, ⟨_, upd_same, pr_snoc (pr_mono hvs fun _ _ ⟨l, e, n, z⟩ => ⟨l, e, n, hst n (z.sm s2)⟩) ⟨R, rfl, hRM, hst hRM hR⟩⟩, by rw [List.length_append, hFl]; rfl, fun j hj => ?_⟩
      rw [List.getD_eq_getElem?_getD]
      by_cases z : j < i
      · rw [List.getElem?_append_left (by omega), ← List.getD_eq_getElem?_getD]
        exact hFj j z
      · have ej : j = i := by omega
        subst ej
        rw [List.getElem?_append_right (by omega), hFl, Nat.sub_self, ← ess]
        rfl
    cases eb : nb.getD i false with
    | false =>
      refine iteF ?_
      walk_at "go"
      refine ⟨Nat.zero_le _, fun R hR0 => ?_⟩
      have s5 := same_new (o := .lst []) hR0
      obtain ⟨f1, f2, f3, f4, f5⟩ := fin R _ [] s5 (ne_of_none eM hR0).symm ⟨[], upd_same, .nil⟩ (by rw [eb]; rfl)
      refine ⟨M, vs, _, rfl, rfl, f1, f2, ?_⟩
      walk_at "go"
      exact ⟨_, _, _, rfl, same_mut (smT.trans s5) hM1, by
        rw [upd_ne (ne_of_none eN hM0)]
        exact s5 _ _ (sT _ _ eN'), f3, f4, f5⟩
    | true =>
      refine iteT ?_
      walk_at "go"
      refine rd_ixT (SqT.of (smT _ _ ha)) (atI_nat (j := 2) rfl) ?_
      walk_at "go"
      have eqF : flatS FF g.ss = flatS (fl (gs.take i)) g.ss := flatS_congr fun s hs hsg => by
        have hix := hwf i g hg s hs hsg
        have hnb := hc i g (Nat.zero_le _) hg eb s hs hsg
        rw [hFj s.ix hix, if_pos hnb, ← fl_take (Nat.le_of_lt hgl), getD_take hix]
      have hfi : (fl gs)[i]? = some (flatS FF g.ss) := by
        rw [eqF]
        exact fl_get hg
      refine ⟨g.ss, Ls, FF, M, rfl, hus.sm smT, hF.sm sT, fun s hs hsg => by rw [hFl]; exact hwf i g hg s hs hsg, fun f hf => ?_, fun s hs => ⟨(hss g hgm).2 s hs, fun q hq => ?_⟩, (hss g hgm).1, fun R H2 hR0 s5 hR => ?_⟩
      · obtain ⟨j, hj⟩ := List.mem_iff_getElem?.mp hf
        have hj1 : j < i := by rw [← hFl]; exact lt_of_get hj
        have z := hFj j hj1
        rw [List.getD_eq_getElem?_getD, hj] at z
        have z : f = _ := z
        rw [z]
        split
        · have hj2 : j < (fl gs).length := by rw [fl_length]; omega
          have e4 : (fl gs).getD j [] = (fl gs)[j] := by
            rw [List.getD_eq_getElem?_getD, List.getElem?_eq_getElem hj2]
            rfl
          rw [e4]
          exact hok _ (List.getElem_mem hj2)
        · exact ⟨Nat.zero_le _, fun s hs => absurd hs (by simp)⟩
      · exact (hok _ (List.mem_of_getElem? hfi)).2 q (mem_flatS hs hq)
      · have ess : flatS FF g.ss = (if nb.getD i false then (fl gs).getD i [] else []) := by
          rw [eb, if_pos rfl, List.getD_eq_getElem?_getD, hfi]
          rfl
        obtain ⟨f1, f2, f3, f4, f5⟩ := fin R _ _ s5 (ne_of_none eM hR0).symm hR ess
        refine ⟨M, vs, _, rfl, rfl, f1, f2, ?_⟩
        walk_at "go"
        exact ⟨_, _, _, rfl, same_mut (smT.trans s5) hM1, by
          rw [upd_ne (ne_of_none eN hM0)]
          exact s5 _ _ (sT _ _ eN'), f3, f4, f5⟩
  · rintro σ H' ⟨y4, y5, FF, rfl, sm, eN', ⟨vs, eM, hvs⟩, hFl, hFj⟩
    walk_at "go"
    have hwl : ws.length = gs.length := (Paired.length hw).symm
    have hlt : gs.length - 1 < FF.length := by omega
    obtain ⟨v, hv, R, rfl, _, hR⟩ := pr_get hvs (List.getElem?_eq_getElem hlt)
    refine rd_ixL (SqL.of eM) (atI_neg1 (v := .ref R) ?_) ?_
    · rw [← Paired.length hvs, hFl, hwl]
      exact hv
    walk_at "go"
    have e5 := hFj (gs.length - 1) (by omega)
    rw [hlast, if_pos rfl, List.getD_eq_getElem?_getD, List.getElem?_eq_getElem hlt] at e5
    have e5 : FF[gs.length - 1] = _ := e5
    rw [e5] at hR
    exact hQ (by omega) R H' sm hR
end
end K18
set_option Elab.async false
set_option linter.all false
set_option maxRecDepth 100000
set_option maxHeartbeats 4000000
/-! The law's draws: mix, number, state, draw, word, names, operations, leaf, term. -/
namespace K18
open PySem PySem.Spec L2
local macro_rules | `(tactic| walk_at "go1") => `(tactic| with_reducible first
  | refine rd_seq ?_ | refine rd_ifS ?_ | refine rd_asg ?_ | refine rd_name ?_ | refine rd_ret ?_ | refine rd_drop ?_ | refine rd_next ?_ | refine rd_retN ?_
  | refine rd_c ?_ | refine rd_op ?_ | refine rd_un ?_ | refine rd_U ?_ | refine rd_I0 ?_ | refine rd_eqI ?_ | refine rd_neI ?_ | refine rd_eqS ?_ | refine rd_neS ?_
  | refine rd_nil ?_ | refine rd_cons ?_ | refine rd_call ?_ | refine rd_cb ?_ | refine rd_bm ?_ | refine rd_tup ?_ | refine rd_lst ?_ | refine rd_sl ?_ | refine rd_part ?_ | refine rd_nopart ?_
  | refine rd_exI ?_ | refine rd_exB ?_ | refine rd_exR ?_ | refine rd_test ?_ | refine rd_B ?_ | refine rd_and ?_ | refine rd_or ?_ | refine rd_not ?_ | refine rd_andV ?_ | refine rd_orV ?_ | refine rd_notV ?_ | refine rd_ifE ?_ | refine rd_chain ?_
  | refine rd_dget2 ?_ | refine rd_dnotin ?_ | refine rd_gcons ?_ | refine rd_gnil ?_ | refine rd_gsub ?_ | refine rd_ipI ?_ | refine rd_par ?_ | refine rd_for ?_ | refine rd_iList ?_ | refine rd_iTup ?_ | refine rd_iRng1 ?_ | refine rd_iRng2 ?_
  | refine rd_iRev ?_ | refine rd_iEnum ?_ | refine rd_dput ?_ | refine rd_nx ?_ | refine rd_rt ?_ | refine rd_yes ?_ | refine rd_dc ?_ | refine rd_lc ?_ | refine rd_iItems ?_ | refine rd_iVals ?_ | refine rd_iRng3 ?_ | refine rd_m1 ?_)
local macro_rules | `(tactic| walk_at "go") => `(tactic| repeat (first | walk_at "go1" | ((with_reducible refine' rd_var ?h1 ?_); (case h1 => exact rfl)) | ((with_reducible refine' rd_aug ?h1 ?_); (case h1 => exact rfl))))

/-- all is kept but what stands at st -/
def But (st : Addr) (H H' : Hp) : Prop := ∀ b o, b ≠ st → H b = some o → H' b = some o
theorem But.refl (st : Addr) (H : Hp) : But st H H := fun _ _ _ h => h
theorem But.trans {st : Addr} {H H1 H2 : Hp} (a : But st H H1) (b : But st H1 H2) : But st H H2 := fun c o n h => b c o n (a c o n h)
theorem but_of {st : Addr} {H H' : Hp} (h : Same H H') : But st H H' := fun b o _ e => h b o e
theorem but_upd {st : Addr} {H H' : Hp} {o : HO} (h : But st H H') : But st H (upd H' st o) := fun b u n e => by
  rw [upd_ne n]
  exact h b u n e
theorem but_mut {st r : Addr} {H H' : Hp} {o : HO} (k : But st H H') (h : H r = none) : But st H (upd H' r o) := fun b u n e => by
  rw [upd_ne (ne_of_none e h)]
  exact k b u n e
theorem But.free {st : Addr} {H H' : Hp} (e : But st H H') {l : Addr} (n : l ≠ st) (h : H' l = none) : H l = none := by
  cases q : H l with
  | none => rfl
  | some o =>
    rw [e l o n q] at h
    cases h
/-- the state of the draws at st: what is left of a number, the script (at scr), the place in it, the other source -/
def StOk (H : Hp) (st scr : Addr) : Prop := ∃ (x k y : Int) (ns : List Int), H st = some (.lst [.int x, .ref scr, .int k, .int y]) ∧ H scr = some (.lst (ns.map V.int)) ∧ 0 ≤ k ∧ scr ≠ st
theorem stok_ne {H : Hp} {st scr p : Addr} (h : StOk H st scr) (hp : H p = none) : p ≠ st := by
  obtain ⟨x, k, y, ns, h1, h2, h3, h4⟩ := h
  exact (ne_of_none h1 hp).symm
theorem stok_ne2 {H : Hp} {st scr p : Addr} (h : StOk H st scr) (hp : H p = none) : p ≠ scr := by
  obtain ⟨x, k, y, ns, h1, h2, h3, h4⟩ := h
  exact (ne_of_none h2 hp).symm
theorem stok_sm {H H' : Hp} {st scr : Addr} (k : Same H H') : StOk H st scr → StOk H' st scr := fun ⟨x, k2, y, ns, h1, h2, h3, h4⟩ => ⟨x, k2, y, ns, k _ _ h1, k _ _ h2, h3, h4⟩
/-- what is changed elsewhere leaves the state -/
theorem stok_upd {H : Hp} {st scr r : Addr} {o : HO} (h : StOk H st scr) (h1 : r ≠ st) (h2 : r ≠ scr) : StOk (upd H r o) st scr := by
  obtain ⟨x, k, y, ns, g1, g2, g3, g4⟩ := h
  exact ⟨x, k, y, ns, by rw [upd_ne h1.symm]; exact g1, by rw [upd_ne h2.symm]; exact g2, g3, g4⟩
theorem But.kp {st scr : Addr} {H H' : Hp} (h : StOk H st scr) (k : But st H H') : Kp H H' := fun b u p e => by
  obtain ⟨x, k2, y, ns, h1, h2, h3, h4⟩ := h
  refine k b u ?_ e
  intro z
  rw [z, h1] at e
  cases e
  exact p
section
variable {P : Program} {w : World} {K : PySem.W.Frag} {mg : Str → Option Value} {base : Heap}
abbrev s_l_mix : Stmt := top 24
theorem sc_l_mix : FnScope ["_law_cell", "_law_number_here"] ["_law_cell"] (defScope s_l_mix) := ⟨rfl, rfl, rfl, by decide +kernel, rfl, by decide +kernel, by decide +kernel⟩
def sp_mix : Sp := fun vs H Q _ => ∃ c : Int, vs = [.int c] ∧ ∀ n : Int, Q (.int n) H
theorem ok_l_mix (B : Bi mg) (F : De K mg "_law_mix" s_l_mix ["_law_cell"]) : Kn P w K mg base CX0 1 "_law_mix" ["_law_cell"] sp_mix := by
  refine F.ok sc_l_mix (fun vs H Q E h => ?_) (fun f cdv A outer s H vs Q E hr h => ?_)
  · obtain ⟨c, rfl, _⟩ := h
    rfl
  obtain ⟨c, rfl, q⟩ := h
  refine ⟨_, (pss_cons (ps_set (i := 1) sc_l_mix.nd rfl (.inl rfl) (pe_op op_mod (pe_callTy call_int1 (by rfl) B.m_int (by decide +kernel) (pa_cons (pv 0) pa_nil)) pe_int))
      (pss_cons (ps_set (i := 1) sc_l_mix.nd rfl (.inl rfl) (pe_op op_mod (pe_callTy call_int1 (by rfl) B.m_int (by decide +kernel) (pa_cons (pe_op op_add (pe_op op_mul (pv 1) pe_int) pe_int) pa_nil)) pe_int))
      (pss_one (ps_ret (pe_op op_mod (pe_callTy call_int1 (by rfl) B.m_int (by decide +kernel) (pa_cons (pe_op op_add (pe_op op_mul (pv 1) pe_int) pe_int) pa_nil)) pe_int))))), ?_⟩
  walk_at "go"
  refine .inl ⟨_, rfl, ?_⟩
  walk_at "go"
  refine rd_I (by decide) ?_
  walk_at "go"
  refine rd_I (.inr ⟨by decide, by decide⟩) ?_
  walk_at "go"
  refine .inl ⟨_, rfl, ?_⟩
  walk_at "go"
  refine rd_I (by decide) ?_
  walk_at "go"
  refine rd_I (.inr ⟨by decide, by decide⟩) ?_
  walk_at "go"
  refine .inl ⟨_, rfl, ?_⟩
  walk_at "go"
  refine rd_I (by decide) ?_
  exact q _
abbrev s_l_number : Stmt := top 25
theorem sc_l_number : FnScope ["_law_cell", "_law_first"] ["_law_cell"] (defScope s_l_number) := ⟨rfl, rfl, rfl, by decide +kernel, rfl, by decide +kernel, by decide +kernel⟩
theorem ok_l_number (B : Bi mg) (F : De K mg "_law_number" s_l_number ["_law_cell"]) (k_l_mix : Kn P w K mg base CX0 1 "_law_mix" ["_law_cell"] sp_mix) : Kn P w K mg base CX0 2 "_law_number" ["_law_cell"] sp_mix := by
  refine F.ok sc_l_number (fun vs H Q E h => ?_) (fun f cdv A outer s H vs Q E hr h => ?_)
  · obtain ⟨c, rfl, _⟩ := h
    rfl
  obtain ⟨c, rfl, q⟩ := h
  refine ⟨_, (pss_cons (ps_if (pt_cmpR op_ge (pv 0) (pe_op op_pow pe_int pe_int) (nomark _)) (pss_one (ps_ret (pv 0))) pss_nil)
      (pss_cons (ps_set (i := 1) sc_l_number.nd rfl (.inl rfl) (pe_kn k_l_mix (hr.mono (by omega)) (pa_cons (pv 0) pa_nil)))
      (pss_one (ps_ret (pe_op op_add (pe_op op_mul (pv 1) pe_int) (pe_kn k_l_mix (hr.mono (by omega)) (pa_cons (pe_op op_add (pv 1) (pv 0)) pa_nil))))))), ?_⟩
  walk_at "go"
  refine rd_I ⟨by decide, by decide, by decide⟩ ?_
  walk_at "go"
  refine ite2 (fun _ => ?_) (fun _ => ?_)
  · walk_at "go"
    exact q _
  · walk_at "go"
    refine ⟨c, rfl, fun n => ?_⟩
    walk_at "go"
    refine rd_I (.inr ⟨by decide, by decide⟩) ?_
    walk_at "go"
    refine ⟨_, rfl, fun m => ?_⟩
    walk_at "go"
    exact q _
abbrev s_l_state : Stmt := top 26
theorem sc_l_state : FnScope ["_law_script"] ["_law_script"] (defScope s_l_state) := ⟨rfl, rfl, rfl, by decide +kernel, rfl, by decide +kernel, by decide +kernel⟩
def sp_state (K : PySem.W.Frag) : Sp := fun vs H Q _ => ∃ (a : Addr) (ns : List Int), vs = [.ref a] ∧ SqL K H a (ns.map V.int) ∧ ∀ st scr H', StOk H' st scr → Q (.ref st) H'
theorem ok_l_state (B : Bi mg) (F : De K mg "_law_state" s_l_state ["_law_script"]) : Kn P w K mg base CX0 1 "_law_state" ["_law_script"] (sp_state K) := by
  refine F.ok sc_l_state (fun vs H Q E h => ?_) (fun f cdv A outer s H vs Q E hr h => ?_)
  · obtain ⟨a, ns, rfl, _⟩ := h
    rfl
  obtain ⟨a, ns, rfl, hS, q⟩ := h
  refine ⟨_, (pss_one (ps_ret (pe_lst (pa_cons pe_int (pa_cons (pe_callTy call_list_of (by rfl) B.m_list (by decide +kernel) (pa_cons (pv 0) pa_nil)) (pa_cons pe_int (pa_cons (pe_op op_add pe_int (pe_callB call_len_seq (by rfl) B.m_len PySem.boot_len (pa_cons (pv 0) pa_nil))) pa_nil))))))), ?_⟩
  walk_at "go"
  refine ⟨a, _, rfl, .inl hS, fun l hl => ?_⟩
  walk_at "go"
  refine ⟨a, _, rfl, .inl ((same_new hl).seq hS), ?_⟩
  walk_at "go"
  refine ⟨by show 4 ≤ sizeLine; decide, fun st hst => ?_⟩
  exact q st l _ ⟨_, _, _, ns, upd_same, by rw [upd_ne (ne_of_none upd_same hst), upd_same], by decide, ne_of_none upd_same hst⟩
abbrev s_l_draw : Stmt := top 27
theorem sc_l_draw : FnScope ["_law_state_here", "_law_many", "_law_value"] ["_law_state_here", "_law_many"] (defScope s_l_draw) := ⟨rfl, rfl, rfl, by decide +kernel, rfl, by decide +kernel, by decide +kernel⟩
def sp_draw : Sp := fun vs H Q _ => ∃ (st scr : Addr) (m : Nat), vs = [.ref st, .int (m : Int)] ∧ StOk H st scr ∧ 0 < m ∧ m < 1000000000 ∧ ∀ (n : Nat) H', n < m → But st H H' → StOk H' st scr → Q (.int (n : Int)) H'
theorem ok_l_draw (B : Bi mg) (F : De K mg "_law_draw" s_l_draw ["_law_state_here", "_law_many"]) (k_l_number : Kn P w K mg base CX0 2 "_law_number" ["_law_cell"] sp_mix) : Kn P w K mg base CX0 3 "_law_draw" ["_law_state_here", "_law_many"] sp_draw := by
  refine F.ok sc_l_draw (fun vs H Q E h => ?_) (fun f cdv A outer s H vs Q E hr h => ?_)
  · obtain ⟨st, scr, m, rfl, _⟩ := h
    rfl
  obtain ⟨st, scr, m, rfl, ⟨x, k, y, ns, h1, h2, h3, h4⟩, hm, hm2, q⟩ := h
  have hmod : ∀ z : Int, ∃ n : Nat, n < m ∧ z % (m : Int) = (n : Int) := fun z => by
    have e1 := Int.emod_nonneg z (show (m : Int) ≠ 0 by omega)
    have e2 := Int.emod_lt_of_pos z (show (0 : Int) < m by omega)
    exact ⟨(z % (m : Int)).toNat, by omega, by omega⟩
  -- behind the first if: whatever stands in the state
  have fin : ∀ (x k y : Int) (H1 : Hp), But st H H1 → H1 st = some (.lst [.int x, .ref scr, .int k, .int y]) → H1 scr = some (.lst (ns.map V.int)) → 0 ≤ k →
      (tSeq (tIfS (tTest (tOp rEq (tOp (rIxL K) (tVar 0) (tC (.int 0))) (tC (.int 0))))
          (tSeq (tAsg (tOp (rI (fun _ j => 0 < j) fun i j => .int (i % j)) (tCB (fun xs H Q => (∃ i, xs = [.int i] ∧ Q (.int i) H) ∨ ∃ k, xs = [.bl k] ∧ Q (.int (if k then 1 else 0)) H) (tCons (tOp (rI0 fun i j => .int (i + j)) (tOp (rI CMul fun i j => .int (i * j)) (tOp (rIxL K) (tVar 0) (tC (.int 3))) (tC (.int 48271))) (tC (.int 7))) tNil)) (tC (.int 2147483647))) (gSub (tVar 0) (tC (.int 3)) rSetL))
            (tRet (tOp (rI (fun _ j => 0 < j) fun i j => .int (i % j)) (tCB (fun xs H Q => (∃ i, xs = [.int i] ∧ Q (.int i) H) ∨ ∃ k, xs = [.bl k] ∧ Q (.int (if k then 1 else 0)) H) (tCons (tOp (rI CDiv fun i j => .int (i / j)) (tOp (rIxL K) (tVar 0) (tC (.int 3))) (tC (.int 11))) tNil)) (tVar 1)))) tNext)
        (tSeq (tAsg (tOp (rI (fun _ j => 0 < j) fun i j => .int (i % j)) (tCB (fun xs H Q => (∃ i, xs = [.int i] ∧ Q (.int i) H) ∨ ∃ k, xs = [.bl k] ∧ Q (.int (if k then 1 else 0)) H) (tCons (tOp (rIxL K) (tVar 0) (tC (.int 0))) tNil)) (tVar 1)) (gName 2))
          (tSeq (tAsg (tOp (rI CDiv fun i j => .int (i / j)) (tOp (rIxL K) (tVar 0) (tC (.int 0))) (tVar 1)) (gSub (tVar 0) (tC (.int 0)) rSetL)) (tRet (tVar 2))))) { nx := fun _ H' => Q .non H', rt := Q } [some (.ref st), some (.int (m : Int)), none] H1 := by
    intro x k y H1 b1 e1 e2 hk
    walk_at "go"
    refine rd_ixL (SqL.of e1) (atI_nat (j := 0) rfl) ?_
    walk_at "go"
    refine ite2 (fun _ => ?_) (fun _ => ?_)
    · walk_at "go"
      refine rd_ixL (SqL.of e1) (atI_nat (j := 3) rfl) ?_
      walk_at "go"
      refine rd_I (.inr ⟨by decide, by decide⟩) ?_
      walk_at "go"
      refine .inl ⟨_, rfl, ?_⟩
      walk_at "go"
      refine rd_I (by decide) ?_
      walk_at "go"
      refine ⟨st, _, 3, 3, rfl, rfl, e1, rfl, ?_⟩
      walk_at "go"
      refine rd_ixL (SqL.of upd_same) (atI_nat (j := 3) rfl) ?_
      walk_at "go"
      refine rd_I ⟨by decide, by decide⟩ ?_
      walk_at "go"
      refine .inl ⟨_, rfl, ?_⟩
      walk_at "go"
      refine rd_I (by omega) ?_
      obtain ⟨n, hn, en⟩ := hmod (((y * 48271 + 7) % 2147483647) / 11)
      rw [en]
      exact q n _ hn (but_upd b1) ⟨_, _, _, ns, upd_same, by rw [upd_ne h4]; exact e2, hk, h4⟩
    · walk_at "go"
      refine rd_ixL (SqL.of e1) (atI_nat (j := 0) rfl) ?_
      walk_at "go"
      refine .inl ⟨_, rfl, ?_⟩
      walk_at "go"
      refine rd_I (by omega) ?_
      walk_at "go"
      refine rd_ixL (SqL.of e1) (atI_nat (j := 0) rfl) ?_
      walk_at "go"
      refine rd_I ⟨by omega, by omega⟩ ?_
      walk_at "go"
      refine ⟨st, _, 0, 0, rfl, rfl, e1, rfl, ?_⟩
      walk_at "go"
      obtain ⟨n, hn, en⟩ := hmod x
      rw [en]
      exact q n _ hn (but_upd b1) ⟨_, _, _, ns, upd_same, by rw [upd_ne h4]; exact e2, hk, h4⟩
  refine ⟨_, (pss_cons (ps_if (PW.pt (pw_and (pt_cmpR op_lt (pe_ix ix_list (pv 0) pe_int (fun _ _ => rfl)) (pv 1) (nomark _)) (pw_and1 (pt_cmpR op_lt (pe_ix ix_list (pv 0) pe_int (fun _ _ => rfl)) (pe_callB call_len_seq (by rfl) B.m_len PySem.boot_len (pa_cons (pe_ix ix_list (pv 0) pe_int (fun _ _ => rfl)) pa_nil)) (nomark _))))) (pss_cons (ps_asg (pe_kn k_l_number (hr.mono (by omega)) (pa_cons (pe_ix ix_list (pe_ix ix_list (pv 0) pe_int (fun _ _ => rfl)) (pe_ix ix_list (pv 0) pe_int (fun _ _ => rfl)) (fun _ _ => rfl)) pa_nil)) (pg_sub (pv 0) pe_int set_list))
      (pss_one (ps_asg (pe_op op_add (pe_ix ix_list (pv 0) pe_int (fun _ _ => rfl)) pe_int) (pg_sub (pv 0) pe_int set_list)))) pss_nil)
      (pss_cons (ps_if (pt_cmpR op_eq (pe_ix ix_list (pv 0) pe_int (fun _ _ => rfl)) pe_int (nomark _)) (pss_cons (ps_asg (pe_op op_mod (pe_callTy call_int1 (by rfl) B.m_int (by decide +kernel) (pa_cons (pe_op op_add (pe_op op_mul (pe_ix ix_list (pv 0) pe_int (fun _ _ => rfl)) pe_int) pe_int) pa_nil)) pe_int) (pg_sub (pv 0) pe_int set_list))
      (pss_one (ps_ret (pe_op op_mod (pe_callTy call_int1 (by rfl) B.m_int (by decide +kernel) (pa_cons (pe_op op_fdiv (pe_ix ix_list (pv 0) pe_int (fun _ _ => rfl)) pe_int) pa_nil)) (pv 1))))) pss_nil)
      (pss_cons (ps_set (i := 2) sc_l_draw.nd rfl (.inl rfl) (pe_op op_mod (pe_callTy call_int1 (by rfl) B.m_int (by decide +kernel) (pa_cons (pe_ix ix_list (pv 0) pe_int (fun _ _ => rfl)) pa_nil)) (pv 1)))
      (pss_cons (ps_asg (pe_op op_fdiv (pe_ix ix_list (pv 0) pe_int (fun _ _ => rfl)) (pv 1)) (pg_sub (pv 0) pe_int set_list))
      (pss_one (ps_ret (pv 2))))))), ?_⟩
  walk_at "go"
  refine rd_ixL (SqL.of h1) (atI_nat (j := 0) rfl) ?_
  walk_at "go"
  refine ite2 (fun _ => ?_) (fun _ => ?_)
  · walk_at "go"
    refine rd_ixL (SqL.of h1) (atI_nat (j := 2) rfl) ?_
    walk_at "go"
    refine rd_ixL (SqL.of h1) (atI_nat (j := 1) rfl) ?_
    walk_at "go"
    refine ⟨scr, _, rfl, .inl (SqL.of h2), ?_⟩
    walk_at "go"
    refine ite2 (fun hlt => ?_) (fun _ => ?_)
    · have hlt := of_decide_eq_true hlt
      rw [List.length_map] at hlt
      walk_at "go"
      refine rd_ixL (SqL.of h1) (atI_nat (j := 1) rfl) ?_
      walk_at "go"
      refine rd_ixL (SqL.of h1) (atI_nat (j := 2) rfl) ?_
      obtain ⟨j, rfl⟩ : ∃ j : Nat, k = (j : Int) := ⟨k.toNat, by omega⟩
      have hj : j < ns.length := by omega
      refine rd_ixL (v := .int ns[j]) (SqL.of h2) (atI_nat (by rw [List.getElem?_map, List.getElem?_eq_getElem hj]; rfl)) ?_
      walk_at "go"
      refine ⟨_, rfl, fun n => ?_⟩
      walk_at "go"
      refine ⟨st, _, 0, 0, rfl, rfl, h1, rfl, ?_⟩
      walk_at "go"
      refine rd_ixL (SqL.of upd_same) (atI_nat (j := 2) rfl) ?_
      walk_at "go"
      refine ⟨st, _, 2, 2, rfl, rfl, upd_same, rfl, ?_⟩
      rw [upd_upd]
      exact fin _ _ _ _ (but_upd (But.refl st H)) upd_same (by rw [upd_ne h4]; exact h2) (by omega)
    · exact fin _ _ _ _ (But.refl st H) h1 h2 h3
  · exact fin _ _ _ _ (But.refl st H) h1 h2 h3
end
end K18
set_option Elab.async false
set_option linter.all false
set_option maxRecDepth 100000
set_option maxHeartbeats 4000000
/-! word, names, operations, leaf, term. -/
namespace K18
open PySem PySem.Spec L2
local macro_rules | `(tactic| walk_at "go1") => `(tactic| with_reducible first
  | refine rd_seq ?_ | refine rd_ifS ?_ | refine rd_asg ?_ | refine rd_name ?_ | refine rd_ret ?_ | refine rd_drop ?_ | refine rd_next ?_ | refine rd_retN ?_
  | refine rd_c ?_ | refine rd_op ?_ | refine rd_un ?_ | refine rd_U ?_ | refine rd_I0 ?_ | refine rd_eqI ?_ | refine rd_neI ?_ | refine rd_eqS ?_ | refine rd_neS ?_
  | refine rd_nil ?_ | refine rd_cons ?_ | refine rd_call ?_ | refine rd_cb ?_ | refine rd_bm ?_ | refine rd_tup ?_ | refine rd_lst ?_ | refine rd_sl ?_ | refine rd_part ?_ | refine rd_nopart ?_
  | refine rd_exI ?_ | refine rd_exB ?_ | refine rd_exR ?_ | refine rd_test ?_ | refine rd_B ?_ | refine rd_and ?_ | refine rd_or ?_ | refine rd_not ?_ | refine rd_andV ?_ | refine rd_orV ?_ | refine rd_notV ?_ | refine rd_ifE ?_ | refine rd_chain ?_
  | refine rd_dget2 ?_ | refine rd_dnotin ?_ | refine rd_gcons ?_ | refine rd_gnil ?_ | refine rd_gsub ?_ | refine rd_ipI ?_ | refine rd_par ?_ | refine rd_for ?_ | refine rd_iList ?_ | refine rd_iTup ?_ | refine rd_iRng1 ?_ | refine rd_iRng2 ?_
  | refine rd_iRev ?_ | refine rd_iEnum ?_ | refine rd_dput ?_ | refine rd_nx ?_ | refine rd_rt ?_ | refine rd_yes ?_ | refine rd_dc ?_ | refine rd_lc ?_ | refine rd_iItems ?_ | refine rd_iVals ?_ | refine rd_iRng3 ?_ | refine rd_m1 ?_)
local macro_rules | `(tactic| walk_at "go") => `(tactic| repeat (first | walk_at "go1" | ((with_reducible refine' rd_var ?h1 ?_); (case h1 => exact rfl)) | ((with_reducible refine' rd_aug ?h1 ?_); (case h1 => exact rfl))))

def szB : Nat → Nat
  | 0 => 1
  | h + 1 => 1 + 3 * szB h
/-- a drawn term of that height -/
structure Drw (h : Nat) (t : Tm) : Prop where
  dp : dep t ≤ h + 1
  sz : siz t ≤ szB h
  nm : Nam t
  vr : Vr t
theorem Drw.app {h : Nat} {f : Str} {as : List Tm} (hf : Nm f) (hl : as.length ≤ 3) (ha : ∀ a ∈ as, Drw h a) : Drw (h + 1) (.app f as) := by
  refine ⟨?_, ?_, ⟨hf, namL_iff.mpr fun a m => (ha a m).nm⟩, fun i o => ?_⟩
  · have := depL_le fun a m => (ha a m).dp
    show depL as + 1 ≤ h + 1 + 1
    omega
  · have : ∀ l : List Tm, (∀ a ∈ l, siz a ≤ szB h) → sizL l ≤ l.length * szB h := by
      intro l
      induction l with
      | nil => intro _; exact Nat.zero_le _
      | cons a r ih =>
        intro hl
        show siz a + sizL r ≤ (r.length + 1) * szB h
        have h1 := hl a List.mem_cons_self
        have h2 := ih fun b hb => hl b (List.mem_cons_of_mem _ hb)
        rw [Nat.add_mul]
        omega
    have h1 := this as fun a m => (ha a m).sz
    have h2 : as.length * szB h ≤ 3 * szB h := Nat.mul_le_mul_right _ hl
    show sizL as + 1 ≤ 1 + 3 * szB h
    omega
  · obtain ⟨a, m, o⟩ := occL_iff.mp (show OccL i as from o)
    exact (ha a m).vr i o
theorem Drw.leaf {f : Str} (hf : Nm f) (h : Nat) : Drw h (.app f []) := by
  refine ⟨?_, ?_, ⟨hf, trivial⟩, fun i o => o.elim⟩
  · show 0 + 1 ≤ h + 1
    omega
  · show 0 + 1 ≤ szB h
    cases h with
    | zero => exact Nat.le_refl _
    | succ h => show 0 + 1 ≤ 1 + _; omega
theorem Drw.var {i : Int} (h0 : 0 ≤ i) (h9 : i < 9) (h : Nat) : Drw h (.var i) := by
  refine ⟨?_, ?_, trivial, fun j o => ?_⟩
  · show 1 ≤ h + 1
    omega
  · show 1 ≤ szB h
    cases h with
    | zero => exact Nat.le_refl _
    | succ h => show 1 ≤ 1 + _; omega
  · rw [show j = i from o]
    exact ⟨h0, h9⟩
def OpsAt (H : Hp) (L : Addr) : Prop := ∃ as : List Addr, H L = some (.lst (as.map V.ref)) ∧ 4 ≤ as.length ∧ as.length ≤ 5 ∧ ∀ a ∈ as, ∃ (f : Str) (ar : Nat), H a = some (.tup [.str f, .int (ar : Int)]) ∧ Nm f ∧ ar ≤ 3
theorem OpsAt.kp {H H' : Hp} (k : Kp H H') {L : Addr} : OpsAt H L → OpsAt H' L := fun ⟨as, h, h1, h2, h3⟩ => ⟨as, k _ _ (by cases as <;> trivial) h, h1, h2, fun a ha => by
  obtain ⟨f, ar, e, r⟩ := h3 a ha
  exact ⟨f, ar, k.tup e, r⟩⟩
section
variable {P : Program} {w : World} {K : PySem.W.Frag} {mg : Str → Option Value} {base : Heap}
abbrev s_l_word : Stmt := top 28
theorem sc_l_word : FnScope ["_law_state_here", "_law_many", "_law_letters", "_law_k"] ["_law_state_here", "_law_many"] (defScope s_l_word) := ⟨rfl, rfl, rfl, by decide +kernel, rfl, by decide +kernel, by decide +kernel⟩
def sp_word : Sp := fun vs H Q _ => ∃ (st scr : Addr) (m : Nat), vs = [.ref st, .int (m : Int)] ∧ StOk H st scr ∧ m ≤ 100 ∧ ∀ (z : Str) H', z.length = m → Chr z → But st H H' → StOk H' st scr → Q (.str z) H'
theorem sum_ones {ys : List Str} (h : ∀ y ∈ ys, y.length = 1) : (ys.map (·.length)).sum = ys.length := by
  induction ys with
  | nil => rfl
  | cons y r ih =>
    rw [List.map_cons, List.sum_cons, ih fun z hz => h z (List.mem_cons_of_mem _ hz), h y List.mem_cons_self, List.length_cons]
    omega
theorem letters_len : (Str.ofString "abcdefghijklmnopqrstuvwxyz").cps.toList.length = 26 := by decide +kernel
theorem letters_len2 : (Str.ofString "abcdefghijklmnopqrstuvwxyz").length = 26 := by decide +kernel
theorem letters_chr : Chr (Str.ofString "abcdefghijklmnopqrstuvwxyz") := by
  have h : (Str.ofString "abcdefghijklmnopqrstuvwxyz").cps.toList.all (fun c => decide (c < 4294967296)) = true := by decide +kernel
  intro c hc
  exact of_decide_eq_true (List.all_eq_true.mp h c hc)
/-- a letter by its number -/
theorem rd_letter {H : Hp} {Q : VK} {n : Nat} (hn : n < 26) (q : ∀ z : Str, z.length = 1 → Chr z → Q (.str z) H) : rIxS (.str (Str.ofString "abcdefghijklmnopqrstuvwxyz")) (.int (n : Int)) H Q := by
  have hlt : n < (Str.ofString "abcdefghijklmnopqrstuvwxyz").cps.toList.length := by
    rw [letters_len]
    exact hn
  exact ⟨_, _, _, rfl, rfl, (by rw [letters_len2, sizeLine_eq]; omega), atI_nat (List.getElem?_eq_getElem hlt), q _ rfl fun c hc => by
    have hc : c ∈ [(Str.ofString "abcdefghijklmnopqrstuvwxyz").cps.toList[n]] := hc
    rw [List.mem_singleton.mp hc]
    exact letters_chr _ (List.getElem_mem hlt)⟩
theorem ok_l_word (B : Bi mg) (F : De K mg "_law_word" s_l_word ["_law_state_here", "_law_many"]) (k_l_draw : Kn P w K mg base CX0 3 "_law_draw" ["_law_state_here", "_law_many"] sp_draw) : Kn P w K mg base CX0 4 "_law_word" ["_law_state_here", "_law_many"] sp_word := by
  refine F.ok sc_l_word (fun vs H Q E h => ?_) (fun f cdv A outer s H vs Q E hr h => ?_)
  · obtain ⟨st, scr, m, rfl, _⟩ := h
    rfl
  obtain ⟨st, scr, m, rfl, hst, hm, q⟩ := h
  refine ⟨_, (pss_cons (ps_set (i := 2) sc_l_word.nd rfl (.inr rfl) pe_str)
      (pss_one (ps_ret (pe_join pe_str (pe_lc (own := [("_law_k", 3)]) (g := gName 3) rfl sc_l_word.nd  (pi_range1 rfl B.m_range (pa_cons (pv 1) pa_nil)) (blkOk_by (N := ["_law_state_here", "_law_many", "_law_letters", "_law_k"]) (sc := defScope s_l_word) (by decide +kernel)) (fun _ _ _ _ _ => pg_name (i := 3) sc_l_word.nd rfl (Or.inl rfl) (Or.inr rfl)) (fun _ _ _ _ _ => pts_nil) (fun _ _ _ _ _ => (pe_ix ix_str (pv 2) (pe_kn k_l_draw (hr.mono (by omega)) (pa_cons (pv 0) (pa_cons pe_int pa_nil))) (fun _ _ => rfl)))))))), ?_⟩
  walk_at "go"
  refine ⟨⟨_, rfl⟩, ?_⟩
  walk_at "go"
  refine ⟨_, rfl, by omega, by omega, fun D hD => ?_⟩
  rw [Int.toNat_natCast]
  have nD := stok_ne hst hD
  have nD2 := stok_ne2 hst hD
  refine lc_range (fun i H' => ∃ ys : List Str, But st H H' ∧ StOk H' st scr ∧ H' D = some (.lst (ys.map V.str)) ∧ ys.length = i ∧ ∀ y ∈ ys, y.length = 1 ∧ Chr y) ⟨[], but_of (same_new hD), stok_upd hst nD nD2, upd_same, rfl, fun y hy => (nomatch hy)⟩ ?_ ?_
  · rintro i H' hi ⟨ys, b, hs, eD, hl, h1⟩
    walk_at "go"
    refine ⟨rfl, ?_⟩
    walk_at "go"
    refine iteT ?_
    walk_at "go"
    refine ⟨st, scr, 26, rfl, hs, by decide, by decide, fun n H2 hn b2 hs2 => ?_⟩
    refine rd_letter hn fun z hz hzc => ?_
    have eD2 := b2 _ _ nD eD
    refine ⟨_, eD2, by rw [List.length_map, sizeLine_eq]; omega, ys ++ [z], but_mut (b.trans b2) hD, stok_upd hs2 nD nD2, ?_, ?_, ?_⟩
    · rw [upd_same, List.map_append]
      rfl
    · rw [List.length_append, hl]
      rfl
    · intro y hy
      rcases List.mem_append.mp hy with z | z
      · exact h1 y z
      · rw [List.mem_singleton.mp z]
        exact ⟨hz, hzc⟩
  · rintro H' ⟨ys, b, hs, eD, hl, h1'⟩
    have h1 : ∀ y ∈ ys, y.length = 1 := fun y hy => (h1' y hy).1
    refine ⟨_, D, ys, rfl, rfl, .inl (SqL.of eD), ?_, ?_⟩
    · rw [sum_ones h1, hl]
      show m + m * 0 ≤ 16777216
      omega
    · refine q _ H' ?_ (show Chr (PySem.Builtin.Str.glued (Str.ofString "") ys) from by
        rw [StrLaws.glued_eq_join]
        exact chr_join (fun c hc => by cases (show c ∈ ([] : List Nat) from hc)) fun y hy => (h1' y hy).2) b hs
      have e := size_glued (Str.ofString "") ys
      rw [sum_ones h1, hl] at e
      exact e
abbrev s_l_names : Stmt := top 29
theorem sc_l_names : FnScope ["_law_state_here", "_law_count", "_law_letters", "_law_before", "_law_behind", "_law_first", "_law_k"] ["_law_state_here", "_law_count"] (defScope s_l_names) := ⟨rfl, rfl, rfl, by decide +kernel, rfl, by decide +kernel, by decide +kernel⟩
def sp_names : Sp := fun vs H Q _ => ∃ (st scr : Addr), vs = [.ref st, .int 5] ∧ StOk H st scr ∧ ∀ (L : Addr) (zs : List Str) H', zs.length = 5 → (∀ z ∈ zs, Nm z) → But st H H' → StOk H' st scr → H' L = some (.lst (zs.map V.str)) → Q (.ref L) H'
theorem ok_l_names (B : Bi mg) (F : De K mg "_law_names" s_l_names ["_law_state_here", "_law_count"]) (k_l_draw : Kn P w K mg base CX0 3 "_law_draw" ["_law_state_here", "_law_many"] sp_draw) (k_l_word : Kn P w K mg base CX0 4 "_law_word" ["_law_state_here", "_law_many"] sp_word) : Kn P w K mg base CX0 5 "_law_names" ["_law_state_here", "_law_count"] sp_names := by
  refine F.ok sc_l_names (fun vs H Q E h => ?_) (fun f cdv A outer s H vs Q E hr h => ?_)
  · obtain ⟨st, scr, rfl, _⟩ := h
    rfl
  obtain ⟨st, scr, rfl, hst, q⟩ := h
  refine ⟨_, (pss_cons (ps_set (i := 2) sc_l_names.nd rfl (.inr rfl) pe_str)
      (pss_cons (ps_set (i := 3) sc_l_names.nd rfl (.inr rfl) (pe_kn k_l_word (hr.mono (by omega)) (pa_cons (pv 0) (pa_cons (pe_kn k_l_draw (hr.mono (by omega)) (pa_cons (pv 0) (pa_cons pe_int pa_nil))) pa_nil))))
      (pss_cons (ps_set (i := 4) sc_l_names.nd rfl (.inr rfl) (pe_kn k_l_word (hr.mono (by omega)) (pa_cons (pv 0) (pa_cons (pe_kn k_l_draw (hr.mono (by omega)) (pa_cons (pv 0) (pa_cons pe_int pa_nil))) pa_nil))))
      (pss_cons (ps_set (i := 5) sc_l_names.nd rfl (.inr rfl) (pe_kn k_l_draw (hr.mono (by omega)) (pa_cons (pv 0) (pa_cons pe_int pa_nil))))
      (pss_one (ps_ret (pe_lc (own := [("_law_k", 6)]) (g := gName 6) rfl sc_l_names.nd  (pi_range1 rfl B.m_range (pa_cons (pv 1) pa_nil)) (blkOk_by (N := ["_law_state_here", "_law_count", "_law_letters", "_law_before", "_law_behind", "_law_first", "_law_k"]) (sc := defScope s_l_names) (by decide +kernel)) (fun _ _ _ _ _ => pg_name (i := 6) sc_l_names.nd rfl (Or.inl rfl) (Or.inr rfl)) (fun _ _ _ _ _ => pts_nil) (fun _ _ _ _ _ => (pe_op op_add_str (pe_op op_add_str (pv 3) (pe_ix ix_str (pv 2) (pe_op op_mod (pe_callTy call_int1 (by rfl) B.m_int (by decide +kernel) (pa_cons (pe_op op_add (pv 5) (pe_op op_mul pe_int (pv 6))) pa_nil)) pe_int) (fun _ _ => rfl))) (pv 4)))))))))), ?_⟩
  walk_at "go"
  refine ⟨st, scr, 4, rfl, hst, by decide, by decide, fun n1 H1 hn1 b1 s1 => ?_⟩
  refine ⟨st, scr, n1, rfl, s1, by omega, fun z1 H2 hz1 hc1 b2 s2 => ?_⟩
  walk_at "go"
  refine ⟨st, scr, 4, rfl, s2, by decide, by decide, fun n2 H3 hn2 b3 s3 => ?_⟩
  refine ⟨st, scr, n2, rfl, s3, by omega, fun z2 H4 hz2 hc2 b4 s4 => ?_⟩
  walk_at "go"
  refine ⟨st, scr, 26, rfl, s4, by decide, by decide, fun n3 H5 hn3 b5 s5 => ?_⟩
  walk_at "go"
  have b := (((b1.trans b2).trans b3).trans b4).trans b5
  refine ⟨_, rfl, by decide, by decide, fun D hD => ?_⟩
  have nD := stok_ne s5 hD
  have nD2 := stok_ne2 s5 hD
  refine lc_range (fun i H' => ∃ ys : List Str, Same H5 H' ∧ H' D = some (.lst (ys.map V.str)) ∧ ys.length = i ∧ ∀ y ∈ ys, Nm y) ⟨[], same_new hD, upd_same, rfl, fun y hy => (nomatch hy)⟩ ?_ ?_
  · rintro i H' hi ⟨ys, sm, eD, hl, h1⟩
    have hi : i < 5 := hi
    walk_at "go"
    refine ⟨rfl, ?_⟩
    walk_at "go"
    refine iteT ?_
    walk_at "go"
    refine rd_I (.inl ⟨by decide, by decide⟩) ?_
    walk_at "go"
    refine .inl ⟨_, rfl, ?_⟩
    walk_at "go"
    refine rd_I (by decide) ?_
    obtain ⟨m, hm, em⟩ : ∃ m : Nat, m < 26 ∧ ((n3 : Int) + 3 * (0 + (i : Int))) % 26 = (m : Int) := ⟨(((n3 : Int) + 3 * (0 + (i : Int))) % 26).toNat, by omega, by omega⟩
    rw [em]
    refine rd_letter hm fun z hz hzc => ?_
    refine ⟨_, _, rfl, rfl, by rw [hz1, hz, sizeLine_eq]; omega, ?_⟩
    walk_at "go"
    refine ⟨_, _, rfl, rfl, by rw [strLen_append, hz1, hz, hz2, sizeLine_eq]; omega, ?_⟩
    refine ⟨_, eD, by rw [List.length_map, sizeLine_eq]; omega, ys ++ [z1 ++ z ++ z2], same_mut sm hD, ?_, ?_, ?_⟩
    · rw [upd_same, List.map_append]
      rfl
    · rw [List.length_append, hl]
      rfl
    · intro y hy
      rcases List.mem_append.mp hy with z | z
      · exact h1 y z
      · rw [List.mem_singleton.mp z]
        exact ⟨by rw [strLen_append, strLen_append]; omega, chr_app (chr_app hc1 (by assumption)) hc2⟩
  · rintro H' ⟨ys, sm, eD, hl, h1⟩
    exact q D ys H' hl h1 (b.trans (but_of sm)) (stok_sm sm s5) eD
abbrev s_l_operations : Stmt := top 30
theorem sc_l_operations : FnScope ["_law_state_here", "_law_names_here", "_law_arities", "_law_k"] ["_law_state_here"] (defScope s_l_operations) := ⟨rfl, rfl, rfl, by decide +kernel, rfl, by decide +kernel, by decide +kernel⟩
def sp_ops : Sp := fun vs H Q _ => ∃ (st scr : Addr), vs = [.ref st] ∧ StOk H st scr ∧ ∀ (L : Addr) H', But st H H' → StOk H' st scr → OpsAt H' L → Q (.ref L) H'
theorem ok_l_operations (B : Bi mg) (F : De K mg "_law_operations" s_l_operations ["_law_state_here"]) (k_l_draw : Kn P w K mg base CX0 3 "_law_draw" ["_law_state_here", "_law_many"] sp_draw) (k_l_names : Kn P w K mg base CX0 5 "_law_names" ["_law_state_here", "_law_count"] sp_names) : Kn P w K mg base CX0 6 "_law_operations" ["_law_state_here"] sp_ops := by
  refine F.ok sc_l_operations (fun vs H Q E h => ?_) (fun f cdv A outer s H vs Q E hr h => ?_)
  · obtain ⟨st, scr, rfl, _⟩ := h
    rfl
  obtain ⟨st, scr, rfl, hst, q⟩ := h
  refine ⟨_, (pss_cons (ps_set (i := 1) sc_l_operations.nd rfl (.inr rfl) (pe_kn k_l_names (hr.mono (by omega)) (pa_cons (pv 0) (pa_cons pe_int pa_nil))))
      (pss_cons (ps_set (i := 2) sc_l_operations.nd rfl (.inr rfl) (pe_lst (pa_cons pe_int (pa_cons pe_int (pa_cons pe_int (pa_cons pe_int (pa_cons pe_int pa_nil)))))))
      (pss_one (ps_ret (pe_lc (own := [("_law_k", 3)]) (g := gName 3) rfl sc_l_operations.nd  (pi_range1 rfl B.m_range (pa_cons (pe_op op_add pe_int (pe_kn k_l_draw (hr.mono (by omega)) (pa_cons (pv 0) (pa_cons pe_int pa_nil)))) pa_nil)) (blkOk_by (N := ["_law_state_here", "_law_names_here", "_law_arities", "_law_k"]) (sc := defScope s_l_operations) (by decide +kernel)) (fun _ _ _ _ _ => pg_name (i := 3) sc_l_operations.nd rfl (Or.inl rfl) (Or.inr rfl)) (fun _ _ _ _ _ => pts_nil) (fun _ _ _ _ _ => (pe_tup (pa_cons (pe_ix (ixlK (K := K) rfl) (pv 1) (pv 3) (fun _ _ => rfl)) (pa_cons (pe_ix (ixlK (K := K) rfl) (pv 2) (pv 3) (fun _ _ => rfl)) pa_nil))))))))), ?_⟩
  walk_at "go"
  refine ⟨st, scr, rfl, hst, fun N zs H1 hzl hz b1 s1 eN => ?_⟩
  walk_at "go"
  refine ⟨by show 5 ≤ sizeLine; decide, fun A1 hA1 => ?_⟩
  have sm1 := same_new (o := .lst [.int 0, .int 0, .int 1, .int 2, .int 3]) hA1
  walk_at "go"
  refine ⟨st, scr, 2, rfl, stok_sm sm1 s1, by decide, by decide, fun d H2 hd b2 s2 => ?_⟩
  walk_at "go"
  refine ⟨_, rfl, by omega, by omega, fun D hD => ?_⟩
  have nN : N ≠ st := by
    obtain ⟨x, k, y, ns, g1, _⟩ := s1
    refine ne_of eN g1 fun z => ?_
    have z := HO.lst.inj z
    cases zs with
    | nil => cases z
    | cons a r => cases z
  have nA : A1 ≠ st := stok_ne s1 hA1
  have eN2 := b2 _ _ nN (sm1 _ _ eN)
  have eA2 := b2 _ _ nA (upd_same (H := H1) (a := A1) (o := .lst [.int 0, .int 0, .int 1, .int 2, .int 3]))
  have bb := (b1.trans (but_of sm1)).trans b2
  have ed : (4 + (d : Int)).toNat = 4 + d := by omega
  rw [ed]
  refine lc_range (fun i H' => ∃ as : List Addr, Same H2 H' ∧ H' D = some (.lst (as.map V.ref)) ∧ as.length = i ∧ ∀ a ∈ as, ∃ (f : Str) (ar : Nat), H' a = some (.tup [.str f, .int (ar : Int)]) ∧ Nm f ∧ ar ≤ 3) ⟨[], same_new hD, upd_same, rfl, fun y hy => (nomatch hy)⟩ ?_ ?_
  · rintro i H' hi ⟨as, sm, eD, hl, h1⟩
    have hi5 : i < 5 := by omega
    walk_at "go"
    refine ⟨rfl, ?_⟩
    walk_at "go"
    refine iteT ?_
    walk_at "go"
    have ez : (0 : Int) + (i : Int) = (i : Int) := Int.zero_add _
    rw [ez]
    obtain ⟨z, hzi⟩ : ∃ z, zs[i]? = some z := ⟨_, List.getElem?_eq_getElem (by omega)⟩
    refine rd_ixL (v := .str z) (SqL.of (sm _ _ eN2)) (atI_nat (by rw [List.getElem?_map, hzi]; rfl)) ?_
    walk_at "go"
    obtain ⟨ar, har, hai⟩ : ∃ ar : Nat, ar ≤ 3 ∧ ([.int 0, .int 0, .int 1, .int 2, .int 3] : List V)[i]? = some (.int (ar : Int)) := by
      match i, hi5 with
      | 0, _ => exact ⟨0, by decide, rfl⟩
      | 1, _ => exact ⟨0, by decide, rfl⟩
      | 2, _ => exact ⟨1, by decide, rfl⟩
      | 3, _ => exact ⟨2, by decide, rfl⟩
      | 4, _ => exact ⟨3, by decide, rfl⟩
    refine rd_ixL (SqL.of (sm _ _ eA2)) (atI_nat hai) ?_
    walk_at "go"
    refine ⟨by show 2 ≤ sizeLine; decide, fun T hT => ?_⟩
    have s3 := same_new (o := .tup [.str z, .int (ar : Int)]) hT
    have eD3 := s3 _ _ eD
    have k4 : Tk (upd H' T (.tup [.str z, .int (ar : Int)])) (upd (upd H' T (.tup [.str z, .int (ar : Int)])) D (.lst (as.map V.ref ++ [.ref T]))) := (kd_lst eD3).tk
    refine ⟨_, eD3, by rw [List.length_map, sizeLine_eq]; omega, as ++ [T], same_mut (sm.trans s3) hD, ?_, ?_, ?_⟩
    · rw [upd_same, List.map_append]
      rfl
    · rw [List.length_append, hl]
      rfl
    · intro a ha
      rcases List.mem_append.mp ha with m | m
      · obtain ⟨f, ar, e, r⟩ := h1 a m
        exact ⟨f, ar, k4 _ _ (s3 _ _ e), r⟩
      · rw [List.mem_singleton.mp m]
        exact ⟨z, ar, k4 _ _ upd_same, hz z (List.mem_of_getElem? hzi), har⟩
  · rintro H' ⟨as, sm, eD, hl, h1⟩
    exact q D H' (bb.trans (but_of sm)) (stok_sm sm s2) ⟨as, eD, by omega, by omega, h1⟩
abbrev s_l_leaf : Stmt := top 31
theorem sc_l_leaf : FnScope ["_law_state_here", "_law_operations_here", "_law_count"] ["_law_state_here", "_law_operations_here", "_law_count"] (defScope s_l_leaf) := ⟨rfl, rfl, rfl, by decide +kernel, rfl, by decide +kernel, by decide +kernel⟩
def sp_leaf : Sp := fun vs H Q _ => ∃ (st scr L : Addr), vs = [.ref st, .ref L, .int 9] ∧ StOk H st scr ∧ OpsAt H L ∧ ∀ (t : Tm) v H', Drw 0 t → At H' t v → But st H H' → StOk H' st scr → Q v H'
theorem ok_l_leaf (B : Bi mg) (F : De K mg "_law_leaf" s_l_leaf ["_law_state_here", "_law_operations_here", "_law_count"]) (k_l_draw : Kn P w K mg base CX0 3 "_law_draw" ["_law_state_here", "_law_many"] sp_draw) : Kn P w K mg base CX0 4 "_law_leaf" ["_law_state_here", "_law_operations_here", "_law_count"] sp_leaf := by
  refine F.ok sc_l_leaf (fun vs H Q E h => ?_) (fun f cdv A outer s H vs Q E hr h => ?_)
  · obtain ⟨st, scr, L, rfl, _⟩ := h
    rfl
  obtain ⟨st, scr, L, rfl, hst, hops, q⟩ := h
  refine ⟨_, (pss_cons (ps_if (PW.pt (pw_and (pt_cmpR op_gt (pv 2) pe_int (nomark _)) (pw_and1 (pt_cmpR op_eq (pe_kn k_l_draw (hr.mono (by omega)) (pa_cons (pv 0) (pa_cons pe_int pa_nil))) pe_int (nomark _))))) (pss_one (ps_ret (pe_kn k_l_draw (hr.mono (by omega)) (pa_cons (pv 0) (pa_cons (pv 2) pa_nil))))) pss_nil)
      (pss_one (ps_ret (pe_tup (pa_cons (pe_ix ix_tup (pe_ix ix_list (pv 1) (pe_kn k_l_draw (hr.mono (by omega)) (pa_cons (pv 0) (pa_cons pe_int pa_nil))) (fun _ _ => rfl)) pe_int (fun _ _ => rfl)) pa_nil))))), ?_⟩
  walk_at "go"
  refine iteT ?_
  walk_at "go"
  refine ⟨st, scr, 2, rfl, hst, by decide, by decide, fun n H1 hn b1 s1 => ?_⟩
  walk_at "go"
  refine ite2 (fun _ => ?_) (fun _ => ?_)
  · walk_at "go"
    refine ⟨st, scr, 9, rfl, s1, by decide, by decide, fun m H2 hm b2 s2 => ?_⟩
    exact q (.var (m : Int)) _ H2 (Drw.var (by omega) (by omega) 0) rfl (b1.trans b2) s2
  · walk_at "go"
    refine ⟨st, scr, 2, rfl, s1, by decide, by decide, fun m H2 hm b2 s2 => ?_⟩
    obtain ⟨as, eL, h4, h5, hop⟩ := hops.kp ((b1.trans b2).kp hst)
    have hm4 : m < as.length := by omega
    obtain ⟨f, ar, ea, hf, har⟩ := hop _ (List.getElem_mem hm4)
    refine rd_ixL (v := .ref as[m]) (SqL.of eL) (atI_nat (by rw [List.getElem?_map, List.getElem?_eq_getElem hm4]; rfl)) ?_
    walk_at "go"
    refine rd_ixT (SqT.of ea) (atI_nat (j := 0) rfl) ?_
    walk_at "go"
    refine ⟨by show 1 ≤ sizeLine; decide, fun p hp => ?_⟩
    have s3 := same_new (o := .tup [.str f]) hp
    exact q (.app f []) _ _ (Drw.leaf hf 0) ⟨p, [], rfl, upd_same, rfl⟩ ((b1.trans b2).trans (but_of s3)) (stok_sm s3 s2)
abbrev s_l_term : Stmt := top 32
theorem sc_l_term : FnScope ["_law_state_here", "_law_operations_here", "_law_count", "_law_height", "_law_name", "_law_arity", "_law_term_here", "_law_k"] ["_law_state_here", "_law_operations_here", "_law_count", "_law_height"] (defScope s_l_term) := ⟨rfl, rfl, rfl, by decide +kernel, rfl, by decide +kernel, by decide +kernel⟩
def sp_term (h : Nat) : Sp := fun vs H Q _ => ∃ (st scr L : Addr), vs = [.ref st, .ref L, .int 9, .int (h : Int)] ∧ StOk H st scr ∧ OpsAt H L ∧ ∀ (t : Tm) v H', Drw h t → At H' t v → But st H H' → StOk H' st scr → Q v H'
theorem Drw.up {t : Tm} (d : Drw 0 t) : ∀ h, Drw h t := fun h => ⟨by have := d.dp; omega, by
  have h1 := d.sz
  have h2 : 1 ≤ szB h := by
    cases h with
    | zero => exact Nat.le_refl _
    | succ h => show 1 ≤ 1 + _; omega
  have h3 : szB 0 = 1 := rfl
  omega, d.nm, d.vr⟩
theorem ok_l_term0 (B : Bi mg) (F : De K mg "_law_term" s_l_term ["_law_state_here", "_law_operations_here", "_law_count", "_law_height"]) (k_l_leaf : Kn P w K mg base CX0 4 "_law_leaf" ["_law_state_here", "_law_operations_here", "_law_count"] sp_leaf)
    (k_l_draw : Kn P w K mg base CX0 3 "_law_draw" ["_law_state_here", "_law_many"] sp_draw) (k_l_term : Kn P w K mg base CX0 0 "_law_term" ["_law_state_here", "_law_operations_here", "_law_count", "_law_height"] (fun _ _ _ _ => False)) :
    Kn P w K mg base CX0 5 "_law_term" ["_law_state_here", "_law_operations_here", "_law_count", "_law_height"] (sp_term 0) := by
  refine F.ok sc_l_term (fun vs H Q E h => ?_) (fun f cdv A outer s H vs Q E hr h => ?_)
  · obtain ⟨st, scr, L, rfl, _⟩ := h
    rfl
  obtain ⟨st, scr, L, rfl, hst, hops, q⟩ := h
  refine ⟨_, (pss_cons (ps_if (PW.pt (pw_or (pt_cmpR op_eq (pv 3) pe_int (nomark _)) (pw_or1 (pt_cmpR op_eq (pe_kn k_l_draw (hr.mono (by omega)) (pa_cons (pv 0) (pa_cons pe_int pa_nil))) pe_int (nomark _))))) (pss_one (ps_ret (pe_kn k_l_leaf (hr.mono (by omega)) (pa_cons (pv 0) (pa_cons (pv 1) (pa_cons (pv 2) pa_nil)))))) pss_nil)
      (pss_cons (ps_asg (pe_ix ix_list (pv 1) (pe_op op_add pe_int (pe_kn k_l_draw (hr.mono (by omega)) (pa_cons (pv 0) (pa_cons (pe_op op_sub (pe_callB call_len_seq (by rfl) B.m_len PySem.boot_len (pa_cons (pv 1) pa_nil)) pe_int) pa_nil)))) (fun _ _ => rfl)) (pg_tup rfl (pgs_cons (pg_name (i := 4) sc_l_term.nd rfl (.inl rfl)) (pgs_cons (pg_name (i := 5) sc_l_term.nd rfl (.inl rfl)) pgs_nil))))
      (pss_cons (ps_set (i := 6) sc_l_term.nd rfl (.inl rfl) (pe_tup (pa_cons (pv 4) pa_nil)))
      (pss_cons (ps_for PassesOwn.never rfl (pi_range1 rfl B.m_range (pa_cons (pv 5) pa_nil)) (pg_name (i := 7) sc_l_term.nd rfl (.inl rfl)) (pss_one (ps_set (i := 6) sc_l_term.nd rfl (.inl rfl) (pe_op op_catA (pv 6) (pe_tup (pa_cons (pe_kn k_l_term (hr.mono (by omega)) (pa_cons (pv 0) (pa_cons (pv 1) (pa_cons (pv 2) (pa_cons (pe_op op_sub (pv 3) pe_int) pa_nil))))) pa_nil))))))
      (pss_one (ps_ret (pv 6))))))), ?_⟩
  walk_at "go"
  refine iteT (iteT ?_)
  walk_at "go"
  exact ⟨st, scr, L, rfl, hst, hops, q⟩
theorem ok_l_term1 (B : Bi mg) {h : Nat} (F : De K mg "_law_term" s_l_term ["_law_state_here", "_law_operations_here", "_law_count", "_law_height"]) (k_l_leaf : Kn P w K mg base CX0 4 "_law_leaf" ["_law_state_here", "_law_operations_here", "_law_count"] sp_leaf)
    (k_l_draw : Kn P w K mg base CX0 3 "_law_draw" ["_law_state_here", "_law_many"] sp_draw) (k_l_term : Kn P w K mg base CX0 (h + 5) "_law_term" ["_law_state_here", "_law_operations_here", "_law_count", "_law_height"] (sp_term h)) :
    Kn P w K mg base CX0 (h + 6) "_law_term" ["_law_state_here", "_law_operations_here", "_law_count", "_law_height"] (sp_term (h + 1)) := by
  refine F.ok sc_l_term (fun vs H Q E h => ?_) (fun f cdv A outer s H vs Q E hr hh => ?_)
  · obtain ⟨st, scr, L, rfl, _⟩ := h
    rfl
  obtain ⟨st, scr, L, rfl, hst, hops, q⟩ := hh
  refine ⟨_, (pss_cons (ps_if (PW.pt (pw_or (pt_cmpR op_eq (pv 3) pe_int (nomark _)) (pw_or1 (pt_cmpR op_eq (pe_kn k_l_draw (hr.mono (by omega)) (pa_cons (pv 0) (pa_cons pe_int pa_nil))) pe_int (nomark _))))) (pss_one (ps_ret (pe_kn k_l_leaf (hr.mono (by omega)) (pa_cons (pv 0) (pa_cons (pv 1) (pa_cons (pv 2) pa_nil)))))) pss_nil)
      (pss_cons (ps_asg (pe_ix ix_list (pv 1) (pe_op op_add pe_int (pe_kn k_l_draw (hr.mono (by omega)) (pa_cons (pv 0) (pa_cons (pe_op op_sub (pe_callB call_len_seq (by rfl) B.m_len PySem.boot_len (pa_cons (pv 1) pa_nil)) pe_int) pa_nil)))) (fun _ _ => rfl)) (pg_tup rfl (pgs_cons (pg_name (i := 4) sc_l_term.nd rfl (.inl rfl)) (pgs_cons (pg_name (i := 5) sc_l_term.nd rfl (.inl rfl)) pgs_nil))))
      (pss_cons (ps_set (i := 6) sc_l_term.nd rfl (.inl rfl) (pe_tup (pa_cons (pv 4) pa_nil)))
      (pss_cons (ps_for PassesOwn.never rfl (pi_range1 rfl B.m_range (pa_cons (pv 5) pa_nil)) (pg_name (i := 7) sc_l_term.nd rfl (.inl rfl)) (pss_one (ps_set (i := 6) sc_l_term.nd rfl (.inl rfl) (pe_op op_catA (pv 6) (pe_tup (pa_cons (pe_kn k_l_term (hr.mono (by omega)) (pa_cons (pv 0) (pa_cons (pv 1) (pa_cons (pv 2) (pa_cons (pe_op op_sub (pv 3) pe_int) pa_nil))))) pa_nil))))))
      (pss_one (ps_ret (pv 6))))))), ?_⟩
  walk_at "go"
  rw [decide_eq_false (show ¬ (((h + 1 : Nat) : Int) = 0) by omega)]
  refine iteF ?_
  walk_at "go"
  refine ⟨st, scr, 4, rfl, hst, by decide, by decide, fun n H1 hn b1 s1 => ?_⟩
  walk_at "go"
  refine ite2 (fun _ => ?_) (fun _ => ?_)
  · walk_at "go"
    exact ⟨st, scr, L, rfl, s1, hops.kp (b1.kp hst), fun t v H' d a b s => q t v H' (d.up _) a (b1.trans b) s⟩
  · walk_at "go"
    obtain ⟨as, eL, h4, h5, hop⟩ := hops.kp (b1.kp hst)
    refine ⟨L, _, rfl, .inl (SqL.of eL), ?_⟩
    walk_at "go"
    refine ⟨st, scr, as.length - 2, ?_, s1, by omega, by omega, fun m H2 hm b2 s2 => ?_⟩
    · rw [List.length_map]
      show [V.ref st, V.int ((as.length : Int) - 2)] = [V.ref st, V.int ((as.length - 2 : Nat) : Int)]
      rw [show (as.length : Int) - 2 = ((as.length - 2 : Nat) : Int) by omega]
    walk_at "go"
    have ez : (2 : Int) + (m : Int) = ((2 + m : Nat) : Int) := by omega
    rw [ez]
    obtain ⟨as2, eL2, _, _, hop2⟩ := OpsAt.kp (b2.kp s1) ⟨as, eL, h4, h5, hop⟩
    have b12 := b1.trans b2
    have hops2 : OpsAt H2 L := hops.kp (b12.kp hst)
    clear hop2 eL2
    have eL2 : H2 L = some (.lst (as.map V.ref)) := (b2.kp s1) _ _ (by cases as <;> trivial) eL
    have hm4 : 2 + m < as.length := by omega
    obtain ⟨f, ar, ea, hf, har⟩ := hop _ (List.getElem_mem hm4)
    have ea2 := (b2.kp s1).tup ea
    refine rd_ixL (v := .ref as[2 + m]) (SqL.of eL2) (atI_nat (by rw [List.getElem?_map, List.getElem?_eq_getElem hm4]; rfl)) ?_
    refine rd_gtup (SqT.of ea2) rfl ?_
    walk_at "go"
    refine ⟨by show 1 ≤ sizeLine; decide, fun p hp => ?_⟩
    have s3 := same_new (o := .tup [.str f]) hp
    walk_at "go"
    refine ⟨_, rfl, by omega, by omega, ?_⟩
    rw [Int.toNat_natCast]
    refine for_range (fun i σ H' => ∃ (y : Option V) (a : Addr) (vs : List V) (ts : List Tm), σ = [some (.ref st), some (.ref L), some (.int 9), some (.int ((h + 1 : Nat) : Int)), some (.str f), some (.int (ar : Int)), some (.ref a), y] ∧ But st H H' ∧ StOk H' st scr ∧ OpsAt H' L ∧ H' a = some (.tup (.str f :: vs)) ∧ AtL H' ts vs ∧ ts.length = i ∧ ∀ t ∈ ts, Drw h t)
      ⟨none, p, [], [], rfl, b12.trans (but_of s3), stok_sm s3 s2, hops2.kp (kp_of s3), upd_same, rfl, rfl, fun t ht => (nomatch ht)⟩ ?_ ?_
    · rintro i σ H' hi ⟨y, a, vs, ts, rfl, b, s, ho, ea, hvs, hl, hts⟩
      walk_at "go"
      refine ⟨st, scr, L, ?_, s, ho, fun t v H3 d at3 b3 s3 => ?_⟩
      · show [V.ref st, V.ref L, V.int 9, V.int (((h + 1 : Nat) : Int) - 1)] = _
        rw [show ((h + 1 : Nat) : Int) - 1 = (h : Int) by omega]
      have kp3 := b3.kp s
      refine ⟨by show 1 ≤ sizeLine; decide, fun r hr1 => ?_⟩
      have s4 := same_new (o := .tup [v]) hr1
      refine ⟨a, r, _, _, rfl, rfl, SqT.of (s4 _ _ (kp3.tup ea)), SqT.of upd_same, ?_, fun z => (nomatch z), fun _ z => (nomatch z), fun _ _ p2 hp2 => ?_⟩
      · have := hvs.len
        show vs.length + 1 + 1 ≤ sizeLine
        rw [sizeLine_eq]
        omega
      have s5 := same_new (o := .tup (.str f :: vs ++ [v])) hp2
      have kpA := kp3.trans (kp_of (s4.trans s5))
      walk_at "go"
      refine ⟨_, p2, vs ++ [v], ts ++ [t], rfl, (b.trans b3).trans (but_of (s4.trans s5)), stok_sm (s4.trans s5) s3, ho.kp kpA, upd_same, AtL.snoc (at3.sm (s4.trans s5)) (hvs.kp kpA), by rw [List.length_append, hl]; rfl, fun t' ht' => ?_⟩
      rcases List.mem_append.mp ht' with z | z
      · exact hts t' z
      · rw [List.mem_singleton.mp z]
        exact d
    · rintro σ H' ⟨y, a, vs, ts, rfl, b, s, ho, ea, hvs, hl, hts⟩
      walk_at "go"
      exact q (.app f ts) _ H' (Drw.app hf (by omega) hts) ⟨a, vs, rfl, ea, hvs⟩ b s
theorem ok_l_term (B : Bi mg) (F : De K mg "_law_term" s_l_term ["_law_state_here", "_law_operations_here", "_law_count", "_law_height"]) (k_l_leaf : Kn P w K mg base CX0 4 "_law_leaf" ["_law_state_here", "_law_operations_here", "_law_count"] sp_leaf)
    (k_l_draw : Kn P w K mg base CX0 3 "_law_draw" ["_law_state_here", "_law_many"] sp_draw) : ∀ h, Kn P w K mg base CX0 (h + 5) "_law_term" ["_law_state_here", "_law_operations_here", "_law_count", "_law_height"] (sp_term h)
  | 0 => ok_l_term0 B F k_l_leaf k_l_draw (F.none fun _ _ _ _ z => z)
  | h + 1 => ok_l_term1 B F k_l_leaf k_l_draw (ok_l_term B F k_l_leaf k_l_draw h)
end
end K18
set_option Elab.async false
set_option linter.all false
set_option maxRecDepth 100000
set_option maxHeartbeats 4000000
/-! The law's own subterm, replace, positions, substitute, variables, same. -/
namespace K18
open PySem PySem.Spec L2
local macro_rules | `(tactic| walk_at "go1") => `(tactic| with_reducible first
  | refine rd_seq ?_ | refine rd_ifS ?_ | refine rd_asg ?_ | refine rd_name ?_ | refine rd_ret ?_ | refine rd_drop ?_ | refine rd_next ?_ | refine rd_retN ?_
  | refine rd_c ?_ | refine rd_op ?_ | refine rd_un ?_ | refine rd_U ?_ | refine rd_I0 ?_ | refine rd_eqI ?_ | refine rd_neI ?_ | refine rd_eqS ?_ | refine rd_neS ?_
  | refine rd_nil ?_ | refine rd_cons ?_ | refine rd_call ?_ | refine rd_cb ?_ | refine rd_bm ?_ | refine rd_tup ?_ | refine rd_lst ?_ | refine rd_sl ?_ | refine rd_part ?_ | refine rd_nopart ?_
  | refine rd_exI ?_ | refine rd_exB ?_ | refine rd_exR ?_ | refine rd_test ?_ | refine rd_B ?_ | refine rd_and ?_ | refine rd_or ?_ | refine rd_not ?_ | refine rd_andV ?_ | refine rd_orV ?_ | refine rd_notV ?_ | refine rd_ifE ?_ | refine rd_chain ?_
  | refine rd_dget2 ?_ | refine rd_dnotin ?_ | refine rd_gcons ?_ | refine rd_gnil ?_ | refine rd_gsub ?_ | refine rd_ipI ?_ | refine rd_par ?_ | refine rd_for ?_ | refine rd_iList ?_ | refine rd_iTup ?_ | refine rd_iRng1 ?_ | refine rd_iRng2 ?_
  | refine rd_iRev ?_ | refine rd_iEnum ?_ | refine rd_dput ?_ | refine rd_nx ?_ | refine rd_rt ?_ | refine rd_yes ?_ | refine rd_dc ?_ | refine rd_lc ?_ | refine rd_iItems ?_ | refine rd_iVals ?_ | refine rd_iRng3 ?_ | refine rd_m1 ?_)
local macro_rules | `(tactic| walk_at "go") => `(tactic| repeat (first | walk_at "go1" | ((with_reducible refine' rd_var ?h1 ?_); (case h1 => exact rfl)) | ((with_reducible refine' rd_aug ?h1 ?_); (case h1 => exact rfl))))

section
variable {P : Program} {w : World} {K : PySem.W.Frag} {mg : Str → Option Value} {base : Heap}
theorem pint_get {p : List Nat} {i k : Nat} (h : p[i]? = some k) : (pint p)[i]? = some (.int (k : Int)) := by
  unfold pint
  rw [List.getElem?_map, h]
  rfl
/-- an item of a list of ints that i counts -/
theorem inV_ints (i : Int) (ns : List Int) : inV (.int i) (ns.map V.int) = decide (i ∈ ns) := by
  unfold inV
  rw [List.any_map]
  by_cases h : i ∈ ns
  · rw [decide_eq_true h]
    exact List.any_eq_true.mpr ⟨i, h, beq_self_eq_true i⟩
  · rw [decide_eq_false h, List.any_eq_false]
    intro j hj e
    exact h (by rw [← (beq_iff_eq.mp e : j = i)]; exact hj)
theorem flat_ints (ns : List Int) : (ns.map V.int).all flatV = true := by
  rw [List.all_map, List.all_eq_true]
  intro i _
  rfl
/-- i not in ns -/
theorem rd_nin {H : Hp} {Q : VK} {r : Addr} {i : Int} {ns : List Int} (h : H r = some (.lst (ns.map V.int))) (q : Q (.bl (!decide (i ∈ ns))) H) : rIn K true (.int i) (.ref r) H Q := by
  refine ⟨r, _, rfl, .inl (SqL.of h), rfl, flat_ints ns, ?_⟩
  rw [if_pos rfl, inV_ints]
  exact q
abbrev s_l_subterm : Stmt := top 33
theorem sc_l_subterm : FnScope ["_law_term_here", "_law_position", "_law_k"] ["_law_term_here", "_law_position"] (defScope s_l_subterm) := ⟨rfl, rfl, rfl, by decide +kernel, rfl, by decide +kernel, by decide +kernel⟩
def sp_subterm : Sp := fun vs H Q _ => ∃ t v p pa u, vs = [v, .ref pa] ∧ At H t v ∧ H pa = some (.tup (pint p)) ∧ get p t = some u ∧ ∀ x, At H u x → Q x H
theorem ok_l_subterm (F : De K mg "_law_subterm" s_l_subterm ["_law_term_here", "_law_position"]) : Kn P w K mg base CX0 1 "_law_subterm" ["_law_term_here", "_law_position"] sp_subterm := by
  refine F.ok sc_l_subterm (fun vs H Q E h => ?_) (fun f cdv A outer s H vs Q E hr h => ?_)
  · obtain ⟨t, v, p, pa, u, rfl, _⟩ := h
    rfl
  obtain ⟨t, v, p, pa, u, rfl, hv, hp, hg, q⟩ := h
  refine ⟨_, (pss_cons (ps_for PassesOwn.never rfl (pi_tup (pv 1)) (pg_name (i := 2) sc_l_subterm.nd rfl (.inl rfl)) (pss_one (ps_set (i := 0) sc_l_subterm.nd rfl (.inl rfl) (pe_ix ix_tup (pv 0) (pv 2) (fun _ _ => rfl)))))
      (pss_one (ps_ret (pv 0)))), ?_⟩
  walk_at "go"
  refine ⟨⟨_, SqT.of hp⟩, for_tup (xs := pint p) (fun i σ H' => H' = H ∧ ∃ y v' t', σ = [some v', some (.ref pa), y] ∧ At H t' v' ∧ get (p.drop i) t' = some u) ⟨rfl, none, v, t, rfl, hv, hg⟩ (fun i σ H' _ ⟨e, _⟩ => by rw [e]; exact SqT.of hp) ?_ ?_⟩
  · rintro i x σ H' hi ⟨rfl, y, v', t', rfl, hv', hg'⟩
    have hi' : i < p.length := by
      have := lt_of_get hi
      rw [pint_len] at this
      exact this
    rw [pint_get (List.getElem?_eq_getElem hi')] at hi
    cases hi
    rw [List.drop_eq_getElem_cons hi'] at hg'
    obtain ⟨j, f, as, a, ek, rfl, e, hg2⟩ := get_cons hg'
    obtain ⟨b, ws, rfl, hb, hws⟩ := hv'
    obtain ⟨z, hz, ha⟩ := hws.get e
    walk_at "go"
    rw [ek]
    refine rd_ixT (SqT.of hb) (atI_nat (j := j + 1) (by simpa using hz)) ?_
    walk_at "go"
    exact ⟨rfl, _, z, a, rfl, ha, hg2⟩
  · rintro σ H' ⟨rfl, y, v', t', rfl, hv', hg'⟩
    walk_at "go"
    rw [List.drop_of_length_le (by rw [pint_len]; exact Nat.le_refl _)] at hg'
    cases hg'
    exact q v' hv'
abbrev s_l_replace : Stmt := top 34
theorem sc_l_replace : FnScope ["_law_term_here", "_law_position", "_law_new", "_law_k"] ["_law_term_here", "_law_position", "_law_new"] (defScope s_l_replace) := ⟨rfl, rfl, rfl, by decide +kernel, rfl, by decide +kernel, by decide +kernel⟩
def sp_replace (n : Nat) : Sp := fun vs H Q _ => ∃ t v p pa u x z, vs = [v, .ref pa, z] ∧ At H t v ∧ H pa = some (.tup (pint p)) ∧ At H x z ∧ get p t = some u ∧ p.length < n ∧ siz t ≤ 100000 ∧ ∀ y H', Same H H' → At H' (put p t x) y → Q y H'
theorem cut_to (xs : List V) (j : Nat) : cutV xs none (some ((j : Nat) : Int)) = xs.take (min j xs.length) := by
  unfold cutV
  rw [HT.sIx_none, HT.sIx_nat]
  rfl
theorem cut_from (xs : List V) (j : Nat) (h : j ≤ xs.length) : cutV xs (some ((j : Nat) : Int)) none = xs.drop j := by
  unfold cutV
  rw [HT.sIx_none, HT.sIx_nat, Nat.min_eq_left h]
  exact List.take_of_length_le (by rw [List.length_drop]; exact Nat.le_refl _)
/-- t[:j], 0 < j < the length -/
theorem rd_to {H : Hp} {Q : VK} {a : Addr} {xs : List V} {j : Nat} (h : H a = some (.tup xs)) (hj : j < xs.length) (q : ∀ p, H p = none → Q (.ref p) (upd H p (.tup (xs.take j)))) : rSlA K (.ref a) none (some ((j : Nat) : Int)) H Q := by
  refine ⟨a, xs, rfl, SqT.of h, fun z => ?_, fun _ p hp => ?_⟩
  · have z2 := z.2
    rw [HT.sIx_nat] at z2
    omega
  · rw [cut_to, Nat.min_eq_left (Nat.le_of_lt hj)]
    exact q p hp
/-- t[j:], 0 < j ≤ the length -/
theorem rd_from {H : Hp} {Q : VK} {a : Addr} {xs : List V} {j : Nat} (h : H a = some (.tup xs)) (h0 : 0 < j) (hj : j ≤ xs.length) (q : ∀ p, H p = none → Q (.ref p) (upd H p (.tup (xs.drop j)))) : rSlA K (.ref a) (some ((j : Nat) : Int)) none H Q := by
  refine ⟨a, xs, rfl, SqT.of h, fun z => ?_, fun _ p hp => ?_⟩
  · have z1 := z.1
    rw [HT.sIx_nat] at z1
    omega
  · rw [cut_from xs j hj]
    exact q p hp
theorem set_cut {α : Type} : ∀ {l : List α} {i : Nat} (y : α), i < l.length → l.take i ++ [y] ++ l.drop (i + 1) = l.set i y
  | [], i, y, h => absurd h (Nat.not_lt_zero _)
  | a :: r, 0, y, h => rfl
  | a :: r, i + 1, y, h => by
    show a :: (r.take i ++ [y] ++ r.drop (i + 1)) = a :: r.set i y
    rw [set_cut (l := r) y (by simpa using h)]
theorem ok_l_replace1 (B : Bi mg) {n : Nat} (F : De K mg "_law_replace" s_l_replace ["_law_term_here", "_law_position", "_law_new"]) (k_l_replace : Kn P w K mg base CX0 (n + 1) "_law_replace" ["_law_term_here", "_law_position", "_law_new"] (sp_replace n)) :
    Kn P w K mg base CX0 (n + 2) "_law_replace" ["_law_term_here", "_law_position", "_law_new"] (sp_replace (n + 1)) := by
  refine F.ok sc_l_replace (fun vs H Q E h => ?_) (fun f cdv A outer s H vs Q E hr h => ?_)
  · obtain ⟨t, v, p, pa, u, x, z, rfl, _⟩ := h
    rfl
  obtain ⟨t, v, p, pa, u, x, z, rfl, hv, hp, hz, hg, hn, hs, q⟩ := h
  refine ⟨_, (pss_cons (ps_if (pt_cmpR op_eq (pe_callB call_len_seq (by rfl) B.m_len PySem.boot_len (pa_cons (pv 1) pa_nil)) pe_int (nomark _)) (pss_one (ps_ret (pv 2))) pss_nil)
      (pss_cons (ps_set (i := 3) sc_l_replace.nd rfl (.inl rfl) (pe_ix ix_tup (pv 1) pe_int (fun _ _ => rfl)))
      (pss_one (ps_ret (pe_op op_catA (pe_op op_catA (pe_slice sl_tupA (pv 0) po_none (po_some (pv 3))) (pe_tup (pa_cons (pe_kn k_l_replace (hr.mono (by omega)) (pa_cons (pe_ix ix_tup (pv 0) (pv 3) (fun _ _ => rfl)) (pa_cons (pe_slice sl_tupA (pv 1) (po_some pe_int) po_none) (pa_cons (pv 2) pa_nil)))) pa_nil))) (pe_slice sl_tupA (pv 0) (po_some (pe_op op_add (pv 3) pe_int)) po_none)))))), ?_⟩
  walk_at "go"
  refine ⟨pa, _, rfl, .inr (SqT.of hp), ?_⟩
  walk_at "go"
  rw [pint_len]
  cases p with
  | nil =>
    refine iteT ?_
    walk_at "go"
    exact q z H (Same.refl H) hz
  | cons k p =>
    rw [decide_eq_false (show ¬ (((k :: p).length : Nat) : Int) = 0 by rw [List.length_cons]; omega)]
    refine iteF ?_
    walk_at "go"
    refine rd_ixT (SqT.of hp) (atI_nat (j := 0) rfl) ?_
    walk_at "go"
    obtain ⟨j, g, as, a, rfl, rfl, e, hg2⟩ := get_cons hg
    obtain ⟨b, ws, rfl, hb, hws⟩ := hv
    obtain ⟨c, hc, ha⟩ := hws.get e
    have hj : j < ws.length := lt_of_get hc
    have hwl := hws.len
    have hal : as.length + 1 ≤ 100000 := by
      have h1 := length_le_sizL as
      have h2 : sizL as + 1 ≤ 100000 := hs
      omega
    have hsa : siz a ≤ 100000 := by
      have h1 := siz_le_sizL (List.mem_of_getElem? e)
      have h2 : sizL as + 1 ≤ 100000 := hs
      omega
    refine rd_to (xs := .str g :: ws) hb (by rw [List.length_cons]; omega) fun p1 hp1 => ?_
    have s1 := same_new (o := .tup ((V.str g :: ws).take (j + 1))) hp1
    walk_at "go"
    refine rd_ixT (SqT.of (s1 _ _ hb)) (atI_nat (j := j + 1) (by simpa using hc)) ?_
    walk_at "go"
    refine rd_tail (s1 _ _ hp) fun p2 hp2 => ?_
    have s2 := same_new (o := .tup (pint p)) hp2
    walk_at "go"
    refine ⟨a, c, p, p2, u, x, z, rfl, ha.sm (s1.trans s2), upd_same, hz.sm (s1.trans s2), hg2, by rw [List.length_cons] at hn; omega, hsa, fun y H1 s3 hy => ?_⟩
    refine ⟨by show 1 ≤ sizeLine; decide, fun p3 hp3 => ?_⟩
    have s4 := same_new (o := .tup [y]) hp3
    have sA := ((s1.trans s2).trans s3).trans s4
    have e1 : upd H1 p3 (.tup [y]) p1 = some (.tup ((V.str g :: ws).take (j + 1))) := s4 _ _ (s3 _ _ (s2 _ _ upd_same))
    refine ⟨p1, p3, _, _, rfl, rfl, SqT.of e1, SqT.of upd_same, ?_, fun w => ?_, fun _ w => (nomatch w), fun _ _ p4 hp4 => ?_⟩
    · rw [List.length_take, sizeLine_eq]
      show _ + 1 ≤ _
      rw [List.length_cons]
      omega
    · rw [List.take_succ_cons] at w
      cases w
    have s5 := same_new (o := .tup ((V.str g :: ws).take (j + 1) ++ [y])) hp4
    walk_at "go"
    have ej : (((j + 1 : Nat) : Int) + 1) = ((j + 2 : Nat) : Int) := by omega
    rw [ej]
    refine rd_from (xs := .str g :: ws) ((sA.trans s5) _ _ hb) (by omega) (by rw [List.length_cons]; omega) fun p5 hp5 => ?_
    have s6 := same_new (o := .tup ((V.str g :: ws).drop (j + 2))) hp5
    have sB := (sA.trans s5).trans s6
    have e4 := s6 _ _ (upd_same (H := upd H1 p3 (.tup [y])) (a := p4) (o := .tup ((V.str g :: ws).take (j + 1) ++ [y])))
    have hput : put ((j + 1) :: p) (.app g as) x = .app g (as.set j (put p a x)) := put_step e
    have hset : AtL H1 (as.set j (put p a x)) (ws.set j y) := (hws.sm ((s1.trans s2).trans s3)).set hy j
    refine ⟨p4, p5, _, _, rfl, rfl, SqT.of e4, SqT.of upd_same, ?_, fun w => ?_, fun _ w => ?_, fun _ _ p6 hp6 => ?_⟩
    · rw [List.length_append, List.length_take, List.length_drop, sizeLine_eq]
      show _ + 1 + _ ≤ _
      rw [List.length_cons]
      omega
    · rw [List.take_succ_cons] at w
      cases w
    · refine q _ _ sB ?_
      rw [hput]
      refine ⟨p4, ws.set j y, rfl, ?_, hset.sm ((s4.trans s5).trans s6)⟩
      rw [e4]
      have e5 : (V.str g :: ws).take (j + 1) ++ [y] = .str g :: ws.set j y := by
        have e6 := set_cut (l := V.str g :: ws) (i := j + 1) y (by rw [List.length_cons]; omega)
        rw [w, List.append_nil] at e6
        exact e6
      rw [e5]
    · have s7 := same_new (o := .tup ((V.str g :: ws).take (j + 1) ++ [y] ++ (V.str g :: ws).drop (j + 2))) hp6
      refine q _ _ (sB.trans s7) ?_
      rw [hput]
      refine ⟨p6, ws.set j y, rfl, ?_, hset.sm (((s4.trans s5).trans s6).trans s7)⟩
      rw [upd_same]
      have e6 := set_cut (l := V.str g :: ws) (i := j + 1) y (by rw [List.length_cons]; omega)
      rw [e6]
      rfl
theorem ok_l_replace (B : Bi mg) (F : De K mg "_law_replace" s_l_replace ["_law_term_here", "_law_position", "_law_new"]) : ∀ n, Kn P w K mg base CX0 (n + 1) "_law_replace" ["_law_term_here", "_law_position", "_law_new"] (sp_replace n)
  | 0 => F.none fun vs H Q E ⟨t, v, p, pa, u, x, z, _, _, _, _, _, h, _⟩ => absurd h (Nat.not_lt_zero _)
  | n + 1 => ok_l_replace1 B F (ok_l_replace B F n)
theorem dep_le_siz (t : Tm) : dep t ≤ siz t := by
  induction t using Tm.ind with
  | hv i => exact Nat.le_refl _
  | ha f as ih =>
    have : depL as ≤ sizL as := depL_le fun a ha => Nat.le_trans (ih a ha) (siz_le_sizL ha)
    show depL as + 1 ≤ sizL as + 1
    omega
abbrev s_l_positions : Stmt := top 35
theorem sc_l_positions : FnScope ["_law_term_here", "_law_found", "_law_k", "_law_inner"] ["_law_term_here"] (defScope s_l_positions) := ⟨rfl, rfl, rfl, by decide +kernel, rfl, by decide +kernel, by decide +kernel⟩
/-- positions of t, each at one of the addresses -/
def PosOk (H : Hp) (t : Tm) (as : List Addr) : Prop := ∀ a ∈ as, ∃ p u, H a = some (.tup (pint p)) ∧ get p t = some u
def sp_positions (n : Nat) : Sp := fun vs H Q _ => ∃ t v, vs = [v] ∧ At H t v ∧ dep t ≤ n ∧ siz t ≤ 100000 ∧ ∀ L as H', H L = none → Same H H' → H' L = some (.lst (as.map V.ref)) → 0 < as.length → as.length ≤ siz t → PosOk H' t as → Q (.ref L) H'
theorem ok_l_positions1 (B : Bi mg) {n : Nat} (F : De K mg "_law_positions" s_l_positions ["_law_term_here"]) (k_l_positions : Kn P w K mg base CX0 (n + 1) "_law_positions" ["_law_term_here"] (sp_positions n)) :
    Kn P w K mg base CX0 (n + 2) "_law_positions" ["_law_term_here"] (sp_positions (n + 1)) := by
  refine F.ok sc_l_positions (fun vs H Q E h => ?_) (fun f cdv A outer s H vs Q E hr h => ?_)
  · obtain ⟨t, v, rfl, _⟩ := h
    rfl
  obtain ⟨t, v, rfl, hv, hd, hs, q⟩ := h
  refine ⟨_, (pss_cons (ps_set (i := 1) sc_l_positions.nd rfl (.inl rfl) (pe_lst (pa_cons (pe_tup pa_nil) pa_nil)))
      (pss_cons (ps_if (pt_val (pe_callB call_isi (by rfl) B.m_isinstance (by decide +kernel) (pa_cons (pv 0) (pa_cons (pe_ty (n := "int") B.m_int (by decide +kernel)) pa_nil)))) (pss_one (ps_ret (pv 1))) pss_nil)
      (pss_cons (ps_for PassesOwn.never rfl (pi_range2 rfl B.m_range (pa_cons pe_int (pa_cons (pe_callB call_len_seq (by rfl) B.m_len PySem.boot_len (pa_cons (pv 0) pa_nil)) pa_nil))) (pg_name (i := 2) sc_l_positions.nd rfl (.inl rfl)) (pss_one (ps_for PassesOwn.never rfl (pi_list (pe_kn k_l_positions (hr.mono (by omega)) (pa_cons (pe_ix ix_tup (pv 0) (pv 2) (fun _ _ => rfl)) pa_nil))) (pg_name (i := 3) sc_l_positions.nd rfl (.inl rfl)) (pss_one (ps_expr (pe_bm PySem.F.plainAttrs_list PySem.F.slot_list_append PySem.F.type_list_append mt_append (pv 1) (pa_cons (pe_op op_catA (pe_tup (pa_cons (pv 2) pa_nil)) (pv 3)) pa_nil)))))))
      (pss_one (ps_ret (pv 1)))))), ?_⟩
  walk_at "go"
  refine ⟨by show 0 ≤ sizeLine; decide, fun e he => ?_⟩
  have s1 := same_new (o := .tup []) he
  refine ⟨by show 1 ≤ sizeLine; decide, fun r hr1 => ?_⟩
  have s2 := same_new (o := .lst [.ref e]) hr1
  have hr0 : H r = none := s1.free hr1
  have s12 := s1.trans s2
  have hv2 := hv.sm s12
  walk_at "go"
  refine rd_isInt hv2 ?_
  walk_at "go"
  cases t with
  | var i =>
    refine iteT ?_
    walk_at "go"
    exact q r [e] _ hr0 s12 upd_same Nat.zero_lt_one (Nat.le_refl _) fun a ha => ⟨[], _, by rw [List.mem_singleton.mp ha]; exact s2 _ _ upd_same, rfl⟩
  | app g as =>
    refine iteF ?_
    obtain ⟨b, ws, rfl, hb, hws⟩ := hv
    have hwl := hws.len
    walk_at "go"
    refine ⟨b, _, rfl, .inr (SqT.of (s12 _ _ hb)), ?_⟩
    walk_at "go"
    have hal : as.length + 1 ≤ 100000 := by
      have h1 := length_le_sizL as
      have h2 : sizL as + 1 ≤ 100000 := hs
      omega
    refine ⟨_, _, rfl, ⟨by omega, by omega, by omega, by rw [List.length_cons]; omega⟩, ?_⟩
    have en : ((((V.str g :: ws).length : Nat) : Int) - 1).toNat = ws.length := by
      rw [List.length_cons]
      omega
    rw [en]
    refine for_range (fun i σ H' => ∃ (y2 y3 : Option V) (ps : List Addr), σ = [some (.ref b), some (.ref r), y2, y3] ∧ Same H H' ∧ H' r = some (.lst (ps.map V.ref)) ∧ 0 < ps.length ∧ ps.length ≤ 1 + sizL (as.take i) ∧ PosOk H' (.app g as) ps)
      ⟨none, none, [e], rfl, s12, upd_same, Nat.zero_lt_one, Nat.le_refl _, fun a ha => ⟨[], _, by rw [List.mem_singleton.mp ha]; exact s2 _ _ upd_same, rfl⟩⟩ ?_ ?_
    · rintro i σ H' hi ⟨y2, y3, ps, rfl, sm, er, h0, hl, hps⟩
      obtain ⟨c, hc⟩ : ∃ c, ws[i]? = some c := ⟨_, List.getElem?_eq_getElem hi⟩
      obtain ⟨a, ha, hac⟩ := hws.ofget hc
      have ham := List.mem_of_getElem? ha
      have hda : dep a ≤ n := by
        have h1 := dep_le_depL ham
        have h2 : depL as + 1 ≤ n + 1 := hd
        omega
      have hsa : siz a ≤ 100000 := by
        have h1 := siz_le_sizL ham
        have h2 : sizL as + 1 ≤ 100000 := hs
        omega
      have htk : sizL (as.take (i + 1)) ≤ sizL as := by
        have h1 := sizL_append (as.take (i + 1)) (as.drop (i + 1))
        rw [List.take_append_drop] at h1
        omega
      have hs' : sizL as + 1 ≤ 100000 := hs
      walk_at "go"
      have ez : (1 : Int) + (i : Int) = ((i + 1 : Nat) : Int) := by omega
      rw [ez]
      refine rd_ixT (SqT.of (sm _ _ hb)) (atI_nat (j := i + 1) (by simpa using hc)) ?_
      walk_at "go"
      refine ⟨a, c, rfl, hac.sm sm, hda, hsa, fun M qs H1 hM0 sm1 eM hq0 hql hqs => ?_⟩
      walk_at "go"
      refine ⟨⟨_, SqL.of eM⟩, for_list (xs := qs.map V.ref) (fun j σ H2 => ∃ (y3 : Option V) (rs : List Addr), σ = [some (.ref b), some (.ref r), some (.int ((i + 1 : Nat) : Int)), y3] ∧ Same H H2 ∧ H2 M = some (.lst (qs.map V.ref)) ∧ PosOk H2 a qs ∧ H2 r = some (.lst (rs.map V.ref)) ∧ 0 < rs.length ∧ rs.length = ps.length + j ∧ PosOk H2 (.app g as) rs)
        ⟨y3, ps, rfl, sm.trans sm1, eM, hqs, sm1 _ _ er, h0, rfl, fun a' ha' => by obtain ⟨p, u, e1, e2⟩ := hps a' ha'; exact ⟨p, u, sm1 _ _ e1, e2⟩⟩ (fun j σ H2 _ ⟨_, _, _, _, e, _⟩ => SqL.of e) ?_ ?_⟩
      · rintro j x σ H2 hx ⟨z3, rs, rfl, sm2, eM2, hqs2, er2, hr02, hrl, hrs⟩
        rw [List.getElem?_map] at hx
        obtain ⟨a1, ha1, rfl⟩ := Option.map_eq_some_iff.mp hx
        have hjl := lt_of_get ha1
        obtain ⟨p, u, ep, hg⟩ := hqs2 a1 (List.mem_of_getElem? ha1)
        walk_at "go"
        refine ⟨.inl ⟨rfl, _, SqL.of er2⟩, ?_⟩
        walk_at "go"
        refine ⟨by show 1 ≤ sizeLine; decide, fun p1 hp1 => ?_⟩
        have s3 := same_new (o := .tup [.int ((i + 1 : Nat) : Int)]) hp1
        have hpl : 1 + p.length ≤ 100000 := by
          have h1 := dep_get hg
          have h2 := dep_pos u
          have h3 := dep_le_siz a
          omega
        walk_at "go"
        refine rd_catP (p := [i + 1]) (q := p) upd_same (s3 _ _ ep) hpl fun c1 H3 s4 hc1 => ?_
        walk_at "go"
        have s34 := s3.trans s4
        have er3 := s34 _ _ er2
        refine ⟨r, _, _, rfl, rfl, er3, ?_, ?_⟩
        · rw [List.length_map, sizeLine_eq]
          have h1 := sizL_take ha
          omega
        walk_at "go"
        have nMr : M ≠ r := by
          intro z
          rw [z, er] at hM0
          cases hM0
        have k5 := kd_lst (o := .lst (rs.map V.ref ++ [.ref c1])) er3
        refine ⟨_, rs ++ [c1], rfl, same_mut (sm2.trans s34) hr0, ?_, ?_, ?_, ?_, ?_, ?_⟩
        · rw [upd_ne nMr]
          exact s34 _ _ eM2
        · intro a' ha'
          obtain ⟨p', u', e1, e2⟩ := hqs2 a' ha'
          exact ⟨p', u', k5.tup (s34 _ _ e1), e2⟩
        · rw [upd_same, List.map_append]
          rfl
        · rw [List.length_append]
          omega
        · rw [List.length_append, hrl]
          rfl
        · intro a' ha'
          rcases List.mem_append.mp ha' with m | m
          · obtain ⟨p', u', e1, e2⟩ := hrs a' m
            exact ⟨p', u', k5.tup (s34 _ _ e1), e2⟩
          · rw [List.mem_singleton.mp m]
            exact ⟨(i + 1) :: p, u, k5.tup hc1, (get_step ha).trans hg⟩
      · rintro σ H2 ⟨z3, rs, rfl, sm2, eM2, hqs2, er2, hr02, hrl, hrs⟩
        rw [List.length_map] at hrl
        refine ⟨_, _, rs, rfl, sm2, er2, hr02, ?_, hrs⟩
        rw [sizL_take ha]
        omega
    · rintro σ H' ⟨y2, y3, ps, rfl, sm, er, h0, hl, hps⟩
      walk_at "go"
      rw [take_all hwl] at hl
      exact q r ps H' hr0 sm er h0 (by show ps.length ≤ sizL as + 1; omega) hps
theorem ok_l_positions (B : Bi mg) (F : De K mg "_law_positions" s_l_positions ["_law_term_here"]) : ∀ n, Kn P w K mg base CX0 (n + 1) "_law_positions" ["_law_term_here"] (sp_positions n)
  | 0 => F.none fun vs H Q E ⟨t, v, _, _, h, _⟩ => by
    have := dep_pos t
    omega
  | n + 1 => ok_l_positions1 B F (ok_l_positions B F n)
end
end K18
set_option Elab.async false
set_option linter.all false
set_option maxRecDepth 100000
set_option maxHeartbeats 4000000
/-! The law's own substitute, variables, same, has_position. -/
namespace K18
open PySem PySem.Spec L2
local macro_rules | `(tactic| walk_at "go1") => `(tactic| with_reducible first
  | refine rd_seq ?_ | refine rd_ifS ?_ | refine rd_asg ?_ | refine rd_name ?_ | refine rd_ret ?_ | refine rd_drop ?_ | refine rd_next ?_ | refine rd_retN ?_
  | refine rd_c ?_ | refine rd_op ?_ | refine rd_un ?_ | refine rd_U ?_ | refine rd_I0 ?_ | refine rd_eqI ?_ | refine rd_neI ?_ | refine rd_eqS ?_ | refine rd_neS ?_
  | refine rd_nil ?_ | refine rd_cons ?_ | refine rd_call ?_ | refine rd_cb ?_ | refine rd_bm ?_ | refine rd_tup ?_ | refine rd_lst ?_ | refine rd_sl ?_ | refine rd_part ?_ | refine rd_nopart ?_
  | refine rd_exI ?_ | refine rd_exB ?_ | refine rd_exR ?_ | refine rd_test ?_ | refine rd_B ?_ | refine rd_and ?_ | refine rd_or ?_ | refine rd_not ?_ | refine rd_andV ?_ | refine rd_orV ?_ | refine rd_notV ?_ | refine rd_ifE ?_ | refine rd_chain ?_
  | refine rd_dget2 ?_ | refine rd_dnotin ?_ | refine rd_gcons ?_ | refine rd_gnil ?_ | refine rd_gsub ?_ | refine rd_ipI ?_ | refine rd_par ?_ | refine rd_for ?_ | refine rd_iList ?_ | refine rd_iTup ?_ | refine rd_iRng1 ?_ | refine rd_iRng2 ?_
  | refine rd_iRev ?_ | refine rd_iEnum ?_ | refine rd_dput ?_ | refine rd_nx ?_ | refine rd_rt ?_ | refine rd_yes ?_ | refine rd_dc ?_ | refine rd_lc ?_ | refine rd_iItems ?_ | refine rd_iVals ?_ | refine rd_iRng3 ?_ | refine rd_m1 ?_)
local macro_rules | `(tactic| walk_at "go") => `(tactic| repeat (first | walk_at "go1" | ((with_reducible refine' rd_var ?h1 ?_); (case h1 => exact rfl)) | ((with_reducible refine' rd_aug ?h1 ?_); (case h1 => exact rfl))))

section
variable {P : Program} {w : World} {K : PySem.W.Frag} {mg : Str → Option Value} {base : Heap}
abbrev s_l_substitute : Stmt := top 36
theorem sc_l_substitute : FnScope ["_law_term_here", "_law_substitution", "_law_result", "_law_argument"] ["_law_term_here", "_law_substitution"] (defScope s_l_substitute) := ⟨rfl, rfl, rfl, by decide +kernel, rfl, by decide +kernel, by decide +kernel⟩
theorem ok_l_substitute1 (B : Bi mg) {n : Nat} (F : De K mg "_law_substitute" s_l_substitute ["_law_term_here", "_law_substitution"]) (k_l_substitute : Kn P w K mg base CX0 (n + 1) "_law_substitute" ["_law_term_here", "_law_substitution"] (sp_sub n)) :
    Kn P w K mg base CX0 (n + 2) "_law_substitute" ["_law_term_here", "_law_substitution"] (sp_sub (n + 1)) := by
  refine F.ok sc_l_substitute (fun vs H Q E h => ?_) (fun f cdv A outer s H vs Q E hr h => ?_)
  · obtain ⟨t, v, ps, d, rfl, _⟩ := h
    rfl
  obtain ⟨t, v, ps, d, rfl, hv, hp, hd, hs, q⟩ := h
  refine ⟨_, (pss_cons (ps_if (pt_val (pe_callB call_isi (by rfl) B.m_isinstance (by decide +kernel) (pa_cons (pv 0) (pa_cons (pe_ty (n := "int") B.m_int (by decide +kernel)) pa_nil)))) (pss_one (ps_ret (pe_dget2 (hu_of hr) (pv 1) (pv 0) (pv 0) ⟨rfl, rfl, rfl, rfl⟩))) pss_nil)
      (pss_cons (ps_set (i := 2) sc_l_substitute.nd rfl (.inl rfl) (pe_tup (pa_cons (pe_ix ix_tup (pv 0) pe_int (fun _ _ => rfl)) pa_nil)))
      (pss_cons (ps_for PassesOwn.never rfl (pi_tup (pe_slice sl_tupA (pv 0) (po_some pe_int) po_none)) (pg_name (i := 3) sc_l_substitute.nd rfl (.inl rfl)) (pss_one (ps_set (i := 2) sc_l_substitute.nd rfl (.inl rfl) (pe_op op_catA (pv 2) (pe_tup (pa_cons (pe_kn k_l_substitute (hr.mono (by omega)) (pa_cons (pv 3) (pa_cons (pv 1) pa_nil))) pa_nil))))))
      (pss_one (ps_ret (pv 2)))))), ?_⟩
  walk_at "go"
  refine rd_isInt hv ?_
  walk_at "go"
  cases t with
  | var i =>
    have hv : v = .int i := hv
    subst hv
    refine iteT ?_
    walk_at "go"
    refine ⟨hp.isD, ?_⟩
    walk_at "go"
    exact rd_lk hp fun x hx => q x H (Same.refl H) hx
  | app f as =>
    obtain ⟨a, ws, rfl, ha, hw⟩ := hv
    have hlen : as.length + 1 ≤ 100000 := by
      have h1 := length_le_sizL as
      have h2 : sizL as + 1 ≤ 100000 := hs
      omega
    have hwl := hw.len
    refine iteF ?_
    walk_at "go"
    refine rd_ixT (SqT.of ha) (atI_nat (j := 0) rfl) ?_
    walk_at "go"
    refine ⟨(by show 1 ≤ sizeLine; decide), fun r hr0 => ?_⟩
    have s1 := same_new (o := .tup [.str f]) hr0
    walk_at "go"
    refine rd_tail (s1 _ _ ha) fun p hp0 => ?_
    have s2 := same_new (o := .tup ws) hp0
    walk_at "go"
    refine ⟨⟨_, SqT.of upd_same⟩, for_tup (xs := ws) (fun i σ H' => ∃ (y : Option V) (r : Addr) (rs : List V), σ = [some (.ref a), some (.ref d), some (.ref r), y] ∧ Same H H' ∧ H' p = some (.tup ws) ∧ H' r = some (.tup (.str f :: rs)) ∧ AtL H' (subL (lk ps) (as.take i)) rs)
      ⟨none, r, [], rfl, s1.trans s2, upd_same, s2 _ _ upd_same, rfl⟩ (fun i σ H' _ ⟨_, _, _, _, _, e, _⟩ => SqT.of e) ?_ ?_⟩
    · rintro i x σ H' hi ⟨y, r, rs, rfl, sm, e, er, hrs⟩
      obtain ⟨b, hb, hx⟩ := (hw.sm sm).ofget hi
      have hm := List.mem_of_getElem? hb
      have hdb : dep b ≤ n := by
        have h1 := dep_le_depL hm
        have h2 : depL as + 1 ≤ n + 1 := hd
        omega
      have hsb : siz b ≤ 100000 := by
        have h1 := siz_le_sizL hm
        have h2 : sizL as + 1 ≤ 100000 := hs
        omega
      have hrl : rs.length ≤ as.length := by
        rw [hrs.len, subL_length, List.length_take]
        omega
      walk_at "go"
      refine ⟨b, x, ps, d, rfl, hx, hp.sm sm, hdb, hsb, fun z H2 sm2 hz => ?_⟩
      refine ⟨by show 1 ≤ sizeLine; decide, fun q1 hq1 => ?_⟩
      have s3 := same_new (o := .tup [z]) hq1
      refine ⟨r, q1, _, _, rfl, rfl, SqT.of (s3 _ _ (sm2 _ _ er)), SqT.of upd_same, ?_, fun w => (nomatch w), fun _ w => (nomatch w), fun _ _ p2 hp2 => ?_⟩
      · show rs.length + 1 + 1 ≤ sizeLine
        rw [sizeLine_eq]
        omega
      have s4 := same_new (o := .tup (.str f :: rs ++ [z])) hp2
      have sA := (sm2.trans s3).trans s4
      walk_at "go"
      refine ⟨some x, p2, rs ++ [z], rfl, sm.trans sA, sA _ _ e, upd_same, ?_⟩
      rw [subL_take hb]
      exact AtL.snoc (hz.sm (s3.trans s4)) (hrs.sm sA)
    · rintro σ H' ⟨y, r, rs, rfl, sm, e, er, hrs⟩
      walk_at "go"
      rw [take_all hw.len] at hrs
      exact q _ _ sm ⟨r, rs, rfl, er, hrs⟩
theorem ok_l_substitute (B : Bi mg) (F : De K mg "_law_substitute" s_l_substitute ["_law_term_here", "_law_substitution"]) : ∀ n, Kn P w K mg base CX0 (n + 1) "_law_substitute" ["_law_term_here", "_law_substitution"] (sp_sub n)
  | 0 => F.none fun vs H Q E ⟨t, v, _, _, _, _, _, h, _⟩ => by
    have := dep_pos t
    omega
  | n + 1 => ok_l_substitute1 B F (ok_l_substitute B F n)
abbrev s_l_variables : Stmt := top 37
theorem sc_l_variables : FnScope ["_law_term_here", "_law_found", "_law_argument", "_law_variable"] ["_law_term_here"] (defScope s_l_variables) := ⟨rfl, rfl, rfl, by decide +kernel, rfl, by decide +kernel, by decide +kernel⟩
def sp_variables (n : Nat) : Sp := fun vs H Q _ => ∃ t v, vs = [v] ∧ At H t v ∧ dep t ≤ n ∧ siz t ≤ 100000 ∧ ∀ (L : Addr) (ns : List Int) H', H L = none → Same H H' → H' L = some (.lst (ns.map V.int)) → ns.Nodup → (∀ i, i ∈ ns ↔ Occ i t) → ns.length ≤ siz t → Q (.ref L) H'
theorem occL_take {as : List Tm} {i : Nat} {a : Tm} {z : Int} (h : as[i]? = some a) : OccL z (as.take (i + 1)) ↔ OccL z (as.take i) ∨ Occ z a := by
  rw [take_more h, occL_iff, occL_iff]
  constructor
  · rintro ⟨b, hb, o⟩
    rcases List.mem_append.mp hb with m | m
    · exact .inl ⟨b, m, o⟩
    · rw [List.mem_singleton.mp m] at o
      exact .inr o
  · rintro (⟨b, hb, o⟩ | o)
    · exact ⟨b, List.mem_append.mpr (.inl hb), o⟩
    · exact ⟨a, List.mem_append.mpr (.inr List.mem_cons_self), o⟩
theorem take_mem_more {α : Type} {l : List α} {j : Nat} {x z : α} (h : l[j]? = some x) : z ∈ l.take (j + 1) ↔ z ∈ l.take j ∨ z = x := by
  rw [take_more h, List.mem_append, List.mem_singleton]
theorem ok_l_variables1 (B : Bi mg) {n : Nat} (F : De K mg "_law_variables" s_l_variables ["_law_term_here"]) (k_l_variables : Kn P w K mg base CX0 (n + 1) "_law_variables" ["_law_term_here"] (sp_variables n)) :
    Kn P w K mg base CX0 (n + 2) "_law_variables" ["_law_term_here"] (sp_variables (n + 1)) := by
  refine F.ok sc_l_variables (fun vs H Q E h => ?_) (fun f cdv A outer s H vs Q E hr h => ?_)
  · obtain ⟨t, v, rfl, _⟩ := h
    rfl
  obtain ⟨t, v, rfl, hv, hd, hs, q⟩ := h
  refine ⟨_, (pss_cons (ps_if (pt_val (pe_callB call_isi (by rfl) B.m_isinstance (by decide +kernel) (pa_cons (pv 0) (pa_cons (pe_ty (n := "int") B.m_int (by decide +kernel)) pa_nil)))) (pss_one (ps_ret (pe_lst (pa_cons (pv 0) pa_nil)))) pss_nil)
      (pss_cons (ps_set (i := 1) sc_l_variables.nd rfl (.inl rfl) (pe_lst pa_nil))
      (pss_cons (ps_for PassesOwn.never rfl (pi_tup (pe_slice sl_tupA (pv 0) (po_some pe_int) po_none)) (pg_name (i := 2) sc_l_variables.nd rfl (.inl rfl)) (pss_one (ps_for PassesOwn.never rfl (pi_list (pe_kn k_l_variables (hr.mono (by omega)) (pa_cons (pv 2) pa_nil))) (pg_name (i := 3) sc_l_variables.nd rfl (.inl rfl)) (pss_one (ps_if (pt_cmpR op_notIn_seq (pv 3) (pv 1) rfl) (pss_one (ps_expr (pe_bm PySem.F.plainAttrs_list PySem.F.slot_list_append PySem.F.type_list_append mt_append (pv 1) (pa_cons (pv 3) pa_nil)))) pss_nil)))))
      (pss_one (ps_ret (pv 1)))))), ?_⟩
  walk_at "go"
  refine rd_isInt hv ?_
  walk_at "go"
  cases t with
  | var i =>
    have hv : v = .int i := hv
    subst hv
    refine iteT ?_
    walk_at "go"
    refine ⟨by show 1 ≤ sizeLine; decide, fun r hr0 => ?_⟩
    exact q r [i] _ hr0 (same_new hr0) upd_same (List.nodup_cons.mpr ⟨List.not_mem_nil, List.nodup_nil⟩) (fun z => List.mem_singleton) (Nat.le_refl _)
  | app g as =>
    refine iteF ?_
    obtain ⟨b, ws, rfl, hb, hws⟩ := hv
    have hwl := hws.len
    have hs' : sizL as + 1 ≤ 100000 := hs
    walk_at "go"
    refine ⟨Nat.zero_le _, fun r hr0 => ?_⟩
    have s1 := same_new (o := .lst []) hr0
    walk_at "go"
    refine rd_tail (s1 _ _ hb) fun p hp => ?_
    have s2 := same_new (o := .tup ws) hp
    walk_at "go"
    refine ⟨⟨_, SqT.of upd_same⟩, for_tup (xs := ws) (fun i σ H' => ∃ (y2 y3 : Option V) (ns : List Int), σ = [some (.ref b), some (.ref r), y2, y3] ∧ Same H H' ∧ H' p = some (.tup ws) ∧ H' r = some (.lst (ns.map V.int)) ∧ ns.Nodup ∧ (∀ z, z ∈ ns ↔ OccL z (as.take i)) ∧ ns.length ≤ sizL (as.take i))
      ⟨none, none, [], rfl, s1.trans s2, upd_same, s2 _ _ upd_same, List.nodup_nil, fun z => ⟨fun m => (nomatch m), fun o => o.elim⟩, Nat.le_refl _⟩ (fun i σ H' _ ⟨_, _, _, _, _, e, _⟩ => SqT.of e) ?_ ?_⟩
    · rintro i x σ H' hi ⟨y2, y3, ns, rfl, sm, ep, er, hnd, hns, hnl⟩
      obtain ⟨a, ha, hax⟩ := (hws.sm sm).ofget hi
      have ham := List.mem_of_getElem? ha
      have hda : dep a ≤ n := by
        have h1 := dep_le_depL ham
        have h2 : depL as + 1 ≤ n + 1 := hd
        omega
      have hsa : siz a ≤ 100000 := by
        have h1 := siz_le_sizL ham
        omega
      have htk : sizL (as.take (i + 1)) ≤ sizL as := by
        have h1 := sizL_append (as.take (i + 1)) (as.drop (i + 1))
        rw [List.take_append_drop] at h1
        omega
      have htm := sizL_take ha
      walk_at "go"
      refine ⟨a, x, rfl, hax, hda, hsa, fun M ms H1 hM0 sm1 eM hmd hms hml => ?_⟩
      walk_at "go"
      have nMr : M ≠ r := by
        intro z
        rw [z, er] at hM0
        cases hM0
      refine ⟨⟨_, SqL.of eM⟩, for_list (xs := ms.map V.int) (fun j σ H2 => ∃ (y3 : Option V) (rs : List Int), σ = [some (.ref b), some (.ref r), some x, y3] ∧ Same H H2 ∧ H2 p = some (.tup ws) ∧ H2 M = some (.lst (ms.map V.int)) ∧ H2 r = some (.lst (rs.map V.int)) ∧ rs.Nodup ∧ (∀ z, z ∈ rs ↔ z ∈ ns ∨ z ∈ ms.take j) ∧ rs.length ≤ ns.length + j)
        ⟨y3, ns, rfl, sm.trans sm1, sm1 _ _ ep, eM, sm1 _ _ er, hnd, fun z => ⟨fun m => .inl m, fun m => m.elim id fun w => by cases w⟩, Nat.le_refl _⟩ (fun j σ H2 _ ⟨_, _, _, _, _, e, _⟩ => SqL.of e) ?_ ?_⟩
      · rintro j y σ H2 hy ⟨z3, rs, rfl, sm2, ep2, eM2, er2, hrd, hrs, hrl⟩
        rw [List.getElem?_map] at hy
        obtain ⟨m1, hm1, rfl⟩ := Option.map_eq_some_iff.mp hy
        have hjl := lt_of_get hm1
        walk_at "go"
        refine rd_nin er2 ?_
        walk_at "go"
        by_cases hin : m1 ∈ rs
        · rw [decide_eq_true hin]
          refine iteF ?_
          walk_at "go"
          refine ⟨_, rs, rfl, sm2, ep2, eM2, er2, hrd, fun z => ?_, by omega⟩
          rw [take_mem_more hm1, hrs]
          constructor
          · rintro (w | w)
            · exact .inl w
            · exact .inr (.inl w)
          · rintro (w | w | w)
            · exact .inl w
            · exact .inr w
            · rw [w]
              exact (hrs m1).mp hin
        · rw [decide_eq_false hin]
          refine iteT ?_
          walk_at "go"
          refine ⟨.inl ⟨rfl, _, SqL.of er2⟩, ?_⟩
          walk_at "go"
          refine ⟨r, _, _, rfl, rfl, er2, by rw [List.length_map, sizeLine_eq]; omega, ?_⟩
          walk_at "go"
          have npr : p ≠ r := by
            intro w
            rw [w, er2] at ep2
            cases ep2
          refine ⟨_, rs ++ [m1], rfl, same_mut sm2 hr0, by rw [upd_ne npr]; exact ep2, by rw [upd_ne nMr]; exact eM2, by rw [upd_same, List.map_append]; rfl, ?_, fun z => ?_, ?_⟩
          · exact nd_snoc hrd hin
          · rw [List.mem_append, List.mem_singleton, take_mem_more hm1, hrs]
            constructor
            · rintro ((w | w) | w)
              · exact .inl w
              · exact .inr (.inl w)
              · exact .inr (.inr w)
            · rintro (w | w | w)
              · exact .inl (.inl w)
              · exact .inl (.inr w)
              · exact .inr w
          · rw [List.length_append]
            show rs.length + 1 ≤ _
            omega
      · rintro σ H2 ⟨z3, rs, rfl, sm2, ep2, eM2, er2, hrd, hrs, hrl⟩
        rw [List.length_map] at hrl hrs
        rw [List.take_length] at hrs
        refine ⟨_, _, rs, rfl, sm2, ep2, er2, hrd, fun z => ?_, by omega⟩
        rw [hrs, hns, hms, occL_take ha]
    · rintro σ H' ⟨y2, y3, ns, rfl, sm, ep, er, hnd, hns, hnl⟩
      walk_at "go"
      rw [take_all hwl] at hns hnl
      exact q r ns H' hr0 sm er hnd (fun z => hns z) (by show ns.length ≤ sizL as + 1; omega)
theorem ok_l_variables (B : Bi mg) (F : De K mg "_law_variables" s_l_variables ["_law_term_here"]) : ∀ n, Kn P w K mg base CX0 (n + 1) "_law_variables" ["_law_term_here"] (sp_variables n)
  | 0 => F.none fun vs H Q E ⟨t, v, _, _, h, _⟩ => by
    have := dep_pos t
    omega
  | n + 1 => ok_l_variables1 B F (ok_l_variables B F n)
abbrev s_l_same : Stmt := top 38
theorem sc_l_same : FnScope ["_law_first", "_law_second", "_law_k"] ["_law_first", "_law_second"] (defScope s_l_same) := ⟨rfl, rfl, rfl, by decide +kernel, rfl, by decide +kernel, by decide +kernel⟩
def sp_same (n : Nat) : Sp := fun vs H Q _ => ∃ t v w, vs = [v, w] ∧ At H t v ∧ At H t w ∧ dep t ≤ n ∧ siz t ≤ 100000 ∧ Q (.bl true) H
theorem rd_isB {H : Hp} {Q : VK} {t : Tm} {v : V} (h : At H t v) (q : Q (.bl false) H) : rIsi K [v, .ty "bool"] H Q := by
  cases t with
  | var i =>
    have h : v = .int i := h
    subst h
    exact ⟨_, _, _, _, false, rfl, .ty "bool", .base (.int i), kit_ty (by decide +kernel), q⟩
  | app f as =>
    obtain ⟨a, vs, rfl, ha, _⟩ := h
    exact ⟨_, _, _, _, false, rfl, .ty "bool", .base (.tup ha), kit_ty (by decide +kernel), q⟩
theorem rd_isT {H : Hp} {Q : VK} {a : Addr} {xs : List V} (h : H a = some (.tup xs)) (q : Q (.bl true) H) : rIsi K [.ref a, .ty "tuple"] H Q := ⟨_, _, _, _, true, rfl, .ty "tuple", .base (.tup h), kit_ty (by decide +kernel), q⟩
theorem rd_isS {H : Hp} {Q : VK} {z : Str} (q : Q (.bl true) H) : rIsi K [.str z, .ty "str"] H Q := ⟨_, _, _, _, true, rfl, .ty "str", .base (.str z), kit_ty (by decide +kernel), q⟩
theorem ok_l_same1 (B : Bi mg) {n : Nat} (F : De K mg "_law_same" s_l_same ["_law_first", "_law_second"]) (k_l_same : Kn P w K mg base CX0 (n + 1) "_law_same" ["_law_first", "_law_second"] (sp_same n)) :
    Kn P w K mg base CX0 (n + 2) "_law_same" ["_law_first", "_law_second"] (sp_same (n + 1)) := by
  refine F.ok sc_l_same (fun vs H Q E h => ?_) (fun f cdv A outer s H vs Q E hr h => ?_)
  · obtain ⟨t, v, w, rfl, _⟩ := h
    rfl
  obtain ⟨t, v, w, rfl, hv, hw, hd, hs, q⟩ := h
  refine ⟨_, (pss_cons (ps_if (PW.pt (pw_or (pt_val (pe_callB call_isi (by rfl) B.m_isinstance (by decide +kernel) (pa_cons (pv 0) (pa_cons (pe_ty (n := "bool") B.m_bool (by decide +kernel)) pa_nil)))) (pw_or1 (pt_val (pe_callB call_isi (by rfl) B.m_isinstance (by decide +kernel) (pa_cons (pv 1) (pa_cons (pe_ty (n := "bool") B.m_bool (by decide +kernel)) pa_nil))))))) (pss_one (ps_ret pe_bl)) pss_nil)
      (pss_cons (ps_if (PW.pt (pw_or (pt_val (pe_callB call_isi (by rfl) B.m_isinstance (by decide +kernel) (pa_cons (pv 0) (pa_cons (pe_ty (n := "int") B.m_int (by decide +kernel)) pa_nil)))) (pw_or1 (pt_val (pe_callB call_isi (by rfl) B.m_isinstance (by decide +kernel) (pa_cons (pv 1) (pa_cons (pe_ty (n := "int") B.m_int (by decide +kernel)) pa_nil))))))) (pss_one (ps_ret (pe_and (pe_callB call_isi (by rfl) B.m_isinstance (by decide +kernel) (pa_cons (pv 0) (pa_cons (pe_ty (n := "int") B.m_int (by decide +kernel)) pa_nil))) (pe_and (pe_callB call_isi (by rfl) B.m_isinstance (by decide +kernel) (pa_cons (pv 1) (pa_cons (pe_ty (n := "int") B.m_int (by decide +kernel)) pa_nil))) (pe_one (pe_cmpR op_eq (pv 0) (pv 1) (nomark _))))))) pss_nil)
      (pss_cons (ps_if (PW.pt (pw_or (pt_not (pt_val (pe_callB call_isi (by rfl) B.m_isinstance (by decide +kernel) (pa_cons (pv 0) (pa_cons (pe_ty (n := "tuple") B.m_tuple (by decide +kernel)) pa_nil))))) (pw_or (pt_not (pt_val (pe_callB call_isi (by rfl) B.m_isinstance (by decide +kernel) (pa_cons (pv 1) (pa_cons (pe_ty (n := "tuple") B.m_tuple (by decide +kernel)) pa_nil))))) (pw_or1 (pt_cmpR op_ne (pe_callB call_len_seq (by rfl) B.m_len PySem.boot_len (pa_cons (pv 0) pa_nil)) (pe_callB call_len_seq (by rfl) B.m_len PySem.boot_len (pa_cons (pv 1) pa_nil)) (nomark _)))))) (pss_one (ps_ret pe_bl)) pss_nil)
      (pss_cons (ps_if (PW.pt (pw_or (pt_cmpR op_eq (pe_callB call_len_seq (by rfl) B.m_len PySem.boot_len (pa_cons (pv 0) pa_nil)) pe_int (nomark _)) (pw_or (pt_not (pt_val (pe_callB call_isi (by rfl) B.m_isinstance (by decide +kernel) (pa_cons (pe_ix ix_tup (pv 0) pe_int (fun _ _ => rfl)) (pa_cons (pe_ty (n := "str") B.m_str (by decide +kernel)) pa_nil))))) (pw_or1 (pt_cmpR op_ne (pe_ix ix_tup (pv 0) pe_int (fun _ _ => rfl)) (pe_ix ix_tup (pv 1) pe_int (fun _ _ => rfl)) (nomark _)))))) (pss_one (ps_ret pe_bl)) pss_nil)
      (pss_cons (ps_for PassesOwn.never rfl (pi_range2 rfl B.m_range (pa_cons pe_int (pa_cons (pe_callB call_len_seq (by rfl) B.m_len PySem.boot_len (pa_cons (pv 0) pa_nil)) pa_nil))) (pg_name (i := 2) sc_l_same.nd rfl (.inl rfl)) (pss_one (ps_if (pt_not (pt_val (pe_kn k_l_same (hr.mono (by omega)) (pa_cons (pe_ix ix_tup (pv 0) (pv 2) (fun _ _ => rfl)) (pa_cons (pe_ix ix_tup (pv 1) (pv 2) (fun _ _ => rfl)) pa_nil))))) (pss_one (ps_ret pe_bl)) pss_nil)))
      (pss_one (ps_ret pe_bl))))))), ?_⟩
  walk_at "go"
  refine rd_isB hv ?_
  walk_at "go"
  refine iteF ?_
  walk_at "go"
  refine rd_isB hw ?_
  walk_at "go"
  refine iteF ?_
  walk_at "go"
  refine rd_isInt hv ?_
  walk_at "go"
  cases t with
  | var i =>
    have hv' : v = .int i := hv
    have hw' : w = .int i := hw
    subst hv' hw'
    refine iteT (iteT ?_)
    walk_at "go"
    refine rd_isInt hv ?_
    walk_at "go"
    refine iteT ?_
    walk_at "go"
    refine rd_isInt hw ?_
    walk_at "go"
    refine iteT ?_
    walk_at "go"
    rw [decide_eq_true rfl]
    exact q
  | app g as =>
    refine iteF ?_
    walk_at "go"
    refine rd_isInt hw ?_
    walk_at "go"
    refine iteF ?_
    obtain ⟨a, us, rfl, ha, hus⟩ := hv
    obtain ⟨b, ws, rfl, hb, hws⟩ := hw
    have hl1 := hus.len
    have hl2 := hws.len
    have hs' : sizL as + 1 ≤ 100000 := hs
    have hal := length_le_sizL as
    walk_at "go"
    refine rd_isT ha ?_
    walk_at "go"
    refine iteF ?_
    walk_at "go"
    refine rd_isT hb ?_
    walk_at "go"
    refine iteF ?_
    walk_at "go"
    refine ⟨a, _, rfl, .inr (SqT.of ha), ?_⟩
    walk_at "go"
    refine ⟨b, _, rfl, .inr (SqT.of hb), ?_⟩
    walk_at "go"
    rw [decide_eq_true (show (((V.str g :: us).length : Nat) : Int) = (((V.str g :: ws).length : Nat) : Int) by rw [List.length_cons, List.length_cons, hl1, hl2])]
    refine iteF ?_
    walk_at "go"
    refine ⟨a, _, rfl, .inr (SqT.of ha), ?_⟩
    walk_at "go"
    rw [decide_eq_false (show ¬ (((V.str g :: us).length : Nat) : Int) = 0 by rw [List.length_cons]; omega)]
    refine iteF ?_
    walk_at "go"
    refine rd_ixT (SqT.of ha) (atI_nat (j := 0) rfl) ?_
    walk_at "go"
    refine rd_isS ?_
    walk_at "go"
    refine iteF ?_
    walk_at "go"
    refine rd_ixT (SqT.of ha) (atI_nat (j := 0) rfl) ?_
    walk_at "go"
    refine rd_ixT (SqT.of hb) (atI_nat (j := 0) rfl) ?_
    walk_at "go"
    rw [decide_eq_true rfl]
    refine iteF ?_
    walk_at "go"
    refine ⟨a, _, rfl, .inr (SqT.of ha), ?_⟩
    walk_at "go"
    refine ⟨_, _, rfl, ⟨by omega, by omega, by omega, by rw [List.length_cons]; omega⟩, ?_⟩
    have en : ((((V.str g :: us).length : Nat) : Int) - 1).toNat = us.length := by
      rw [List.length_cons]
      omega
    rw [en]
    refine for_range (fun i σ H' => H' = H ∧ ∃ y2, σ = [some (.ref a), some (.ref b), y2]) ⟨rfl, none, rfl⟩ ?_ ?_
    · rintro i σ H' hi ⟨rfl, y2, rfl⟩
      obtain ⟨c, hc⟩ : ∃ c, us[i]? = some c := ⟨_, List.getElem?_eq_getElem hi⟩
      obtain ⟨t, ht, hc1⟩ := hus.ofget hc
      obtain ⟨c2, hc2, hc3⟩ := hws.get ht
      have htm := List.mem_of_getElem? ht
      have hdt : dep t ≤ n := by
        have h1 := dep_le_depL htm
        have h2 : depL as + 1 ≤ n + 1 := hd
        omega
      have hst := siz_le_sizL htm
      walk_at "go"
      have ez : (1 : Int) + (i : Int) = ((i + 1 : Nat) : Int) := by omega
      rw [ez]
      refine rd_ixT (SqT.of ha) (atI_nat (j := i + 1) (by simpa using hc)) ?_
      walk_at "go"
      refine rd_ixT (SqT.of hb) (atI_nat (j := i + 1) (by simpa using hc2)) ?_
      walk_at "go"
      refine ⟨t, c, c2, rfl, hc1, hc3, hdt, by omega, ?_⟩
      walk_at "go"
      refine iteF ?_
      walk_at "go"
      exact ⟨rfl, _, rfl⟩
    · rintro σ H' ⟨rfl, y2, rfl⟩
      walk_at "go"
      exact q
theorem ok_l_same (B : Bi mg) (F : De K mg "_law_same" s_l_same ["_law_first", "_law_second"]) : ∀ n, Kn P w K mg base CX0 (n + 1) "_law_same" ["_law_first", "_law_second"] (sp_same n)
  | 0 => F.none fun vs H Q E ⟨t, v, _, _, _, _, h, _⟩ => by
    have := dep_pos t
    omega
  | n + 1 => ok_l_same1 B F (ok_l_same B F n)
end
end K18
set_option Elab.async false
set_option linter.all false
set_option maxRecDepth 100000
set_option maxHeartbeats 4000000
/-! The law's own pattern. -/
namespace K18
open PySem PySem.Spec L2
local macro_rules | `(tactic| walk_at "go1") => `(tactic| with_reducible first
  | refine rd_seq ?_ | refine rd_ifS ?_ | refine rd_asg ?_ | refine rd_name ?_ | refine rd_ret ?_ | refine rd_drop ?_ | refine rd_next ?_ | refine rd_retN ?_
  | refine rd_c ?_ | refine rd_op ?_ | refine rd_un ?_ | refine rd_U ?_ | refine rd_I0 ?_ | refine rd_eqI ?_ | refine rd_neI ?_ | refine rd_eqS ?_ | refine rd_neS ?_
  | refine rd_nil ?_ | refine rd_cons ?_ | refine rd_call ?_ | refine rd_cb ?_ | refine rd_bm ?_ | refine rd_tup ?_ | refine rd_lst ?_ | refine rd_sl ?_ | refine rd_part ?_ | refine rd_nopart ?_
  | refine rd_exI ?_ | refine rd_exB ?_ | refine rd_exR ?_ | refine rd_test ?_ | refine rd_B ?_ | refine rd_and ?_ | refine rd_or ?_ | refine rd_not ?_ | refine rd_andV ?_ | refine rd_orV ?_ | refine rd_notV ?_ | refine rd_ifE ?_ | refine rd_chain ?_
  | refine rd_dget2 ?_ | refine rd_dnotin ?_ | refine rd_gcons ?_ | refine rd_gnil ?_ | refine rd_gsub ?_ | refine rd_ipI ?_ | refine rd_par ?_ | refine rd_for ?_ | refine rd_iList ?_ | refine rd_iTup ?_ | refine rd_iRng1 ?_ | refine rd_iRng2 ?_
  | refine rd_iRev ?_ | refine rd_iEnum ?_ | refine rd_dput ?_ | refine rd_nx ?_ | refine rd_rt ?_ | refine rd_yes ?_ | refine rd_dc ?_ | refine rd_lc ?_ | refine rd_iItems ?_ | refine rd_iVals ?_ | refine rd_iRng3 ?_ | refine rd_m1 ?_)
local macro_rules | `(tactic| walk_at "go") => `(tactic| repeat (first | walk_at "go1" | ((with_reducible refine' rd_var ?h1 ?_); (case h1 => exact rfl)) | ((with_reducible refine' rd_aug ?h1 ?_); (case h1 => exact rfl))))

/-- a new address is not that of the state, nor of what stood before -/
theorem But.new {st scr l : Addr} {H H' : Hp} (h : StOk H' st scr) (b : But st H H') (hl : H' l = none) : H l = none := b.free (stok_ne h hl) hl
theorem but_at {st a : Addr} {H H' : Hp} {o : HO} (b : But st H H') (n : a ≠ st) (h : H a = some o) : H' a = some o := b _ _ n h
theorem ref_list_ne {H : Hp} {st scr L : Addr} {as : List Addr} (hs : StOk H st scr) (h : H L = some (.lst (as.map V.ref))) : L ≠ st := by
  obtain ⟨x, k, y, ns, g1, _⟩ := hs
  refine ne_of h g1 fun z => ?_
  have z := HO.lst.inj z
  cases as with
  | nil => cases z
  | cons a r => cases z
theorem dict_ne {H : Hp} {st scr d : Addr} {kvs : List (Key × V)} (hs : StOk H st scr) (h : H d = some (.dK kvs)) : d ≠ st := by
  obtain ⟨x, k, y, ns, g1, _⟩ := hs
  exact ne_of h g1 fun z => by cases z
theorem dict_ne2 {H : Hp} {st scr d : Addr} {kvs : List (Key × V)} (hs : StOk H st scr) (h : H d = some (.dK kvs)) : d ≠ scr := by
  obtain ⟨x, k, y, ns, _, g1, _⟩ := hs
  exact ne_of h g1 fun z => by cases z
theorem PosOk.tk {H H' : Hp} (k : Tk H H') {t : Tm} {as : List Addr} (h : PosOk H t as) : PosOk H' t as := fun a m => by
  obtain ⟨p, u, e, g⟩ := h a m
  exact ⟨p, u, k _ _ e, g⟩
/-- a dict is changed: the tuples stay -/
theorem tk_dict {H : Hp} {d : Addr} {kvs : List (Key × V)} {o : HO} (h : H d = some (.dK kvs)) : Tk H (upd H d o) := fun a xs e => by
  rw [upd_ne (ne_of e h (by intro z; cases z))]
  exact e
section
variable {P : Program} {w : World} {K : PySem.W.Frag} {mg : Str → Option Value} {base : Heap}
abbrev s_l_pattern : Stmt := top 39
theorem sc_l_pattern : FnScope ["_law_state_here", "_law_term_here", "_law_places", "_law_position", "_law_pattern_here", "_law_bound", "_law_variable"] ["_law_state_here", "_law_term_here", "_law_places"] (defScope s_l_pattern) := ⟨rfl, rfl, rfl, by decide +kernel, rfl, by decide +kernel, by decide +kernel⟩
def sp_pattern : Sp := fun vs H Q _ => ∃ (st scr L : Addr) (as : List Addr) (t : Tm) (v : V), vs = [.ref st, v, .ref L] ∧ StOk H st scr ∧ At H t v ∧ H L = some (.lst (as.map V.ref)) ∧ 0 < as.length ∧ as.length < 1000000 ∧ PosOk H t as ∧ dep t ≤ 40 ∧ siz t ≤ 4000 ∧
  ∀ (a d : Addr) (x : V) (p : List Nat) (u : Tm) (ps : Sb) (H' : Hp), get p t = some u → But st H H' → StOk H' st scr → H' a = some (.tup [x, .ref d]) → At H' (put p t (.var 9)) x → H d = none → d ≠ st → DAt H' ps d → (keys ps).Nodup → (∀ i, i ∈ keys ps ↔ Occ i (put p t (.var 9))) → ps.length ≤ 4001 → Pat ps u → Q (.ref a) H'
theorem ok_l_pattern (B : Bi mg) (F : De K mg "_law_pattern" s_l_pattern ["_law_state_here", "_law_term_here", "_law_places"]) (k_l_draw : Kn P w K mg base CX0 3 "_law_draw" ["_law_state_here", "_law_many"] sp_draw)
    (k_l_replace : Kn P w K mg base CX0 41 "_law_replace" ["_law_term_here", "_law_position", "_law_new"] (sp_replace 40)) (k_l_subterm : Kn P w K mg base CX0 1 "_law_subterm" ["_law_term_here", "_law_position"] sp_subterm)
    (k_l_variables : Kn P w K mg base CX0 41 "_law_variables" ["_law_term_here"] (sp_variables 40)) : Kn P w K mg base CX0 42 "_law_pattern" ["_law_state_here", "_law_term_here", "_law_places"] sp_pattern := by
  refine F.ok sc_l_pattern (fun vs H Q E h => ?_) (fun f cdv A outer s H vs Q E hr h => ?_)
  · obtain ⟨st, scr, L, as, t, v, rfl, _⟩ := h
    rfl
  obtain ⟨st, scr, L, as, t, v, rfl, hst, hv, hL, h0, hm, hpos, hd, hs, q⟩ := h
  refine ⟨_, (pss_cons (ps_set (i := 3) sc_l_pattern.nd rfl (.inl rfl) (pe_ix ix_list (pv 2) (pe_kn k_l_draw (hr.mono (by omega)) (pa_cons (pv 0) (pa_cons (pe_callB call_len_seq (by rfl) B.m_len PySem.boot_len (pa_cons (pv 2) pa_nil)) pa_nil))) (fun _ _ => rfl)))
      (pss_cons (ps_set (i := 4) sc_l_pattern.nd rfl (.inl rfl) (pe_kn k_l_replace (hr.mono (by omega)) (pa_cons (pv 1) (pa_cons (pv 3) (pa_cons pe_int pa_nil)))))
      (pss_cons (ps_set (i := 5) sc_l_pattern.nd rfl (.inl rfl) (pe_disp (pps_cons pe_int (pe_kn k_l_subterm (hr.mono (by omega)) (pa_cons (pv 1) (pa_cons (pv 3) pa_nil))) pps_nil) (by rfl) (by rfl) (fun z => by cases z) (by decide)))
      (pss_cons (ps_for PassesOwn.never rfl (pi_list (pe_kn k_l_variables (hr.mono (by omega)) (pa_cons (pv 4) pa_nil))) (pg_name (i := 6) sc_l_pattern.nd rfl (.inl rfl)) (pss_one (ps_if (pt_cmpR op_ne (pv 6) pe_int (nomark _)) (pss_one (ps_dput (hu_of hr) (pv 5) (pv 6) (pv 6) rfl)) pss_nil)))
      (pss_one (ps_ret (pe_tup (pa_cons (pv 4) (pa_cons (pv 5) pa_nil))))))))), ?_⟩
  walk_at "go"
  refine ⟨L, _, rfl, .inl (SqL.of hL), ?_⟩
  walk_at "go"
  refine ⟨st, scr, as.length, by rw [List.length_map]; rfl, hst, h0, by omega, fun n H1 hn b1 s1 => ?_⟩
  have nL := ref_list_ne hst hL
  have kp1 := b1.kp hst
  obtain ⟨p, u, ep, hg⟩ := hpos _ (List.getElem_mem hn)
  have ep1 := kp1.tup ep
  refine rd_ixL (v := .ref as[n]) (SqL.of (b1 _ _ nL hL)) (atI_nat (by rw [List.getElem?_map, List.getElem?_eq_getElem hn]; rfl)) ?_
  walk_at "go"
  have hdg := dep_get hg
  have hup := dep_pos u
  refine ⟨t, v, p, as[n], u, .var 9, .int 9, rfl, hv.kp kp1, ep1, rfl, hg, by omega, by omega, fun x H2 sm2 hx => ?_⟩
  walk_at "go"
  refine rd_disp fun d hd0 => ?_
  have s3 := same_new (o := .dK []) hd0
  have smA := sm2.trans s3
  walk_at "go"
  refine ⟨t, v, p, as[n], u, rfl, (hv.kp kp1).sm smA, smA _ _ ep1, hg, fun z hz => ?_⟩
  refine ⟨upd_same, [(Sum.inl 9, z)], rfl, by show 1 ≤ 15; decide, ?_⟩
  have hd1 : H1 d = none := sm2.free hd0
  have hd00 : H d = none := But.new s1 b1 hd1
  have nd1 := stok_ne s1 hd1
  have nd2 := stok_ne2 s1 hd1
  rw [upd_upd]
  have sm3 : Same H1 (upd H2 d (.dK (mergeK [] [(Sum.inl 9, z)]))) := same_mut sm2 hd1
  have k3 : Same H2 (upd H2 d (.dK (mergeK [] [(Sum.inl 9, z)]))) := same_new hd0
  have hz2 : At H2 u z := hz.tk fun a xs e => by
    by_cases w : a = d
    · subst w
      rw [upd_same] at e
      cases e
    · rw [upd_ne w] at e
      exact e
  have hx3 := hx.sm k3
  have hpd := dep_put (x := .var 9) hg
  have hps := siz_put (x := .var 9) hg
  have h9 : dep (.var 9) = 1 := rfl
  have h9s : siz (.var 9) = 1 := rfl
  have hsu := siz_pos u
  walk_at "go"
  refine ⟨put p t (.var 9), x, rfl, hx3, by omega, by omega, fun M ns H4 hM0 sm4 eM hnd hns hnl => ?_⟩
  walk_at "go"
  have nMd : M ≠ d := by
    intro w
    rw [w, upd_same] at hM0
    cases hM0
  have hM1 : H1 M = none := sm3.free hM0
  refine ⟨⟨_, SqL.of eM⟩, for_list (xs := ns.map V.int) (fun j σ H' => ∃ (y6 : Option V) (ps : Sb), σ = [some (.ref st), some v, some (.ref L), some (.ref as[n]), some x, some (.ref d), y6] ∧ Same H1 H' ∧ H' M = some (.lst (ns.map V.int)) ∧ At H' (put p t (.var 9)) x ∧ DAt H' ps d ∧ (keys ps).Nodup ∧ (∀ i, i ∈ keys ps ↔ i = 9 ∨ i ∈ ns.take j) ∧ ps.length ≤ 1 + j ∧ Pat ps u)
    ⟨none, [(9, u)], rfl, sm3.trans sm4, eM, hx3.sm sm4, ⟨_, sm4 _ _ upd_same, .cons ⟨rfl, (hz2.sm k3).sm sm4⟩ .nil⟩, List.nodup_cons.mpr ⟨List.not_mem_nil, List.nodup_nil⟩, fun i => ⟨fun m => .inl (List.mem_singleton.mp m), fun m => m.elim (fun w => List.mem_singleton.mpr w) fun w => by cases w⟩, Nat.le_refl _, rfl, fun i hi => by rw [lk, if_neg hi.symm]; rfl⟩ (fun j σ H' _ ⟨_, _, _, _, e, _⟩ => SqL.of e) ?_ ?_⟩
  · rintro j y σ H' hy ⟨y6, ps, rfl, sm, eM', hx', ⟨kvs, ed, hk⟩, hpn, hpk, hpl, hpat⟩
    rw [List.getElem?_map] at hy
    obtain ⟨m1, hm1, rfl⟩ := Option.map_eq_some_iff.mp hy
    have hjl := lt_of_get hm1
    walk_at "go"
    by_cases h91 : m1 = 9
    · rw [decide_eq_true h91]
      refine iteF ?_
      walk_at "go"
      refine ⟨_, ps, rfl, sm, eM', hx', ⟨kvs, ed, hk⟩, hpn, fun i => ?_, by omega, hpat⟩
      rw [hpk, take_mem_more hm1]
      constructor
      · rintro (w | w)
        · exact .inl w
        · exact .inr (.inl w)
      · rintro (w | w | w)
        · exact .inl w
        · exact .inr w
        · exact .inl (by rw [w]; exact h91)
    · rw [decide_eq_false h91]
      refine iteT ?_
      walk_at "go"
      have hnk : ¬ m1 ∈ keys ps := by
        intro w
        rcases (hpk m1).mp w with w | w
        · exact h91 w
        · have e1 := take_more hm1
          have e2 : (ns.take (j + 1)).Nodup := hnd.sublist (List.take_sublist _ _)
          rw [e1] at e2
          exact (List.nodup_append.mp e2).2.2 _ w _ List.mem_cons_self rfl
      have hkl := Paired.length hk
      refine ⟨d, _, rfl, DPut.k (k := Sum.inl m1) ed (by rw [sizeLine_eq]; omega), ?_⟩
      have tk := tk_dict (o := .dK (putK kvs (Sum.inl m1) (.int m1))) ed
      refine ⟨_, ps ++ [(m1, .var m1)], rfl, same_mut sm hd1, by rw [upd_ne nMd]; exact eM', hx'.tk tk, ⟨_, upd_same, (DRel.put (t := .var m1) hk hnk rfl).tk tk⟩, ?_, fun i => ?_, ?_, ?_, fun i hi => ?_⟩
      · show (keys (ps ++ _)).Nodup
        unfold keys
        rw [List.map_append]
        exact nd_snoc hpn hnk
      · have e3 : keys (ps ++ [(m1, .var m1)]) = keys ps ++ [m1] := List.map_append
        rw [e3, List.mem_append, List.mem_singleton, hpk, take_mem_more hm1]
        constructor
        · rintro ((w | w) | w)
          · exact .inl w
          · exact .inr (.inl w)
          · exact .inr (.inr w)
        · rintro (w | w | w)
          · exact .inl (.inl w)
          · exact .inl (.inr w)
          · exact .inr w
      · rw [List.length_append]
        show ps.length + 1 ≤ _
        omega
      · rw [lk_append_left ((hpk 9).mpr (.inl rfl))]
        exact hpat.1
      · by_cases w : i ∈ keys ps
        · rw [lk_append_left w]
          exact hpat.2 i hi
        · rw [lk_append_right w, lk]
          by_cases e : m1 = i
          · rw [if_pos e, e]
          · rw [if_neg e]
            rfl
  · rintro σ H' ⟨y6, ps, rfl, sm, eM', hx', hD, hpn, hpk, hpl, hpat⟩
    walk_at "go"
    refine ⟨by show 2 ≤ sizeLine; decide, fun a ha => ?_⟩
    have sF := same_new (o := .tup [x, .ref d]) ha
    rw [List.length_map] at hpk hpl
    rw [List.take_length] at hpk
    refine q a d x p u ps _ hg (b1.trans (but_of (sm.trans sF))) (stok_sm (sm.trans sF) s1) upd_same (hx'.sm sF) hd00 nd1 (hD.sm sF) hpn (fun i => ?_) (by omega) hpat
    rw [hpk, hns]
    constructor
    · rintro (w | w)
      · rw [w]
        exact occ_put_new hg rfl
      · exact w
    · exact .inr
end
end K18
set_option Elab.async false
set_option linter.all false
set_option maxRecDepth 100000
set_option maxHeartbeats 4000000
/-! The law's own step, chain. -/
namespace K18
open PySem PySem.Spec L2
local macro_rules | `(tactic| walk_at "go1") => `(tactic| with_reducible first
  | refine rd_seq ?_ | refine rd_ifS ?_ | refine rd_asg ?_ | refine rd_name ?_ | refine rd_ret ?_ | refine rd_drop ?_ | refine rd_next ?_ | refine rd_retN ?_
  | refine rd_c ?_ | refine rd_op ?_ | refine rd_un ?_ | refine rd_U ?_ | refine rd_I0 ?_ | refine rd_eqI ?_ | refine rd_neI ?_ | refine rd_eqS ?_ | refine rd_neS ?_
  | refine rd_nil ?_ | refine rd_cons ?_ | refine rd_call ?_ | refine rd_cb ?_ | refine rd_bm ?_ | refine rd_tup ?_ | refine rd_lst ?_ | refine rd_sl ?_ | refine rd_part ?_ | refine rd_nopart ?_
  | refine rd_exI ?_ | refine rd_exB ?_ | refine rd_exR ?_ | refine rd_test ?_ | refine rd_B ?_ | refine rd_and ?_ | refine rd_or ?_ | refine rd_not ?_ | refine rd_andV ?_ | refine rd_orV ?_ | refine rd_notV ?_ | refine rd_ifE ?_ | refine rd_chain ?_
  | refine rd_dget2 ?_ | refine rd_dnotin ?_ | refine rd_gcons ?_ | refine rd_gnil ?_ | refine rd_gsub ?_ | refine rd_ipI ?_ | refine rd_par ?_ | refine rd_for ?_ | refine rd_iList ?_ | refine rd_iTup ?_ | refine rd_iRng1 ?_ | refine rd_iRng2 ?_
  | refine rd_iRev ?_ | refine rd_iEnum ?_ | refine rd_dput ?_ | refine rd_nx ?_ | refine rd_rt ?_ | refine rd_yes ?_ | refine rd_dc ?_ | refine rd_lc ?_ | refine rd_iItems ?_ | refine rd_iVals ?_ | refine rd_iRng3 ?_ | refine rd_m1 ?_)
local macro_rules | `(tactic| walk_at "go") => `(tactic| repeat (first | walk_at "go1" | ((with_reducible refine' rd_var ?h1 ?_); (case h1 => exact rfl)) | ((with_reducible refine' rd_aug ?h1 ?_); (case h1 => exact rfl))))

theorem ops_dict {H : Hp} {O d : Addr} {kvs kvs' : List (Key × V)} (e : H d = some (.dK kvs)) : OpsAt H O → OpsAt (upd H d (.dK kvs')) O := fun ⟨as, h, h1, h2, h3⟩ => ⟨as, by
  rw [upd_ne (ne_of h e fun z => by cases z)]
  exact h, h1, h2, fun a ha => by
  obtain ⟨f, ar, e1, r⟩ := h3 a ha
  exact ⟨f, ar, tk_dict e _ _ e1, r⟩⟩
section
variable {P : Program} {w : World} {K : PySem.W.Frag} {mg : Str → Option Value} {base : Heap}
abbrev s_l_step : Stmt := top 40
theorem sc_l_step : FnScope ["_law_state_here", "_law_operations_here", "_law_count", "_law_term_here", "_law_source", "_law_places", "_law_position", "_law_inner", "_law_old", "_law_bound", "_law_new", "_law_variable", "_law_result"] ["_law_state_here", "_law_operations_here", "_law_count", "_law_term_here", "_law_source"] (defScope s_l_step) := ⟨rfl, rfl, rfl, by decide +kernel, rfl, by decide +kernel, by decide +kernel⟩
def sp_step : Sp := fun vs H Q _ => ∃ (st scr O sa : Addr) (t : Tm) (v : V) (k b d : Nat), vs = [.ref st, .ref O, .int 9, v, .ref sa] ∧ StOk H st scr ∧ OpsAt H O ∧ At H t v ∧ Tg b d t ∧ 4 ≤ b ∧ 2 ≤ d ∧ b ≤ 3000 ∧ d ≤ 36 ∧ H sa = some (.tup [.str (Str.ofString "given"), .int (k : Int)]) ∧
  ∀ (a : Addr) (e : Eqn) (s : Stp) (t' : Tm) (ve vs' vt : V) (H' : Hp), But st H H' → StOk H' st scr → H' a = some (.tup [ve, vs', vt]) → EqnAt H' e ve → StpAt H' s vs' → At H' t' vt → s.giv = true → s.ix = k → Does e s t t' → Keys e s.sb → Tg (b + 16) (d + 2) t' → SOk b d s →
    siz e.1 ≤ b ∧ dep e.1 ≤ d ∧ siz e.2 ≤ b ∧ dep e.2 ≤ d → Q (.ref a) H'
theorem ok_l_step (B : Bi mg) (F : De K mg "_law_step" s_l_step ["_law_state_here", "_law_operations_here", "_law_count", "_law_term_here", "_law_source"]) (k_l_draw : Kn P w K mg base CX0 3 "_law_draw" ["_law_state_here", "_law_many"] sp_draw)
    (k_l_term : Kn P w K mg base CX0 6 "_law_term" ["_law_state_here", "_law_operations_here", "_law_count", "_law_height"] (sp_term 1)) (k_l_positions : Kn P w K mg base CX0 41 "_law_positions" ["_law_term_here"] (sp_positions 40))
    (k_l_replace : Kn P w K mg base CX0 41 "_law_replace" ["_law_term_here", "_law_position", "_law_new"] (sp_replace 40)) (k_l_subterm : Kn P w K mg base CX0 1 "_law_subterm" ["_law_term_here", "_law_position"] sp_subterm)
    (k_l_substitute : Kn P w K mg base CX0 41 "_law_substitute" ["_law_term_here", "_law_substitution"] (sp_sub 40)) (k_l_variables : Kn P w K mg base CX0 41 "_law_variables" ["_law_term_here"] (sp_variables 40))
    (k_l_pattern : Kn P w K mg base CX0 42 "_law_pattern" ["_law_state_here", "_law_term_here", "_law_places"] sp_pattern) :
    Kn P w K mg base CX0 43 "_law_step" ["_law_state_here", "_law_operations_here", "_law_count", "_law_term_here", "_law_source"] sp_step := by
  refine F.ok sc_l_step (fun vs H Q E h => ?_) (fun f cdv A outer s H vs Q E hr h => ?_)
  · obtain ⟨st, scr, O, sa, t, v, k, b, d, rfl, _⟩ := h
    rfl
  obtain ⟨st, scr, O, sa, t, v, k, b, d, rfl, hst, hops, hv, hT, hb4, hd2, hb3, hd36, hsa, q⟩ := h
  have hTs := hT.sz
  have hTd := hT.dp
  refine ⟨_, (pss_cons (ps_set (i := 5) sc_l_step.nd rfl (.inl rfl) (pe_kn k_l_positions (hr.mono (by omega)) (pa_cons (pv 3) pa_nil)))
      (pss_cons (ps_set (i := 6) sc_l_step.nd rfl (.inl rfl) (pe_ix ix_list (pv 5) (pe_kn k_l_draw (hr.mono (by omega)) (pa_cons (pv 0) (pa_cons (pe_callB call_len_seq (by rfl) B.m_len PySem.boot_len (pa_cons (pv 5) pa_nil)) pa_nil))) (fun _ _ => rfl)))
      (pss_cons (ps_set (i := 7) sc_l_step.nd rfl (.inl rfl) (pe_kn k_l_subterm (hr.mono (by omega)) (pa_cons (pv 3) (pa_cons (pv 6) pa_nil))))
      (pss_cons (ps_asg (pe_kn k_l_pattern (hr.mono (by omega)) (pa_cons (pv 0) (pa_cons (pv 7) (pa_cons (pe_kn k_l_positions (hr.mono (by omega)) (pa_cons (pv 7) pa_nil)) pa_nil)))) (pg_tup rfl (pgs_cons (pg_name (i := 8) sc_l_step.nd rfl (.inl rfl)) (pgs_cons (pg_name (i := 9) sc_l_step.nd rfl (.inl rfl)) pgs_nil))))
      (pss_cons (ps_set (i := 10) sc_l_step.nd rfl (.inl rfl) (pe_kn k_l_term (hr.mono (by omega)) (pa_cons (pv 0) (pa_cons (pv 1) (pa_cons (pv 2) (pa_cons pe_int pa_nil))))))
      (pss_cons (ps_if (pt_cmpR op_eq (pe_kn k_l_draw (hr.mono (by omega)) (pa_cons (pv 0) (pa_cons pe_int pa_nil))) pe_int (nomark _)) (pss_one (ps_set (i := 10) sc_l_step.nd rfl (.inl rfl) (pe_kn k_l_replace (hr.mono (by omega)) (pa_cons (pv 10) (pa_cons (pe_ix ix_list (pe_kn k_l_positions (hr.mono (by omega)) (pa_cons (pv 10) pa_nil)) (pe_op op_sub pe_int pe_int) (fun _ _ => rfl)) (pa_cons pe_int pa_nil)))))) pss_nil)
      (pss_cons (ps_for PassesOwn.never rfl (pi_list (pe_kn k_l_variables (hr.mono (by omega)) (pa_cons (pv 10) pa_nil))) (pg_name (i := 11) sc_l_step.nd rfl (.inl rfl)) (pss_one (ps_if (pt_cmp (pc_dnotin (hu_of hr) (pv 11) (pv 9))) (pss_one (ps_dput (hu_of hr) (pv 9) (pv 11) (pe_kn k_l_term (hr.mono (by omega)) (pa_cons (pv 0) (pa_cons (pv 1) (pa_cons (pv 2) (pa_cons pe_int pa_nil))))) rfl)) pss_nil)))
      (pss_cons (ps_set (i := 12) sc_l_step.nd rfl (.inl rfl) (pe_kn k_l_replace (hr.mono (by omega)) (pa_cons (pv 3) (pa_cons (pv 6) (pa_cons (pe_kn k_l_substitute (hr.mono (by omega)) (pa_cons (pv 10) (pa_cons (pv 9) pa_nil))) pa_nil)))))
      (pss_cons (ps_if (pt_cmpR op_eq (pe_kn k_l_draw (hr.mono (by omega)) (pa_cons (pv 0) (pa_cons pe_int pa_nil))) pe_int (nomark _)) (pss_one (ps_ret (pe_tup (pa_cons (pe_tup (pa_cons (pv 8) (pa_cons (pv 10) pa_nil))) (pa_cons (pe_tup (pa_cons (pv 4) (pa_cons pe_bl (pa_cons (pv 6) (pa_cons (pv 9) pa_nil))))) (pa_cons (pv 12) pa_nil)))))) pss_nil)
      (pss_one (ps_ret (pe_tup (pa_cons (pe_tup (pa_cons (pv 10) (pa_cons (pv 8) pa_nil))) (pa_cons (pe_tup (pa_cons (pv 4) (pa_cons pe_bl (pa_cons (pv 6) (pa_cons (pv 9) pa_nil))))) (pa_cons (pv 12) pa_nil))))))))))))))), ?_⟩
  walk_at "go"
  refine ⟨t, v, rfl, hv, by omega, by omega, fun L1 as1 H1 hL10 sm1 eL1 h10 h1l hp1 => ?_⟩
  walk_at "go"
  refine ⟨L1, _, rfl, .inl (SqL.of eL1), ?_⟩
  walk_at "go"
  have st1 := stok_sm sm1 hst
  refine ⟨st, scr, as1.length, by rw [List.length_map]; rfl, st1, h10, by omega, fun n1 H2 hn1 b2 st2 => ?_⟩
  have kp2 := b2.kp st1
  obtain ⟨p, inner, ep, hg⟩ := hp1 _ (List.getElem_mem hn1)
  have ep2 := kp2.tup ep
  refine rd_ixL (v := .ref as1[n1]) (SqL.of (b2 _ _ (ref_list_ne st1 eL1) eL1)) (atI_nat (by rw [List.getElem?_map, List.getElem?_eq_getElem hn1]; rfl)) ?_
  walk_at "go"
  have bA : But st H H2 := (but_of sm1).trans b2
  have kA := bA.kp hst
  have hdg := dep_get hg
  have hsg := siz_get hg
  have hip := dep_pos inner
  refine ⟨t, v, p, as1[n1], inner, rfl, hv.kp kA, ep2, hg, fun vi hvi => ?_⟩
  walk_at "go"
  refine ⟨inner, vi, rfl, hvi, by omega, by omega, fun L2 as2 H3 hL20 sm3 eL2 h20 h2l hp2 => ?_⟩
  have st3 := stok_sm sm3 st2
  refine ⟨st, scr, L2, as2, inner, vi, rfl, st3, hvi.sm sm3, eL2, h20, by omega, hp2, by omega, by omega, fun a1 dd x q1 u ps H4 hq1 b4 st4 ea1 hx hdd0 nds hD hpn hpk hpl hpat => ?_⟩
  have bB : But st H H4 := (bA.trans (but_of sm3)).trans b4
  have kB := bB.kp hst
  have kB3 : Kp H2 H4 := (kp_of sm3).trans (b4.kp st3)
  have hdd : H dd = none := (bA.trans (but_of sm3)).free nds hdd0
  refine rd_gtup (SqT.of ea1) rfl ?_
  walk_at "go"
  refine ⟨st, scr, O, rfl, st4, hops.kp kB, fun n0 vn H5 hn0 hvn b5 st5 => ?_⟩
  walk_at "go"
  refine ⟨st, scr, 2, rfl, st5, by decide, by decide, fun n6 H6 hn6 b6 st6 => ?_⟩
  walk_at "go"
  have bC : But st H H6 := (bB.trans b5).trans b6
  have kC := bC.kp hst
  have k56 := (b5.trans b6).kp st4
  have hn0' : siz n0 ≤ 4 ∧ dep n0 ≤ 2 ∧ Nam n0 ∧ Vr n0 := ⟨hn0.sz, hn0.dp, hn0.nm, hn0.vr⟩
  -- behind the if: the new side n at vn
  have fin : ∀ (n : Tm) (vn : V) (y11 y12 : Option V) (H6 : Hp), But st H H6 → StOk H6 st scr → Kp H4 H6 → At H6 n vn → (n = n0 ∨ ∃ r x, get r n0 = some x ∧ n = put r n0 (.var 9)) →
      (tSeq (tFor (iList K (tCall (sp_variables 40) [] E0 (tCons (tVar 10) tNil))) (gName 11) (tIfS (tB (tDNotIn (tVar 11) (tVar 9))) (sDPut (tVar 9) (tVar 11) (tCall (sp_term 1) [] E0 (tCons (tVar 0) (tCons (tVar 1) (tCons (tVar 2) (tCons (tC (.int 1)) tNil)))))) tNext))
        (tSeq (tAsg (tCall (sp_replace 40) [] E0 (tCons (tVar 3) (tCons (tVar 6) (tCons (tCall (sp_sub 40) [] E0 (tCons (tVar 10) (tCons (tVar 9) tNil))) tNil)))) (gName 12))
          (tSeq (tIfS (tTest (tOp rEq (tCall sp_draw [] E0 (tCons (tVar 0) (tCons (tC (.int 2)) tNil))) (tC (.int 0)))) (tRet (tTup (tCons (tTup (tCons (tVar 8) (tCons (tVar 10) tNil))) (tCons (tTup (tCons (tVar 4) (tCons (tC (.bl true)) (tCons (tVar 6) (tCons (tVar 9) tNil))))) (tCons (tVar 12) tNil))))) tNext)
            (tRet (tTup (tCons (tTup (tCons (tVar 10) (tCons (tVar 8) tNil))) (tCons (tTup (tCons (tVar 4) (tCons (tC (.bl false)) (tCons (tVar 6) (tCons (tVar 9) tNil))))) (tCons (tVar 12) tNil)))))))) { nx := fun _ H' => Q .non H', rt := Q }
        [some (.ref st), some (.ref O), some (.int 9), some v, some (.ref sa), some (.ref L1), some (.ref as1[n1]), some vi, some x, some (.ref dd), some vn, y11, y12] H6 := by
    intro n vn y11 y12 H6 bC st6 k46 hvn hn
    have kC := bC.kp hst
    have hnb : siz n ≤ 4 ∧ dep n ≤ 2 := by
      rcases hn with rfl | ⟨r, z, hr, rfl⟩
      · exact ⟨hn0'.1, hn0'.2.1⟩
      · have h1 := siz_put (x := .var 9) hr
        have h2 := dep_put (x := .var 9) hr
        have h3 := dep_get hr
        have h4 := dep_pos z
        have h5 := siz_pos z
        have h6 : siz (.var 9) = 1 := rfl
        have h7 : dep (.var 9) = 1 := rfl
        have h8 := hn0'.1
        have h9 := hn0'.2.1
        exact ⟨by omega, by omega⟩
    walk_at "go"
    refine ⟨n, vn, rfl, hvn, by omega, by omega, fun M ns H7 hM0 sm7 eM hnn hns hnl => ?_⟩
    have st7 := stok_sm sm7 st6
    have nMs : M ≠ st := fun z => by
      obtain ⟨_, _, _, _, g, _⟩ := st6
      rw [z, g] at hM0
      cases hM0
    obtain ⟨kv0, ed6, hk6⟩ := hD.kp k46
    have nMd : M ≠ dd := fun z => by
      rw [z, ed6] at hM0
      cases hM0
    have hops7 := (hops.kp kC).kp (kp_of sm7)
    walk_at "go"
    refine ⟨⟨_, SqL.of eM⟩, for_list (xs := ns.map V.int) (fun j σ H' => ∃ (y11 : Option V) (ps' : Sb), σ = [some (.ref st), some (.ref O), some (.int 9), some v, some (.ref sa), some (.ref L1), some (.ref as1[n1]), some vi, some x, some (.ref dd), some vn, y11, y12] ∧ But st H H' ∧ StOk H' st scr ∧ Tk H7 H' ∧ OpsAt H' O ∧ H' M = some (.lst (ns.map V.int)) ∧ DAt H' ps' dd ∧ Vals9 ps ps' ∧ (keys ps').Nodup ∧ (∀ i, i ∈ keys ps' ↔ i ∈ keys ps ∨ i ∈ ns.take j) ∧ ps'.length ≤ 4001 + j)
      ⟨y11, ps, rfl, bC.trans (but_of sm7), st7, fun _ _ e => e, hops7, eM, ⟨kv0, sm7 _ _ ed6, hk6.tk (tk_of sm7)⟩, ⟨fun _ _ => rfl, fun i h1 h2 => by rw [lk_not h1]; exact ⟨by show 1 ≤ 4; decide, by show 1 ≤ 2; decide, trivial, .inr rfl⟩⟩, hpn, fun i => ⟨.inl, fun z => z.elim id fun z => by cases z⟩, by omega⟩ (fun j σ H' _ ⟨_, _, _, _, _, _, _, e, _⟩ => SqL.of e) ?_ ?_⟩
    · rintro j y σ H' hy ⟨z11, ps', rfl, bb, sto, tk, ho, eM', hD', hv9, hpn', hpk', hpl'⟩
      rw [List.getElem?_map] at hy
      obtain ⟨m1, hm1, rfl⟩ := Option.map_eq_some_iff.mp hy
      have hjl := lt_of_get hm1
      walk_at "go"
      obtain ⟨o, ho1, ho2⟩ := rd_dget (i := m1) hD'.rd
      refine ⟨dd, o, rfl, ho1, ?_⟩
      walk_at "go"
      rw [ho2]
      by_cases hin : m1 ∈ keys ps'
      · rw [decide_eq_true hin]
        refine iteF ?_
        walk_at "go"
        refine ⟨_, ps', rfl, bb, sto, tk, ho, eM', hD', hv9, hpn', fun i => ?_, by omega⟩
        rw [hpk', take_mem_more hm1]
        constructor
        · rintro (z | z)
          · exact .inl z
          · exact .inr (.inl z)
        · rintro (z | z | z)
          · exact .inl z
          · exact .inr z
          · rw [z]
            exact (hpk' m1).mp hin
      · rw [decide_eq_false hin]
        refine iteT ?_
        walk_at "go"
        refine ⟨st, scr, O, rfl, sto, ho, fun tn wn H8 dn an b8 st8 => ?_⟩
        have k8 := b8.kp sto
        obtain ⟨kvs, ed, hk⟩ := hD'.kp k8
        have hkl := Paired.length hk
        walk_at "go"
        refine ⟨dd, _, rfl, DPut.k (k := Sum.inl m1) ed (by rw [sizeLine_eq]; omega), ?_⟩
        have tk8 := tk_dict (o := .dK (putK kvs (Sum.inl m1) wn)) ed
        refine ⟨_, ps' ++ [(m1, tn)], rfl, but_mut (bb.trans b8) hdd, stok_upd st8 nds (dict_ne2 st8 ed), fun a xs e => tk8 _ _ (k8.tk _ _ (tk _ _ e)), ops_dict ed (ho.kp k8), by rw [upd_ne nMd]; exact b8 _ _ nMs eM', ⟨_, upd_same, (DRel.put hk hin an).tk tk8⟩, ⟨fun i hi => ?_, fun i hi h9 => ?_⟩, ?_, fun i => ?_, ?_⟩
        · rw [lk_append_left ((hpk' i).mpr (.inl hi))]
          exact hv9.old i hi
        · by_cases z : i ∈ keys ps'
          · rw [lk_append_left z]
            exact hv9.new i hi h9
          · rw [lk_append_right z, lk]
            by_cases e : m1 = i
            · rw [if_pos e]
              exact ⟨dn.sz, dn.dp, dn.nm, .inl dn.vr⟩
            · rw [if_neg e]
              exact ⟨by show 1 ≤ 4; decide, by show 1 ≤ 2; decide, trivial, .inr rfl⟩
        · unfold keys
          rw [List.map_append]
          exact nd_snoc hpn' hin
        · have e3 : keys (ps' ++ [(m1, tn)]) = keys ps' ++ [m1] := List.map_append
          rw [e3, List.mem_append, List.mem_singleton, hpk', take_mem_more hm1]
          constructor
          · rintro ((w | w) | w)
            · exact .inl w
            · exact .inr (.inl w)
            · exact .inr (.inr w)
          · rintro (w | w | w)
            · exact .inl (.inl w)
            · exact .inl (.inr w)
            · exact .inr w
        · rw [List.length_append]
          show ps'.length + 1 ≤ _
          omega
    · rintro σ H8 ⟨z11, ps', rfl, b8, st8, tk8, ho8, eM8, hD8, hv9, hpn', hpk', hpl'⟩
      rw [List.length_map] at hpk' hpl'
      rw [List.take_length] at hpk'
      have k6 := kC.trans (kp_of sm7)
      have tkA : Tk H6 H8 := fun a xs e => tk8 _ _ (tk_of sm7 _ _ e)
      have law := fun f => step_law hT hg hq1 hpat hpk hn0' hn hv9 (fun i => by rw [hpk', hpk, hns]) hpn' hb4 hd2 k f
      have hvn8 := hvn.tk tkA
      have hvt8 : At H8 t v := (hv.kp kC).tk tkA
      have hx8 : At H8 (put q1 inner (.var 9)) x := (hx.kp k46).tk tkA
      have ep8 : H8 as1[n1] = some (.tup (pint p)) := tkA _ _ (k46.tup (kB3.tup ep2))
      have hsa8 := tkA _ _ (kC.tup hsa)
      walk_at "go"
      refine ⟨n, vn, ps', dd, rfl, hvn8, hD8.rd, by omega, by omega, fun z H9 sm9 hz => ?_⟩
      refine ⟨t, v, p, as1[n1], inner, sub (lk ps') n, z, rfl, hvt8.sm sm9, sm9 _ _ ep8, hz, hg, by omega, by omega, fun z2 H10 sm10 hz2 => ?_⟩
      walk_at "go"
      have smB := sm9.trans sm10
      refine ⟨st, scr, 2, rfl, stok_sm smB st8, by decide, by decide, fun n11 H11 hn11 b11 st11 => ?_⟩
      walk_at "go"
      have kD := (kp_of smB).trans (b11.kp (stok_sm smB st8))
      have bF := (b8.trans (but_of smB)).trans b11
      have hqs := siz_put (x := .var 9) hq1
      have hqd := dep_put (x := .var 9) hq1
      have hqg := dep_get hq1
      have hup := dep_pos u
      have hus := siz_pos u
      have h1s : siz (.var 9) = 1 := rfl
      have h1d : dep (.var 9) = 1 := rfl
      have hb1 : siz (put q1 inner (.var 9)) ≤ b := by omega
      have hb2 : dep (put q1 inner (.var 9)) ≤ d := by omega
      have hb3' : siz n ≤ b := by omega
      have hb4' : dep n ≤ d := by omega
      -- the tuple that comes back
      have out : ∀ (f : Bool) (v1 v2 : V) (e1 e2 : Tm), (e1, e2) = (if f then (put q1 inner (.var 9), n) else (n, put q1 inner (.var 9))) → At H11 e1 v1 → At H11 e2 v2 →
          ∀ p1, H11 p1 = none → ∀ p2, upd H11 p1 (.tup [v1, v2]) p2 = none → ∀ p3, upd (upd H11 p1 (.tup [v1, v2])) p2 (.tup [.ref sa, .bl f, .ref as1[n1], .ref dd]) p3 = none →
            Q (.ref p3) (upd (upd (upd H11 p1 (.tup [v1, v2])) p2 (.tup [.ref sa, .bl f, .ref as1[n1], .ref dd])) p3 (.tup [.ref p1, .ref p2, z2])) := by
        intro f v1 v2 e1 e2 ee h1 h2 p1 hp1 p2 hp2 p3 hp3
        obtain ⟨l1, l2, l3, l4, l5, l6⟩ := law f
        rw [← ee] at l1 l2
        have s12 := same_new (o := .tup [v1, v2]) hp1
        have s13 := same_new (o := .tup [.ref sa, .bl f, .ref as1[n1], .ref dd]) hp2
        have s14 := same_new (o := .tup [.ref p1, .ref p2, z2]) hp3
        have sE := (s12.trans s13).trans s14
        have kE := kp_of sE
        refine q p3 (e1, e2) ⟨true, k, f, p, ps'⟩ _ _ _ _ _ (bF.trans (but_of sE)) (stok_sm sE st11) upd_same ⟨p1, v1, v2, rfl, s14 _ _ (s13 _ _ upd_same), h1.sm sE, h2.sm sE⟩ ((StpAt.mk (s := ⟨true, k, f, p, ps'⟩) hp2 (s12 _ _ (kD.tup hsa8)) (s12 _ _ (kD.tup ep8)) ((hD8.kp kD).sm s12)).sm s14) (((hz2.kp (b11.kp (stok_sm smB st8)))).sm sE) rfl rfl l1 l2 l3 l4 ?_
        cases f with
        | true =>
          cases ee
          exact ⟨hb1, hb2, hb3', hb4'⟩
        | false =>
          cases ee
          exact ⟨hb3', hb4', hb1, hb2⟩
      have o1 := out true x vn _ _ rfl (hx8.kp kD) (hvn8.kp kD)
      have o2 := out false vn x _ _ rfl (hvn8.kp kD) (hx8.kp kD)
      refine ite2 (fun _ => ?_) (fun _ => ?_)
      · walk_at "go"
        refine ⟨by show 2 ≤ sizeLine; decide, fun p1 hp1 => ?_⟩
        walk_at "go"
        refine ⟨by show 4 ≤ sizeLine; decide, fun p2 hp2 => ?_⟩
        walk_at "go"
        exact ⟨by show 3 ≤ sizeLine; decide, fun p3 hp3 => o1 p1 hp1 p2 hp2 p3 hp3⟩
      · walk_at "go"
        refine ⟨by show 2 ≤ sizeLine; decide, fun p1 hp1 => ?_⟩
        walk_at "go"
        refine ⟨by show 4 ≤ sizeLine; decide, fun p2 hp2 => ?_⟩
        walk_at "go"
        exact ⟨by show 3 ≤ sizeLine; decide, fun p3 hp3 => o2 p1 hp1 p2 hp2 p3 hp3⟩
  refine ite2 (fun _ => ?_) (fun _ => ?_)
  · walk_at "go"
    have hvn6 := hvn.kp (b6.kp st5)
    have hn01 := hn0'.1
    have hn02 := hn0'.2.1
    refine ⟨n0, vn, rfl, hvn6, by omega, by omega, fun L3 as3 H7 hL30 sm7 eL3 h30 h3l hp3 => ?_⟩
    walk_at "go"
    have hlt : as3.length - 1 < as3.length := by omega
    obtain ⟨r, z, er, hr⟩ := hp3 _ (List.getElem_mem hlt)
    have hrd := dep_get hr
    have hrp := dep_pos z
    refine rd_ixL (v := .ref as3[as3.length - 1]) (SqL.of eL3) (atI_neg1 (by rw [List.length_map, List.getElem?_map, List.getElem?_eq_getElem hlt]; rfl)) ?_
    walk_at "go"
    refine ⟨n0, vn, r, _, z, .var 9, .int 9, rfl, hvn6.sm sm7, er, rfl, hr, by omega, by omega, fun vn' H8 sm8 hvn' => ?_⟩
    exact fin _ vn' _ _ H8 (bC.trans (but_of (sm7.trans sm8))) (stok_sm (sm7.trans sm8) st6) (k56.trans (kp_of (sm7.trans sm8))) hvn' (.inr ⟨r, z, hr, rfl⟩)
  · exact fin n0 vn _ _ H6 bC st6 k56 (hvn.kp (b6.kp st5)) (.inl rfl)
end
end K18
set_option Elab.async false
set_option linter.all false
set_option maxRecDepth 100000
set_option maxHeartbeats 4000000
/-! The law's own equation, has_position, is_step, next, follow. -/
namespace K18
open PySem PySem.Spec L2
local macro_rules | `(tactic| walk_at "go1") => `(tactic| with_reducible first
  | refine rd_seq ?_ | refine rd_ifS ?_ | refine rd_asg ?_ | refine rd_name ?_ | refine rd_ret ?_ | refine rd_drop ?_ | refine rd_next ?_ | refine rd_retN ?_
  | refine rd_c ?_ | refine rd_op ?_ | refine rd_un ?_ | refine rd_U ?_ | refine rd_I0 ?_ | refine rd_eqI ?_ | refine rd_neI ?_ | refine rd_eqS ?_ | refine rd_neS ?_
  | refine rd_nil ?_ | refine rd_cons ?_ | refine rd_call ?_ | refine rd_cb ?_ | refine rd_bm ?_ | refine rd_tup ?_ | refine rd_lst ?_ | refine rd_sl ?_ | refine rd_part ?_ | refine rd_nopart ?_
  | refine rd_exI ?_ | refine rd_exB ?_ | refine rd_exR ?_ | refine rd_test ?_ | refine rd_B ?_ | refine rd_and ?_ | refine rd_or ?_ | refine rd_not ?_ | refine rd_andV ?_ | refine rd_orV ?_ | refine rd_notV ?_ | refine rd_ifE ?_ | refine rd_chain ?_
  | refine rd_dget2 ?_ | refine rd_dnotin ?_ | refine rd_gcons ?_ | refine rd_gnil ?_ | refine rd_gsub ?_ | refine rd_ipI ?_ | refine rd_par ?_ | refine rd_for ?_ | refine rd_iList ?_ | refine rd_iTup ?_ | refine rd_iRng1 ?_ | refine rd_iRng2 ?_
  | refine rd_iRev ?_ | refine rd_iEnum ?_ | refine rd_dput ?_ | refine rd_nx ?_ | refine rd_rt ?_ | refine rd_yes ?_ | refine rd_dc ?_ | refine rd_lc ?_ | refine rd_iItems ?_ | refine rd_iVals ?_ | refine rd_iRng3 ?_ | refine rd_m1 ?_)
local macro_rules | `(tactic| walk_at "go") => `(tactic| repeat (first | walk_at "go1" | ((with_reducible refine' rd_var ?h1 ?_); (case h1 => exact rfl)) | ((with_reducible refine' rd_aug ?h1 ?_); (case h1 => exact rfl))))

section
variable {P : Program} {w : World} {K : PySem.W.Frag} {mg : Str → Option Value} {base : Heap}
abbrev s_l_equation : Stmt := top 42
theorem sc_l_equation : FnScope ["_law_given", "_law_stages_here", "_law_source", "_law_kind", "_law_index"] ["_law_given", "_law_stages_here", "_law_source"] (defScope s_l_equation) := ⟨rfl, rfl, rfl, by decide +kernel, rfl, by decide +kernel, by decide +kernel⟩
def sp_equation : Sp := fun vs H Q _ => ∃ (LG LE sa : Addr) (es : List Eqn) (ix : Nat) (e : Eqn), vs = [.ref LG, .ref LE, .ref sa] ∧ EqnsAt H es LG ∧ H sa = some (.tup [.str (srcS true), .int (ix : Int)]) ∧ es[ix]? = some e ∧ ∀ v, EqnAt H e v → Q v H
theorem ok_l_equation (F : De K mg "_law_equation" s_l_equation ["_law_given", "_law_stages_here", "_law_source"]) : Kn P w K mg base CX0 1 "_law_equation" ["_law_given", "_law_stages_here", "_law_source"] sp_equation := by
  refine F.ok sc_l_equation (fun vs H Q E h => ?_) (fun f cdv A outer s H vs Q E hr h => ?_)
  · obtain ⟨LG, LE, sa, es, ix, e, rfl, _⟩ := h
    rfl
  obtain ⟨LG, LE, sa, es, ix, e, rfl, ⟨ws, hL, hw⟩, hsa, hix, q⟩ := h
  refine ⟨_, (pss_cons (ps_asg (pv 2) (pg_tup rfl (pgs_cons (pg_name (i := 3) sc_l_equation.nd rfl (.inl rfl)) (pgs_cons (pg_name (i := 4) sc_l_equation.nd rfl (.inl rfl)) pgs_nil))))
      (pss_cons (ps_if (pt_cmpR op_eq (pv 3) pe_str (nomark _)) (pss_one (ps_ret (pe_ix ix_list (pv 0) (pv 4) (fun _ _ => rfl)))) pss_nil)
      (pss_one (ps_ret (pe_tup (pa_cons (pe_ix ix_tup (pe_ix ix_list (pv 1) (pv 4) (fun _ _ => rfl)) pe_int (fun _ _ => rfl)) (pa_cons (pe_ix ix_tup (pe_ix ix_list (pv 1) (pv 4) (fun _ _ => rfl)) pe_int (fun _ _ => rfl)) pa_nil))))))), ?_⟩
  walk_at "go"
  refine rd_gtup (SqT.of hsa) rfl ?_
  walk_at "go"
  rw [srcS_given]
  refine iteT ?_
  obtain ⟨v, hv, he⟩ := pr_get hw hix
  walk_at "go"
  refine rd_ixL (SqL.of hL) (atI_nat hv) ?_
  walk_at "go"
  exact q v he
abbrev s_l_has_position : Stmt := top 43
theorem sc_l_has_position : FnScope ["_law_term_here", "_law_position", "_law_k"] ["_law_term_here", "_law_position"] (defScope s_l_has_position) := ⟨rfl, rfl, rfl, by decide +kernel, rfl, by decide +kernel, by decide +kernel⟩
def sp_has : Sp := fun vs H Q _ => ∃ (t : Tm) (v : V) (p : List Nat) (pa : Addr) (u : Tm), vs = [v, .ref pa] ∧ At H t v ∧ H pa = some (.tup (pint p)) ∧ get p t = some u ∧ Q (.bl true) H
theorem ok_l_has_position (B : Bi mg) (F : De K mg "_law_has_position" s_l_has_position ["_law_term_here", "_law_position"]) : Kn P w K mg base CX0 1 "_law_has_position" ["_law_term_here", "_law_position"] sp_has := by
  refine F.ok sc_l_has_position (fun vs H Q E h => ?_) (fun f cdv A outer s H vs Q E hr h => ?_)
  · obtain ⟨t, v, p, pa, u, rfl, _⟩ := h
    rfl
  obtain ⟨t, v, p, pa, u, rfl, hv, hp, hg, q⟩ := h
  refine ⟨_, (pss_cons (ps_for PassesOwn.never rfl (pi_tup (pv 1)) (pg_name (i := 2) sc_l_has_position.nd rfl (.inl rfl)) (pss_cons (ps_if (PW.pt (pw_or (pt_val (pe_callB call_isi (by rfl) B.m_isinstance (by decide +kernel) (pa_cons (pv 0) (pa_cons (pe_ty (n := "int") B.m_int (by decide +kernel)) pa_nil)))) (pw_or1 (pt_not (pt_chain op_le op_lt pe_int (pv 2) (pe_callB call_len_seq (by rfl) B.m_len PySem.boot_len (pa_cons (pv 0) pa_nil))))))) (pss_one (ps_ret pe_bl)) pss_nil)
      (pss_one (ps_set (i := 0) sc_l_has_position.nd rfl (.inl rfl) (pe_ix ix_tup (pv 0) (pv 2) (fun _ _ => rfl))))))
      (pss_one (ps_ret pe_bl))), ?_⟩
  walk_at "go"
  refine ⟨⟨_, SqT.of hp⟩, for_tup (xs := pint p) (fun i σ H' => H' = H ∧ ∃ y v' t', σ = [some v', some (.ref pa), y] ∧ At H t' v' ∧ get (p.drop i) t' = some u) ⟨rfl, none, v, t, rfl, hv, hg⟩ (fun i σ H' _ ⟨e, _⟩ => by rw [e]; exact SqT.of hp) ?_ ?_⟩
  · rintro i x σ H' hi ⟨rfl, y, v', t', rfl, hv', hg'⟩
    have hi' : i < p.length := by
      have := lt_of_get hi
      rw [pint_len] at this
      exact this
    rw [pint_get (List.getElem?_eq_getElem hi')] at hi
    cases hi
    rw [List.drop_eq_getElem_cons hi'] at hg'
    obtain ⟨j, f, as, a, ek, rfl, e, hg2⟩ := get_cons hg'
    walk_at "go"
    refine rd_isInt hv' ?_
    walk_at "go"
    refine iteF ?_
    obtain ⟨b, ws, rfl, hb, hws⟩ := hv'
    obtain ⟨z, hz, ha⟩ := hws.get e
    have hjl := lt_of_get hz
    walk_at "go"
    rw [ek]
    rw [decide_eq_true (show (1 : Int) ≤ ((j + 1 : Nat) : Int) by omega)]
    refine iteT ?_
    walk_at "go"
    refine ⟨b, _, rfl, .inr (SqT.of hb), ?_⟩
    walk_at "go"
    rw [decide_eq_true (show ((j + 1 : Nat) : Int) < (((V.str f :: ws).length : Nat) : Int) by rw [List.length_cons]; omega)]
    refine iteF ?_
    walk_at "go"
    refine rd_ixT (SqT.of hb) (atI_nat (j := j + 1) (by simpa using hz)) ?_
    walk_at "go"
    exact ⟨rfl, _, z, a, rfl, ha, hg2⟩
  · rintro σ H' ⟨rfl, y, v', t', rfl, hv', hg'⟩
    walk_at "go"
    exact q
abbrev s_l_is_step : Stmt := top 44
theorem sc_l_is_step : FnScope ["_law_step_here"] ["_law_step_here"] (defScope s_l_is_step) := ⟨rfl, rfl, rfl, by decide +kernel, rfl, by decide +kernel, by decide +kernel⟩
def sp_is_step : Sp := fun vs H Q _ => ∃ (s : Stp) (v : V), vs = [v] ∧ StpAt H s v ∧ ∀ H', Same H H' → Q (.bl true) H'
theorem rd_isI {H : Hp} {Q : VK} {i : Int} (q : Q (.bl true) H) : rIsi K [.int i, .ty "int"] H Q := ⟨_, _, _, _, true, rfl, .ty "int", .base (.int i), kit_ty (by decide +kernel), q⟩
theorem rd_isIB {H : Hp} {Q : VK} {i : Int} (q : Q (.bl false) H) : rIsi K [.int i, .ty "bool"] H Q := ⟨_, _, _, _, false, rfl, .ty "bool", .base (.int i), kit_ty (by decide +kernel), q⟩
theorem rd_isD {H : Hp} {Q : VK} {a : Addr} {kvs : List (Key × V)} (h : H a = some (.dK kvs)) (q : Q (.bl true) H) : rIsi K [.ref a, .ty "dict"] H Q := ⟨_, _, _, _, true, rfl, .ty "dict", .base (.dK h), kit_ty (by decide +kernel), q⟩
theorem rd_isL {H : Hp} {Q : VK} {a : Addr} {xs : List V} (h : H a = some (.lst xs)) (q : Q (.bl true) H) : rIsi K [.ref a, .ty "list"] H Q := ⟨_, _, _, _, true, rfl, .ty "list", .base (.lst h), kit_ty (by decide +kernel), q⟩
theorem ok_l_is_step (B : Bi mg) (F : De K mg "_law_is_step" s_l_is_step ["_law_step_here"]) : Kn P w K mg base CX0 1 "_law_is_step" ["_law_step_here"] sp_is_step := by
  refine F.ok sc_l_is_step (fun vs H Q E h => ?_) (fun f cdv A outer s H vs Q E hr h => ?_)
  · obtain ⟨s, v, rfl, _⟩ := h
    rfl
  obtain ⟨stp, v, rfl, ⟨a, sa, pa, da, rfl, ha, hsa, hpa, kvs, hda, hk⟩, q⟩ := h
  refine ⟨_, (pss_cons (ps_if (PW.pt (pw_or (pt_not (pt_val (pe_callB call_isi (by rfl) B.m_isinstance (by decide +kernel) (pa_cons (pv 0) (pa_cons (pe_ty (n := "tuple") B.m_tuple (by decide +kernel)) pa_nil))))) (pw_or1 (pt_cmpR op_ne (pe_callB call_len_seq (by rfl) B.m_len PySem.boot_len (pa_cons (pv 0) pa_nil)) pe_int (nomark _))))) (pss_one (ps_ret pe_bl)) pss_nil)
      (pss_cons (ps_if (PW.pt (pw_or (pt_not (pt_val (pe_callB call_isi (by rfl) B.m_isinstance (by decide +kernel) (pa_cons (pe_ix ix_tup (pv 0) pe_int (fun _ _ => rfl)) (pa_cons (pe_ty (n := "tuple") B.m_tuple (by decide +kernel)) pa_nil))))) (pw_or (pt_cmpR op_ne (pe_callB call_len_seq (by rfl) B.m_len PySem.boot_len (pa_cons (pe_ix ix_tup (pv 0) pe_int (fun _ _ => rfl)) pa_nil)) pe_int (nomark _)) (pw_or1 (pt_cmpR op_notIn_seq (pe_ix ix_tup (pe_ix ix_tup (pv 0) pe_int (fun _ _ => rfl)) pe_int (fun _ _ => rfl)) (pe_lst (pa_cons pe_str (pa_cons pe_str pa_nil))) rfl))))) (pss_one (ps_ret pe_bl)) pss_nil)
      (pss_cons (ps_if (PW.pt (pw_or (pt_not (pt_val (pe_callB call_isi (by rfl) B.m_isinstance (by decide +kernel) (pa_cons (pe_ix ix_tup (pe_ix ix_tup (pv 0) pe_int (fun _ _ => rfl)) pe_int (fun _ _ => rfl)) (pa_cons (pe_ty (n := "int") B.m_int (by decide +kernel)) pa_nil))))) (pw_or1 (pt_val (pe_callB call_isi (by rfl) B.m_isinstance (by decide +kernel) (pa_cons (pe_ix ix_tup (pe_ix ix_tup (pv 0) pe_int (fun _ _ => rfl)) pe_int (fun _ _ => rfl)) (pa_cons (pe_ty (n := "bool") B.m_bool (by decide +kernel)) pa_nil))))))) (pss_one (ps_ret pe_bl)) pss_nil)
      (pss_cons (ps_if (PW.pt (pw_and (pt_cmpR op_notBl (pe_ix ix_tup (pv 0) pe_int (fun _ _ => rfl)) pe_bl (nomark _)) (pw_and1 (pt_cmpR op_notBl (pe_ix ix_tup (pv 0) pe_int (fun _ _ => rfl)) pe_bl (nomark _))))) (pss_one (ps_ret pe_bl)) pss_nil)
      (pss_one (ps_ret (pe_and (pe_callB call_isi (by rfl) B.m_isinstance (by decide +kernel) (pa_cons (pe_ix ix_tup (pv 0) pe_int (fun _ _ => rfl)) (pa_cons (pe_ty (n := "tuple") B.m_tuple (by decide +kernel)) pa_nil))) (pe_one (pe_callB call_isi (by rfl) B.m_isinstance (by decide +kernel) (pa_cons (pe_ix ix_tup (pv 0) pe_int (fun _ _ => rfl)) (pa_cons (pe_ty (n := "dict") B.m_dict (by decide +kernel)) pa_nil))))))))))), ?_⟩
  walk_at "go"
  refine rd_isT ha ?_
  walk_at "go"
  refine iteF ?_
  walk_at "go"
  refine ⟨a, _, rfl, .inr (SqT.of ha), ?_⟩
  walk_at "go"
  refine iteF ?_
  walk_at "go"
  refine rd_ixT (SqT.of ha) (atI_nat (j := 0) rfl) ?_
  walk_at "go"
  refine rd_isT hsa ?_
  walk_at "go"
  refine iteF ?_
  walk_at "go"
  refine rd_ixT (SqT.of ha) (atI_nat (j := 0) rfl) ?_
  walk_at "go"
  refine ⟨sa, _, rfl, .inr (SqT.of hsa), ?_⟩
  walk_at "go"
  refine iteF ?_
  walk_at "go"
  refine rd_ixT (SqT.of ha) (atI_nat (j := 0) rfl) ?_
  walk_at "go"
  refine rd_ixT (SqT.of hsa) (atI_nat (j := 0) rfl) ?_
  walk_at "go"
  refine ⟨by show 2 ≤ sizeLine; decide, fun l hl => ?_⟩
  have s1 := same_new (o := .lst [.str (Str.ofString "given"), .str (Str.ofString "stage")]) hl
  refine ⟨l, _, rfl, .inl (SqL.of upd_same), by cases stp.giv <;> decide +kernel, by decide +kernel, ?_⟩
  have ein : inV (.str (srcS stp.giv)) [.str (Str.ofString "given"), .str (Str.ofString "stage")] = true := by cases stp.giv <;> decide +kernel
  rw [ein]
  walk_at "go"
  refine iteF ?_
  walk_at "go"
  refine rd_ixT (SqT.of (s1 _ _ ha)) (atI_nat (j := 0) rfl) ?_
  walk_at "go"
  refine rd_ixT (SqT.of (s1 _ _ hsa)) (atI_nat (j := 1) rfl) ?_
  walk_at "go"
  refine rd_isI ?_
  walk_at "go"
  refine iteF ?_
  walk_at "go"
  refine rd_ixT (SqT.of (s1 _ _ ha)) (atI_nat (j := 0) rfl) ?_
  walk_at "go"
  refine rd_ixT (SqT.of (s1 _ _ hsa)) (atI_nat (j := 1) rfl) ?_
  walk_at "go"
  refine rd_isIB ?_
  walk_at "go"
  refine iteF ?_
  walk_at "go"
  refine rd_ixT (SqT.of (s1 _ _ ha)) (atI_nat (j := 1) rfl) ?_
  walk_at "go"
  have last : ∀ {tail : Prop}, tail → tail := fun h => h
  have fin : rIsi K [.ref pa, .ty "tuple"] (upd H l (.lst [.str (Str.ofString "given"), .str (Str.ofString "stage")])) (fun v H' => v = .bl true ∧ H' = upd H l (.lst [.str (Str.ofString "given"), .str (Str.ofString "stage")])) := rd_isT (s1 _ _ hpa) ⟨rfl, rfl⟩
  refine ⟨stp.fwd, _, rfl, rfl, ?_⟩
  have hf : ∀ b : Bool, stp.fwd = b → True := fun _ _ => trivial
  generalize stp.fwd = bb at ha ⊢
  cases bb with
  | true =>
    refine ⟨false, rfl, ?_⟩
    refine iteF ?_
    refine iteF ?_
    walk_at "go"
    refine rd_ixT (SqT.of (s1 _ _ ha)) (atI_nat (j := 2) rfl) ?_
    walk_at "go"
    refine rd_isT (s1 _ _ hpa) ?_
    walk_at "go"
    refine iteT ?_
    walk_at "go"
    refine rd_ixT (SqT.of (s1 _ _ ha)) (atI_nat (j := 3) rfl) ?_
    walk_at "go"
    refine rd_isD (s1 _ _ hda) ?_
    exact q _ s1
  | false =>
    refine ⟨true, rfl, ?_⟩
    refine iteT ?_
    walk_at "go"
    refine rd_ixT (SqT.of (s1 _ _ ha)) (atI_nat (j := 1) rfl) ?_
    walk_at "go"
    refine ⟨false, false, rfl, rfl, ?_⟩
    refine ⟨false, rfl, ?_⟩
    refine iteF ?_
    walk_at "go"
    refine rd_ixT (SqT.of (s1 _ _ ha)) (atI_nat (j := 2) rfl) ?_
    walk_at "go"
    refine rd_isT (s1 _ _ hpa) ?_
    walk_at "go"
    refine iteT ?_
    walk_at "go"
    refine rd_ixT (SqT.of (s1 _ _ ha)) (atI_nat (j := 3) rfl) ?_
    walk_at "go"
    refine rd_isD (s1 _ _ hda) ?_
    exact q _ s1
end
end K18
set_option Elab.async false
set_option linter.all false
set_option maxRecDepth 100000
set_option maxHeartbeats 4000000
/-! The law's own next, follow. -/
namespace K18
open PySem PySem.Spec L2
local macro_rules | `(tactic| walk_at "go1") => `(tactic| with_reducible first
  | refine rd_seq ?_ | refine rd_ifS ?_ | refine rd_asg ?_ | refine rd_name ?_ | refine rd_ret ?_ | refine rd_drop ?_ | refine rd_next ?_ | refine rd_retN ?_
  | refine rd_c ?_ | refine rd_op ?_ | refine rd_un ?_ | refine rd_U ?_ | refine rd_I0 ?_ | refine rd_eqI ?_ | refine rd_neI ?_ | refine rd_eqS ?_ | refine rd_neS ?_
  | refine rd_nil ?_ | refine rd_cons ?_ | refine rd_call ?_ | refine rd_cb ?_ | refine rd_bm ?_ | refine rd_tup ?_ | refine rd_lst ?_ | refine rd_sl ?_ | refine rd_part ?_ | refine rd_nopart ?_
  | refine rd_exI ?_ | refine rd_exB ?_ | refine rd_exR ?_ | refine rd_test ?_ | refine rd_B ?_ | refine rd_and ?_ | refine rd_or ?_ | refine rd_not ?_ | refine rd_andV ?_ | refine rd_orV ?_ | refine rd_notV ?_ | refine rd_ifE ?_ | refine rd_chain ?_
  | refine rd_dget2 ?_ | refine rd_dnotin ?_ | refine rd_gcons ?_ | refine rd_gnil ?_ | refine rd_gsub ?_ | refine rd_ipI ?_ | refine rd_par ?_ | refine rd_for ?_ | refine rd_iList ?_ | refine rd_iTup ?_ | refine rd_iRng1 ?_ | refine rd_iRng2 ?_
  | refine rd_iRev ?_ | refine rd_iEnum ?_ | refine rd_dput ?_ | refine rd_nx ?_ | refine rd_rt ?_ | refine rd_yes ?_ | refine rd_dc ?_ | refine rd_lc ?_ | refine rd_iItems ?_ | refine rd_iVals ?_ | refine rd_iRng3 ?_ | refine rd_m1 ?_)
local macro_rules | `(tactic| walk_at "go") => `(tactic| repeat (first | walk_at "go1" | ((with_reducible refine' rd_var ?h1 ?_); (case h1 => exact rfl)) | ((with_reducible refine' rd_aug ?h1 ?_); (case h1 => exact rfl))))

theorem nd_len {a b : List Int} (ha : a.Nodup) (hb : b.Nodup) (h : ∀ i, i ∈ a ↔ i ∈ b) : a.length = b.length := ((List.perm_ext_iff_of_nodup ha hb).mpr fun i => h i).length_eq
section
variable {P : Program} {w : World} {K : PySem.W.Frag} {mg : Str → Option Value} {base : Heap}
abbrev s_l_next : Stmt := top 45
theorem sc_l_next : FnScope ["_law_given", "_law_stages_here", "_law_term_here", "_law_step_here", "_law_kind", "_law_index", "_law_many", "_law_left", "_law_right", "_law_names_here", "_law_variable"] ["_law_given", "_law_stages_here", "_law_term_here", "_law_step_here"] (defScope s_l_next) := ⟨rfl, rfl, rfl, by decide +kernel, rfl, by decide +kernel, by decide +kernel⟩
/-- an equation of bounded size -/
def EqB (e : Eqn) : Prop := siz e.1 ≤ 1000 ∧ dep e.1 ≤ 40 ∧ siz e.2 ≤ 1000 ∧ dep e.2 ≤ 40
def sp_next : Sp := fun vs H Q _ => ∃ (LG LE : Addr) (es : List Eqn) (t t' : Tm) (s : Stp) (e : Eqn) (v x : V), vs = [.ref LG, .ref LE, v, x] ∧ EqnsAt H es LG ∧ H LE = some (.lst []) ∧ At H t v ∧ StpAt H s x ∧ s.giv = true ∧ es[s.ix]? = some e ∧ EqB e ∧ Keys e s.sb ∧ Does e s t t' ∧ dep t ≤ 40 ∧ siz t ≤ 100000 ∧
  ∀ y H', Same H H' → At H' t' y → Q y H'
theorem ok_l_next (B : Bi mg) (F : De K mg "_law_next" s_l_next ["_law_given", "_law_stages_here", "_law_term_here", "_law_step_here"]) (k_l_is_step : Kn P w K mg base CX0 1 "_law_is_step" ["_law_step_here"] sp_is_step)
    (k_l_has_position : Kn P w K mg base CX0 1 "_law_has_position" ["_law_term_here", "_law_position"] sp_has) (k_l_equation : Kn P w K mg base CX0 1 "_law_equation" ["_law_given", "_law_stages_here", "_law_source"] sp_equation)
    (k_l_replace : Kn P w K mg base CX0 41 "_law_replace" ["_law_term_here", "_law_position", "_law_new"] (sp_replace 40)) (k_l_subterm : Kn P w K mg base CX0 1 "_law_subterm" ["_law_term_here", "_law_position"] sp_subterm)
    (k_l_substitute : Kn P w K mg base CX0 41 "_law_substitute" ["_law_term_here", "_law_substitution"] (sp_sub 40)) (k_l_variables : Kn P w K mg base CX0 41 "_law_variables" ["_law_term_here"] (sp_variables 40))
    (k_l_same : Kn P w K mg base CX0 41 "_law_same" ["_law_first", "_law_second"] (sp_same 40)) :
    Kn P w K mg base CX0 42 "_law_next" ["_law_given", "_law_stages_here", "_law_term_here", "_law_step_here"] sp_next := by
  refine F.ok sc_l_next (fun vs H Q E h => ?_) (fun f cdv A outer s H vs Q E hr h => ?_)
  · obtain ⟨LG, LE, es, t, t', s, e, v, x, rfl, _⟩ := h
    rfl
  obtain ⟨LG, LE, es, t, t', ⟨giv, ix, fwd, pos, sb⟩, ⟨e1, e2⟩, v, x, rfl, hes, hLE, hv, hx, rfl, hix, ⟨hb1, hb2, hb3, hb4⟩, hk, hdo, htd, hts, q⟩ := h
  obtain ⟨hg, rfl⟩ := hdo
  have hx0 := hx
  obtain ⟨a, sa, pa, da, rfl, ha, hsa, hpa, kvs, hda, hdk⟩ := hx
  have hsa : H sa = some (.tup [.str (srcS true), .int (ix : Int)]) := hsa
  have hpa : H pa = some (.tup (pint pos)) := hpa
  have ha : H a = some (.tup [.ref sa, .bl fwd, .ref pa, .ref da]) := ha
  have hdk : DRel H sb kvs := hdk
  have hg : get pos t = some (sub (lk sb) (src (e1, e2) fwd)) := hg
  have hk : Keys (e1, e2) sb := hk
  have hix : es[ix]? = some (e1, e2) := hix
  have hgd := dep_get hg
  have hgs := siz_get hg
  have hgp := dep_pos (sub (lk sb) (src (e1, e2) fwd))
  refine ⟨_, (pss_cons (ps_if (pt_not (pt_val (pe_kn k_l_is_step (hr.mono (by omega)) (pa_cons (pv 3) pa_nil)))) (pss_one (ps_ret pe_non)) pss_nil)
      (pss_cons (ps_asg (pe_ix ix_tup (pv 3) pe_int (fun _ _ => rfl)) (pg_tup rfl (pgs_cons (pg_name (i := 4) sc_l_next.nd rfl (.inl rfl)) (pgs_cons (pg_name (i := 5) sc_l_next.nd rfl (.inl rfl)) pgs_nil))))
      (pss_cons (ps_set (i := 6) sc_l_next.nd rfl (.inl rfl) (pe_callB call_len_seq (by rfl) B.m_len PySem.boot_len (pa_cons (pv 1) pa_nil)))
      (pss_cons (ps_if (pt_cmpR op_eq (pv 4) pe_str (nomark _)) (pss_one (ps_set (i := 6) sc_l_next.nd rfl (.inl rfl) (pe_callB call_len_seq (by rfl) B.m_len PySem.boot_len (pa_cons (pv 0) pa_nil)))) pss_nil)
      (pss_cons (ps_if (PW.pt (pw_or (pt_not (pt_chain op_le op_lt pe_int (pv 5) (pv 6))) (pw_or1 (pt_not (pt_val (pe_kn k_l_has_position (hr.mono (by omega)) (pa_cons (pv 2) (pa_cons (pe_ix ix_tup (pv 3) pe_int (fun _ _ => rfl)) pa_nil)))))))) (pss_one (ps_ret pe_non)) pss_nil)
      (pss_cons (ps_asg (pe_kn k_l_equation (hr.mono (by omega)) (pa_cons (pv 0) (pa_cons (pv 1) (pa_cons (pe_ix ix_tup (pv 3) pe_int (fun _ _ => rfl)) pa_nil)))) (pg_tup rfl (pgs_cons (pg_name (i := 7) sc_l_next.nd rfl (.inl rfl)) (pgs_cons (pg_name (i := 8) sc_l_next.nd rfl (.inl rfl)) pgs_nil))))
      (pss_cons (ps_set (i := 9) sc_l_next.nd rfl (.inl rfl) (pe_kn k_l_variables (hr.mono (by omega)) (pa_cons (pv 7) pa_nil)))
      (pss_cons (ps_for PassesOwn.never rfl (pi_list (pe_kn k_l_variables (hr.mono (by omega)) (pa_cons (pv 8) pa_nil))) (pg_name (i := 10) sc_l_next.nd rfl (.inl rfl)) (pss_one (ps_if (pt_cmpR op_notIn_seq (pv 10) (pv 9) rfl) (pss_one (ps_expr (pe_bm PySem.F.plainAttrs_list PySem.F.slot_list_append PySem.F.type_list_append mt_append (pv 9) (pa_cons (pv 10) pa_nil)))) pss_nil)))
      (pss_cons (ps_if (pt_cmpR op_ne (pe_callB call_lenD (by rfl) B.m_len PySem.boot_len (pa_cons (pe_ix ix_tup (pv 3) pe_int (fun _ _ => rfl)) pa_nil)) (pe_callB call_len_seq (by rfl) B.m_len PySem.boot_len (pa_cons (pv 9) pa_nil)) (nomark _)) (pss_one (ps_ret pe_non)) pss_nil)
      (pss_cons (ps_for PassesOwn.never rfl (pi_list (pv 9)) (pg_name (i := 10) sc_l_next.nd rfl (.inl rfl)) (pss_one (ps_if (pt_cmp (pc_dnotin (hu_of hr) (pv 10) (pe_ix ix_tup (pv 3) pe_int (fun _ _ => rfl)))) (pss_one (ps_ret pe_non)) pss_nil)))
      (pss_cons (ps_if (pt_not (pt_val (pe_ix ix_tup (pv 3) pe_int (fun _ _ => rfl)))) (pss_one (ps_par (i := 7) (j := 8) rfl sc_l_next.nd rfl rfl (by decide) rfl rfl (pa_cons (pv 8) (pa_cons (pv 7) pa_nil)) (by rfl))) pss_nil)
      (pss_cons (ps_if (pt_not (pt_val (pe_kn k_l_same (hr.mono (by omega)) (pa_cons (pe_kn k_l_subterm (hr.mono (by omega)) (pa_cons (pv 2) (pa_cons (pe_ix ix_tup (pv 3) pe_int (fun _ _ => rfl)) pa_nil))) (pa_cons (pe_kn k_l_substitute (hr.mono (by omega)) (pa_cons (pv 7) (pa_cons (pe_ix ix_tup (pv 3) pe_int (fun _ _ => rfl)) pa_nil))) pa_nil))))) (pss_one (ps_ret pe_non)) pss_nil)
      (pss_one (ps_ret (pe_kn k_l_replace (hr.mono (by omega)) (pa_cons (pv 2) (pa_cons (pe_ix ix_tup (pv 3) pe_int (fun _ _ => rfl)) (pa_cons (pe_kn k_l_substitute (hr.mono (by omega)) (pa_cons (pv 8) (pa_cons (pe_ix ix_tup (pv 3) pe_int (fun _ _ => rfl)) pa_nil))) pa_nil)))))))))))))))))), ?_⟩
  walk_at "go"
  refine ⟨_, _, rfl, hx0, fun H1 sm1 => ?_⟩
  walk_at "go"
  refine iteF ?_
  walk_at "go"
  refine rd_ixT (SqT.of (sm1 _ _ ha)) (atI_nat (j := 0) rfl) ?_
  refine rd_gtup (SqT.of (sm1 _ _ hsa)) rfl ?_
  walk_at "go"
  refine ⟨LE, _, rfl, .inl (SqL.of (sm1 _ _ hLE)), ?_⟩
  walk_at "go"
  rw [srcS_given]
  refine iteT ?_
  walk_at "go"
  obtain ⟨ws, hLG, hws⟩ := hes.sm sm1
  refine ⟨LG, _, rfl, .inl (SqL.of hLG), ?_⟩
  walk_at "go"
  have hixl : ix < ws.length := by
    rw [← Paired.length hws]
    exact lt_of_get hix
  rw [decide_eq_true (show (0 : Int) ≤ (ix : Int) by omega)]
  refine iteT ?_
  walk_at "go"
  rw [decide_eq_true (show (ix : Int) < ((ws.length : Nat) : Int) by omega)]
  refine iteF ?_
  walk_at "go"
  refine rd_ixT (SqT.of (sm1 _ _ ha)) (atI_nat (j := 2) rfl) ?_
  walk_at "go"
  refine ⟨t, v, pos, pa, _, rfl, hv.sm sm1, sm1 _ _ hpa, hg, ?_⟩
  walk_at "go"
  refine iteF ?_
  walk_at "go"
  refine rd_ixT (SqT.of (sm1 _ _ ha)) (atI_nat (j := 0) rfl) ?_
  walk_at "go"
  refine ⟨LG, LE, sa, es, ix, (e1, e2), rfl, ⟨ws, hLG, hws⟩, sm1 _ _ hsa, hix, ?_⟩
  rintro ve ⟨ae, v1, v2, rfl, hae, hv1, hv2⟩
  have hv1 : At H1 e1 v1 := hv1
  have hv2 : At H1 e2 v2 := hv2
  refine rd_gtup (SqT.of hae) rfl ?_
  walk_at "go"
  refine ⟨e1, v1, rfl, hv1, hb2, by show siz e1 ≤ 100000; have : siz e1 ≤ 1000 := hb1; omega, fun M0 ns0 H2 hM00 sm2 eM0 hnd0 hns0 hnl0 => ?_⟩
  walk_at "go"
  have hM0 : H M0 = none := sm1.free hM00
  refine ⟨e2, v2, rfl, hv2.sm sm2, hb4, by show siz e2 ≤ 100000; have : siz e2 ≤ 1000 := hb3; omega, fun M1 ns1 H3 hM10 sm3 eM1 hnd1 hns1 hnl1 => ?_⟩
  walk_at "go"
  have n10 : M1 ≠ M0 := fun z => by
    rw [z, eM0] at hM10
    cases hM10
  have hb1' : siz e1 ≤ 1000 := hb1
  have hb3' : siz e2 ≤ 1000 := hb3
  have sm13 := sm1.trans (sm2.trans sm3)
  refine ⟨⟨_, SqL.of eM1⟩, for_list (xs := ns1.map V.int) (fun j σ H' => ∃ (y10 : Option V) (rs : List Int), σ = [some (.ref LG), some (.ref LE), some v, some (.ref a), some (.str (srcS true)), some (.int (ix : Int)), some (.int ((ws.length : Nat) : Int)), some v1, some v2, some (.ref M0), y10] ∧ Same H1 H' ∧ H' M1 = some (.lst (ns1.map V.int)) ∧ H' M0 = some (.lst (rs.map V.int)) ∧ rs.Nodup ∧ (∀ z, z ∈ rs ↔ z ∈ ns0 ∨ z ∈ ns1.take j) ∧ rs.length ≤ ns0.length + j)
    ⟨none, ns0, rfl, sm2.trans sm3, eM1, sm3 _ _ eM0, hnd0, fun z => ⟨.inl, fun m => m.elim id fun w => by cases w⟩, Nat.le_refl _⟩ (fun j σ H' _ ⟨_, _, _, _, e, _⟩ => SqL.of e) ?_ ?_⟩
  · rintro j y σ H' hy ⟨y10, rs, rfl, sm, eM1', eM0', hrd, hrs, hrl⟩
    rw [List.getElem?_map] at hy
    obtain ⟨m1, hm1, rfl⟩ := Option.map_eq_some_iff.mp hy
    have hjl := lt_of_get hm1
    walk_at "go"
    refine rd_nin eM0' ?_
    walk_at "go"
    by_cases hin : m1 ∈ rs
    · rw [decide_eq_true hin]
      refine iteF ?_
      walk_at "go"
      refine ⟨_, rs, rfl, sm, eM1', eM0', hrd, fun z => ?_, by omega⟩
      rw [take_mem_more hm1, hrs]
      constructor
      · rintro (w | w)
        · exact .inl w
        · exact .inr (.inl w)
      · rintro (w | w | w)
        · exact .inl w
        · exact .inr w
        · rw [w]
          exact (hrs m1).mp hin
    · rw [decide_eq_false hin]
      refine iteT ?_
      walk_at "go"
      refine ⟨.inl ⟨rfl, _, SqL.of eM0'⟩, ?_⟩
      walk_at "go"
      refine ⟨M0, _, _, rfl, rfl, eM0', by rw [List.length_map, sizeLine_eq]; omega, ?_⟩
      walk_at "go"
      refine ⟨_, rs ++ [m1], rfl, same_mut sm hM00, by rw [upd_ne n10]; exact eM1', by rw [upd_same, List.map_append]; rfl, nd_snoc hrd hin, fun z => ?_, ?_⟩
      · rw [List.mem_append, List.mem_singleton, take_mem_more hm1, hrs]
        constructor
        · rintro ((w | w) | w)
          · exact .inl w
          · exact .inr (.inl w)
          · exact .inr (.inr w)
        · rintro (w | w | w)
          · exact .inl (.inl w)
          · exact .inl (.inr w)
          · exact .inr w
      · rw [List.length_append]
        show rs.length + 1 ≤ _
        omega
  · rintro σ H4 ⟨y10, rs, rfl, sm4, eM1', eM0', hrd, hrs, hrl⟩
    rw [List.length_map] at hrs hrl
    rw [List.take_length] at hrs
    have sm := sm1.trans sm4
    have hmem : ∀ i, i ∈ rs ↔ i ∈ keys sb := fun i => by
      rw [hrs, hns0, hns1]
      exact (hk.2 i).symm
    have hlen : kvs.length = rs.length := by
      rw [← Paired.length hdk, nd_len hrd hk.1 hmem]
      exact (List.length_map _).symm
    walk_at "go"
    refine rd_ixT (SqT.of (sm _ _ ha)) (atI_nat (j := 3) rfl) ?_
    walk_at "go"
    refine ⟨da, kvs, rfl, sm _ _ hda, ?_⟩
    walk_at "go"
    refine ⟨M0, _, rfl, .inl (SqL.of eM0'), ?_⟩
    walk_at "go"
    rw [decide_eq_true (show ((kvs.length : Nat) : Int) = (((rs.map V.int).length : Nat) : Int) by rw [List.length_map, hlen])]
    refine iteF ?_
    walk_at "go"
    have hD : DAt H4 sb da := ⟨kvs, sm _ _ hda, hdk.tk (tk_of sm)⟩
    refine ⟨⟨_, SqL.of eM0'⟩, for_list (xs := rs.map V.int) (fun j σ H' => H' = H4 ∧ ∃ (y10 : Option V), σ = [some (.ref LG), some (.ref LE), some v, some (.ref a), some (.str (srcS true)), some (.int (ix : Int)), some (.int ((ws.length : Nat) : Int)), some v1, some v2, some (.ref M0), y10])
      ⟨rfl, _, rfl⟩ (fun j σ H' _ ⟨e, _⟩ => by rw [e]; exact SqL.of eM0') ?_ ?_⟩
    · rintro j y σ H' hy ⟨rfl, y10, rfl⟩
      rw [List.getElem?_map] at hy
      obtain ⟨m1, hm1, rfl⟩ := Option.map_eq_some_iff.mp hy
      walk_at "go"
      refine rd_ixT (SqT.of (sm _ _ ha)) (atI_nat (j := 3) rfl) ?_
      obtain ⟨o, ho1, ho2⟩ := rd_dget (i := m1) hD.rd
      refine ⟨da, o, rfl, ho1, ?_⟩
      walk_at "go"
      rw [ho2, decide_eq_true ((hmem m1).mp (List.mem_of_getElem? hm1))]
      refine iteF ?_
      walk_at "go"
      exact ⟨rfl, _, rfl⟩
    · rintro σ H' ⟨rfl, y10, rfl⟩
      walk_at "go"
      refine rd_ixT (SqT.of (sm _ _ ha)) (atI_nat (j := 1) rfl) ?_
      walk_at "go"
      -- behind the swap: the sides as the step takes them
      have fin : ∀ (l r : Tm) (x1 x2 : V), At H' l x1 → At H' r x2 → l = src (e1, e2) fwd → r = src (e1, e2) (!fwd) → dep l ≤ 40 → dep r ≤ 40 → siz l ≤ 1000 → siz r ≤ 1000 →
          (tSeq (tIfS (tNot (tTest (tCall (sp_same 40) [] E0 (tCons (tCall sp_subterm [] E0 (tCons (tVar 2) (tCons (tOp (rIxT K) (tVar 3) (tC (.int 2))) tNil))) (tCons (tCall (sp_sub 40) [] E0 (tCons (tVar 7) (tCons (tOp (rIxT K) (tVar 3) (tC (.int 3))) tNil))) tNil))))) (tRet (tC .non)) tNext)
            (tRet (tCall (sp_replace 40) [] E0 (tCons (tVar 2) (tCons (tOp (rIxT K) (tVar 3) (tC (.int 2))) (tCons (tCall (sp_sub 40) [] E0 (tCons (tVar 8) (tCons (tOp (rIxT K) (tVar 3) (tC (.int 3))) tNil))) tNil)))))) { nx := fun _ H' => Q .non H', rt := Q }
            [some (.ref LG), some (.ref LE), some v, some (.ref a), some (.str (srcS true)), some (.int (ix : Int)), some (.int ((ws.length : Nat) : Int)), some x1, some x2, some (.ref M0), y10] H' := by
        intro l r x1 x2 hl hr2 el er hdl hdr hsl hsr
        walk_at "go"
        refine rd_ixT (SqT.of (sm _ _ ha)) (atI_nat (j := 2) rfl) ?_
        walk_at "go"
        refine ⟨t, v, pos, pa, _, rfl, hv.sm sm, sm _ _ hpa, hg, fun y1 hy1 => ?_⟩
        walk_at "go"
        refine rd_ixT (SqT.of (sm _ _ ha)) (atI_nat (j := 3) rfl) ?_
        walk_at "go"
        refine ⟨l, x1, sb, da, rfl, hl, hD.rd, hdl, by omega, fun y2 H5 sm5 hy2 => ?_⟩
        rw [el] at hy2
        refine ⟨_, y1, y2, rfl, hy1.sm sm5, hy2, by omega, by omega, ?_⟩
        walk_at "go"
        refine iteF ?_
        walk_at "go"
        have smA := sm.trans sm5
        refine rd_ixT (SqT.of (smA _ _ ha)) (atI_nat (j := 2) rfl) ?_
        walk_at "go"
        refine rd_ixT (SqT.of (smA _ _ ha)) (atI_nat (j := 3) rfl) ?_
        walk_at "go"
        refine ⟨r, x2, sb, da, rfl, hr2.sm sm5, (hD.sm sm5).rd, hdr, by omega, fun y3 H6 sm6 hy3 => ?_⟩
        rw [er] at hy3
        refine ⟨t, v, pos, pa, _, _, y3, rfl, hv.sm (smA.trans sm6), (smA.trans sm6) _ _ hpa, hy3, hg, by omega, by omega, fun y4 H7 sm7 hy4 => ?_⟩
        exact q y4 H7 ((smA.trans sm6).trans sm7) hy4
      have g1 := (hv1.sm sm4)
      have g2 := (hv2.sm sm4)
      have f1 := fin e1 e2 v1 v2 g1 g2
      have f2 := fin e2 e1 v2 v1 g2 g1
      clear fin
      cases fwd with
      | true =>
        refine iteF ?_
        exact f1 rfl rfl hb2 hb4 hb1 hb3
      | false =>
        refine iteT ?_
        walk_at "go"
        refine ⟨v2, v1, rfl, ?_⟩
        exact f2 rfl rfl hb4 hb2 hb3 hb1
abbrev s_l_follow : Stmt := top 46
theorem sc_l_follow : FnScope ["_law_given", "_law_stages_here", "_law_term_here", "_law_steps", "_law_step_here"] ["_law_given", "_law_stages_here", "_law_term_here", "_law_steps"] (defScope s_l_follow) := ⟨rfl, rfl, rfl, by decide +kernel, rfl, by decide +kernel, by decide +kernel⟩
/-- a chain of given steps over terms of bounded size -/
def LeadsB (G : List Eqn) : List Stp → Tm → Tm → Prop
  | [], t, u => t = u
  | s :: r, t, u => s.giv = true ∧ dep t ≤ 40 ∧ siz t ≤ 100000 ∧ ∃ e, G[s.ix]? = some e ∧ EqB e ∧ Keys e s.sb ∧ ∃ v, Does e s t v ∧ LeadsB G r v u
def sp_follow : Sp := fun vs H Q _ => ∃ (LG LE LS : Addr) (es : List Eqn) (ss : List Stp) (t u : Tm) (v : V), vs = [.ref LG, .ref LE, v, .ref LS] ∧ EqnsAt H es LG ∧ H LE = some (.lst []) ∧ At H t v ∧ StpsAt H ss LS ∧ LeadsB es ss t u ∧
  ∀ y H', Same H H' → At H' u y → Q y H'
theorem at_ne {H : Hp} {t : Tm} {v : V} (h : At H t v) : ¬ v = .non := fun e => by
  rw [e] at h
  cases t with
  | var i => cases (show V.non = .int i from h)
  | app f as =>
    obtain ⟨a, vs, z, _⟩ := h
    cases z
theorem ok_l_follow (B : Bi mg) (F : De K mg "_law_follow" s_l_follow ["_law_given", "_law_stages_here", "_law_term_here", "_law_steps"]) (k_l_next : Kn P w K mg base CX0 42 "_law_next" ["_law_given", "_law_stages_here", "_law_term_here", "_law_step_here"] sp_next) :
    Kn P w K mg base CX0 43 "_law_follow" ["_law_given", "_law_stages_here", "_law_term_here", "_law_steps"] sp_follow := by
  refine F.ok sc_l_follow (fun vs H Q E h => ?_) (fun f cdv A outer s H vs Q E hr h => ?_)
  · obtain ⟨LG, LE, LS, es, ss, t, u, v, rfl, _⟩ := h
    rfl
  obtain ⟨LG, LE, LS, es, ss, t, u, v, rfl, hes, hLE, hv, ⟨ws, hLS, hws⟩, hl, q⟩ := h
  refine ⟨_, (pss_cons (ps_if (pt_not (pt_val (pe_callB call_isi (by rfl) B.m_isinstance (by decide +kernel) (pa_cons (pv 3) (pa_cons (pe_ty (n := "list") B.m_list (by decide +kernel)) pa_nil))))) (pss_one (ps_ret pe_non)) pss_nil)
      (pss_cons (ps_for PassesOwn.never rfl (pi_list (pv 3)) (pg_name (i := 4) sc_l_follow.nd rfl (.inl rfl)) (pss_cons (ps_set (i := 2) sc_l_follow.nd rfl (.inl rfl) (pe_kn k_l_next (hr.mono (by omega)) (pa_cons (pv 0) (pa_cons (pv 1) (pa_cons (pv 2) (pa_cons (pv 4) pa_nil))))))
      (pss_one (ps_if (pt_cmpR op_isN (pv 2) pe_non (nomark _)) (pss_one (ps_ret pe_non)) pss_nil))))
      (pss_one (ps_ret (pv 2))))), ?_⟩
  walk_at "go"
  refine rd_isL hLS ?_
  walk_at "go"
  refine iteF ?_
  walk_at "go"
  refine ⟨⟨_, SqL.of hLS⟩, for_list (xs := ws) (fun j σ H' => ∃ (t' : Tm) (v' : V) (y4 : Option V), σ = [some (.ref LG), some (.ref LE), some v', some (.ref LS), y4] ∧ Same H H' ∧ At H' t' v' ∧ LeadsB es (ss.drop j) t' u) ⟨t, v, none, rfl, Same.refl H, hv, hl⟩ (fun j σ H' _ ⟨_, _, _, _, sm, _⟩ => SqL.of (sm _ _ hLS)) ?_ ?_⟩
  · rintro j x σ H' hx ⟨t', v', y4, rfl, sm, hv', hl'⟩
    obtain ⟨st, hst, hx'⟩ := pr_ofget hws hx
    have hj := lt_of_get hst
    rw [List.drop_eq_getElem_cons hj] at hl'
    have e0 : ss[j] = st := by
      rw [List.getElem?_eq_getElem hj] at hst
      exact Option.some.inj hst
    rw [e0] at hl'
    obtain ⟨hg, hd, hs, e, he, hb, hk, v2, hdo, hl2⟩ := hl'
    walk_at "go"
    refine ⟨LG, LE, es, t', v2, st, e, v', x, rfl, hes.sm sm, sm _ _ hLE, hv', hx'.sm sm, hg, he, hb, hk, hdo, hd, hs, fun y H2 sm2 hy => ?_⟩
    walk_at "go"
    refine ⟨rfl, ?_⟩
    walk_at "go"
    rw [decide_eq_false (at_ne hy)]
    refine iteF ?_
    walk_at "go"
    exact ⟨v2, y, _, rfl, sm.trans sm2, hy, hl2⟩
  · rintro σ H' ⟨t', v', y4, rfl, sm, hv', hl'⟩
    walk_at "go"
    rw [List.drop_of_length_le (by rw [Paired.length hws]; exact Nat.le_refl _)] at hl'
    have e : t' = u := hl'
    rw [e] at hv'
    exact q v' H' sm hv'
end
end K18
set_option Elab.async false
set_option linter.all false
set_option maxRecDepth 100000
set_option maxHeartbeats 4000000
/-! terms of a height or less, the law's own chain, by_stage. -/
namespace K18
open PySem PySem.Spec L2
local macro_rules | `(tactic| walk_at "go1") => `(tactic| with_reducible first
  | refine rd_seq ?_ | refine rd_ifS ?_ | refine rd_asg ?_ | refine rd_name ?_ | refine rd_ret ?_ | refine rd_drop ?_ | refine rd_next ?_ | refine rd_retN ?_
  | refine rd_c ?_ | refine rd_op ?_ | refine rd_un ?_ | refine rd_U ?_ | refine rd_I0 ?_ | refine rd_eqI ?_ | refine rd_neI ?_ | refine rd_eqS ?_ | refine rd_neS ?_
  | refine rd_nil ?_ | refine rd_cons ?_ | refine rd_call ?_ | refine rd_cb ?_ | refine rd_bm ?_ | refine rd_tup ?_ | refine rd_lst ?_ | refine rd_sl ?_ | refine rd_part ?_ | refine rd_nopart ?_
  | refine rd_exI ?_ | refine rd_exB ?_ | refine rd_exR ?_ | refine rd_test ?_ | refine rd_B ?_ | refine rd_and ?_ | refine rd_or ?_ | refine rd_not ?_ | refine rd_andV ?_ | refine rd_orV ?_ | refine rd_notV ?_ | refine rd_ifE ?_ | refine rd_chain ?_
  | refine rd_dget2 ?_ | refine rd_dnotin ?_ | refine rd_gcons ?_ | refine rd_gnil ?_ | refine rd_gsub ?_ | refine rd_ipI ?_ | refine rd_par ?_ | refine rd_for ?_ | refine rd_iList ?_ | refine rd_iTup ?_ | refine rd_iRng1 ?_ | refine rd_iRng2 ?_
  | refine rd_iRev ?_ | refine rd_iEnum ?_ | refine rd_dput ?_ | refine rd_nx ?_ | refine rd_rt ?_ | refine rd_yes ?_ | refine rd_dc ?_ | refine rd_lc ?_ | refine rd_iItems ?_ | refine rd_iVals ?_ | refine rd_iRng3 ?_ | refine rd_m1 ?_)
local macro_rules | `(tactic| walk_at "go") => `(tactic| repeat (first | walk_at "go1" | ((with_reducible refine' rd_var ?h1 ?_); (case h1 => exact rfl)) | ((with_reducible refine' rd_aug ?h1 ?_); (case h1 => exact rfl))))

section
variable {P : Program} {w : World} {K : PySem.W.Frag} {mg : Str → Option Value} {base : Heap}
/-- a term of height n at most -/
def sp_termLe (n : Nat) : Sp := fun vs H Q E => ∃ h, h ≤ n ∧ sp_term h vs H Q E
theorem ok_termLe1 (B : Bi mg) {n : Nat} (F : De K mg "_law_term" s_l_term ["_law_state_here", "_law_operations_here", "_law_count", "_law_height"]) (k_l_leaf : Kn P w K mg base CX0 4 "_law_leaf" ["_law_state_here", "_law_operations_here", "_law_count"] sp_leaf)
    (k_l_draw : Kn P w K mg base CX0 3 "_law_draw" ["_law_state_here", "_law_many"] sp_draw) (k_l_term : Kn P w K mg base CX0 (n + 5) "_law_term" ["_law_state_here", "_law_operations_here", "_law_count", "_law_height"] (sp_termLe n)) :
    Kn P w K mg base CX0 (n + 6) "_law_term" ["_law_state_here", "_law_operations_here", "_law_count", "_law_height"] (sp_termLe (n + 1)) := by
  refine F.ok sc_l_term (fun vs H Q E h => ?_) (fun f cdv A outer s H vs Q E hr hh => ?_)
  · obtain ⟨h, _, st, scr, L, rfl, _⟩ := h
    rfl
  obtain ⟨h, hle, st, scr, L, rfl, hst, hops, q⟩ := hh
  refine ⟨_, (pss_cons (ps_if (PW.pt (pw_or (pt_cmpR op_eq (pv 3) pe_int (nomark _)) (pw_or1 (pt_cmpR op_eq (pe_kn k_l_draw (hr.mono (by omega)) (pa_cons (pv 0) (pa_cons pe_int pa_nil))) pe_int (nomark _))))) (pss_one (ps_ret (pe_kn k_l_leaf (hr.mono (by omega)) (pa_cons (pv 0) (pa_cons (pv 1) (pa_cons (pv 2) pa_nil)))))) pss_nil)
      (pss_cons (ps_asg (pe_ix ix_list (pv 1) (pe_op op_add pe_int (pe_kn k_l_draw (hr.mono (by omega)) (pa_cons (pv 0) (pa_cons (pe_op op_sub (pe_callB call_len_seq (by rfl) B.m_len PySem.boot_len (pa_cons (pv 1) pa_nil)) pe_int) pa_nil)))) (fun _ _ => rfl)) (pg_tup rfl (pgs_cons (pg_name (i := 4) sc_l_term.nd rfl (.inl rfl)) (pgs_cons (pg_name (i := 5) sc_l_term.nd rfl (.inl rfl)) pgs_nil))))
      (pss_cons (ps_set (i := 6) sc_l_term.nd rfl (.inl rfl) (pe_tup (pa_cons (pv 4) pa_nil)))
      (pss_cons (ps_for PassesOwn.never rfl (pi_range1 rfl B.m_range (pa_cons (pv 5) pa_nil)) (pg_name (i := 7) sc_l_term.nd rfl (.inl rfl)) (pss_one (ps_set (i := 6) sc_l_term.nd rfl (.inl rfl) (pe_op op_catA (pv 6) (pe_tup (pa_cons (pe_kn k_l_term (hr.mono (by omega)) (pa_cons (pv 0) (pa_cons (pv 1) (pa_cons (pv 2) (pa_cons (pe_op op_sub (pv 3) pe_int) pa_nil))))) pa_nil))))))
      (pss_one (ps_ret (pv 6))))))), ?_⟩
  walk_at "go"
  cases h with
  | zero =>
    refine iteT (iteT ?_)
    walk_at "go"
    exact ⟨st, scr, L, rfl, hst, hops, q⟩
  | succ h =>
    rw [decide_eq_false (show ¬ (((h + 1 : Nat) : Int) = 0) by omega)]
    refine iteF ?_
    walk_at "go"
    refine ⟨st, scr, 4, rfl, hst, by decide, by decide, fun n H1 hn b1 s1 => ?_⟩
    walk_at "go"
    refine ite2 (fun _ => ?_) (fun _ => ?_)
    · walk_at "go"
      exact ⟨st, scr, L, rfl, s1, hops.kp (b1.kp hst), fun t v H' d a b s => q t v H' (d.up _) a (b1.trans b) s⟩
    · walk_at "go"
      obtain ⟨as, eL, h4, h5, hop⟩ := hops.kp (b1.kp hst)
      refine ⟨L, _, rfl, .inl (SqL.of eL), ?_⟩
      walk_at "go"
      refine ⟨st, scr, as.length - 2, ?_, s1, by omega, by omega, fun m H2 hm b2 s2 => ?_⟩
      · rw [List.length_map]
        show [V.ref st, V.int ((as.length : Int) - 2)] = [V.ref st, V.int ((as.length - 2 : Nat) : Int)]
        rw [show (as.length : Int) - 2 = ((as.length - 2 : Nat) : Int) by omega]
      walk_at "go"
      have ez : (2 : Int) + (m : Int) = ((2 + m : Nat) : Int) := by omega
      rw [ez]
      obtain ⟨as2, eL2, _, _, hop2⟩ := OpsAt.kp (b2.kp s1) ⟨as, eL, h4, h5, hop⟩
      have b12 := b1.trans b2
      have hops2 : OpsAt H2 L := hops.kp (b12.kp hst)
      clear hop2 eL2
      have eL2 : H2 L = some (.lst (as.map V.ref)) := (b2.kp s1) _ _ (by cases as <;> trivial) eL
      have hm4 : 2 + m < as.length := by omega
      obtain ⟨f, ar, ea, hf, har⟩ := hop _ (List.getElem_mem hm4)
      have ea2 := (b2.kp s1).tup ea
      refine rd_ixL (v := .ref as[2 + m]) (SqL.of eL2) (atI_nat (by rw [List.getElem?_map, List.getElem?_eq_getElem hm4]; rfl)) ?_
      refine rd_gtup (SqT.of ea2) rfl ?_
      walk_at "go"
      refine ⟨by show 1 ≤ sizeLine; decide, fun p hp => ?_⟩
      have s3 := same_new (o := .tup [.str f]) hp
      walk_at "go"
      refine ⟨_, rfl, by omega, by omega, ?_⟩
      rw [Int.toNat_natCast]
      refine for_range (fun i σ H' => ∃ (y : Option V) (a : Addr) (vs : List V) (ts : List Tm), σ = [some (.ref st), some (.ref L), some (.int 9), some (.int ((h + 1 : Nat) : Int)), some (.str f), some (.int (ar : Int)), some (.ref a), y] ∧ But st H H' ∧ StOk H' st scr ∧ OpsAt H' L ∧ H' a = some (.tup (.str f :: vs)) ∧ AtL H' ts vs ∧ ts.length = i ∧ ∀ t ∈ ts, Drw h t)
        ⟨none, p, [], [], rfl, b12.trans (but_of s3), stok_sm s3 s2, hops2.kp (kp_of s3), upd_same, rfl, rfl, fun t ht => (nomatch ht)⟩ ?_ ?_
      · rintro i σ H' hi ⟨y, a, vs, ts, rfl, b, s, ho, ea, hvs, hl, hts⟩
        walk_at "go"
        refine ⟨h, by omega, st, scr, L, ?_, s, ho, fun t v H3 d at3 b3 s3 => ?_⟩
        · show [V.ref st, V.ref L, V.int 9, V.int (((h + 1 : Nat) : Int) - 1)] = _
          rw [show ((h + 1 : Nat) : Int) - 1 = (h : Int) by omega]
        have kp3 := b3.kp s
        refine ⟨by show 1 ≤ sizeLine; decide, fun r hr1 => ?_⟩
        have s4 := same_new (o := .tup [v]) hr1
        refine ⟨a, r, _, _, rfl, rfl, SqT.of (s4 _ _ (kp3.tup ea)), SqT.of upd_same, ?_, fun z => (nomatch z), fun _ z => (nomatch z), fun _ _ p2 hp2 => ?_⟩
        · have := hvs.len
          show vs.length + 1 + 1 ≤ sizeLine
          rw [sizeLine_eq]
          omega
        have s5 := same_new (o := .tup (.str f :: vs ++ [v])) hp2
        have kpA := kp3.trans (kp_of (s4.trans s5))
        walk_at "go"
        refine ⟨_, p2, vs ++ [v], ts ++ [t], rfl, (b.trans b3).trans (but_of (s4.trans s5)), stok_sm (s4.trans s5) s3, ho.kp kpA, upd_same, AtL.snoc (at3.sm (s4.trans s5)) (hvs.kp kpA), by rw [List.length_append, hl]; rfl, fun t' ht' => ?_⟩
        rcases List.mem_append.mp ht' with z | z
        · exact hts t' z
        · rw [List.mem_singleton.mp z]
          exact d
      · rintro σ H' ⟨y, a, vs, ts, rfl, b, s, ho, ea, hvs, hl, hts⟩
        walk_at "go"
        exact q (.app f ts) _ H' (Drw.app hf (by omega) hts) ⟨a, vs, rfl, ea, hvs⟩ b s

theorem ok_termLe (B : Bi mg) (F : De K mg "_law_term" s_l_term ["_law_state_here", "_law_operations_here", "_law_count", "_law_height"]) (k_l_leaf : Kn P w K mg base CX0 4 "_law_leaf" ["_law_state_here", "_law_operations_here", "_law_count"] sp_leaf)
    (k_l_draw : Kn P w K mg base CX0 3 "_law_draw" ["_law_state_here", "_law_many"] sp_draw) : ∀ n, Kn P w K mg base CX0 (n + 5) "_law_term" ["_law_state_here", "_law_operations_here", "_law_count", "_law_height"] (sp_termLe n)
  | 0 => (ok_l_term B F k_l_leaf k_l_draw 0).imp fun vs H Q E ⟨h, hh, z⟩ => by
    have e : h = 0 := by omega
    subst e
    exact z
  | n + 1 => ok_termLe1 B F k_l_leaf k_l_draw (ok_termLe B F k_l_leaf k_l_draw n)
abbrev s_l_chain : Stmt := top 41
theorem sc_l_chain : FnScope ["_law_state_here", "_law_operations_here", "_law_count", "_law_term_here", "_law_first", "_law_many", "_law_given", "_law_steps", "_law_terms", "_law_k", "_law_equation_here", "_law_step_here"] ["_law_state_here", "_law_operations_here", "_law_count", "_law_term_here", "_law_first", "_law_many"] (defScope s_l_chain) := ⟨rfl, rfl, rfl, by decide +kernel, rfl, by decide +kernel, by decide +kernel⟩
theorem ops_lst {H : Hp} {O r : Addr} {xs : List V} {o : HO} (e : H r = some (.lst xs)) (n : O ≠ r) : OpsAt H O → OpsAt (upd H r o) O := fun ⟨as, h, h1, h2, h3⟩ => ⟨as, by rw [upd_ne n]; exact h, h1, h2, fun a ha => by
  obtain ⟨f, ar, e1, z⟩ := h3 a ha
  exact ⟨f, ar, (kd_lst e).tup e1, z⟩⟩
theorem OpsAt.ne {H : Hp} {O r : Addr} (h : OpsAt H O) (e : H r = none) : O ≠ r := fun z => by
  obtain ⟨as, h, _⟩ := h
  rw [z, e] at h
  cases h
def sp_chain : Sp := fun vs H Q _ => ∃ (st scr O : Addr) (t : Tm) (v : V) (first many b d : Nat), vs = [.ref st, .ref O, .int 9, v, .int (first : Int), .int (many : Int)] ∧ StOk H st scr ∧ OpsAt H O ∧ At H t v ∧ Tg b d t ∧ 4 ≤ b ∧ 2 ≤ d ∧ b ≤ 2900 ∧ d ≤ 31 ∧ many ≤ 2 ∧ first ≤ 100 ∧
  ∀ (a LG LS LT : Addr) (es : List Eqn) (ss : List Stp) (t' : Tm) (ws : List V) (vt : V) (H' : Hp), But st H H' → StOk H' st scr → H' a = some (.tup [.ref LG, .ref LS, .ref LT]) → EqnsAt H' es LG → StpsAt H' ss LS → H' LT = some (.lst ws) → 0 < ws.length → ws[ws.length - 1]? = some vt → At H' t' vt →
    LG ≠ st → LS ≠ st → LT ≠ st → Ch first (b + 16 * many) (d + 2 * many) t es ss t' → es.length = many → Q (.ref a) H'
theorem ok_l_chain (B : Bi mg) (F : De K mg "_law_chain" s_l_chain ["_law_state_here", "_law_operations_here", "_law_count", "_law_term_here", "_law_first", "_law_many"])
    (k_l_step : Kn P w K mg base CX0 43 "_law_step" ["_law_state_here", "_law_operations_here", "_law_count", "_law_term_here", "_law_source"] sp_step) :
    Kn P w K mg base CX0 44 "_law_chain" ["_law_state_here", "_law_operations_here", "_law_count", "_law_term_here", "_law_first", "_law_many"] sp_chain := by
  refine F.ok sc_l_chain (fun vs H Q E h => ?_) (fun f cdv A outer s H vs Q E hr h => ?_)
  · obtain ⟨st, scr, O, t, v, first, many, b, d, rfl, _⟩ := h
    rfl
  obtain ⟨st, scr, O, t, v, first, many, b, d, rfl, hst, hops, hv, hT, hb4, hd2, hb3, hd3, hm, hfi, q⟩ := h
  refine ⟨_, (pss_cons (ps_set (i := 6) sc_l_chain.nd rfl (.inl rfl) (pe_lst pa_nil))
      (pss_cons (ps_set (i := 7) sc_l_chain.nd rfl (.inl rfl) (pe_lst pa_nil))
      (pss_cons (ps_set (i := 8) sc_l_chain.nd rfl (.inl rfl) (pe_lst (pa_cons (pv 3) pa_nil)))
      (pss_cons (ps_for PassesOwn.never rfl (pi_range1 rfl B.m_range (pa_cons (pv 5) pa_nil)) (pg_name (i := 9) sc_l_chain.nd rfl (.inl rfl)) (pss_cons (ps_asg (pe_kn k_l_step (hr.mono (by omega)) (pa_cons (pv 0) (pa_cons (pv 1) (pa_cons (pv 2) (pa_cons (pv 3) (pa_cons (pe_tup (pa_cons pe_str (pa_cons (pe_op op_add (pv 4) (pv 9)) pa_nil))) pa_nil)))))) (pg_tup rfl (pgs_cons (pg_name (i := 10) sc_l_chain.nd rfl (.inl rfl)) (pgs_cons (pg_name (i := 11) sc_l_chain.nd rfl (.inl rfl)) (pgs_cons (pg_name (i := 3) sc_l_chain.nd rfl (.inl rfl)) pgs_nil)))))
      (pss_cons (ps_expr (pe_bm PySem.F.plainAttrs_list PySem.F.slot_list_append PySem.F.type_list_append mt_append (pv 6) (pa_cons (pv 10) pa_nil)))
      (pss_cons (ps_expr (pe_bm PySem.F.plainAttrs_list PySem.F.slot_list_append PySem.F.type_list_append mt_append (pv 7) (pa_cons (pv 11) pa_nil)))
      (pss_one (ps_expr (pe_bm PySem.F.plainAttrs_list PySem.F.slot_list_append PySem.F.type_list_append mt_append (pv 8) (pa_cons (pv 3) pa_nil))))))))
      (pss_one (ps_ret (pe_tup (pa_cons (pv 6) (pa_cons (pv 7) (pa_cons (pv 8) pa_nil)))))))))), ?_⟩
  walk_at "go"
  refine ⟨Nat.zero_le _, fun LG hG0 => ?_⟩
  have s1 := same_new (o := .lst []) hG0
  walk_at "go"
  refine ⟨Nat.zero_le _, fun LS hS0 => ?_⟩
  have s2 := same_new (o := .lst []) hS0
  walk_at "go"
  refine ⟨by show 1 ≤ sizeLine; decide, fun LT hT0 => ?_⟩
  have s3 := same_new (o := .lst [v]) hT0
  have sA := (s1.trans s2).trans s3
  have hS00 : H LS = none := s1.free hS0
  have hT00 : H LT = none := (s1.trans s2).free hT0
  have nGS : LG ≠ LS := ne_of_none upd_same hS0
  have nGT : LG ≠ LT := ne_of_none (s2 _ _ upd_same) hT0
  have nST : LS ≠ LT := ne_of_none upd_same hT0
  have g1 := stok_ne hst hG0
  have g2 := stok_ne2 hst hG0
  have g3 := stok_ne hst hS00
  have g4 := stok_ne2 hst hS00
  have g5 := stok_ne hst hT00
  have g6 := stok_ne2 hst hT00
  have nOG := hops.ne hG0
  have nOS := hops.ne hS00
  have nOT := hops.ne hT00
  walk_at "go"
  refine ⟨_, rfl, by omega, by omega, ?_⟩
  rw [Int.toNat_natCast]
  refine for_range (fun i σ H' => ∃ (v' : V) (y9 y10 y11 : Option V) (es : List Eqn) (ss : List Stp) (t' : Tm) (vG vS ws : List V), σ = [some (.ref st), some (.ref O), some (.int 9), some v', some (.int (first : Int)), some (.int (many : Int)), some (.ref LG), some (.ref LS), some (.ref LT), y9, y10, y11] ∧
      But st H H' ∧ StOk H' st scr ∧ OpsAt H' O ∧ H' LG = some (.lst vG) ∧ Paired (EqnAt H') es vG ∧ H' LS = some (.lst vS) ∧ Paired (StpAt H') ss vS ∧ H' LT = some (.lst ws) ∧ ws.length = i + 1 ∧ ws[i]? = some v' ∧ At H' t' v' ∧ Ch first (b + 16 * i) (d + 2 * i) t es ss t' ∧ es.length = i)
    ⟨v, none, none, none, [], [], t, [], [], [v], rfl, but_of sA, stok_sm sA hst, hops.kp (kp_of sA), s3 _ _ (s2 _ _ upd_same), .nil, s3 _ _ upd_same, .nil, upd_same, rfl, rfl, hv.sm sA, Ch.start hT, rfl⟩ ?_ ?_
  · rintro i σ H' hi ⟨v', y9, y10, y11, es, ss, t', vG, vS, ws, rfl, bb, sto, ho, eG, hG, eS, hS, eT, hwl, hwi, hv', hc, hel⟩
    walk_at "go"
    refine ⟨by show 2 ≤ sizeLine; decide, fun sa hsa => ?_⟩
    have s4 := same_new (o := .tup [.str (Str.ofString "given"), .int ((first : Int) + (0 + (i : Int)))]) hsa
    have sto4 := stok_sm s4 sto
    refine ⟨st, scr, O, sa, t', v', first + i, b + 16 * i, d + 2 * i, rfl, sto4, ho.kp (kp_of s4), hv'.sm s4, hc.tg, by omega, by omega, by omega, by omega, by rw [upd_same]; exact congrArg (fun z => some (HO.tup [V.str (Str.ofString "given"), V.int z])) (by omega), fun a e stp t2 ve vs' vt H2 b2 st2 ha he hs ht2 hgiv hix hdo hke htg hso heq => ?_⟩
    have k2 := (kp_of s4).trans (b2.kp sto4)
    have eG2 := b2 _ _ g1 (s4 _ _ eG)
    have eS2 := b2 _ _ g3 (s4 _ _ eS)
    have eT2 := b2 _ _ g5 (s4 _ _ eT)
    have bb2 := (bb.trans (but_of s4)).trans b2
    have hlG := Paired.length hG
    have hlS := Paired.length hS
    have hcl := hc.len
    refine rd_gtup (SqT.of ha) rfl ?_
    walk_at "go"
    refine ⟨.inl ⟨rfl, _, SqL.of eG2⟩, ?_⟩
    walk_at "go"
    refine ⟨LG, _, _, rfl, rfl, eG2, by rw [sizeLine_eq]; omega, ?_⟩
    walk_at "go"
    have k3 := kd_lst (o := .lst (vG ++ [ve])) eG2
    have eS3 : upd H2 LG (.lst (vG ++ [ve])) LS = some (.lst vS) := by rw [upd_ne nGS.symm]; exact eS2
    have eT3 : upd H2 LG (.lst (vG ++ [ve])) LT = some (.lst ws) := by rw [upd_ne nGT.symm]; exact eT2
    refine ⟨.inl ⟨rfl, _, SqL.of eS3⟩, ?_⟩
    walk_at "go"
    refine ⟨LS, _, _, rfl, rfl, eS3, by rw [sizeLine_eq]; omega, ?_⟩
    walk_at "go"
    have k4 := kd_lst (o := .lst (vS ++ [vs'])) eS3
    have eT4 : upd (upd H2 LG (.lst (vG ++ [ve]))) LS (.lst (vS ++ [vs'])) LT = some (.lst ws) := by rw [upd_ne nST.symm]; exact eT3
    refine ⟨.inl ⟨rfl, _, SqL.of eT4⟩, ?_⟩
    walk_at "go"
    refine ⟨LT, _, _, rfl, rfl, eT4, by rw [sizeLine_eq]; omega, ?_⟩
    walk_at "go"
    have k5 := kd_lst (o := .lst (ws ++ [vt])) eT4
    have kd := (k3.trans k4).trans k5
    refine ⟨vt, _, _, _, es ++ [e], ss ++ [stp], t2, vG ++ [ve], vS ++ [vs'], ws ++ [vt], rfl, but_mut (but_mut (but_mut bb2 hG0) hS00) hT00, stok_upd (stok_upd (stok_upd st2 g1 g2) g3 g4) g5 g6, ?_, ?_, ?_, ?_, ?_, upd_same, ?_, ?_, ht2.tk kd.tk, ?_, ?_⟩
    · exact ops_lst eT4 nOT (ops_lst eS3 nOS (ops_lst eG2 nOG (ho.kp k2)))
    · rw [upd_ne nGT, upd_ne nGS, upd_same]
    · exact pr_snoc (pr_mono hG fun _ _ z => (z.kp k2).kd kd) (he.kd kd)
    · rw [upd_ne nST, upd_same]
    · exact pr_snoc (pr_mono hS fun _ _ z => (z.kp k2).kd kd) (hs.kd kd)
    · rw [List.length_append, hwl]
      rfl
    · rw [← hwl, List.getElem?_append_right (Nat.le_refl _), Nat.sub_self]
      rfl
    · have := hc.snoc hgiv (by rw [hix, hel]) hdo hke htg hso heq
      rw [show b + 16 * (i + 1) = b + 16 * i + 16 by omega, show d + 2 * (i + 1) = d + 2 * i + 2 by omega]
      exact this
    · rw [List.length_append, hel]
      rfl
  · rintro σ H' ⟨v', y9, y10, y11, es, ss, t', vG, vS, ws, rfl, bb, sto, ho, eG, hG, eS, hS, eT, hwl, hwi, hv', hc, hel⟩
    walk_at "go"
    refine ⟨by show 3 ≤ sizeLine; decide, fun a ha => ?_⟩
    have s6 := same_new (o := .tup [.ref LG, .ref LS, .ref LT]) ha
    exact q a LG LS LT es ss t' ws v' _ (bb.trans (but_of s6)) (stok_sm s6 sto) upd_same (EqnsAt.sm s6 ⟨vG, eG, hG⟩) (StpsAt.sm s6 ⟨vS, eS, hS⟩) (s6 _ _ eT) (by omega) (by rw [hwl]; exact hwi) (hv'.sm s6) g1 g3 g5 hc hel
end
end K18
set_option Elab.async false
set_option linter.all false
set_option maxRecDepth 100000
set_option maxHeartbeats 4000000
/-! The law's own by_stage. -/
namespace K18
open PySem PySem.Spec L2
local macro_rules | `(tactic| walk_at "go1") => `(tactic| with_reducible first
  | refine rd_seq ?_ | refine rd_ifS ?_ | refine rd_asg ?_ | refine rd_name ?_ | refine rd_ret ?_ | refine rd_drop ?_ | refine rd_next ?_ | refine rd_retN ?_
  | refine rd_c ?_ | refine rd_op ?_ | refine rd_un ?_ | refine rd_U ?_ | refine rd_I0 ?_ | refine rd_eqI ?_ | refine rd_neI ?_ | refine rd_eqS ?_ | refine rd_neS ?_
  | refine rd_nil ?_ | refine rd_cons ?_ | refine rd_call ?_ | refine rd_cb ?_ | refine rd_bm ?_ | refine rd_tup ?_ | refine rd_lst ?_ | refine rd_sl ?_ | refine rd_part ?_ | refine rd_nopart ?_
  | refine rd_exI ?_ | refine rd_exB ?_ | refine rd_exR ?_ | refine rd_test ?_ | refine rd_B ?_ | refine rd_and ?_ | refine rd_or ?_ | refine rd_not ?_ | refine rd_andV ?_ | refine rd_orV ?_ | refine rd_notV ?_ | refine rd_ifE ?_ | refine rd_chain ?_
  | refine rd_dget2 ?_ | refine rd_dnotin ?_ | refine rd_gcons ?_ | refine rd_gnil ?_ | refine rd_gsub ?_ | refine rd_ipI ?_ | refine rd_par ?_ | refine rd_for ?_ | refine rd_iList ?_ | refine rd_iTup ?_ | refine rd_iRng1 ?_ | refine rd_iRng2 ?_
  | refine rd_iRev ?_ | refine rd_iEnum ?_ | refine rd_dput ?_ | refine rd_nx ?_ | refine rd_rt ?_ | refine rd_yes ?_ | refine rd_dc ?_ | refine rd_lc ?_ | refine rd_iItems ?_ | refine rd_iVals ?_ | refine rd_iRng3 ?_ | refine rd_m1 ?_)
local macro_rules | `(tactic| walk_at "go") => `(tactic| repeat (first | walk_at "go1" | ((with_reducible refine' rd_var ?h1 ?_); (case h1 => exact rfl)) | ((with_reducible refine' rd_aug ?h1 ?_); (case h1 => exact rfl))))

section
variable {P : Program} {w : World} {K : PySem.W.Frag} {mg : Str → Option Value} {base : Heap}
abbrev s_l_by_stage : Stmt := top 47
theorem sc_l_by_stage : FnScope ["_law_state_here", "_law_operations_here", "_law_stages_here", "_law_term_here", "_law_j", "_law_left", "_law_right", "_law_steps", "_law_bound", "_law_variable", "_law_places", "_law_position", "_law_is_forward", "_law_old", "_law_new", "_law_start", "_law_end"] ["_law_state_here", "_law_operations_here", "_law_stages_here", "_law_term_here"] (defScope s_l_by_stage) := ⟨rfl, rfl, rfl, by decide +kernel, rfl, by decide +kernel, by decide +kernel⟩
def sp_by_stage : Sp := fun vs H Q _ => ∃ (st scr O LS : Addr) (gs : List Stg) (t0 : Tm) (v0 : V), vs = [.ref st, .ref O, .ref LS, v0] ∧ StOk H st scr ∧ OpsAt H O ∧ StgsAt H gs LS ∧ LS ≠ st ∧ At H t0 v0 ∧ Tg 13 3 t0 ∧ 0 < gs.length ∧ gs.length ≤ 100 ∧ (∀ g : Stg, g ∈ gs → Tg 900 37 g.l ∧ Tg 900 37 g.r) ∧
  ∀ (a : Addr) (s : Stp) (start t1 : Tm) (v1 v2 v3 : V) (H' : Hp), But st H H' → StOk H' st scr → H' a = some (.tup [v1, v2, v3]) → At H' start v1 → At H' t1 v2 → StpAt H' s v3 → By gs t0 s start t1 → Q (.ref a) H'
theorem ok_l_by_stage (B : Bi mg) (F : De K mg "_law_by_stage" s_l_by_stage ["_law_state_here", "_law_operations_here", "_law_stages_here", "_law_term_here"]) (k_l_draw : Kn P w K mg base CX0 3 "_law_draw" ["_law_state_here", "_law_many"] sp_draw)
    (k_l_term : Kn P w K mg base CX0 6 "_law_term" ["_law_state_here", "_law_operations_here", "_law_count", "_law_height"] (sp_termLe 1)) (k_l_positions : Kn P w K mg base CX0 41 "_law_positions" ["_law_term_here"] (sp_positions 40))
    (k_l_replace : Kn P w K mg base CX0 41 "_law_replace" ["_law_term_here", "_law_position", "_law_new"] (sp_replace 40))
    (k_l_substitute : Kn P w K mg base CX0 41 "_law_substitute" ["_law_term_here", "_law_substitution"] (sp_sub 40)) (k_l_variables : Kn P w K mg base CX0 41 "_law_variables" ["_law_term_here"] (sp_variables 40)) :
    Kn P w K mg base CX0 42 "_law_by_stage" ["_law_state_here", "_law_operations_here", "_law_stages_here", "_law_term_here"] sp_by_stage := by
  refine F.ok sc_l_by_stage (fun vs H Q E h => ?_) (fun f cdv A outer s H vs Q E hr h => ?_)
  · obtain ⟨st, scr, O, LS, gs, t0, v0, rfl, _⟩ := h
    rfl
  obtain ⟨st, scr, O, LS, gs, t0, v0, rfl, hst, hops, hgs, nLS, hv, hT, hg0, hg1, hgb, q⟩ := h
  have hTs := hT.sz
  have hTd := hT.dp
  obtain ⟨us, eLS, hus⟩ := hgs
  have hul := Paired.length hus
  refine ⟨_, (pss_cons (ps_set (i := 4) sc_l_by_stage.nd rfl (.inl rfl) (pe_kn k_l_draw (hr.mono (by omega)) (pa_cons (pv 0) (pa_cons (pe_callB call_len_seq (by rfl) B.m_len PySem.boot_len (pa_cons (pv 2) pa_nil)) pa_nil))))
      (pss_cons (ps_asg (pe_ix ix_list (pv 2) (pv 4) (fun _ _ => rfl)) (pg_tup rfl (pgs_cons (pg_name (i := 5) sc_l_by_stage.nd rfl (.inl rfl)) (pgs_cons (pg_name (i := 6) sc_l_by_stage.nd rfl (.inl rfl)) (pgs_cons (pg_name (i := 7) sc_l_by_stage.nd rfl (.inl rfl)) pgs_nil)))))
      (pss_cons (ps_set (i := 8) sc_l_by_stage.nd rfl (.inl rfl) pe_dnewK)
      (pss_cons (ps_for PassesOwn.never rfl (pi_list (pe_op op_cat (pe_kn k_l_variables (hr.mono (by omega)) (pa_cons (pv 5) pa_nil)) (pe_kn k_l_variables (hr.mono (by omega)) (pa_cons (pv 6) pa_nil)))) (pg_name (i := 9) sc_l_by_stage.nd rfl (.inl rfl)) (pss_one (ps_if (pt_cmp (pc_dnotin (hu_of hr) (pv 9) (pv 8))) (pss_one (ps_dput (hu_of hr) (pv 8) (pv 9) (pe_kn k_l_term (hr.mono (by omega)) (pa_cons (pv 0) (pa_cons (pv 1) (pa_cons pe_int (pa_cons (pe_callTy call_int1 (by rfl) B.m_int (by decide +kernel) (pa_cons (pe_cmpR op_lt (pe_callB call_len_seq (by rfl) B.m_len PySem.boot_len (pa_cons (pv 2) pa_nil)) pe_int (nomark _)) pa_nil)) pa_nil))))) rfl)) pss_nil)))
      (pss_cons (ps_set (i := 10) sc_l_by_stage.nd rfl (.inl rfl) (pe_kn k_l_positions (hr.mono (by omega)) (pa_cons (pv 3) pa_nil)))
      (pss_cons (ps_set (i := 11) sc_l_by_stage.nd rfl (.inl rfl) (pe_ix ix_list (pv 10) (pe_kn k_l_draw (hr.mono (by omega)) (pa_cons (pv 0) (pa_cons (pe_callB call_len_seq (by rfl) B.m_len PySem.boot_len (pa_cons (pv 10) pa_nil)) pa_nil))) (fun _ _ => rfl)))
      (pss_cons (ps_set (i := 12) sc_l_by_stage.nd rfl (.inl rfl) (pe_cmpR op_eq (pe_kn k_l_draw (hr.mono (by omega)) (pa_cons (pv 0) (pa_cons pe_int pa_nil))) pe_int (nomark _)))
      (pss_cons (ps_set (i := 13) sc_l_by_stage.nd rfl (.inl rfl) (pv 6))
      (pss_cons (ps_set (i := 14) sc_l_by_stage.nd rfl (.inl rfl) (pv 5))
      (pss_cons (ps_if (pt_val (pv 12)) (pss_cons (ps_set (i := 13) sc_l_by_stage.nd rfl (.inl rfl) (pv 5))
      (pss_one (ps_set (i := 14) sc_l_by_stage.nd rfl (.inl rfl) (pv 6)))) pss_nil)
      (pss_cons (ps_set (i := 15) sc_l_by_stage.nd rfl (.inl rfl) (pe_kn k_l_replace (hr.mono (by omega)) (pa_cons (pv 3) (pa_cons (pv 11) (pa_cons (pe_kn k_l_substitute (hr.mono (by omega)) (pa_cons (pv 13) (pa_cons (pv 8) pa_nil))) pa_nil)))))
      (pss_cons (ps_set (i := 16) sc_l_by_stage.nd rfl (.inl rfl) (pe_kn k_l_replace (hr.mono (by omega)) (pa_cons (pv 3) (pa_cons (pv 11) (pa_cons (pe_kn k_l_substitute (hr.mono (by omega)) (pa_cons (pv 14) (pa_cons (pv 8) pa_nil))) pa_nil)))))
      (pss_one (ps_ret (pe_tup (pa_cons (pv 15) (pa_cons (pv 16) (pa_cons (pe_tup (pa_cons (pe_tup (pa_cons pe_str (pa_cons (pv 4) pa_nil))) (pa_cons (pv 12) (pa_cons (pv 11) (pa_cons (pv 8) pa_nil))))) pa_nil)))))))))))))))))), ?_⟩
  walk_at "go"
  refine ⟨LS, _, rfl, .inl (SqL.of eLS), ?_⟩
  walk_at "go"
  refine ⟨st, scr, us.length, rfl, hst, by omega, by omega, fun j H1 hj b1 st1 => ?_⟩
  have k1 := b1.kp hst
  obtain ⟨xg, hxg⟩ : ∃ x, us[j]? = some x := ⟨_, List.getElem?_eq_getElem hj⟩
  obtain ⟨g, hg, hgx⟩ := pr_ofget hus hxg
  obtain ⟨ga, v1, v2, gL, rfl, hga, hv1, hv2, hgL⟩ := hgx.kp k1
  obtain ⟨hb1, hb2⟩ := hgb g (List.mem_of_getElem? hg)
  have hb1s := hb1.sz
  have hb1d := hb1.dp
  have hb2s := hb2.sz
  have hb2d := hb2.dp
  have eLS1 := b1 _ _ nLS eLS
  walk_at "go"
  refine rd_ixL (SqL.of eLS1) (atI_nat hxg) ?_
  refine rd_gtup (SqT.of hga) rfl ?_
  walk_at "go"
  refine fun d hd0 => ?_
  have s2 := same_new (o := .dK []) hd0
  have hd : H d = none := But.new st1 b1 hd0
  have nds := stok_ne st1 hd0
  have st2 := stok_sm s2 st1
  walk_at "go"
  refine ⟨g.l, v1, rfl, hv1.sm s2, by omega, by omega, fun M0 ns0 H3 hM0 s3 eM0 hnd0 hns0 hnl0 => ?_⟩
  walk_at "go"
  refine ⟨g.r, v2, rfl, (hv2.sm s2).sm s3, by omega, by omega, fun M1 ns1 H4 hM1 s4 eM1 hnd1 hns1 hnl1 => ?_⟩
  refine ⟨M0, M1, _, _, rfl, rfl, s4 _ _ eM0, eM1, by rw [List.length_map, List.length_map, sizeLine_eq]; omega, fun M hM => ?_⟩
  have s5 := same_new (o := .lst (ns0.map V.int ++ ns1.map V.int)) hM
  walk_at "go"
  have s15 := ((s2.trans s3).trans s4).trans s5
  have ed4 : H4 d = some (.dK []) := s4 _ _ (s3 _ _ upd_same)
  have nMd : M ≠ d := (ne_of_none ed4 hM).symm
  have st5 := stok_sm s15 st1
  have nLd : LS ≠ d := fun z => by
    rw [z, hd0] at eLS1
    cases eLS1
  have nMs : M ≠ st := stok_ne (stok_sm (s3.trans s4) st2) hM
  have ens : ns0.map V.int ++ ns1.map V.int = (ns0 ++ ns1).map V.int := List.map_append.symm
  rw [ens] at s15 st5
  rw [ens]
  have hops5 : OpsAt (upd H4 M (.lst ((ns0 ++ ns1).map V.int))) O := (hops.kp k1).kp (kp_of s15)
  refine ⟨⟨_, SqL.of upd_same⟩, for_list (xs := (ns0 ++ ns1).map V.int) (fun i σ H' => ∃ (y9 : Option V) (ps : Sb), σ = [some (.ref st), some (.ref O), some (.ref LS), some v0, some (.int (j : Int)), some v1, some v2, some (.ref gL), some (.ref d), y9, none, none, none, none, none, none, none] ∧ But st H H' ∧ StOk H' st scr ∧ Kd H1 H' ∧ OpsAt H' O ∧ H' LS = some (.lst us) ∧ H' M = some (.lst ((ns0 ++ ns1).map V.int)) ∧ DAt H' ps d ∧ (keys ps).Nodup ∧ (∀ z, z ∈ keys ps ↔ z ∈ (ns0 ++ ns1).take i) ∧ ps.length ≤ i ∧ ∀ z, z ∈ keys ps → siz (lk ps z) ≤ mu gs.length ∧ dep (lk ps z) ≤ 2 ∧ Nam (lk ps z) ∧ Vr (lk ps z))
    ⟨none, [], rfl, b1.trans (but_of s15), st5, kd_of s15, hops5, s15 _ _ eLS1, upd_same, ⟨[], by rw [upd_ne nMd.symm]; exact ed4, .nil⟩, List.nodup_nil, fun z => ⟨fun m => (nomatch m), fun m => (nomatch m)⟩, Nat.le_refl _, fun z m => (nomatch m)⟩ (fun i σ H' _ ⟨_, _, _, _, _, _, _, _, e, _⟩ => SqL.of e) ?_ ?_⟩
  · rintro i y σ H' hy ⟨y9, ps, rfl, bb, sto, kd, ho, eL', eM', hD', hpn, hpk, hpl, hpv⟩
    rw [List.getElem?_map] at hy
    obtain ⟨m1, hm1, rfl⟩ := Option.map_eq_some_iff.mp hy
    have hil := lt_of_get hm1
    rw [List.length_append] at hil
    walk_at "go"
    obtain ⟨o, ho1, ho2⟩ := rd_dget (i := m1) hD'.rd
    refine ⟨d, o, rfl, ho1, ?_⟩
    walk_at "go"
    rw [ho2]
    by_cases hin : m1 ∈ keys ps
    · rw [decide_eq_true hin]
      refine iteF ?_
      walk_at "go"
      refine ⟨_, ps, rfl, bb, sto, kd, ho, eL', eM', hD', hpn, fun z => ?_, by omega, hpv⟩
      rw [take_mem_more hm1, hpk]
      constructor
      · exact .inl
      · rintro (w | w)
        · exact w
        · rw [w]
          exact (hpk m1).mp hin
    · rw [decide_eq_false hin]
      refine iteT ?_
      walk_at "go"
      refine ⟨LS, _, rfl, .inl (SqL.of eL'), ?_⟩
      walk_at "go"
      refine .inr ⟨_, rfl, ?_⟩
      walk_at "go"
      obtain ⟨h, hh, hmu, eh⟩ : ∃ h : Nat, h ≤ 1 ∧ szB h = mu gs.length ∧ V.int (if decide (((us.length : Nat) : Int) < 2) = true then 1 else 0) = V.int (h : Int) := by
        by_cases z : us.length < 2
        · exact ⟨1, Nat.le_refl _, by unfold mu; rw [if_pos (by omega)]; rfl, by rw [decide_eq_true (show ((us.length : Nat) : Int) < 2 by omega)]; rfl⟩
        · exact ⟨0, by omega, by unfold mu; rw [if_neg (by omega)]; rfl, by rw [decide_eq_false (show ¬ ((us.length : Nat) : Int) < 2 by omega)]; rfl⟩
      refine ⟨h, hh, st, scr, O, by rw [← eh]; rfl, sto, ho, fun tn wn H8 dn an b8 st8 => ?_⟩
      have k8 := b8.kp sto
      obtain ⟨kvs, ed, hk⟩ := hD'.kp k8
      have hkl := Paired.length hk
      walk_at "go"
      refine ⟨d, _, rfl, DPut.k (k := Sum.inl m1) ed (by rw [sizeLine_eq]; omega), ?_⟩
      have tk8 := tk_dict (o := .dK (putK kvs (Sum.inl m1) wn)) ed
      refine ⟨_, ps ++ [(m1, tn)], rfl, but_mut (bb.trans b8) hd, stok_upd st8 nds (dict_ne2 st8 ed), fun x u nl e => ?_, ops_dict ed (ho.kp k8), ?_, by rw [upd_ne nMd]; exact b8 _ _ nMs eM', ⟨_, upd_same, (DRel.put hk hin an).tk tk8⟩, ?_, fun z => ?_, ?_, fun z hz => ?_⟩
      · rw [upd_ne fun z => by
          rw [z, hd0] at e
          cases e]
        exact k8.kd _ _ nl (kd _ _ nl e)
      · rw [upd_ne nLd]
        exact b8 _ _ nLS eL'
      · unfold keys
        rw [List.map_append]
        exact nd_snoc hpn hin
      · have e3 : keys (ps ++ [(m1, tn)]) = keys ps ++ [m1] := List.map_append
        rw [e3, List.mem_append, List.mem_singleton, hpk, take_mem_more hm1]
      · rw [List.length_append]
        show ps.length + 1 ≤ _
        omega
      · by_cases y : z ∈ keys ps
        · rw [lk_append_left y]
          exact hpv z y
        · rw [lk_append_right y]
          have e3 : keys (ps ++ [(m1, tn)]) = keys ps ++ [m1] := List.map_append
          rw [e3, List.mem_append, List.mem_singleton] at hz
          have ez : m1 = z := (hz.resolve_left y).symm
          rw [lk, if_pos ez]
          have h2 := dn.dp
          exact ⟨by rw [← hmu]; exact dn.sz, by omega, dn.nm, dn.vr⟩
  · rintro σ H8 ⟨y9, ps, rfl, bb, sto, kd, ho, eL', eM', hD', hpn, hpk, hpl, hpv⟩
    rw [List.length_map] at hpk
    rw [List.take_length] at hpk
    have hv8 : At H8 t0 v0 := (hv.kp k1).tk kd.tk
    have hv18 := hv1.tk kd.tk
    have hv28 := hv2.tk kd.tk
    walk_at "go"
    refine ⟨t0, v0, rfl, hv8, by omega, by omega, fun L1 as1 H9 hL10 sm9 eL1 h10 h1l hp1 => ?_⟩
    walk_at "go"
    have st9 := stok_sm sm9 sto
    refine ⟨L1, _, rfl, .inl (SqL.of eL1), ?_⟩
    walk_at "go"
    refine ⟨st, scr, as1.length, by rw [List.length_map]; rfl, st9, h10, by omega, fun n1 H10 hn1 b10 st10 => ?_⟩
    obtain ⟨p, u, ep, hgp⟩ := hp1 _ (List.getElem_mem hn1)
    have k10 := b10.kp st9
    refine rd_ixL (v := .ref as1[n1]) (SqL.of (b10 _ _ (ref_list_ne st9 eL1) eL1)) (atI_nat (by rw [List.getElem?_map, List.getElem?_eq_getElem hn1]; rfl)) ?_
    walk_at "go"
    refine ⟨st, scr, 2, rfl, st10, by decide, by decide, fun n2 H11 hn2 b11 st11 => ?_⟩
    walk_at "go"
    have kA := (kp_of sm9).trans (k10.trans (b11.kp st10))
    have bA := ((bb.trans (but_of sm9)).trans b10).trans b11
    have ep11 : H11 as1[n1] = some (.tup (pint p)) := (k10.trans (b11.kp st10)).tup ep
    have hpg := dep_get hgp
    have hup := dep_pos u
    generalize decide ((n2 : Int) = 0) = fwd
    have e90 : ∀ i, i ∈ keys ps ↔ (Occ i g.l ∨ Occ i g.r) := fun i => by
      rw [hpk, List.mem_append, hns0, hns1]
    -- the start, the end
    have fin : ∀ (o n : Tm) (x1 x2 : V), At H11 o x1 → At H11 n x2 → o = src (g.l, g.r) fwd → n = src (g.l, g.r) (!fwd) → dep o ≤ 40 → dep n ≤ 40 → siz o ≤ 1000 → siz n ≤ 1000 →
        (tSeq (tAsg (tCall (sp_replace 40) [] E0 (tCons (tVar 3) (tCons (tVar 11) (tCons (tCall (sp_sub 40) [] E0 (tCons (tVar 13) (tCons (tVar 8) tNil))) tNil)))) (gName 15))
          (tSeq (tAsg (tCall (sp_replace 40) [] E0 (tCons (tVar 3) (tCons (tVar 11) (tCons (tCall (sp_sub 40) [] E0 (tCons (tVar 14) (tCons (tVar 8) tNil))) tNil)))) (gName 16))
            (tRet (tTup (tCons (tVar 15) (tCons (tVar 16) (tCons (tTup (tCons (tTup (tCons (tC (.str (Str.ofString "stage"))) (tCons (tVar 4) tNil))) (tCons (tVar 12) (tCons (tVar 11) (tCons (tVar 8) tNil))))) tNil))))))) { nx := fun _ H' => Q .non H', rt := Q }
          [some (.ref st), some (.ref O), some (.ref LS), some v0, some (.int (j : Int)), some v1, some v2, some (.ref gL), some (.ref d), y9, some (.ref L1), some (.ref as1[n1]), some (.bl fwd), some x1, some x2, none, none] H11 := by
      intro o n x1 x2 ho1 hn1' eo en hdo hdn hso hsn
      walk_at "go"
      refine ⟨o, x1, ps, d, rfl, ho1, (hD'.kp kA).rd, hdo, by omega, fun y1 H12 s12 hy1 => ?_⟩
      refine ⟨t0, v0, p, _, u, _, y1, rfl, (hv8.kp kA).sm s12, s12 _ _ ep11, hy1, hgp, by omega, by omega, fun y2 H13 s13 hy2 => ?_⟩
      walk_at "go"
      have sB := s12.trans s13
      refine ⟨n, x2, ps, d, rfl, hn1'.sm sB, ((hD'.kp kA).sm sB).rd, hdn, by omega, fun y3 H14 s14 hy3 => ?_⟩
      have sC := sB.trans s14
      refine ⟨t0, v0, p, _, u, _, y3, rfl, (hv8.kp kA).sm sC, sC _ _ ep11, hy3, hgp, by omega, by omega, fun y4 H15 s15 hy4 => ?_⟩
      have sD := sC.trans s15
      walk_at "go"
      refine ⟨by show 2 ≤ sizeLine; decide, fun sa hsa => ?_⟩
      have s16 := same_new (o := .tup [.str (Str.ofString "stage"), .int (j : Int)]) hsa
      walk_at "go"
      refine ⟨by show 4 ≤ sizeLine; decide, fun pa hpa => ?_⟩
      have s17 := same_new (o := .tup [.ref sa, .bl fwd, .ref as1[n1], .ref d]) hpa
      walk_at "go"
      refine ⟨by show 3 ≤ sizeLine; decide, fun a ha => ?_⟩
      have s18 := same_new (o := .tup [y2, y4, .ref pa]) ha
      have sE := (s16.trans s17).trans s18
      rw [eo] at hy2
      rw [en] at hy4
      refine q a ⟨false, j, fwd, p, ps⟩ _ _ _ _ _ _ (bA.trans (but_of (sD.trans sE))) (stok_sm (sD.trans sE) st11) upd_same (hy2.sm ((s14.trans s15).trans sE)) (hy4.sm sE)
        ((StpAt.mk (s := ⟨false, j, fwd, p, ps⟩) hpa upd_same (s16 _ _ (sD _ _ ep11)) (((hD'.kp kA).sm sD).sm s16)).sm s18) ⟨rfl, ⟨g, u, hg, hgp, rfl, rfl, e90⟩, hpn, fun z hz => hpv z hz⟩
    have f1 := fin g.l g.r v1 v2 (hv18.kp kA) (hv28.kp kA)
    have f2 := fin g.r g.l v2 v1 (hv28.kp kA) (hv18.kp kA)
    clear fin
    cases fwd with
    | true =>
      refine iteT ?_
      refine rd_seq ?_
      refine rd_asg ?_
      refine rd_var (v := v1) rfl ?_
      refine rd_name ?_
      refine rd_nx ?_
      refine rd_asg ?_
      refine rd_var (v := v2) rfl ?_
      refine rd_name ?_
      exact f1 rfl rfl (by omega) (by omega) (by omega) (by omega)
    | false =>
      refine iteF ?_
      exact f2 rfl rfl (by omega) (by omega) (by omega) (by omega)
end
end K18
set_option Elab.async false
set_option linter.all false
set_option maxRecDepth 100000
set_option maxHeartbeats 4000000
/-! The law's own stages. -/
namespace K18
open PySem PySem.Spec L2
local macro_rules | `(tactic| walk_at "go1") => `(tactic| with_reducible first
  | refine rd_seq ?_ | refine rd_ifS ?_ | refine rd_asg ?_ | refine rd_name ?_ | refine rd_ret ?_ | refine rd_drop ?_ | refine rd_next ?_ | refine rd_retN ?_
  | refine rd_c ?_ | refine rd_op ?_ | refine rd_un ?_ | refine rd_U ?_ | refine rd_I0 ?_ | refine rd_eqI ?_ | refine rd_neI ?_ | refine rd_eqS ?_ | refine rd_neS ?_
  | refine rd_nil ?_ | refine rd_cons ?_ | refine rd_call ?_ | refine rd_cb ?_ | refine rd_bm ?_ | refine rd_tup ?_ | refine rd_lst ?_ | refine rd_sl ?_ | refine rd_part ?_ | refine rd_nopart ?_
  | refine rd_exI ?_ | refine rd_exB ?_ | refine rd_exR ?_ | refine rd_test ?_ | refine rd_B ?_ | refine rd_and ?_ | refine rd_or ?_ | refine rd_not ?_ | refine rd_andV ?_ | refine rd_orV ?_ | refine rd_notV ?_ | refine rd_ifE ?_ | refine rd_chain ?_
  | refine rd_dget2 ?_ | refine rd_dnotin ?_ | refine rd_gcons ?_ | refine rd_gnil ?_ | refine rd_gsub ?_ | refine rd_ipI ?_ | refine rd_par ?_ | refine rd_for ?_ | refine rd_iList ?_ | refine rd_iTup ?_ | refine rd_iRng1 ?_ | refine rd_iRng2 ?_
  | refine rd_iRev ?_ | refine rd_iEnum ?_ | refine rd_dput ?_ | refine rd_nx ?_ | refine rd_rt ?_ | refine rd_yes ?_ | refine rd_dc ?_ | refine rd_lc ?_ | refine rd_iItems ?_ | refine rd_iVals ?_ | refine rd_iRng3 ?_ | refine rd_m1 ?_)
local macro_rules | `(tactic| walk_at "go") => `(tactic| repeat (first | walk_at "go1" | ((with_reducible refine' rd_var ?h1 ?_); (case h1 => exact rfl)) | ((with_reducible refine' rd_aug ?h1 ?_); (case h1 => exact rfl))))

/-- a statement, then the rest, by what holds between -/
theorem seq_mid {T U : TS} {D : Ends} {σ : St} {H : Hp} (M : St → Hp → Prop) (h1 : ∀ R : St → Hp → Prop, (∀ σ' H', M σ' H' → R σ' H') → T { D with nx := R } σ H) (h2 : ∀ σ' H', M σ' H' → U D σ' H') : tSeq T U D σ H := h1 (U D) h2
theorem bs_le {n : Nat} (h : n ≤ 5) : bs n ≤ 360 := by
  match n, h with
  | 0, _ => decide
  | 1, _ => decide
  | 2, _ => decide
  | 3, _ => decide
  | 4, _ => decide
  | 5, _ => decide
/-- the stages at LS, their lists elsewhere -/
def StgsNe (H : Hp) (gs : List Stg) (LS : Addr) : Prop := ∃ vs, H LS = some (.lst vs) ∧ Paired (fun (g : Stg) (v : V) => ∃ a v1 v2 L, v = .ref a ∧ L ≠ LS ∧ H a = some (.tup [v1, v2, .ref L]) ∧ At H g.l v1 ∧ At H g.r v2 ∧ StpsAt H g.ss L) gs vs
theorem StgsNe.at {H : Hp} {gs : List Stg} {LS : Addr} : StgsNe H gs LS → StgsAt H gs LS := fun ⟨vs, h, r⟩ => ⟨vs, h, pr_mono r fun _ _ ⟨a, v1, v2, L, e, _, z⟩ => ⟨a, v1, v2, L, e, z⟩⟩
theorem StgsNe.kp {H H' : Hp} (k : Kp H H') {gs : List Stg} {LS : Addr} : StgsNe H gs LS → StgsNe H' gs LS := fun ⟨vs, h, r⟩ => ⟨vs, k _ _ (pl_of (fun _ _ ⟨a, _, _, _, e, _⟩ => ⟨a, e⟩) r) h, pr_mono r fun _ _ ⟨a, v1, v2, L, e, n, z1, z2, z3, z4⟩ => ⟨a, v1, v2, L, e, n, k.tup z1, z2.kp k, z3.kp k, z4.kp k⟩⟩
theorem StgsNe.snoc {H : Hp} {gs : List Stg} {LS L a : Addr} {vs : List V} {v1 v2 : V} {g : Stg} (h : StgsNe H gs LS) (e : H LS = some (.lst vs)) (ha : H a = some (.tup [v1, v2, .ref L])) (n : L ≠ LS) (h1 : At H g.l v1) (h2 : At H g.r v2) (h3 : StpsAt H g.ss L) :
    StgsNe (upd H LS (.lst (vs ++ [.ref a]))) (gs ++ [g]) LS := by
  obtain ⟨us, e2, r⟩ := h
  rw [e] at e2
  cases e2
  have kd := kd_lst (o := .lst (vs ++ [.ref a])) e
  have ks : ∀ {l : Addr} {ss : List Stp}, l ≠ LS → StpsAt H ss l → StpsAt (upd H LS (.lst (vs ++ [.ref a]))) ss l := fun {l ss} nl ⟨ws, hw, rw'⟩ => ⟨ws, by rw [upd_ne nl]; exact hw, pr_mono rw' fun _ _ z => z.kd kd⟩
  exact ⟨_, upd_same, pr_snoc (pr_mono r fun _ _ ⟨a, v1, v2, L, e, n, z1, z2, z3, z4⟩ => ⟨a, v1, v2, L, e, n, kd.tup z1, z2.tk kd.tk, z3.tk kd.tk, ks n z4⟩) ⟨a, v1, v2, L, rfl, n, kd.tup ha, h1.tk kd.tk, h2.tk kd.tk, ks n h3⟩⟩
section
variable {P : Program} {w : World} {K : PySem.W.Frag} {mg : Str → Option Value} {base : Heap}
abbrev s_l_stages : Stmt := top 48
theorem sc_l_stages : FnScope ["_law_state_here", "_law_operations_here", "_law_many", "_law_given", "_law_stages_here", "_law_k", "_law_term_here", "_law_steps", "_law_start", "_law_step_here", "_law_more", "_law_others", "_law_terms"] ["_law_state_here", "_law_operations_here", "_law_many"] (defScope s_l_stages) := ⟨rfl, rfl, rfl, by decide +kernel, rfl, by decide +kernel, by decide +kernel⟩
def sp_stages : Sp := fun vs H Q _ => ∃ (st scr O : Addr) (many : Nat), vs = [.ref st, .ref O, .int (many : Int)] ∧ StOk H st scr ∧ OpsAt H O ∧ 0 < many ∧ many ≤ 5 ∧
  ∀ (a LG LS : Addr) (G : List Eqn) (gs : List Stg) (H' : Hp), But st H H' → StOk H' st scr → H' a = some (.tup [.ref LG, .ref LS]) → EqnsAt H' G LG → StgsAt H' gs LS → LG ≠ st → LS ≠ st → SInv G gs → gs.length = many → Q (.ref a) H'
theorem ok_l_stages (B : Bi mg) (F : De K mg "_law_stages" s_l_stages ["_law_state_here", "_law_operations_here", "_law_many"]) (k_l_draw : Kn P w K mg base CX0 3 "_law_draw" ["_law_state_here", "_law_many"] sp_draw)
    (k_l_term : Kn P w K mg base CX0 7 "_law_term" ["_law_state_here", "_law_operations_here", "_law_count", "_law_height"] (sp_termLe 2)) (k_l_by_stage : Kn P w K mg base CX0 42 "_law_by_stage" ["_law_state_here", "_law_operations_here", "_law_stages_here", "_law_term_here"] sp_by_stage)
    (k_l_chain : Kn P w K mg base CX0 44 "_law_chain" ["_law_state_here", "_law_operations_here", "_law_count", "_law_term_here", "_law_first", "_law_many"] sp_chain) :
    Kn P w K mg base CX0 45 "_law_stages" ["_law_state_here", "_law_operations_here", "_law_many"] sp_stages := by
  refine F.ok sc_l_stages (fun vs H Q E h => ?_) (fun f cdv A outer s H vs Q E hr h => ?_)
  · obtain ⟨st, scr, O, many, rfl, _⟩ := h
    rfl
  obtain ⟨st, scr, O, many, rfl, hst, hops, hm0, hm5, q⟩ := h
  refine ⟨_, (pss_cons (ps_set (i := 3) sc_l_stages.nd rfl (.inl rfl) (pe_lst pa_nil))
      (pss_cons (ps_set (i := 4) sc_l_stages.nd rfl (.inl rfl) (pe_lst pa_nil))
      (pss_cons (ps_for PassesOwn.never rfl (pi_range1 rfl B.m_range (pa_cons (pv 2) pa_nil)) (pg_name (i := 5) sc_l_stages.nd rfl (.inl rfl)) (pss_cons (ps_set (i := 6) sc_l_stages.nd rfl (.inl rfl) (pe_kn k_l_term (hr.mono (by omega)) (pa_cons (pv 0) (pa_cons (pv 1) (pa_cons pe_int (pa_cons pe_int pa_nil))))))
      (pss_cons (ps_set (i := 7) sc_l_stages.nd rfl (.inl rfl) (pe_lst pa_nil))
      (pss_cons (ps_set (i := 8) sc_l_stages.nd rfl (.inl rfl) (pv 6))
      (pss_cons (ps_if (PW.pt (pw_and (pt_cmpR op_gt (pe_callB call_len_seq (by rfl) B.m_len PySem.boot_len (pa_cons (pv 4) pa_nil)) pe_int (nomark _)) (pw_and1 (pt_cmpR op_gt (pe_kn k_l_draw (hr.mono (by omega)) (pa_cons (pv 0) (pa_cons pe_int pa_nil))) pe_int (nomark _))))) (pss_cons (ps_asg (pe_kn k_l_by_stage (hr.mono (by omega)) (pa_cons (pv 0) (pa_cons (pv 1) (pa_cons (pv 4) (pa_cons (pv 6) pa_nil))))) (pg_tup rfl (pgs_cons (pg_name (i := 8) sc_l_stages.nd rfl (.inl rfl)) (pgs_cons (pg_name (i := 6) sc_l_stages.nd rfl (.inl rfl)) (pgs_cons (pg_name (i := 9) sc_l_stages.nd rfl (.inl rfl)) pgs_nil)))))
      (pss_one (ps_expr (pe_bm PySem.F.plainAttrs_list PySem.F.slot_list_append PySem.F.type_list_append mt_append (pv 7) (pa_cons (pv 9) pa_nil))))) pss_nil)
      (pss_cons (ps_asg (pe_kn k_l_chain (hr.mono (by omega)) (pa_cons (pv 0) (pa_cons (pv 1) (pa_cons pe_int (pa_cons (pv 6) (pa_cons (pe_callB call_len_seq (by rfl) B.m_len PySem.boot_len (pa_cons (pv 3) pa_nil)) (pa_cons (pe_kn k_l_draw (hr.mono (by omega)) (pa_cons (pv 0) (pa_cons pe_int pa_nil))) pa_nil))))))) (pg_tup rfl (pgs_cons (pg_name (i := 10) sc_l_stages.nd rfl (.inl rfl)) (pgs_cons (pg_name (i := 11) sc_l_stages.nd rfl (.inl rfl)) (pgs_cons (pg_name (i := 12) sc_l_stages.nd rfl (.inl rfl)) pgs_nil)))))
      (pss_cons (ps_set (i := 3) sc_l_stages.nd rfl (.inl rfl) (pe_op op_cat (pv 3) (pv 10)))
      (pss_cons (ps_set (i := 7) sc_l_stages.nd rfl (.inl rfl) (pe_op op_cat (pv 7) (pv 11)))
      (pss_one (ps_expr (pe_bm PySem.F.plainAttrs_list PySem.F.slot_list_append PySem.F.type_list_append mt_append (pv 4) (pa_cons (pe_tup (pa_cons (pv 8) (pa_cons (pe_ix ix_list (pv 12) (pe_op op_sub (pe_callB call_len_seq (by rfl) B.m_len PySem.boot_len (pa_cons (pv 12) pa_nil)) pe_int) (fun _ _ => rfl)) (pa_cons (pv 7) pa_nil)))) pa_nil))))))))))))
      (pss_one (ps_ret (pe_tup (pa_cons (pv 3) (pa_cons (pv 4) pa_nil)))))))), ?_⟩
  walk_at "go"
  refine ⟨Nat.zero_le _, fun LG0 hG0 => ?_⟩
  have s1 := same_new (o := .lst []) hG0
  walk_at "go"
  refine ⟨Nat.zero_le _, fun LS hS0 => ?_⟩
  have s2 := same_new (o := .lst []) hS0
  have sA := s1.trans s2
  have hS00 : H LS = none := s1.free hS0
  have nGS0 : LG0 ≠ LS := ne_of_none upd_same hS0
  have g1 := stok_ne hst hG0
  have g3 := stok_ne hst hS00
  have g4 := stok_ne2 hst hS00
  have nOS := hops.ne hS00
  walk_at "go"
  refine ⟨_, rfl, by omega, by omega, ?_⟩
  rw [Int.toNat_natCast]
  refine for_range (fun i σ H' => ∃ (LG : Addr) (y5 y6 y7 y8 y9 y10 y11 y12 : Option V) (G : List Eqn) (gs : List Stg), σ = [some (.ref st), some (.ref O), some (.int (many : Int)), some (.ref LG), some (.ref LS), y5, y6, y7, y8, y9, y10, y11, y12] ∧
      But st H H' ∧ StOk H' st scr ∧ OpsAt H' O ∧ EqnsAt H' G LG ∧ LG ≠ st ∧ LG ≠ LS ∧ StgsNe H' gs LS ∧ SInv G gs ∧ gs.length = i)
    ⟨LG0, none, none, none, none, none, none, none, none, [], [], rfl, but_of sA, stok_sm sA hst, hops.kp (kp_of sA), ⟨[], s2 _ _ upd_same, .nil⟩, g1, nGS0, ⟨[], upd_same, .nil⟩, SInv.start, rfl⟩ ?_ ?_
  · rintro i σ H1 hi ⟨LG, y5, y6, y7, y8, y9, y10, y11, y12, G, gs, rfl, bb, sto, ho, hG, nG, nGS, hgs, hI, hgl⟩
    have hGl := hI.gl
    have hbs := bs_le (n := gs.length) (by omega)
    refine rd_name ?_
    refine rd_seq ?_
    refine rd_asg ?_
    refine rd_call ?_
    walk_at "go"
    refine ⟨2, Nat.le_refl _, st, scr, O, rfl, sto, ho, fun t0 v0 H2 d0 a0 b2 st2 => ?_⟩
    have hT : Tg 13 3 t0 := ⟨d0.sz, d0.dp, d0.nm, d0.vr⟩
    have k2 := b2.kp sto
    refine rd_name ?_
    with_reducible refine rd_nx ?_
    refine rd_seq ?_
    refine rd_asg ?_
    refine rd_lst ?_
    refine rd_nil ?_
    refine ⟨Nat.zero_le _, fun Ls hLs => ?_⟩
    have s3 := same_new (o := .lst []) hLs
    have nLs := stok_ne st2 hLs
    have nLs2 := stok_ne2 st2 hLs
    refine rd_name ?_
    with_reducible refine rd_nx ?_
    refine rd_seq ?_
    refine rd_asg ?_
    refine rd_var (v := v0) rfl ?_
    refine rd_name ?_
    with_reducible refine rd_nx ?_
    refine seq_mid (fun σ' H4 => ∃ (pre : List Stp) (vpre : List V) (start t1 : Tm) (xs xt : V) (y9 : Option V) (b d : Nat), σ' = [some (.ref st), some (.ref O), some (.int (many : Int)), some (.ref LG), some (.ref LS), some (.int (0 + (i : Int))), some xt, some (.ref Ls), some xs, y9, y10, y11, y12] ∧
        But st H2 H4 ∧ StOk H4 st scr ∧ H4 Ls = some (.lst vpre) ∧ Paired (StpAt H4) pre vpre ∧ At H4 start xs ∧ At H4 t1 xt ∧ Tg b d t1 ∧ 4 ≤ b ∧ 2 ≤ d ∧ b ≤ 2900 ∧ d ≤ 31 ∧
        ((pre = [] ∧ start = t0 ∧ t1 = t0 ∧ b + 32 ≤ 45 ∧ d + 4 ≤ 7) ∨ (0 < gs.length ∧ (∃ s, pre = [s] ∧ By gs t0 s start t1) ∧ b + 32 ≤ bs gs.length * mu gs.length + 44 ∧ d + 4 ≤ 7 * gs.length + 7))) ?_ ?_
    · intro R hR
      have st3 := stok_sm s3 st2
      have plain : ∀ H4 : Hp, But st H2 H4 → StOk H4 st scr → H4 Ls = some (.lst []) → R [some (.ref st), some (.ref O), some (.int (many : Int)), some (.ref LG), some (.ref LS), some (.int (0 + (i : Int))), some v0, some (.ref Ls), some v0, y9, y10, y11, y12] H4 := fun H4 b4 st4 e4 =>
        hR _ _ ⟨[], [], t0, t0, v0, v0, y9, 13, 3, rfl, b4, st4, e4, .nil, a0.kp (b4.kp st2), a0.kp (b4.kp st2), hT, by decide, by decide, by decide, by decide, .inl ⟨rfl, rfl, rfl, by decide, by decide⟩⟩
      obtain ⟨us, eLS, hus⟩ := (hgs.kp k2).kp (kp_of s3)
      have hul := Paired.length hus
      walk_at "go"
      refine ⟨LS, _, rfl, .inl (SqL.of eLS), ?_⟩
      walk_at "go"
      by_cases h0 : 0 < us.length
      · rw [decide_eq_true (show ((us.length : Nat) : Int) > 0 by omega)]
        refine iteT ?_
        walk_at "go"
        refine ⟨st, scr, 3, rfl, st3, by decide, by decide, fun n4 H4 hn4 b4 st4 => ?_⟩
        have k34 := (kp_of s3).trans (b4.kp st3)
        have b24 := (but_of s3).trans b4
        have e4 := b4 _ _ nLs (upd_same (H := H2) (a := Ls) (o := .lst []))
        walk_at "go"
        refine ite2 (fun _ => ?_) (fun _ => ?_)
        · walk_at "go"
          refine ⟨st, scr, O, LS, gs, t0, v0, rfl, st4, (ho.kp k2).kp k34, ((hgs.kp k2).kp k34).at, g3, a0.kp k34, hT, by omega, by omega, fun g hg => ?_, fun a s start t1 v1 v2 v3 H5 b5 st5 ha h1 h2 h3 hby => ?_⟩
          · obtain ⟨i1, i2, _⟩ := hI.stg g hg
            exact ⟨i1.up (by omega) (by omega), i2.up (by omega) (by omega)⟩
          refine rd_gtup (SqT.of ha) rfl ?_
          have e5 := b5 _ _ nLs e4
          have kd := kd_lst (o := .lst [v3]) e5
          have hn1 : 1 ≤ gs.length := by omega
          have hmu := bs_mu (n := gs.length) (by omega)
          have hbs1 := bs_le (n := gs.length + 1) (by omega)
          walk_at "go"
          refine ⟨.inl ⟨rfl, _, SqL.of e5⟩, ?_⟩
          walk_at "go"
          refine ⟨Ls, _, _, rfl, rfl, e5, by show 0 < sizeLine; decide, ?_⟩
          walk_at "go"
          refine hR _ _ ⟨[s], [v3], start, t1, v1, v2, _, bs gs.length * mu gs.length + 12, 7 * gs.length + 3, rfl, but_mut (b24.trans b5) hLs, stok_upd st5 nLs nLs2, upd_same, .cons (h3.kd kd) .nil, h1.tk kd.tk, h2.tk kd.tk, (hby.tg hI hT).2, by omega, by omega, by omega, by omega, .inr ⟨by omega, ⟨s, rfl, hby⟩, by omega, by omega⟩⟩
        · exact plain H4 b24 st4 e4
      · rw [decide_eq_false (show ¬ ((us.length : Nat) : Int) > 0 by omega)]
        refine iteF ?_
        refine iteF ?_
        exact plain _ (but_of s3) st3 upd_same
    · rintro σ' H4 ⟨pre, vpre, start, t1, xs, xt, y9, b, d, rfl, b4, st4, eL4, hpre, h1, h2, hT1, hb4, hd2, hb29, hd31, hdis⟩
      have k4 := k2.trans (b4.kp st2)
      have bb4 := (bb.trans b2).trans b4
      obtain ⟨vG, eG, hvG⟩ := hG.kp k4
      have hlG := Paired.length hvG
      have hpl := Paired.length hpre
      walk_at "go"
      refine ⟨LG, _, rfl, .inl (SqL.of eG), ?_⟩
      walk_at "go"
      refine ⟨st, scr, 3, rfl, st4, by decide, by decide, fun m H5 hm b5 st5 => ?_⟩
      have k5 := b5.kp st4
      refine ⟨st, scr, O, t1, xt, vG.length, m, b, d, rfl, st5, ((ho.kp k4)).kp k5, h2.kp k5, hT1, hb4, hd2, hb29, hd31, by omega, by omega, fun a LG2 LS2 LT es ss t2 ws vt H6 b6 st6 ha hes hss eLT hw0 hwl hvt n1 n2 n3 hch hel => ?_⟩
      have k6 := k5.trans (b6.kp st5)
      have bb6 := (bb4.trans b5).trans b6
      obtain ⟨vE, eE, hvE⟩ := hes
      obtain ⟨vS, eS, hvS⟩ := hss
      have hlE := Paired.length hvE
      have hlS := Paired.length hvS
      have hcl := hch.len
      refine rd_gtup (SqT.of ha) rfl ?_
      walk_at "go"
      have eG6 := b6 _ _ nG (b5 _ _ nG eG)
      refine ⟨LG, LG2, vG, vE, rfl, rfl, eG6, eE, by rw [sizeLine_eq]; omega, fun LG3 hG3 => ?_⟩
      have s7 := same_new (o := .lst (vG ++ vE)) hG3
      walk_at "go"
      have eL6 := b6 _ _ nLs (b5 _ _ nLs eL4)
      have hpre6 : Paired (StpAt H6) pre vpre := pr_mono hpre fun _ _ z => z.kp k6
      refine ⟨Ls, LS2, vpre, vS, rfl, rfl, s7 _ _ eL6, s7 _ _ eS, by
        rw [sizeLine_eq]
        have : pre.length ≤ 1 := by
          rcases hdis with ⟨e, _⟩ | ⟨_, ⟨s, e, _⟩, _⟩
          · rw [e]; exact Nat.zero_le _
          · rw [e]; exact Nat.le_refl _
        omega, fun L3 hL3 => ?_⟩
      have s8 := same_new (o := .lst (vpre ++ vS)) hL3
      have s78 := s7.trans s8
      walk_at "go"
      have kA : Kp H1 H6 := k4.trans k6
      have k8 : Kp H1 (upd (upd H6 LG3 (.lst (vG ++ vE))) L3 (.lst (vpre ++ vS))) := kA.trans (kp_of s78)
      have hgs8 := hgs.kp k8
      obtain ⟨us, eLS, hus⟩ := id hgs8
      have hul := Paired.length hus
      refine ⟨.inl ⟨rfl, _, SqL.of eLS⟩, ?_⟩
      walk_at "go"
      refine ⟨LT, _, rfl, .inl (SqL.of (s78 _ _ eLT)), ?_⟩
      walk_at "go"
      rw [show ((ws.length : Nat) : Int) - 1 = ((ws.length - 1 : Nat) : Int) by omega]
      refine rd_ixL (SqL.of (s78 _ _ eLT)) (atI_nat hwl) ?_
      walk_at "go"
      refine ⟨by show 3 ≤ sizeLine; decide, fun p9 hp9 => ?_⟩
      have s9 := same_new (o := .tup [xs, vt, .ref L3]) hp9
      have s789 := s78.trans s9
      refine ⟨LS, us, _, rfl, rfl, s9 _ _ eLS, by rw [sizeLine_eq]; omega, ?_⟩
      walk_at "go"
      have nLS6 : ∀ {l : Addr} {h : Hp}, h LS = some (.lst us) → h l = none → l ≠ LS := fun {l h} e1 e2 z => by
        rw [z, e1] at e2
        cases e2
      have eLS6 : H6 LS = some (.lst us) := by
        obtain ⟨us', e', _⟩ := hgs.kp kA
        have := s78 _ _ e'
        rw [eLS] at this
        rw [e', this]
      have nG3S : LG3 ≠ LS := nLS6 eLS6 hG3
      have nL3S : L3 ≠ LS := nLS6 (s7 _ _ eLS6) hL3
      have st9 := stok_sm s789 st6
      have ho9 : OpsAt (upd (upd (upd H6 LG3 (.lst (vG ++ vE))) L3 (.lst (vpre ++ vS))) p9 (.tup [xs, vt, .ref L3])) O := (ho.kp k8).kp (kp_of s9)
      have eLS9 := s9 _ _ eLS
      have kdS := kd_lst (o := .lst (us ++ [.ref p9])) eLS9
      have hgl2 : G.length = vG.length := hlG
      rw [← hgl2] at hch
      have hI2 : SInv (G ++ es) (gs ++ [⟨start, t2, pre ++ ss⟩]) := SInv.snoc (pre := pre) hI hT (by
        rcases hdis with ⟨e1, e2, e3, e4, e5⟩ | ⟨e1, e2, e4, e5⟩
        · exact .inl ⟨e1, e2, e3, by omega, by omega⟩
        · exact .inr ⟨e1, e2, by omega, by omega⟩) hch (by omega)
      refine ⟨LG3, _, _, _, _, _, _, _, _, G ++ es, gs ++ [⟨start, t2, pre ++ ss⟩], rfl, but_mut (bb6.trans (but_of s789)) hS00, stok_upd st9 g3 g4, ops_lst eLS9 nOS ho9, ⟨vG ++ vE, by rw [upd_ne nG3S]; exact s9 _ _ (s8 _ _ upd_same), ?_⟩, stok_ne st6 hG3, nG3S, ?_, hI2, by rw [List.length_append, hgl]; rfl⟩
      · exact pr_mono (pr_app (pr_mono hvG fun _ _ z => (z.kp k6)) hvE) fun _ _ z => (z.kp (kp_of s789)).kd kdS
      · refine StgsNe.snoc (g := ⟨start, t2, pre ++ ss⟩) (hgs8.kp (kp_of s9)) eLS9 upd_same nL3S ((h1.kp k6).sm s789) (hvt.sm s789) ⟨vpre ++ vS, s9 _ _ upd_same, ?_⟩
        exact pr_mono (pr_app hpre6 hvS) fun _ _ z => z.sm s789
  · rintro σ H1 ⟨LG, y5, y6, y7, y8, y9, y10, y11, y12, G, gs, rfl, bb, sto, ho, hG, nG, nGS, hgs, hI, hgl⟩
    walk_at "go"
    refine ⟨by show 2 ≤ sizeLine; decide, fun a ha => ?_⟩
    have s6 := same_new (o := .tup [.ref LG, .ref LS]) ha
    exact q a LG LS G gs _ (bb.trans (but_of s6)) (stok_sm s6 sto) upd_same (hG.sm s6) (hgs.at.sm s6) nG g3 hI hgl
end
end K18
set_option Elab.async false
set_option linter.all false
set_option maxRecDepth 100000
set_option maxHeartbeats 4000000
/-! The law's own is_integer, length, used, refused. -/
namespace K18
open PySem PySem.Spec L2
local macro_rules | `(tactic| walk_at "go1") => `(tactic| with_reducible first
  | refine rd_seq ?_ | refine rd_ifS ?_ | refine rd_asg ?_ | refine rd_name ?_ | refine rd_ret ?_ | refine rd_drop ?_ | refine rd_next ?_ | refine rd_retN ?_
  | refine rd_c ?_ | refine rd_op ?_ | refine rd_un ?_ | refine rd_U ?_ | refine rd_I0 ?_ | refine rd_eqI ?_ | refine rd_neI ?_ | refine rd_eqS ?_ | refine rd_neS ?_
  | refine rd_nil ?_ | refine rd_cons ?_ | refine rd_call ?_ | refine rd_cb ?_ | refine rd_bm ?_ | refine rd_tup ?_ | refine rd_lst ?_ | refine rd_sl ?_ | refine rd_part ?_ | refine rd_nopart ?_
  | refine rd_exI ?_ | refine rd_exB ?_ | refine rd_exR ?_ | refine rd_test ?_ | refine rd_B ?_ | refine rd_and ?_ | refine rd_or ?_ | refine rd_not ?_ | refine rd_andV ?_ | refine rd_orV ?_ | refine rd_notV ?_ | refine rd_ifE ?_ | refine rd_chain ?_
  | refine rd_dget2 ?_ | refine rd_dnotin ?_ | refine rd_gcons ?_ | refine rd_gnil ?_ | refine rd_gsub ?_ | refine rd_ipI ?_ | refine rd_par ?_ | refine rd_for ?_ | refine rd_iList ?_ | refine rd_iTup ?_ | refine rd_iRng1 ?_ | refine rd_iRng2 ?_
  | refine rd_iRev ?_ | refine rd_iEnum ?_ | refine rd_dput ?_ | refine rd_nx ?_ | refine rd_rt ?_ | refine rd_yes ?_ | refine rd_dc ?_ | refine rd_lc ?_ | refine rd_iItems ?_ | refine rd_iVals ?_ | refine rd_iRng3 ?_ | refine rd_m1 ?_)
local macro_rules | `(tactic| walk_at "go") => `(tactic| repeat (first | walk_at "go1" | ((with_reducible refine' rd_var ?h1 ?_); (case h1 => exact rfl)) | ((with_reducible refine' rd_aug ?h1 ?_); (case h1 => exact rfl))))

section
variable {P : Program} {w : World} {K : PySem.W.Frag} {mg : Str → Option Value} {base : Heap}
abbrev s_l_is_integer : Stmt := top 49
theorem sc_l_is_integer : FnScope ["_law_actual"] ["_law_actual"] (defScope s_l_is_integer) := ⟨rfl, rfl, rfl, by decide +kernel, rfl, by decide +kernel, by decide +kernel⟩
def sp_is_integer : Sp := fun vs H Q _ => ∃ i : Int, vs = [.int i] ∧ Q (.bl true) H
theorem ok_l_is_integer (B : Bi mg) (F : De K mg "_law_is_integer" s_l_is_integer ["_law_actual"]) : Kn P w K mg base CX0 1 "_law_is_integer" ["_law_actual"] sp_is_integer := by
  refine F.ok sc_l_is_integer (fun vs H Q E h => ?_) (fun f cdv A outer s H vs Q E hr h => ?_)
  · obtain ⟨i, rfl, _⟩ := h
    rfl
  obtain ⟨i, rfl, q⟩ := h
  refine ⟨_, (pss_one (ps_ret (pe_and (pe_callB call_isi (by rfl) B.m_isinstance (by decide +kernel) (pa_cons (pv 0) (pa_cons (pe_ty (n := "int") B.m_int (by decide +kernel)) pa_nil))) (pe_one (pe_not (pe_callB call_isi (by rfl) B.m_isinstance (by decide +kernel) (pa_cons (pv 0) (pa_cons (pe_ty (n := "bool") B.m_bool (by decide +kernel)) pa_nil)))))))), ?_⟩
  walk_at "go"
  refine rd_isI ?_
  walk_at "go"
  refine iteT ?_
  walk_at "go"
  refine rd_isIB ?_
  walk_at "go"
  exact q
abbrev s_l_length : Stmt := top 50
theorem sc_l_length : FnScope ["_law_stages_here", "_law_lengths", "_law_left", "_law_right", "_law_steps", "_law_total", "_law_step_here"] ["_law_stages_here"] (defScope s_l_length) := ⟨rfl, rfl, rfl, by decide +kernel, rfl, by decide +kernel, by decide +kernel⟩
theorem ok_l_length (B : Bi mg) (F : De K mg "_law_length" s_l_length ["_law_stages_here"]) : Kn P w K mg base CX0 1 "_law_length" ["_law_stages_here"] sp_flat_length := by
  refine F.ok sc_l_length (fun vs H Q E h => ?_) (fun f cdv A outer s H vs Q E hr h => ?_)
  · obtain ⟨gs, L, rfl, _⟩ := h
    rfl
  obtain ⟨gs, L, rfl, ⟨ws, hL, hw⟩, hne, hwf, hlen, q⟩ := h
  refine ⟨_, (pss_cons (ps_set (i := 1) sc_l_length.nd rfl (.inl rfl) (pe_lst pa_nil))
      (pss_cons (ps_for PassesOwn.never rfl (pi_list (pv 0)) (pg_tup rfl (pgs_cons (pg_name (i := 2) sc_l_length.nd rfl (.inl rfl)) (pgs_cons (pg_name (i := 3) sc_l_length.nd rfl (.inl rfl)) (pgs_cons (pg_name (i := 4) sc_l_length.nd rfl (.inl rfl)) pgs_nil)))) (pss_cons (ps_set (i := 5) sc_l_length.nd rfl (.inl rfl) pe_int)
      (pss_cons (ps_for PassesOwn.never rfl (pi_list (pv 4)) (pg_name (i := 6) sc_l_length.nd rfl (.inl rfl)) (pss_one (ps_if (pt_cmpR op_eq (pe_ix ix_tup (pe_ix ix_tup (pv 6) pe_int (fun _ _ => rfl)) pe_int (fun _ _ => rfl)) pe_str (nomark _)) (pss_one (ps_set (i := 5) sc_l_length.nd rfl (.inl rfl) (pe_op op_add (pv 5) pe_int))) (pss_one (ps_set (i := 5) sc_l_length.nd rfl (.inl rfl) (pe_op op_add (pv 5) (pe_ix ix_list (pv 1) (pe_ix ix_tup (pe_ix ix_tup (pv 6) pe_int (fun _ _ => rfl)) pe_int (fun _ _ => rfl)) (fun _ _ => rfl))))))))
      (pss_one (ps_expr (pe_bm PySem.F.plainAttrs_list PySem.F.slot_list_append PySem.F.type_list_append mt_append (pv 1) (pa_cons (pv 5) pa_nil)))))))
      (pss_one (ps_ret (pe_ix ix_list (pv 1) (pe_op op_sub (pe_callB call_len_seq (by rfl) B.m_len PySem.boot_len (pa_cons (pv 1) pa_nil)) pe_int) (fun _ _ => rfl)))))), ?_⟩
  walk_at "go"
  refine ⟨Nat.zero_le _, fun r hr0 => ?_⟩
  walk_at "go"
  have sm0 := same_new (o := .lst []) hr0
  refine ⟨⟨_, SqL.of (sm0 _ _ hL)⟩, for_list (xs := ws) (fun i σ H' => ∃ y2 y3 y4 y5 y6, σ = [some (.ref L), some (.ref r), y2, y3, y4, y5, y6] ∧ Same H H' ∧ H' r = some (.lst (nints (lens (gs.take i))))) ⟨none, none, none, none, none, rfl, sm0, upd_same⟩ (fun i σ H' _ ⟨_, _, _, _, _, _, sm, _⟩ => SqL.of (sm _ _ hL)) ?_ ?_⟩
  · rintro i x σ H' hx ⟨y2, y3, y4, y5, y6, rfl, sm, er⟩
    obtain ⟨g, hg, a, v1, v2, M, rfl, ha, h1, h2, us, hM, hus⟩ := pr_ofget (pr_mono hw fun _ _ z => z.kp (kp_of sm)) hx
    have hi := lt_of_get hg
    refine rd_gtup (SqT.of ha) rfl ?_
    walk_at "go"
    refine ⟨⟨_, SqL.of hM⟩, for_list (xs := us) (fun j σ H2 => H2 = H' ∧ ∃ y6, σ = [some (.ref L), some (.ref r), some v1, some v2, some (.ref M), some (.int (flen (lens (gs.take i)) (g.ss.take j) : Nat)), y6]) ⟨rfl, y6, rfl⟩ (fun j σ H2 _ ⟨e, _⟩ => by rw [e]; exact SqL.of hM) ?_ ?_⟩
    · rintro j x σ H2 hx2 ⟨rfl, z6, rfl⟩
      obtain ⟨st, hst, b, sa, pa, da, rfl, hb, hsa, hpa, hda⟩ := pr_ofget hus hx2
      walk_at "go"
      refine rd_ixT (SqT.of hb) (atI_nat (j := 0) rfl) ?_
      walk_at "go"
      refine rd_ixT (SqT.of hsa) (atI_nat (j := 0) rfl) ?_
      walk_at "go"
      rw [srcS_given]
      have key : (flen (lens (gs.take i)) (g.ss.take (j + 1)) : Int) = flen (lens (gs.take i)) (g.ss.take j) + slen (lens (gs.take i)) st := by
        rw [flen_more hst]
        omega
      cases e : st.giv with
      | true =>
        refine iteT ?_
        walk_at "go"
        refine ⟨rfl, some (.ref b), ?_⟩
        rw [key, show slen (lens (gs.take i)) st = 1 by unfold slen; rw [e]; rfl]
        rfl
      | false =>
        refine iteF ?_
        have hix : st.ix < i := hwf i g hg st (List.mem_of_getElem? hst) e
        have hlt : st.ix < (gs.take i).length := by
          rw [List.length_take]
          omega
        walk_at "go"
        refine rd_ixT (SqT.of hb) (atI_nat (j := 0) rfl) ?_
        walk_at "go"
        refine rd_ixT (SqT.of hsa) (atI_nat (j := 1) rfl) ?_
        refine rd_ixL (SqL.of er) (atI_nat (nints_get (lens_at hlt))) ?_
        walk_at "go"
        refine ⟨rfl, some (.ref b), ?_⟩
        rw [key, show slen (lens (gs.take i)) st = (lens (gs.take i)).getD st.ix 0 by unfold slen; rw [e]; rfl]
        rfl
    · rintro σ H2 ⟨rfl, z6, rfl⟩
      walk_at "go"
      refine ⟨.inl ⟨rfl, _, SqL.of er⟩, ?_⟩
      walk_at "go"
      have hl : (nints (lens (gs.take i))).length < sizeLine := by
        rw [nints_len, lens_length, List.length_take, sizeLine_eq]
        omega
      refine ⟨r, _, _, rfl, rfl, er, hl, ?_⟩
      walk_at "go"
      refine ⟨_, _, _, _, _, rfl, same_mut sm hr0, ?_⟩
      rw [upd_same, take_all (Paired.length hus).symm]
      have e2 : lens (gs.take (i + 1)) = lens (gs.take i) ++ [flen (lens (gs.take i)) g.ss] := build_more hg
      rw [e2, nints_snoc]
  · rintro σ H' ⟨y2, y3, y4, y5, y6, rfl, sm, er⟩
    walk_at "go"
    rw [take_all (Paired.length hw).symm] at er
    have hn : 0 < gs.length := by
      cases gs with
      | nil => exact absurd rfl hne
      | cons g r => exact Nat.succ_pos _
    refine ⟨r, _, rfl, .inl (SqL.of er), ?_⟩
    walk_at "go"
    rw [nints_len, lens_length, show ((gs.length : Nat) : Int) - 1 = ((gs.length - 1 : Nat) : Int) by omega]
    refine rd_ixL (SqL.of er) (atI_nat (v := .int (lastLen gs : Nat)) (nints_get (lens_at (by omega)))) ?_
    exact q H' sm
abbrev s_l_used : Stmt := top 51
theorem sc_l_used : FnScope ["_law_given", "_law_stages_here", "_law_named", "_law_left", "_law_right", "_law_steps", "_law_step_here", "_law_k"] ["_law_given", "_law_stages_here"] (defScope s_l_used) := ⟨rfl, rfl, rfl, by decide +kernel, rfl, by decide +kernel, by decide +kernel⟩
def sp_l_used : Sp := fun vs H Q _ => ∃ (es : List Eqn) (gs : List Stg) (LG L : Addr), vs = [.ref LG, .ref L] ∧ EqnsAt H es LG ∧ StgsAt H gs L ∧ named gs = List.range es.length ∧ es.length < 1000 ∧ ∀ H' M, Same H H' → H' M = some (.lst (nints (List.range es.length))) → Q (.ref M) H'
theorem nints_ints (l : List Nat) : nints l = (l.map fun (n : Nat) => (n : Int)).map V.int := by
  unfold nints
  rw [List.map_map]
  rfl
/-- i in ns -/
theorem rd_in {H : Hp} {Q : VK} {r : Addr} {i : Int} {ns : List Int} (h : H r = some (.lst (ns.map V.int))) (q : Q (.bl (decide (i ∈ ns))) H) : rIn K false (.int i) (.ref r) H Q := by
  refine ⟨r, _, rfl, .inl (SqL.of h), rfl, flat_ints ns, ?_⟩
  rw [if_neg Bool.false_ne_true, inV_ints]
  exact q
theorem ok_l_used (B : Bi mg) (F : De K mg "_law_used" s_l_used ["_law_given", "_law_stages_here"]) : Kn P w K mg base CX0 1 "_law_used" ["_law_given", "_law_stages_here"] sp_l_used := by
  refine F.ok sc_l_used (fun vs H Q E h => ?_) (fun f cdv A outer s H vs Q E hr h => ?_)
  · obtain ⟨es, gs, LG, L, rfl, _⟩ := h
    rfl
  obtain ⟨es, gs, LG, L, rfl, hes, ⟨ws, hL, hw⟩, hn, hm, q⟩ := h
  refine ⟨_, (pss_cons (ps_set (i := 2) sc_l_used.nd rfl (.inr rfl) (pe_lst pa_nil))
      (pss_cons (ps_for PassesOwn.never rfl (pi_list (pv 1)) (pg_tup rfl (pgs_cons (pg_name (i := 3) sc_l_used.nd rfl (.inl rfl)) (pgs_cons (pg_name (i := 4) sc_l_used.nd rfl (.inl rfl)) (pgs_cons (pg_name (i := 5) sc_l_used.nd rfl (.inl rfl)) pgs_nil)))) (pss_one (ps_for PassesOwn.never rfl (pi_list (pv 5)) (pg_name (i := 6) sc_l_used.nd rfl (.inl rfl)) (pss_one (ps_if (pt_cmpR op_eq (pe_ix ix_tup (pe_ix ix_tup (pv 6) pe_int (fun _ _ => rfl)) pe_int (fun _ _ => rfl)) pe_str (nomark _)) (pss_one (ps_expr (pe_bm PySem.F.plainAttrs_list PySem.F.slot_list_append PySem.F.type_list_append mt_append (pv 2) (pa_cons (pe_ix ix_tup (pe_ix ix_tup (pv 6) pe_int (fun _ _ => rfl)) pe_int (fun _ _ => rfl)) pa_nil)))) pss_nil)))))
      (pss_one (ps_ret (pe_lc (own := [("_law_k", 7)]) (g := gName 7) rfl sc_l_used.nd  (pi_range1 rfl B.m_range (pa_cons (pe_callB call_len_seq (by rfl) B.m_len PySem.boot_len (pa_cons (pv 0) pa_nil)) pa_nil)) (blkOk_by (N := ["_law_given", "_law_stages_here", "_law_named", "_law_left", "_law_right", "_law_steps", "_law_step_here", "_law_k"]) (sc := defScope s_l_used) (by decide +kernel)) (fun _ _ _ _ _ => pg_name (i := 7) sc_l_used.nd rfl (Or.inl rfl) (Or.inr rfl)) (fun _ _ _ _ _ => pts_one (pt_cmpR (opinK (K := K) rfl) (pv 7) (pv 2) rfl)) (fun _ _ _ _ _ => (pv 7))))))), ?_⟩
  walk_at "go"
  refine ⟨Nat.zero_le _, fun d hd0 => ?_⟩
  walk_at "go"
  have sm0 := same_new (o := .lst []) hd0
  refine ⟨⟨_, SqL.of (sm0 _ _ hL)⟩, for_list (xs := ws) (fun i σ H' => ∃ y3 y4 y5 y6 y7, σ = [some (.ref LG), some (.ref L), some (.ref d), y3, y4, y5, y6, y7] ∧ Same H H' ∧ H' d = some (.lst (nints (named (gs.take i))))) ⟨none, none, none, none, none, rfl, sm0, upd_same⟩ (fun i σ H' _ ⟨_, _, _, _, _, _, sm, _⟩ => SqL.of (sm _ _ hL)) ?_ ?_⟩
  · rintro i x σ H' hx ⟨y3, y4, y5, y6, y7, rfl, sm, ed⟩
    obtain ⟨g, hg, a, v1, v2, M, rfl, ha, h1, h2, us, hM, hus⟩ := pr_ofget hw hx
    refine rd_gtup (SqT.of (sm _ _ ha)) rfl ?_
    walk_at "go"
    refine ⟨⟨_, SqL.of (sm _ _ hM)⟩, for_list (xs := us) (fun j σ H2 => ∃ y6, σ = [some (.ref LG), some (.ref L), some (.ref d), some v1, some v2, some (.ref M), y6, y7] ∧ Same H H2 ∧ H2 d = some (.lst (nints (named (gs.take i) ++ nm (g.ss.take j))))) ⟨y6, rfl, sm, by rw [ed, show nm (g.ss.take 0) = [] from rfl, List.append_nil]⟩ (fun j σ H2 _ ⟨_, _, sm2, _⟩ => SqL.of (sm2 _ _ hM)) ?_ ?_⟩
    · rintro j x σ H2 hx2 ⟨z4, rfl, sm2, ed2⟩
      obtain ⟨st, hst, b, sa, pa, da, rfl, hb, hsa, hpa, hda⟩ := pr_ofget (pr_mono hus fun _ _ z => z.sm sm2) hx2
      walk_at "go"
      refine rd_ixT (SqT.of hb) (atI_nat (j := 0) rfl) ?_
      walk_at "go"
      refine rd_ixT (SqT.of hsa) (atI_nat (j := 0) rfl) ?_
      walk_at "go"
      rw [srcS_given]
      cases e : st.giv with
      | true =>
        refine iteT ?_
        walk_at "go"
        refine ⟨.inl ⟨rfl, _, SqL.of ed2⟩, ?_⟩
        walk_at "go"
        refine rd_ixT (SqT.of hb) (atI_nat (j := 0) rfl) ?_
        walk_at "go"
        refine rd_ixT (SqT.of hsa) (atI_nat (j := 1) rfl) ?_
        walk_at "go"
        refine ⟨d, _, _, rfl, rfl, ed2, ?_, ?_⟩
        · rw [nints_len, sizeLine_eq]
          have := named_le (j := j) hn hg
          omega
        walk_at "go"
        refine ⟨_, rfl, same_mut sm2 hd0, ?_⟩
        rw [upd_same, nm_more hst, if_pos e, ← List.append_assoc, nints_snoc]
      | false =>
        refine iteF ?_
        walk_at "go"
        refine ⟨_, rfl, sm2, ?_⟩
        rw [nm_more hst, if_neg (by rw [e]; exact Bool.false_ne_true), List.append_nil]
        exact ed2
    · rintro σ H2 ⟨z4, rfl, sm2, ed2⟩
      refine ⟨_, _, _, _, _, rfl, sm2, ?_⟩
      rw [named_more hg, ed2, take_all (Paired.length hus).symm]
  · rintro σ H' ⟨y3, y4, y5, y6, y7, rfl, sm, ed⟩
    rw [take_all (Paired.length hw).symm, hn] at ed
    obtain ⟨vE, eE, hvE⟩ := hes.sm sm
    have hlE := Paired.length hvE
    walk_at "go"
    refine ⟨LG, _, rfl, .inl (SqL.of eE), ?_⟩
    walk_at "go"
    refine ⟨_, rfl, by omega, by omega, fun D hD => ?_⟩
    rw [Int.toNat_natCast, ← hlE]
    refine lc_range (fun i H2 => Same H' H2 ∧ H2 D = some (.lst (nints (List.range i)))) ⟨same_new hD, upd_same⟩ ?_ ?_
    · rintro i H2 hi ⟨sm2, eD⟩
      walk_at "go"
      refine ⟨rfl, ?_⟩
      walk_at "go"
      have ed2 := sm2 _ _ ed
      rw [nints_ints] at ed2
      refine rd_in ed2 ?_
      walk_at "go"
      rw [decide_eq_true (show (0 : Int) + (i : Int) ∈ (List.range es.length).map fun (n : Nat) => (n : Int) from List.mem_map.mpr ⟨i, List.mem_range.mpr hi, by omega⟩)]
      refine iteT ?_
      walk_at "go"
      refine ⟨_, eD, by rw [nints_len, List.length_range, sizeLine_eq]; omega, same_mut sm2 hD, ?_⟩
      rw [upd_same, List.range_succ, nints_snoc, Int.zero_add]
    · rintro H2 ⟨sm2, eD⟩
      exact q H2 D (sm.trans sm2) eD
/-- a call of a def that may raise, where it does not -/
theorem pe_knL {X : Cx} {k : Nat} {x : Str} {ps : List Str} {sp : Sp} {e : Expr} {es : List Expr} {t : TA} {p pos : Pos} (kn : Kn X.prog X.w X.K X.mg X.base (L2.CX X.prog X.w) k x ps sp) (hr : Room k X.A) (ha : PA X (e :: es) t) (hg : Gl X x := by rfl) (hdb : (x == ("__debug__" : Str)) = false := by decide)
    (he : starEach (e :: es) X.env = (false, eval e X.env) :: starEach es X.env := by rfl) (hpl : (backTo pos (starEach es X.env)).any (·.1) = false := by rfl) :
    PE X (.Call (.Name x p) (e :: es) [] pos) (tCall sp [] E0 t) := by
  obtain ⟨f, fd, F, hm, hk, hb⟩ := kn.ex
  refine pe_call F hr hg hm hk hb .nil ?_ ha hdb he hpl
  intro pins σ H s e s' I h
  obtain ⟨_, _, _, _, _, _, _, _, _, _, _, _, z⟩ := h
  exact z.elim
/-- .. where the exception is for the clause around it -/
theorem pe_knS {X : Cx} {k : Nat} {x : Str} {ps : List Str} {sp : Sp} {e : Expr} {es : List Expr} {t : TA} {p pos : Pos} {W : WX} (tk : Takes X W) (kn : Kn X.prog X.w X.K X.mg X.base (L2.CX X.prog X.w) k x ps sp) (hr : Room k X.A) (ha : PA X (e :: es) t) (hg : Gl X x := by rfl) (hdb : (x == ("__debug__" : Str)) = false := by decide)
    (he : starEach (e :: es) X.env = (false, eval e X.env) :: starEach es X.env := by rfl) (hpl : (backTo pos (starEach es X.env)).any (·.1) = false := by rfl) :
    PE X (.Call (.Name x p) (e :: es) [] pos) (tCallS sp (WE W) t) := by
  obtain ⟨f, fd, F, hm, hk, hb⟩ := kn.ex
  exact pe_callS F hr hg hm hk hb (fun σ => passAt tk σ) ha hdb he hpl
/-- what a reading asks of the exception -/
theorem pss_if {X : Cx} {st : List Stmt} {t : TS} {p : Prop} (h : p → PSs X st t) : PSs X st (fun D σ H => p ∧ t D σ H) := ⟨fun pins s σ H D I q => (h q.1).run pins s σ H D I q.2⟩
abbrev s_l_refused : Stmt := top 52
theorem sc_l_refused : FnScope ["_law_stages_here", "_law_limit", "e"] ["_law_stages_here", "_law_limit"] (defScope s_l_refused) := ⟨rfl, rfl, rfl, by decide +kernel, rfl, by decide +kernel, by decide +kernel⟩
def sp_refused : Sp := fun vs H Q _ => ∃ (gs : List Stg) (L : Addr) (lim : Int), vs = [.ref L, .int lim] ∧ StgsAt H gs L ∧ gs ≠ [] ∧ Wf gs ∧ gs.length ≤ 100 ∧ (∀ g, g ∈ gs → g.ss.length ≤ 100 ∧ ∀ s : Stp, s ∈ g.ss → s.pos.length ≤ 500) ∧ (∀ f, f ∈ fl gs → f.length ≤ 100 ∧ ∀ s : Stp, s ∈ f → Okp s) ∧
  lim < (lastLen gs : Nat) ∧ ∀ H', Same H H' → Q (.bl true) H'
theorem ok_l_refused (B : Bi mg) {C : Addr} (S : Sl K mg C) (F : De K mg "_law_refused" s_l_refused ["_law_stages_here", "_law_limit"]) (k_flatten : Kn P w K mg base (L2.CX P w) 45 "flatten" ["stages", "limit"] (sp_flatten C)) :
    Kn P w K mg base CX0 46 "_law_refused" ["_law_stages_here", "_law_limit"] sp_refused := by
  refine F.ok sc_l_refused (fun vs H Q E h => ?_) (fun f cdv A outer s H vs Q E hr h => ?_)
  · obtain ⟨gs, L, lim, rfl, _⟩ := h
    rfl
  obtain ⟨gs, L, lim, rfl, hgs, h1, h2, h3, h4, h5, hlt, q⟩ := h
  refine ⟨_, (pss_cons (ps_try_as (i := 2) (tb := fun W => tDrop (tCallS (sp_flatten C) (WE W) (tCons (tVar 0) (tCons (tVar 1) tNil)))) (ts := fun a cls d D σ H => (cls = .ref C ∧ d = none) ∧ tRet (tCB (rIsE K C a) (tCons (tVar 2) (tCons (tC (.ty "ValueError")) tNil))) D σ H) (Wout := fun _ _ _ _ => False) rfl rfl sc_l_refused.nd rfl rfl ⟨rfl, by decide, .inl S.gC⟩ takes0
      (fun W pn xe tk _ => pss_one (ps_expr (pe_knS tk k_flatten (hr.mono (by omega)) (pa_cons (pv 0) (pa_cons (pv 1) pa_nil)))))
      (fun a oe cls d pn hz hf => pss_if fun z => by
        obtain ⟨rfl, rfl⟩ := z
        exact pss_one (ps_ret (pe_callB (call_isE S.is hz hf) (by rfl) B.m_isinstance (by decide +kernel) (pa_cons (pv 2) (pa_cons (pe_ty (n := "ValueError") B.m_ValueError (by decide +kernel)) pa_nil))))))
      (pss_one (ps_ret pe_bl))), ?_⟩
  walk_at "go"
  refine rd_callS ?_
  walk_at "go"
  refine ⟨gs, L, lim, rfl, hgs, h1, h2, h3, h4, h5, fun _ H' sm => ?_, fun z => absurd hlt (by omega)⟩
  refine ⟨true, S.te, fun _ a ha => ⟨⟨rfl, rfl⟩, ?_⟩, fun z => nomatch z⟩
  walk_at "go"
  exact ⟨_, _, true, rfl, fun u hu => hu, S.ve, q H' sm⟩
end
end K18
set_option Elab.async false
set_option linter.all false
set_option maxRecDepth 100000
set_option maxHeartbeats 4000000
/-! repr of the stages: a text that hangs on the data alone. -/
namespace K18
open PySem PySem.Spec L2
mutual
def pT : Tm → PyData
  | .var i => .int i
  | .app f as => .tuple (.str f :: pTL as)
def pTL : List Tm → List PyData
  | [] => []
  | a :: r => pT a :: pTL r
end
def pNat (k : Nat) : PyData := .int (k : Int)
def pKv (p : Int × Tm) : PyData × PyData := (.int p.1, pT p.2)
def pStp (s : Stp) : PyData := .tuple [.tuple [.str (srcS s.giv), pNat s.ix], .bool s.fwd, .tuple (s.pos.map pNat), .dict (s.sb.map pKv)]
def pStg (g : Stg) : PyData := .tuple [pT g.l, pT g.r, .list (g.ss.map pStp)]
/-! ### what stands in the heap reads so -/
section
variable {P : Program} {w : World} {H : Hp} {h : Heap}
theorem tup_reads (hok : HOk P w H h) {a : Addr} {xs : List V} (e : H a = some (.tup xs)) {ds : List PyData} {as : List Addr} (r : ∀ us, Vals xs us → ReadsAll h us ds as) : Reads h (.ref a) (.tuple ds) as := by
  obtain ⟨_, its, rv, o, h1, h2, n, h3⟩ := (show ObjOk P w H h a (.tup xs) from hok a _ e)
  exact .tuple h1 h2 h3 (r its rv)
mutual
theorem reads_T (hok : HOk P w H h) : ∀ {t : Tm} {v : V} {u : Value}, At H t v → RelV v u → Reads h u (pT t) []
  | .var i, v, u, hv, r => by
    have hv : v = .int i := hv
    subst hv
    obtain ⟨t, rfl⟩ := (show ∃ t, u = Value.int i t from r)
    exact .int i t
  | .app f as, v, u, ⟨a, vs, e, ha, hvs⟩, r => by
    subst e
    cases (show u = Value.ref a from r)
    refine tup_reads hok ha fun us rv => ?_
    cases rv with
    | cons r1 r2 =>
      obtain ⟨t, rfl⟩ := r1
      exact .cons (as := []) (bs := []) (.str f t) (reads_TL hok hvs r2)
theorem reads_TL (hok : HOk P w H h) : ∀ {ts : List Tm} {vs : List V} {us : List Value}, AtL H ts vs → Vals vs us → ReadsAll h us (pTL ts) []
  | [], vs, us, hv, r => by
    have hv : vs = [] := hv
    subst hv
    cases r
    exact .nil
  | t :: ts, vs, us, ⟨v, ws, e, h1, h2⟩, r => by
    subst e
    cases r with
    | cons r1 r2 => exact .cons (as := []) (bs := []) (reads_T hok h1 r1) (reads_TL hok h2 r2)
end
theorem reads_pos : ∀ {p : List Nat} {us : List Value}, Vals (pint p) us → ReadsAll h us (p.map pNat) []
  | [], _, r => by
    cases r
    exact .nil
  | k :: p, _, r => by
    cases r with
    | cons r1 r2 =>
      obtain ⟨t, rfl⟩ := r1
      exact .cons (as := []) (bs := []) (.int _ t) (reads_pos r2)
theorem reads_kv (hok : HOk P w H h) : ∀ {ps : Sb} {kvs : List (Key × V)} {vs : List (Key × Value)} {es : List DictEntry}, DRel H ps kvs → KV kvs vs → Pairs (mixKind P w) es vs →
    ReadsAll h (es.map (·.key)) ((ps.map pKv).map (·.1)) [] ∧ ReadsAll h (es.map (·.val)) ((ps.map pKv).map (·.2)) []
  | [], _, _, _, hd, hk, hp => by
    cases hd
    cases hk
    cases hp
    exact ⟨.nil, .nil⟩
  | q :: ps, _, _, _, hd, hk, hp => by
    cases hd with
    | @cons _ kv _ _ h1 hd =>
      cases hk with
      | @cons _ kw _ _ k1 hk =>
        cases hp with
        | @cons e _ _ _ p1 p2 hp =>
          obtain ⟨i1, i2⟩ := reads_kv hok hd hk hp
          obtain ⟨a1, a2⟩ := h1
          obtain ⟨b1, b2⟩ := k1
          have e1 : kw.1 = Sum.inl q.1 := by rw [← b1, a1]
          rw [e1] at p1
          rcases keyIs_shape (show keyIs (Sum.inl q.1) e.key = true from p1) with ⟨i, t, e2, e3⟩ | ⟨x, t, e2, e3⟩
          · cases e2
            refine ⟨.cons (as := []) (bs := []) ?_ i1, .cons (as := []) (bs := []) ?_ i2⟩
            · show Reads h e.key (.int q.1) []
              rw [e3]
              exact .int _ t
            · show Reads h e.val (pT q.2) []
              rw [p2]
              exact reads_T hok a2 b2
          · cases e2
theorem reads_stp (hok : HOk P w H h) {s : Stp} {v : V} {u : Value} (hs : StpAt H s v) (r : RelV v u) : ∃ d, (d == sysModules) = false ∧ Reads h u (pStp s) [d] := by
  obtain ⟨a, sa, pa, da, rfl, ha, hsa, hpa, kvs, hda, hk⟩ := hs
  cases (show u = Value.ref a from r)
  obtain ⟨_, hsys, vs, hkv, o, es, ep, h1, h2, h3, _, h4, _⟩ := (show ObjOk P w H h da (.dK kvs) from hok da _ hda)
  obtain ⟨i1, i2⟩ := reads_kv hok hk hkv h4
  refine ⟨da, hsys, ?_⟩
  refine tup_reads hok ha fun us rv => ?_
  obtain ⟨u1, u2, u3, u4, rfl, r1, r2, r3, r4⟩ : ∃ u1 u2 u3 u4, us = [u1, u2, u3, u4] ∧ RelV (.ref sa) u1 ∧ RelV (.bl s.fwd) u2 ∧ RelV (.ref pa) u3 ∧ RelV (.ref da) u4 := by
    cases rv with
    | cons r1 rv =>
      cases rv with
      | cons r2 rv =>
        cases rv with
        | cons r3 rv =>
          cases rv with
          | cons r4 rv =>
            cases rv
            exact ⟨_, _, _, _, rfl, r1, r2, r3, r4⟩
  cases (show u1 = Value.ref sa from r1)
  cases (show u2 = Value.bool s.fwd from r2)
  cases (show u3 = Value.ref pa from r3)
  cases (show u4 = Value.ref da from r4)
  have d1 : Reads h (.ref sa) (.tuple [.str (srcS s.giv), pNat s.ix]) [] := tup_reads hok hsa fun us rv => by
    cases rv with
    | cons r1 rv =>
      cases rv with
      | cons r2 rv =>
        cases rv
        obtain ⟨t1, rfl⟩ := r1
        obtain ⟨t2, rfl⟩ := r2
        exact .cons (as := []) (bs := []) (.str _ t1) (.cons (as := []) (bs := []) (.int _ t2) .nil)
  have d3 : Reads h (.ref pa) (.tuple (s.pos.map pNat)) [] := tup_reads hok hpa fun us rv => reads_pos rv
  have d4 : Reads h (.ref da) (.dict (s.sb.map pKv)) [da] := .dict (as := []) (bs := []) h1 h2.1 h3 i1 i2
  exact .cons (as := []) (bs := [da]) d1 (.cons (as := []) (bs := [da]) (.bool _) (.cons (as := []) (bs := [da]) d3 (.cons (as := [da]) (bs := []) d4 .nil)))
theorem reads_stps (hok : HOk P w H h) : ∀ {ss : List Stp} {vs : List V} {us : List Value}, Paired (StpAt H) ss vs → Vals vs us → ∃ as : List Addr, sysModules ∉ as ∧ ReadsAll h us (ss.map pStp) as
  | [], _, _, hp, r => by
    cases hp
    cases r
    exact ⟨[], List.not_mem_nil, .nil⟩
  | s :: ss, _, _, hp, r => by
    cases hp with
    | cons h1 hp =>
      cases r with
      | cons r1 r2 =>
        obtain ⟨d, hd, k1⟩ := reads_stp hok h1 r1
        obtain ⟨as, ha, k2⟩ := reads_stps hok hp r2
        refine ⟨[d] ++ as, fun z => ?_, .cons k1 k2⟩
        rcases List.mem_append.mp z with y | y
        · rw [← List.mem_singleton.mp y] at hd
          exact absurd hd (by decide)
        · exact ha y
/-! ### .. and so it shows -/
def RK (P : Program) (w : World) (h : Heap) (u : Value) (d : PyData) : Prop := ∃ bs : List Addr, ReadAtMost h d.depth bs ∧ ReprK P w bs h d.depth u d.shown
def RAK (P : Program) (w : World) (h : Heap) (us : List Value) (ds : List PyData) : Prop := ∃ bs : List Addr, ReadAtMost h (PyData.depthAll ds) bs ∧ ReprAllK P w bs h (PyData.depthAll ds) us (PyData.shownAll ds)
theorem rak_nil : RAK P w h [] [] := ⟨[], fun _ z => (nomatch z), .nil⟩
theorem rak_cons {u : Value} {d : PyData} {us : List Value} {ds : List PyData} (a : RK P w h u d) (b : RAK P w h us ds) : RAK P w h (u :: us) (d :: ds) := by
  obtain ⟨b1, r1, k1⟩ := a
  obtain ⟨b2, r2, k2⟩ := b
  have e1 : d.depth ≤ PyData.depthAll (d :: ds) := by
    simp only [PyData.depthAll]
    omega
  have e2 : PyData.depthAll ds ≤ PyData.depthAll (d :: ds) := by
    simp only [PyData.depthAll]
    omega
  refine ⟨b1 ++ b2, (r1.mono e1).append (r2.mono e2), ?_⟩
  simp only [PyData.shownAll]
  exact .cons ((k1.more fun b hb => List.mem_append_left _ hb).level_le e1) (k2.more_le (fun b hb => List.mem_append_right _ hb) e2)
theorem rk_tuple {a : Addr} {o : Obj} {items : Array Value} {n : Nat} {ds : List PyData} {as : List Addr} (h1 : h.get? a = some o) (h2 : o.cls = .type "tuple") (h3 : o.data = .seq items n) (h4 : ReadsAll h items.toList ds as) (k : RAK P w h items.toList ds) : RK P w h (.ref a) (.tuple ds) := by
  obtain ⟨bs, hb, hk⟩ := k
  have r : Reads h (.ref a) (.tuple ds) _ := .tuple h1 h2 h3 h4
  have hna : a ∉ bs := not_mem_of_deeper r (by simp only [PyData.depth]; omega) hb
  refine ⟨a :: bs, ReadAtMost.cons r (by simp only [PyData.depth]; omega) hb, ?_⟩
  simp only [PyData.depth, PyData.shown]
  exact ReprK.tuple h1 h2 h3 hna hk
theorem rk_list {a : Addr} {o : Obj} {items : Array Value} {n : Nat} {ds : List PyData} {as : List Addr} (h1 : h.get? a = some o) (h2 : o.cls = .type "list") (h3 : o.data = .seq items n) (h4 : ReadsAll h items.toList ds as) (k : RAK P w h items.toList ds) : RK P w h (.ref a) (.list ds) := by
  obtain ⟨bs, hb, hk⟩ := k
  have r : Reads h (.ref a) (.list ds) _ := .list h1 h2 h3 h4
  have hna : a ∉ bs := not_mem_of_deeper r (by simp only [PyData.depth]; omega) hb
  refine ⟨a :: bs, ReadAtMost.cons r (by simp only [PyData.depth]; omega) hb, ?_⟩
  simp only [PyData.depth, PyData.shown]
  obtain ⟨l⟩ := items
  cases l with
  | nil =>
    have h4' : ReadsAll h [] ds _ := h4
    cases h4'
    simp only [PyData.shownAll, listText_nil]
    exact ReprK.listEmpty h1 h2 h3
  | cons x l => exact ReprK.list h1 h2 h3 hna (by simpa using hk.length_eq) (fun i y e => hk.item i y (by simpa using e))
/-- all of it can be shown, none of it is too long -/
structure Shw (d : PyData) : Prop where
  sh : d.showable = true
  ln : d.shown.length ≤ sizeLine
theorem rk_T (hok : HOk P w H h) {t : Tm} {v : V} {u : Value} (hv : At H t v) (r : RelV v u) (z : Shw (pT t)) : RK P w h u (pT t) :=
  ReprK.of_reads (reads_T hok hv r) z.sh (fun _ m => (nomatch m)) z.ln
theorem rak_stps (hok : HOk P w H h) : ∀ {ss : List Stp} {vs : List V} {us : List Value}, Paired (StpAt H) ss vs → Vals vs us → (∀ s : Stp, s ∈ ss → Shw (pStp s)) → RAK P w h us (ss.map pStp)
  | [], _, _, hp, r, _ => by
    cases hp
    cases r
    exact rak_nil
  | s :: ss, _, _, hp, r, z => by
    cases hp with
    | cons h1 hp =>
      cases r with
      | cons r1 r2 =>
        obtain ⟨d, hd, k1⟩ := reads_stp hok h1 r1
        have z1 := z s List.mem_cons_self
        refine rak_cons (ReprK.of_reads k1 z1.sh (fun _ m => ?_) z1.ln) (rak_stps hok hp r2 fun q hq => z q (List.mem_cons_of_mem _ hq))
        rw [← List.mem_singleton.mp m] at hd
        exact absurd hd (by decide)
/-- a stage shows -/
structure ShG (g : Stg) : Prop where
  l : Shw (pT g.l)
  r : Shw (pT g.r)
  ss : ∀ s : Stp, s ∈ g.ss → Shw (pStp s)
theorem rk_stg (hok : HOk P w H h) {g : Stg} {v : V} {u : Value} (hg : StgAt H g v) (r : RelV v u) (z : ShG g) : RK P w h u (pStg g) ∧ ∃ as, Reads h u (pStg g) as := by
  obtain ⟨a, v1, v2, L, rfl, ha, h1, h2, vs, hL, hvs⟩ := hg
  cases (show u = Value.ref a from r)
  obtain ⟨_, its, rv, o, e1, e2, n, e3⟩ := (show ObjOk P w H h a _ from hok a _ ha)
  obtain ⟨_, itl, nl, rl, el⟩ := (show ObjOk P w H h L (.lst vs) from hok L _ hL)
  obtain ⟨as, has, hr⟩ := reads_stps hok hvs rl
  have kl : RK P w h (.ref L) (.list (g.ss.map pStp)) := rk_list el rfl rfl hr (rak_stps hok hvs rl z.ss)
  have rdl : Reads h (.ref L) (.list (g.ss.map pStp)) (L :: as) := .list el rfl rfl hr
  cases rv with
  | cons r1 rv =>
    cases rv with
    | cons r2 rv =>
      cases rv with
      | cons r3 rv =>
        cases rv
        cases r3
        have rr : ReadsAll h _ [pT g.l, pT g.r, .list (g.ss.map pStp)] _ := .cons (reads_T hok h1 r1) (.cons (reads_T hok h2 r2) (.cons rdl .nil))
        exact ⟨rk_tuple e1 e2 e3 rr (rak_cons (rk_T hok h1 r1 z.l) (rak_cons (rk_T hok h2 r2 z.r) (rak_cons kl rak_nil))), _, .tuple e1 e2 e3 rr⟩
theorem rak_stgs (hok : HOk P w H h) : ∀ {gs : List Stg} {vs : List V} {us : List Value}, Paired (StgAt H) gs vs → Vals vs us → (∀ g : Stg, g ∈ gs → ShG g) → RAK P w h us (gs.map pStg) ∧ ∃ as, ReadsAll h us (gs.map pStg) as
  | [], _, _, hp, r, _ => by
    cases hp
    cases r
    exact ⟨rak_nil, _, .nil⟩
  | g :: gs, _, _, hp, r, z => by
    cases hp with
    | cons h1 hp =>
      cases r with
      | cons r1 r2 =>
        obtain ⟨k1, as1, q1⟩ := rk_stg hok h1 r1 (z g List.mem_cons_self)
        obtain ⟨k2, as2, q2⟩ := rak_stgs hok hp r2 fun q hq => z q (List.mem_cons_of_mem _ hq)
        exact ⟨rak_cons k1 k2, _, .cons q1 q2⟩
end
/-- repr of the stages -/
theorem call_repr {X : Cx} (hg : X.A.guards = some []) {k : Nat} (hr : Room k X.A) : CallR X (.builtin "repr") (fun xs H Q => ∃ (L : Addr) (gs : List Stg), xs = [.ref L] ∧ StgsAt H gs L ∧ gs ≠ [] ∧ (∀ g : Stg, g ∈ gs → ShG g) ∧ (PyData.list (gs.map pStg)).shown.length ≤ sizeLine ∧ PyData.depthAll (gs.map pStg) ≤ 150 ∧ Q (.str (PyData.list (gs.map pStg)).shown) H) := by
  intro pins s σ H xs us Q I r h
  obtain ⟨L, gs, rfl, ⟨vs, hL, hvs⟩, hne, hz, hln, hdp, q⟩ := h
  obtain ⟨u, rfl, ru⟩ := vals1 r
  cases (show u = Value.ref L from ru)
  have hok : HOk X.prog X.w H s.heap := I.hok
  obtain ⟨_, its, n, rv, el⟩ := (show ObjOk X.prog X.w H s.heap L (.lst vs) from hok L _ hL)
  obtain ⟨⟨bs, hb, hk⟩, as, hra⟩ := rak_stgs hok hvs rv hz
  have rd : Reads s.heap (.ref L) (.list (gs.map pStg)) (L :: as) := .list el rfl rfl hra
  have hna : L ∉ bs := not_mem_of_deeper rd (by simp only [PyData.depth]; omega) hb
  have hun := hr.un
  have hz' : (listText (PyData.shownAll (gs.map pStg))).length ≤ sizeLine := by simpa only [PyData.shown] using hln
  have hlen : its.length = gs.length := by rw [← Paired.length rv, ← Paired.length hvs]
  have hTy : s.TypeIs (.ref L) "list" := ⟨_, el, rfl⟩
  cases its with
  | nil =>
    cases gs with
    | nil => exact absurd rfl hne
    | cons g r => simp at hlen
  | cons x l =>
    refine call_repr_slot (by omega) hTy F.slot_list_repr.toG ?_
    refine call_list_reprK el rfl rfl hna (by simpa using hk.length_eq) (fun i y e => hk.item i y (by simpa using e)) hg (fun b _ => Clear.nil b) (by show X.A.units + 1 + _ < cLine; omega) (fun _ _ e => e) (fun h' u tk hkk => ?_) hz'
    have e : (PyData.list (gs.map pStg)).shown = listText (PyData.shownAll (gs.map pStg)) := by simp only [PyData.shown]
    rw [← e]
    exact ⟨_, _, rfl, .str _, H, I.kept hkk, ⟨_, rfl⟩, q⟩
end K18
set_option Elab.async false
set_option linter.all false
set_option maxRecDepth 100000
set_option maxHeartbeats 4000000
/-! How long the stages' text can be. -/
namespace K18
open PySem PySem.Spec L2
theorem int_len_all : (List.range 1000).all (fun k => decide (((toString (k : Int) : String) : Str).length ≤ 10)) = true := by decide +kernel
theorem int_len {k : Nat} (h : k < 1000) : (PyData.shown (.int (k : Int))).length ≤ 10 := by
  simp only [PyData.shown]
  exact of_decide_eq_true (List.all_eq_true.mp int_len_all k (List.mem_range.mpr h))
theorem int_len' {i : Int} (h0 : 0 ≤ i) (h : i < 1000) : (PyData.shown (.int i)).length ≤ 10 := by
  obtain ⟨k, rfl⟩ := Int.eq_ofNat_of_zero_le h0
  exact int_len (by omega)
theorem int_sh {k : Nat} (h : k < 1000) : PyData.showable (.int (k : Int)) = true := by
  simp only [PyData.showable, decide_eq_true_eq]
  have := Nat.log2_le_self k
  rw [Int.natAbs_natCast]
  omega
theorem int_sh' {i : Int} (h0 : 0 ≤ i) (h : i < 1000) : PyData.showable (.int i) = true := by
  obtain ⟨k, rfl⟩ := Int.eq_ofNat_of_zero_le h0
  exact int_sh (by omega)
theorem tup_len (ts : List Str) : (tupleText ts).length ≤ piled ts + 3 := by
  unfold tupleText
  rw [strLen_append, strLen_append]
  have h1 : (("(" : Str)).length = 1 := by decide +kernel
  have h2 : ((if ts.length == 1 then ",)" else ")" : String) : Str).length ≤ 2 := by
    split <;> decide +kernel
  cases ts with
  | nil =>
    have h3 : (Str.join ", " []).length = 0 := by decide +kernel
    omega
  | cons t r =>
    have := join_length_add (t :: r) (by simp)
    omega
theorem lst_len (ts : List Str) : (listText ts).length ≤ piled ts + 2 := by
  rw [listText_eq_join, strLen_append, strLen_append]
  have h1 : (("[" : Str)).length = 1 := by decide +kernel
  have h2 : (("]" : Str)).length = 1 := by decide +kernel
  cases ts with
  | nil =>
    have h3 : (Str.join ", " []).length = 0 := by decide +kernel
    omega
  | cons t r =>
    have := join_length_add (t :: r) (by simp)
    omega
theorem dct_len (ts : List Str) : (dictText ts).length ≤ piled ts + 2 := by
  unfold dictText
  rw [strLen_append, strLen_append]
  have h1 : (("{" : Str)).length = 1 := by decide +kernel
  have h2 : (("}" : Str)).length = 1 := by decide +kernel
  cases ts with
  | nil =>
    have h3 : (Str.join ", " []).length = 0 := by decide +kernel
    omega
  | cons t r =>
    have := join_length_add (t :: r) (by simp)
    omega
/-- a list's texts, each of a length -/
theorem piled_le {α : Type} (f : α → PyData) {c : Nat} : ∀ {l : List α}, (∀ a : α, a ∈ l → (f a).shown.length ≤ c) → piled (PyData.shownAll (l.map f)) ≤ l.length * (c + 2)
  | [], _ => by simp [PyData.shownAll, piled]
  | a :: r, h => by
    have h1 := h a List.mem_cons_self
    have h2 := piled_le f (l := r) fun b hb => h b (List.mem_cons_of_mem _ hb)
    simp only [List.map_cons, PyData.shownAll, piled_cons, List.length_cons]
    rw [Nat.add_mul]
    omega
theorem sh_all {α : Type} (f : α → PyData) : ∀ {l : List α}, (∀ a : α, a ∈ l → (f a).showable = true) → PyData.showableAll (l.map f) = true
  | [], _ => by simp [PyData.showableAll]
  | a :: r, h => by
    simp only [List.map_cons, PyData.showableAll, Bool.and_eq_true]
    exact ⟨h a List.mem_cons_self, sh_all f fun b hb => h b (List.mem_cons_of_mem _ hb)⟩
theorem dp_all {α : Type} (f : α → PyData) {c : Nat} : ∀ {l : List α}, (∀ a : α, a ∈ l → (f a).depth ≤ c) → PyData.depthAll (l.map f) ≤ c
  | [], _ => by simp [PyData.depthAll]
  | a :: r, h => by
    simp only [List.map_cons, PyData.depthAll]
    have h1 := h a List.mem_cons_self
    have h2 := dp_all f (l := r) fun b hb => h b (List.mem_cons_of_mem _ hb)
    omega
theorem pTL_map : ∀ as : List Tm, pTL as = as.map pT
  | [] => rfl
  | a :: r => by rw [pTL, pTL_map r, List.map_cons]
theorem nm_len {f : Str} (h : Nm f) : (PyData.shown (.str f)).length ≤ 72 := by
  simp only [PyData.shown]
  have := StrLaws.reprText_len f (fun c hc => by
    have := h.2 c hc
    omega)
  have := h.1
  omega
theorem piled_tm : ∀ {as : List Tm}, (∀ a : Tm, a ∈ as → (pT a).shown.length + 2 ≤ 80 * siz a) → piled (PyData.shownAll (as.map pT)) ≤ 80 * sizL as
  | [], _ => by simp [PyData.shownAll, piled]
  | a :: r, h => by
    have h1 := h a List.mem_cons_self
    have h2 := piled_tm (as := r) fun b hb => h b (List.mem_cons_of_mem _ hb)
    simp only [List.map_cons, PyData.shownAll, piled_cons]
    show _ ≤ 80 * (siz a + sizL r)
    omega
/-- variables 0 to 9 -/
def Vt (t : Tm) : Prop := ∀ i, Occ i t → 0 ≤ i ∧ i < 1000
theorem tm_len (t : Tm) : Nam t → Vt t → (pT t).shown.length + 2 ≤ 80 * siz t ∧ (pT t).showable = true ∧ (pT t).depth ≤ dep t := by
  induction t using Tm.ind with
  | hv i =>
    intro _ h
    obtain ⟨h1, h2⟩ := h i rfl
    have := int_len' h1 h2
    refine ⟨?_, int_sh' h1 h2, ?_⟩
    · show (PyData.shown (.int i)).length + 2 ≤ 80 * 1
      omega
    · show PyData.depth (.int i) ≤ 1
      simp only [PyData.depth]
      omega
  | ha f as ih =>
    intro hn hv
    have hn2 := namL_iff.mp hn.2
    have key : ∀ a : Tm, a ∈ as → (pT a).shown.length + 2 ≤ 80 * siz a ∧ (pT a).showable = true ∧ (pT a).depth ≤ dep a := fun a ha => ih a ha (hn2 a ha) fun i hi => hv i (occL_iff.mpr ⟨a, ha, hi⟩)
    have e : pT (.app f as) = .tuple (.str f :: as.map pT) := by rw [pT, pTL_map]
    rw [e]
    refine ⟨?_, ?_, ?_⟩
    · have h1 := tup_len (PyData.shownAll (.str f :: as.map pT))
      have h2 := piled_tm fun a ha => (key a ha).1
      have h3 := nm_len hn.1
      have e1 : (PyData.tuple (.str f :: as.map pT)).shown = tupleText (PyData.shownAll (.str f :: as.map pT)) := by simp only [PyData.shown]
      have e2 : PyData.shownAll (.str f :: as.map pT) = PyData.shown (.str f) :: PyData.shownAll (as.map pT) := by simp only [PyData.shownAll]
      rw [e1]
      rw [e2, piled_cons] at h1
      show _ ≤ 80 * (sizL as + 1)
      rw [e2]
      omega
    · simp only [PyData.showable, PyData.showableAll, Bool.true_and]
      exact sh_all pT fun a ha => (key a ha).2.1
    · have h1 := dp_all pT (c := depL as) fun a ha => Nat.le_trans (key a ha).2.2 (dep_le_depL ha)
      simp only [PyData.depth, PyData.depthAll]
      show _ ≤ depL as + 1
      omega
/-- what the values of a step hold -/
structure StB (s : Stp) : Prop where
  ix : s.ix < 1000
  pl : s.pos.length ≤ 40
  pk : ∀ k, k ∈ s.pos → k < 1000
  sl : s.sb.length ≤ 10
  kr : ∀ p : Int × Tm, p ∈ s.sb → 0 ≤ p.1 ∧ p.1 < 1000 ∧ siz p.2 ≤ 400 ∧ dep p.2 ≤ 40 ∧ Nam p.2 ∧ Vt p.2
theorem piled_kv {c : Nat} : ∀ {ps : Sb}, (∀ p : Int × Tm, p ∈ ps → (PyData.shown (.int p.1)).length ≤ 10 ∧ (pT p.2).shown.length ≤ c) → piled (PyData.shownKv (ps.map pKv)) ≤ ps.length * (c + 20)
  | [], _ => by simp [PyData.shownKv, piled]
  | q :: r, h => by
    obtain ⟨h1, h2⟩ := h q List.mem_cons_self
    have h3 := piled_kv (ps := r) fun b hb => h b (List.mem_cons_of_mem _ hb)
    have e : PyData.shownKv ((q :: r).map pKv) = (PyData.shown (.int q.1) ++ ": " ++ PyData.shown (pT q.2)) :: PyData.shownKv (r.map pKv) := by
      rw [List.map_cons]
      show PyData.shownKv ((.int q.1, pT q.2) :: _) = _
      simp only [PyData.shownKv]
    have h4 : ((": " : Str)).length = 2 := by decide +kernel
    rw [e, piled_cons, strLen_append, strLen_append, List.length_cons, Nat.add_mul]
    omega
theorem sh_kv : ∀ {ps : Sb}, (∀ p : Int × Tm, p ∈ ps → PyData.showable (.int p.1) = true ∧ (pT p.2).showable = true) → PyData.showableKv (ps.map pKv) = true
  | [], _ => by simp [PyData.showableKv]
  | q :: r, h => by
    obtain ⟨h1, h2⟩ := h q List.mem_cons_self
    rw [List.map_cons]
    show PyData.showableKv ((.int q.1, pT q.2) :: _) = true
    simp only [PyData.showableKv, h1, h2, Bool.true_and]
    exact sh_kv fun b hb => h b (List.mem_cons_of_mem _ hb)
theorem dp_kv {c : Nat} : ∀ {ps : Sb}, (∀ p : Int × Tm, p ∈ ps → (pT p.2).depth ≤ c) → PyData.depthKv (ps.map pKv) ≤ c
  | [], _ => by simp [PyData.depthKv]
  | q :: r, h => by
    have h1 := h q List.mem_cons_self
    have h2 := dp_kv (ps := r) fun b hb => h b (List.mem_cons_of_mem _ hb)
    rw [List.map_cons]
    show PyData.depthKv ((.int q.1, pT q.2) :: _) ≤ c
    simp only [PyData.depthKv, PyData.depth]
    omega
theorem src_len (b : Bool) : (PyData.shown (.str (srcS b))).length ≤ 20 := by
  cases b
  · simp only [PyData.shown]
    decide +kernel
  · simp only [PyData.shown]
    decide +kernel
theorem bool_len (b : Bool) : (PyData.shown (.bool b)).length ≤ 10 := by
  cases b
  · simp only [PyData.shown]
    decide +kernel
  · simp only [PyData.shown]
    decide +kernel
theorem stp_len {s : Stp} (h : StB s) : (pStp s).shown.length ≤ 400000 ∧ (pStp s).showable = true ∧ (pStp s).depth ≤ 50 := by
  have hi1 := int_len h.ix
  have hi2 := int_sh h.ix
  have hs := src_len s.giv
  have hb := bool_len s.fwd
  have hp := piled_le pNat (c := 10) (l := s.pos) fun k hk => int_len (h.pk k hk)
  have hps := sh_all pNat (l := s.pos) fun k hk => int_sh (h.pk k hk)
  have hpd := dp_all pNat (c := 0) (l := s.pos) fun k hk => by simp [pNat, PyData.depth]
  have hv := fun p hp => tm_len p.2 (h.kr p hp).2.2.2.2.1 (h.kr p hp).2.2.2.2.2
  have hd := piled_kv (c := 32000) (ps := s.sb) fun p hp => ⟨int_len' (h.kr p hp).1 (h.kr p hp).2.1, by have := (hv p hp).1; have := (h.kr p hp).2.2.1; omega⟩
  have hds := sh_kv (ps := s.sb) fun p hp => ⟨int_sh' (h.kr p hp).1 (h.kr p hp).2.1, (hv p hp).2.1⟩
  have hdd := dp_kv (c := 40) (ps := s.sb) fun p hp => Nat.le_trans (hv p hp).2.2 (h.kr p hp).2.2.2.1
  have hpl := h.pl
  have hsl := h.sl
  have hp2 : s.pos.length * (10 + 2) ≤ 40 * 12 := Nat.mul_le_mul_right _ hpl
  have hd2 : s.sb.length * (32000 + 20) ≤ 10 * 32020 := Nat.mul_le_mul_right _ hsl
  have t1 := tup_len (PyData.shownAll [.str (srcS s.giv), pNat s.ix])
  have t2 := tup_len (PyData.shownAll (s.pos.map pNat))
  have t3 := dct_len (PyData.shownKv (s.sb.map pKv))
  have t4 := tup_len (PyData.shownAll [.tuple [.str (srcS s.giv), pNat s.ix], .bool s.fwd, .tuple (s.pos.map pNat), .dict (s.sb.map pKv)])
  have e1 : PyData.shownAll [.str (srcS s.giv), pNat s.ix] = [PyData.shown (.str (srcS s.giv)), PyData.shown (.int (s.ix : Int))] := by
    simp only [PyData.shownAll, pNat]
  have e2 : PyData.shownAll [.tuple [.str (srcS s.giv), pNat s.ix], .bool s.fwd, .tuple (s.pos.map pNat), .dict (s.sb.map pKv)] =
      [tupleText (PyData.shownAll [.str (srcS s.giv), pNat s.ix]), PyData.shown (.bool s.fwd), tupleText (PyData.shownAll (s.pos.map pNat)), dictText (PyData.shownKv (s.sb.map pKv))] := by
    simp only [PyData.shownAll, PyData.shown]
  have e3 : (pStp s).shown = tupleText (PyData.shownAll [.tuple [.str (srcS s.giv), pNat s.ix], .bool s.fwd, .tuple (s.pos.map pNat), .dict (s.sb.map pKv)]) := by
    unfold pStp
    simp only [PyData.shown]
  refine ⟨?_, ?_, ?_⟩
  · rw [e3]
    rw [e1, piled_cons, piled_cons, piled_nil] at t1
    rw [e2, piled_cons, piled_cons, piled_cons, piled_cons, piled_nil, e1] at t4
    rw [e2, e1]
    omega
  · unfold pStp
    simp only [PyData.showable, PyData.showableAll, hps, hds, Bool.true_and, Bool.and_true]
    exact hi2
  · unfold pStp
    simp only [PyData.depth, PyData.depthAll, pNat]
    omega
structure SgB (g : Stg) : Prop where
  l : Nam g.l ∧ Vt g.l ∧ siz g.l ≤ 400 ∧ dep g.l ≤ 40
  r : Nam g.r ∧ Vt g.r ∧ siz g.r ≤ 400 ∧ dep g.r ≤ 40
  n : g.ss.length ≤ 3
  ss : ∀ s : Stp, s ∈ g.ss → StB s
theorem stg_len {g : Stg} (h : SgB g) : ShG g ∧ (pStg g).shown.length ≤ 1300000 ∧ (pStg g).depth ≤ 60 := by
  have h1 := tm_len g.l h.l.1 h.l.2.1
  have h2 := tm_len g.r h.r.1 h.r.2.1
  have b1 := h.l.2.2
  have b2 := h.r.2.2
  have hs := fun s hs => stp_len (h.ss s hs)
  have hp := piled_le pStp (c := 400000) (l := g.ss) fun s hx => (hs s hx).1
  have hd := dp_all pStp (c := 50) (l := g.ss) fun s hx => (hs s hx).2.2
  have hn := h.n
  have hp2 : g.ss.length * (400000 + 2) ≤ 3 * 400002 := Nat.mul_le_mul_right _ hn
  have t1 := lst_len (PyData.shownAll (g.ss.map pStp))
  have t2 := tup_len (PyData.shownAll [pT g.l, pT g.r, .list (g.ss.map pStp)])
  have e2 : PyData.shownAll [pT g.l, pT g.r, .list (g.ss.map pStp)] = [(pT g.l).shown, (pT g.r).shown, listText (PyData.shownAll (g.ss.map pStp))] := by
    simp only [PyData.shownAll, PyData.shown]
  have e3 : (pStg g).shown = tupleText (PyData.shownAll [pT g.l, pT g.r, .list (g.ss.map pStp)]) := by
    unfold pStg
    simp only [PyData.shown]
  refine ⟨⟨⟨h1.2.1, by rw [sizeLine_eq]; omega⟩, ⟨h2.2.1, by rw [sizeLine_eq]; omega⟩, fun s hx => ⟨(hs s hx).2.1, by have := (hs s hx).1; rw [sizeLine_eq]; omega⟩⟩, ?_, ?_⟩
  · rw [e3]
    rw [e2, piled_cons, piled_cons, piled_cons, piled_nil] at t2
    rw [e2]
    omega
  · unfold pStg
    simp only [PyData.depth, PyData.depthAll]
    omega
theorem stgs_len {gs : List Stg} (hn : gs.length ≤ 5) (h : ∀ g : Stg, g ∈ gs → SgB g) : (∀ g : Stg, g ∈ gs → ShG g) ∧ (PyData.list (gs.map pStg)).shown.length ≤ sizeLine ∧ PyData.depthAll (gs.map pStg) ≤ 150 := by
  have hs := fun g hg => stg_len (h g hg)
  have hp := piled_le pStg (c := 1300000) (l := gs) fun g hg => (hs g hg).2.1
  have hd := dp_all pStg (c := 60) (l := gs) fun g hg => (hs g hg).2.2
  have hp2 : gs.length * (1300000 + 2) ≤ 5 * 1300002 := Nat.mul_le_mul_right _ hn
  have t1 := lst_len (PyData.shownAll (gs.map pStg))
  refine ⟨fun g hg => (hs g hg).1, ?_, by omega⟩
  simp only [PyData.shown]
  rw [sizeLine_eq]
  omega
end K18
set_option Elab.async false
set_option linter.all false
set_option maxRecDepth 100000
set_option maxHeartbeats 4000000
/-! The law itself. -/
namespace K18
open PySem PySem.Spec L2
local macro_rules | `(tactic| walk_at "go1") => `(tactic| with_reducible first
  | refine rd_seq ?_ | refine rd_ifS ?_ | refine rd_asg ?_ | refine rd_name ?_ | refine rd_ret ?_ | refine rd_drop ?_ | refine rd_next ?_ | refine rd_retN ?_
  | refine rd_c ?_ | refine rd_op ?_ | refine rd_un ?_ | refine rd_U ?_ | refine rd_I0 ?_ | refine rd_eqI ?_ | refine rd_neI ?_ | refine rd_eqS ?_ | refine rd_neS ?_
  | refine rd_nil ?_ | refine rd_cons ?_ | refine rd_call ?_ | refine rd_cb ?_ | refine rd_bm ?_ | refine rd_tup ?_ | refine rd_lst ?_ | refine rd_sl ?_ | refine rd_part ?_ | refine rd_nopart ?_
  | refine rd_exI ?_ | refine rd_exB ?_ | refine rd_exR ?_ | refine rd_test ?_ | refine rd_B ?_ | refine rd_and ?_ | refine rd_or ?_ | refine rd_not ?_ | refine rd_andV ?_ | refine rd_orV ?_ | refine rd_notV ?_ | refine rd_ifE ?_ | refine rd_chain ?_
  | refine rd_dget2 ?_ | refine rd_dnotin ?_ | refine rd_gcons ?_ | refine rd_gnil ?_ | refine rd_gsub ?_ | refine rd_ipI ?_ | refine rd_par ?_ | refine rd_for ?_ | refine rd_iList ?_ | refine rd_iTup ?_ | refine rd_iRng1 ?_ | refine rd_iRng2 ?_
  | refine rd_iRev ?_ | refine rd_iEnum ?_ | refine rd_dput ?_ | refine rd_nx ?_ | refine rd_rt ?_ | refine rd_yes ?_ | refine rd_dc ?_ | refine rd_lc ?_ | refine rd_iItems ?_ | refine rd_iVals ?_ | refine rd_iRng3 ?_ | refine rd_m1 ?_)
local macro_rules | `(tactic| walk_at "go") => `(tactic| repeat (first | walk_at "go1" | ((with_reducible refine' rd_var ?h1 ?_); (case h1 => exact rfl)) | ((with_reducible refine' rd_aug ?h1 ?_); (case h1 => exact rfl))))

theorem stgs_copy {H : Hp} {gs : List Stg} {vs : List V} {l : Addr} (h : Paired (StgAt H) gs vs) (hl : H l = none) : StgsAt (upd H l (.lst vs)) gs l := ⟨vs, upd_same, pr_mono h fun _ _ z => z.kp (kp_of (same_new hl))⟩
theorem occ_lt {t : Tm} (h : Vr t) : Vt t := fun i o => by
  have := h i o
  omega
theorem leads_ix {G : List Eqn} {S : List Stg} : ∀ {a : List Stp} {t u : Tm}, LeadsS G S a t u → ∀ s : Stp, s ∈ a → s.ix < G.length ∨ s.ix < S.length
  | [], _, _, _, _, h => nomatch h
  | s :: r, t, u, ⟨v, o, h⟩, q, hq => by
    rcases List.mem_cons.mp hq with z | z
    · rw [z]
      rcases o with ⟨_, e, he, _⟩ | ⟨_, g, hg, _⟩
      · exact .inl (lt_of_get he)
      · exact .inr (lt_of_get hg)
    · exact leads_ix h q z
theorem leadsM_B {G : List Eqn} {b d : Nat} (hb : b ≤ 1000) (hd : d ≤ 40) (hG : ∀ e : Eqn, e ∈ G → EqB e) : ∀ {a : List Stp} {t u : Tm}, LeadsM G b d a t u → LeadsB G a t u
  | [], _, _, h => h.1
  | s :: r, t, u, ⟨g, ⟨z1, z2⟩, e, he, k, w, dd, h⟩ => ⟨g, by omega, by omega, e, he, hG e (List.mem_of_getElem? he), k, w, dd, leadsM_B hb hd hG h⟩
section
variable {P : Program} {w : World} {K : PySem.W.Frag} {mg : Str → Option Value} {base : Heap}
theorem dp_nints {H : Hp} : ∀ l : List Nat, DpAll K H (nints l) (l.map fun (n : Nat) => PyData.int (n : Int))
  | [] => .nil
  | n :: r => .cons (.int _) (dp_nints r)
theorem lay_ints : ∀ l : List Nat, PyData.canLayAll0 (l.map fun (n : Nat) => PyData.int (n : Int)) = true
  | [] => by simp [PyData.canLayAll0]
  | n :: r => by
    simp only [List.map_cons, PyData.canLayAll0, PyData.canLay0, Bool.true_and]
    exact lay_ints r
theorem dp0_ints : ∀ l : List Nat, PyData.depthAll (l.map fun (n : Nat) => PyData.int (n : Int)) = 0
  | [] => by simp [PyData.depthAll]
  | n :: r => by
    simp only [List.map_cons, PyData.depthAll, PyData.depth, dp0_ints r]
    decide
/-- two lists of the same numbers are equal -/
theorem rd_ne_ints {H : Hp} {Q : VK} {a b : Addr} {l : List Nat} (ha : H a = some (.lst (nints l))) (hb : H b = some (.lst (nints l))) (q : Q (.bl false) H) : rNeD K (.ref a) (.ref b) H Q := by
  have hc : (PyData.list (l.map fun (n : Nat) => PyData.int (n : Int))).canLay0 = true := by
    simp only [PyData.canLay0]
    exact lay_ints l
  have hs : SeqAt.shaped (PyData.list (l.map fun (n : Nat) => PyData.int (n : Int))) = true := by
    unfold SeqAt.shaped
    rw [hc]
    simp only [PyData.depth, dp0_ints]
    decide
  refine ⟨_, _, .lst (SqL.of ha) (dp_nints l), .lst (SqL.of hb) (dp_nints l), hs, hs, ?_⟩
  rw [SeqAt.eqv_refl _ hc]
  exact q
abbrev s_law : Stmt := top 53
theorem sc_law : FnScope ["_law_script", "_law_state_here", "_law_operations_here", "_law_given", "_law_stages_here", "_law_kept", "_law_due", "_law_actual", "_law_limit", "_law_flat", "_law_step_here", "_law_left", "_law_right", "_law_steps", "_law_end"] ["_law_script"] (defScope s_law) := ⟨rfl, rfl, rfl, by decide +kernel, rfl, by decide +kernel, by decide +kernel⟩
def sp_law (K : PySem.W.Frag) : Sp := fun vs H Q _ => ∃ (a : Addr) (ns : List Int), vs = [.ref a] ∧ SqL K H a (ns.map V.int) ∧ ∀ H', Q (.bl true) H'
theorem sinv_stb {G : List Eqn} {gs : List Stg} (I : SInv G gs) (hn : gs.length ≤ 5) : ∀ g : Stg, g ∈ gs → SgB g := by
  intro g hg
  have hb := bs_le hn
  have hgl := I.gl
  obtain ⟨h1, h2, h3, h4⟩ := I.stg g hg
  refine ⟨⟨h1.nm, occ_lt h1.vr, by have := h1.sz; omega, by have := h1.dp; omega⟩, ⟨h2.nm, occ_lt h2.vr, by have := h2.sz; omega, by have := h2.dp; omega⟩, h3, fun s hs => ?_⟩
  have hs4 := h4 s hs
  obtain ⟨k, hk⟩ := List.mem_iff_getElem?.mp hg
  have hix := leads_ix (I.der k g hk) s hs
  rw [List.length_take] at hix
  refine ⟨by omega, by have := hs4.pl; omega, fun k hk => by have := hs4.pk k hk; omega, keys_len hs4.nd hs4.rg, fun p hp => ?_⟩
  have hr := hs4.rg p.1 (List.mem_map.mpr ⟨p, hp, rfl⟩)
  obtain ⟨v1, v2, v3, v4⟩ := hs4.vl p hp
  exact ⟨by omega, by omega, by omega, by omega, v3, occ_lt v4⟩
theorem sinv_ss {G : List Eqn} {gs : List Stg} (I : SInv G gs) (hn : gs.length ≤ 5) : (∀ g, g ∈ gs → g.ss.length ≤ 100 ∧ ∀ s : Stp, s ∈ g.ss → s.pos.length ≤ 500) ∧ (∀ f, f ∈ fl gs → f.length ≤ 100 ∧ ∀ s : Stp, s ∈ f → Okp s) ∧ (∀ e : Eqn, e ∈ G → EqB e) := by
  have hb := bs_le hn
  refine ⟨fun g hg => ?_, fun f hf => ?_, fun e he => ?_⟩
  · obtain ⟨_, _, h3, h4⟩ := I.stg g hg
    exact ⟨by omega, fun s hs => by have := (h4 s hs).pl; omega⟩
  · obtain ⟨h1, h2⟩ := I.fls f hf
    refine ⟨by omega, fun s hs => ?_⟩
    have h3 := h2 s hs
    have h5 := h3.len
    have h6 := h3.pos
    exact ⟨h3.nd, by omega, by omega, fun p hp => by have := h3.val p hp; exact ⟨by omega, by omega⟩⟩
  · obtain ⟨h1, h2, h3, h4⟩ := I.eqs e he
    exact ⟨by omega, by omega, by omega, by omega⟩
abbrev N_law : List Str := ["_law_script", "_law_state_here", "_law_operations_here", "_law_given", "_law_stages_here", "_law_kept", "_law_due", "_law_actual", "_law_limit", "_law_flat", "_law_step_here", "_law_left", "_law_right", "_law_steps", "_law_end"]
theorem law_body (B : Bi mg) {C : Addr} (S : Sl K mg C) (k_l_state : Kn P w K mg base CX0 1 "_law_state" ["_law_script"] (sp_state K)) (k_l_operations : Kn P w K mg base CX0 6 "_law_operations" ["_law_state_here"] sp_ops)
    (k_l_stages : Kn P w K mg base CX0 45 "_law_stages" ["_law_state_here", "_law_operations_here", "_law_many"] sp_stages) (k_l_draw : Kn P w K mg base CX0 3 "_law_draw" ["_law_state_here", "_law_many"] sp_draw)
    (k_l_length : Kn P w K mg base CX0 1 "_law_length" ["_law_stages_here"] sp_flat_length) (k_flat_length : Kn P w K mg base CX0 1 "flat_length" ["stages"] sp_flat_length) (k_l_is_integer : Kn P w K mg base CX0 1 "_law_is_integer" ["_law_actual"] sp_is_integer)
    (k_used : Kn P w K mg base CX0 2 "used" ["stages"] sp_used) (k_l_used : Kn P w K mg base CX0 1 "_law_used" ["_law_given", "_law_stages_here"] sp_l_used) (k_flatten : Kn P w K mg base (L2.CX P w) 45 "flatten" ["stages", "limit"] (sp_flatten C))
    (k_l_follow : Kn P w K mg base CX0 43 "_law_follow" ["_law_given", "_law_stages_here", "_law_term_here", "_law_steps"] sp_follow) (k_l_same : Kn P w K mg base CX0 41 "_law_same" ["_law_first", "_law_second"] (sp_same 40))
    (k_l_refused : Kn P w K mg base CX0 46 "_law_refused" ["_law_stages_here", "_law_limit"] sp_refused)
    {f : Addr} {cdv : Value} {A : Around} {outer : List Env} {s : Shared} {H : Hp} {vs : List V} {Q : VK} {E : XK} (hg : (A.deeper (PyProof.Rows.envOfC "law" (defScope s_law) s.heap.objs.size f cdv)).guards = some [])
    (hr : Room 46 (A.deeper (PyProof.Rows.envOfC "law" (defScope s_law) s.heap.objs.size f cdv))) (h : sp_law K vs H Q E) :
    ∃ t, PSs (cxOf CX0 P w K mg base N_law "law" (defScope s_law) f cdv A outer s H E).nox (defBody s_law) t ∧ t { nx := fun _ H' => Q .non H', rt := Q } (start N_law vs) H := by
  obtain ⟨a, ns, rfl, hS, q⟩ := h
  refine ⟨_, (pss_cons (ps_set (i := 1) sc_law.nd rfl (.inl rfl) (pe_kn k_l_state (hr.mono (by omega)) (pa_cons (pv 0) pa_nil)))
      (pss_cons (ps_set (i := 2) sc_law.nd rfl (.inl rfl) (pe_kn k_l_operations (hr.mono (by omega)) (pa_cons (pv 1) pa_nil)))
      (pss_cons (ps_asg (pe_kn k_l_stages (hr.mono (by omega)) (pa_cons (pv 1) (pa_cons (pv 2) (pa_cons (pe_op op_add pe_int (pe_kn k_l_draw (hr.mono (by omega)) (pa_cons (pv 1) (pa_cons pe_int pa_nil)))) pa_nil)))) (pg_tup rfl (pgs_cons (pg_name (i := 3) sc_law.nd rfl (.inl rfl)) (pgs_cons (pg_name (i := 4) sc_law.nd rfl (.inl rfl)) pgs_nil))))
      (pss_cons (ps_set (i := 5) sc_law.nd rfl (.inl rfl) (pe_callB (call_repr hg hr) (by rfl) B.m_repr (by decide +kernel) (pa_cons (pv 4) pa_nil)))
      (pss_cons (ps_set (i := 6) sc_law.nd rfl (.inl rfl) (pe_kn k_l_length (hr.mono (by omega)) (pa_cons (pv 4) pa_nil)))
      (pss_cons (ps_set (i := 7) sc_law.nd rfl (.inl rfl) (pe_kn k_flat_length (hr.mono (by omega)) (pa_cons (pe_callTy call_list_of (by rfl) B.m_list (by decide +kernel) (pa_cons (pv 4) pa_nil)) pa_nil)))
      (pss_cons (ps_if (PW.pt (pw_or (pt_not (pt_val (pe_kn k_l_is_integer (hr.mono (by omega)) (pa_cons (pv 7) pa_nil)))) (pw_or1 (pt_cmpR op_ne (pv 7) (pv 6) (nomark _))))) (pss_one (ps_ret pe_bl)) pss_nil)
      (pss_cons (ps_if (pt_cmpR (op_neD hr.units) (pe_kn k_used (hr.mono (by omega)) (pa_cons (pe_callTy call_list_of (by rfl) B.m_list (by decide +kernel) (pa_cons (pv 4) pa_nil)) pa_nil)) (pe_kn k_l_used (hr.mono (by omega)) (pa_cons (pv 3) (pa_cons (pv 4) pa_nil))) (nomark _)) (pss_one (ps_ret pe_bl)) pss_nil)
      (pss_cons (ps_for PassesOwn.never rfl (pi_list (pe_lst (pa_cons (pv 6) (pa_cons (pe_op op_add (pe_op op_add (pv 6) pe_int) (pe_kn k_l_draw (hr.mono (by omega)) (pa_cons (pv 1) (pa_cons pe_int pa_nil)))) pa_nil)))) (pg_name (i := 8) sc_law.nd rfl (.inl rfl)) (pss_cons (ps_set (i := 9) sc_law.nd rfl (.inl rfl) (pe_knL k_flatten (hr.mono (by omega)) (pa_cons (pe_callTy call_list_of (by rfl) B.m_list (by decide +kernel) (pa_cons (pv 4) pa_nil)) (pa_cons (pv 8) pa_nil))))
      (pss_cons (ps_if (PW.pt (pw_or (pt_not (pt_val (pe_callB call_isi (by rfl) B.m_isinstance (by decide +kernel) (pa_cons (pv 9) (pa_cons (pe_ty (n := "list") B.m_list (by decide +kernel)) pa_nil))))) (pw_or1 (pt_cmpR op_ne (pe_callB call_len_seq (by rfl) B.m_len PySem.boot_len (pa_cons (pv 9) pa_nil)) (pv 6) (nomark _))))) (pss_one (ps_ret pe_bl)) pss_nil)
      (pss_cons (ps_for PassesOwn.never rfl (pi_list (pv 9)) (pg_name (i := 10) sc_law.nd rfl (.inl rfl)) (pss_one (ps_if (pt_cmpR op_ne (pe_ix ix_tup (pe_ix ix_tup (pv 10) pe_int (fun _ _ => rfl)) pe_int (fun _ _ => rfl)) pe_str (nomark _)) (pss_one (ps_ret pe_bl)) pss_nil)))
      (pss_cons (ps_asg (pe_ix ix_list (pv 4) (pe_op op_sub (pe_callB call_len_seq (by rfl) B.m_len PySem.boot_len (pa_cons (pv 4) pa_nil)) pe_int) (fun _ _ => rfl)) (pg_tup rfl (pgs_cons (pg_name (i := 11) sc_law.nd rfl (.inl rfl)) (pgs_cons (pg_name (i := 12) sc_law.nd rfl (.inl rfl)) (pgs_cons (pg_name (i := 13) sc_law.nd rfl (.inl rfl)) pgs_nil)))))
      (pss_cons (ps_set (i := 14) sc_law.nd rfl (.inl rfl) (pe_kn k_l_follow (hr.mono (by omega)) (pa_cons (pv 3) (pa_cons (pe_lst pa_nil) (pa_cons (pv 11) (pa_cons (pv 9) pa_nil))))))
      (pss_one (ps_if (PW.pt (pw_or (pt_cmpR op_isN (pv 14) pe_non (nomark _)) (pw_or1 (pt_not (pt_val (pe_kn k_l_same (hr.mono (by omega)) (pa_cons (pv 14) (pa_cons (pv 12) pa_nil)))))))) (pss_one (ps_ret pe_bl)) pss_nil))))))))
      (pss_cons (ps_if (PW.pt (pw_and (pt_cmpR op_gt (pv 6) pe_int (nomark _)) (pw_and1 (pt_not (pt_val (pe_kn k_l_refused (hr.mono (by omega)) (pa_cons (pe_callTy call_list_of (by rfl) B.m_list (by decide +kernel) (pa_cons (pv 4) pa_nil)) (pa_cons (pe_op op_sub (pv 6) pe_int) pa_nil)))))))) (pss_one (ps_ret pe_bl)) pss_nil)
      (pss_one (ps_ret (pe_cmpR op_eq (pe_callB (call_repr hg hr) (by rfl) B.m_repr (by decide +kernel) (pa_cons (pv 4) pa_nil)) (pv 5) (nomark _)))))))))))))), ?_⟩
  walk_at "go"
  refine ⟨a, ns, rfl, hS, fun st scr H1 st1 => ?_⟩
  walk_at "go"
  refine ⟨st, scr, rfl, st1, fun O H2 b2 st2 ho => ?_⟩
  walk_at "go"
  refine ⟨st, scr, 5, rfl, st2, by decide, by decide, fun n3 H3 hn3 b3 st3 => ?_⟩
  walk_at "go"
  refine ⟨st, scr, O, 1 + n3, by rw [show ((1 + n3 : Nat) : Int) = 1 + (n3 : Int) by omega]; rfl, st3, ho.kp (b3.kp st2), by omega, by omega, fun a4 LG LS G gs H4 b4 st4 ha hG hgs nG nS hI hgl => ?_⟩
  have hgl5 : gs.length ≤ 5 := by omega
  have hne : gs ≠ [] := fun z => by
    rw [z] at hgl
    simp at hgl
    omega
  have hwf := hI.der.wf
  have hGl := hI.gl
  obtain ⟨hz1, hz2, hz3⟩ := stgs_len hgl5 (sinv_stb hI hgl5)
  obtain ⟨hss, hok, hEq⟩ := sinv_ss hI hgl5
  obtain ⟨vs0, eLS, hvs⟩ := id hgs
  have hvl := Paired.length hvs
  have cp : ∀ {H' : Hp} {l : Addr}, Same H4 H' → H' l = none → StgsAt (upd H' l (.lst vs0)) gs l := fun {H' l} k hl => stgs_copy (pr_mono hvs fun _ _ z => z.kp (kp_of k)) hl
  refine rd_gtup (SqT.of ha) rfl ?_
  walk_at "go"
  refine ⟨LS, gs, rfl, hgs, hne, hz1, hz2, hz3, ?_⟩
  walk_at "go"
  refine ⟨gs, LS, rfl, hgs, hne, hwf, by omega, fun H5 s5 => ?_⟩
  walk_at "go"
  refine ⟨LS, vs0, rfl, .inl (SqL.of (s5 _ _ eLS)), fun l6 hl6 => ?_⟩
  have s6 := s5.trans (same_new (o := .lst vs0) hl6)
  refine ⟨gs, l6, rfl, cp s5 hl6, hne, hwf, by omega, fun H7 s7' => ?_⟩
  have s7 := s6.trans s7'
  walk_at "go"
  refine ⟨_, rfl, ?_⟩
  walk_at "go"
  refine iteF ?_
  walk_at "go"
  rw [decide_eq_true rfl]
  refine iteF ?_
  walk_at "go"
  refine ⟨LS, vs0, rfl, .inl (SqL.of (s7 _ _ eLS)), fun l8 hl8 => ?_⟩
  have s8 := s7.trans (same_new (o := .lst vs0) hl8)
  refine ⟨gs, l8, G.length, rfl, cp s7 hl8, hI.nmd, by omega, fun H9 M9 s9' eM9 => ?_⟩
  have s9 := s8.trans s9'
  walk_at "go"
  refine ⟨G, gs, LG, LS, rfl, hG.sm s9, hgs.sm s9, hI.nmd, by omega, fun H10 M10 s10' eM10 => ?_⟩
  have s10 := s9.trans s10'
  refine rd_ne_ints (s10' _ _ eM9) eM10 ?_
  walk_at "go"
  refine iteF ?_
  walk_at "go"
  refine ⟨st, scr, 9, rfl, stok_sm s10 st4, by decide, by decide, fun n11 H11 hn11 b11 st11 => ?_⟩
  walk_at "go"
  refine ⟨by show 2 ≤ sizeLine; decide, fun LL hLL => ?_⟩
  have k11 := (kp_of s10).trans (b11.kp (stok_sm s10 st4))
  have s12 := same_new (o := .lst [.int (lastLen gs : Nat), .int (((lastLen gs : Nat) : Int) + 1 + (n11 : Int))]) hLL
  have kA := k11.trans (kp_of s12)
  have hgsA := hgs.kp kA
  have hGA := hG.kp kA
  obtain ⟨vsA, eLSA, hvsA⟩ := id hgsA
  have hvlA := Paired.length hvsA
  generalize hHA : upd H11 LL (.lst [.int (lastLen gs : Nat), .int (((lastLen gs : Nat) : Int) + 1 + (n11 : Int))]) = HA at s12 kA hgsA hGA eLSA hvsA
  have eLL : HA LL = some (.lst [.int (lastLen gs : Nat), .int (((lastLen gs : Nat) : Int) + 1 + (n11 : Int))]) := by
    rw [← hHA]
    exact upd_same
  have cpA : ∀ {H' : Hp} {l : Addr}, Same HA H' → H' l = none → StgsAt (upd H' l (.lst vsA)) gs l := fun {H' l} k hl => stgs_copy (pr_mono hvsA fun _ _ z => z.kp (kp_of k)) hl
  have hpos : 0 < gs.length := by omega
  obtain ⟨gl, hgl0⟩ : ∃ g, gs[gs.length - 1]? = some g := ⟨_, List.getElem?_eq_getElem (by omega)⟩
  have hlead := hI.mid _ gl hgl0
  have hbs := bs_le hgl5
  have hlB := leadsM_B (by omega) (by omega) hEq hlead
  have hgst := hI.stg gl (List.mem_of_getElem? hgl0)
  have hrs := hgst.2.1.sz
  have hrd := hgst.2.1.dp
  walk_at "go"
  refine ⟨⟨_, SqL.of eLL⟩, for_list (xs := [.int (lastLen gs : Nat), .int (((lastLen gs : Nat) : Int) + 1 + (n11 : Int))]) (fun i σ H' => ∃ (y8 y9 y10 y11 y12 y13 y14 : Option V), σ = [some (.ref a), some (.ref st), some (.ref O), some (.ref LG), some (.ref LS), some (.str (PyData.list (gs.map pStg)).shown), some (.int (lastLen gs : Nat)), some (.int (lastLen gs : Nat)), y8, y9, y10, y11, y12, y13, y14] ∧ Same HA H')
    ⟨none, none, none, none, none, none, none, rfl, Same.refl HA⟩ (fun i σ H' _ ⟨_, _, _, _, _, _, _, _, sm⟩ => SqL.of (sm _ _ eLL)) ?_ ?_⟩
  · rintro i x σ H' hx ⟨y8, y9, y10, y11, y12, y13, y14, rfl, sm⟩
    obtain ⟨lim, rfl, hlim⟩ : ∃ lim : Int, x = .int lim ∧ ((lastLen gs : Nat) : Int) ≤ lim := by
      match i, hx with
      | 0, hx =>
        cases hx
        exact ⟨_, rfl, Int.le_refl _⟩
      | 1, hx =>
        cases hx
        exact ⟨_, rfl, by omega⟩
    walk_at "go"
    refine ⟨LS, vsA, rfl, .inl (SqL.of (sm _ _ eLSA)), fun l hl => ?_⟩
    have sm1 := sm.trans (same_new (o := .lst vsA) hl)
    walk_at "go"
    refine ⟨gs, l, lim, rfl, cpA sm hl, hne, hwf, by omega, hss, hok, fun z => absurd z (by omega), fun _ R H13 s13' hR => ?_⟩
    have s13 := sm1.trans s13'
    obtain ⟨ws, eR, hws⟩ := id hR
    have hwl : ws.length = lastLen gs := by rw [← Paired.length hws, fl_last]
    walk_at "go"
    refine rd_isL eR ?_
    walk_at "go"
    refine iteF ?_
    walk_at "go"
    refine ⟨R, _, rfl, .inl (SqL.of eR), ?_⟩
    walk_at "go"
    rw [decide_eq_true (show ((ws.length : Nat) : Int) = ((lastLen gs : Nat) : Int) by rw [hwl])]
    refine iteF ?_
    walk_at "go"
    refine ⟨⟨_, SqL.of eR⟩, for_list (xs := ws) (fun j σ H' => H' = H13 ∧ ∃ y10 : Option V, σ = [some (.ref a), some (.ref st), some (.ref O), some (.ref LG), some (.ref LS), some (.str (PyData.list (gs.map pStg)).shown), some (.int (lastLen gs : Nat)), some (.int (lastLen gs : Nat)), some (.int lim), some (.ref R), y10, y11, y12, y13, y14])
      ⟨rfl, y10, rfl⟩ (fun j σ H' _ ⟨e, _⟩ => by rw [e]; exact SqL.of eR) ?_ ?_⟩
    · rintro j x σ H' hx ⟨rfl, z10, rfl⟩
      obtain ⟨stp, hst, b, sa, pa, da, rfl, hb, hsa, hpa, hda⟩ := pr_ofget hws hx
      walk_at "go"
      refine rd_ixT (SqT.of hb) (atI_nat (j := 0) rfl) ?_
      walk_at "go"
      refine rd_ixT (SqT.of hsa) (atI_nat (j := 0) rfl) ?_
      walk_at "go"
      rw [srcS_given, hlead.giv stp (List.mem_of_getElem? hst)]
      refine iteF ?_
      walk_at "go"
      exact ⟨rfl, _, rfl⟩
    · rintro σ H' ⟨rfl, z10, rfl⟩
      walk_at "go"
      refine ⟨LS, _, rfl, .inl (SqL.of (s13 _ _ eLSA)), ?_⟩
      walk_at "go"
      rw [show ((vsA.length : Nat) : Int) - 1 = ((gs.length - 1 : Nat) : Int) by omega]
      obtain ⟨xg, hxg, hgx⟩ := pr_get hvsA hgl0
      obtain ⟨ga, v1, v2, gL, rfl, hga, hv1, hv2, _⟩ := hgx.kp (kp_of s13)
      refine rd_ixL (SqL.of (s13 _ _ eLSA)) (atI_nat hxg) ?_
      refine rd_gtup (SqT.of hga) rfl ?_
      walk_at "go"
      refine ⟨Nat.zero_le _, fun LE hLE => ?_⟩
      have s14' := same_new (o := .lst []) hLE
      have s14 := s13.trans s14'
      walk_at "go"
      refine ⟨LG, LE, R, G, _, gl.l, gl.r, v1, rfl, hGA.sm s14, upd_same, hv1.sm s14', hR.sm s14', hlB, fun y H15 s15' hy => ?_⟩
      have s15 := s14.trans s15'
      walk_at "go"
      refine ⟨rfl, ?_⟩
      walk_at "go"
      rw [decide_eq_false (at_ne hy)]
      refine iteF ?_
      walk_at "go"
      refine ⟨gl.r, y, v2, rfl, hy, (hv2.sm s14').sm s15', by omega, by omega, ?_⟩
      walk_at "go"
      refine iteF ?_
      walk_at "go"
      exact ⟨_, _, _, _, _, _, _, rfl, s15⟩
  · rintro σ H' ⟨y8, y9, y10, y11, y12, y13, y14, rfl, sm⟩
    have fin : ∀ (H' : Hp), Same HA H' → (fun xs (H : Hp) (Q : VK) => ∃ (L : Addr) (gs : List Stg), xs = [V.ref L] ∧ StgsAt H gs L ∧ gs ≠ [] ∧ (∀ g : Stg, g ∈ gs → ShG g) ∧ (PyData.list (gs.map pStg)).shown.length ≤ sizeLine ∧ PyData.depthAll (gs.map pStg) ≤ 150 ∧ Q (.str (PyData.list (gs.map pStg)).shown) H) [V.ref LS] H' (fun v H2 => v = .str (PyData.list (gs.map pStg)).shown) := fun H' sm => ⟨LS, gs, rfl, hgsA.sm sm, hne, hz1, hz2, hz3, rfl⟩
    walk_at "go"
    by_cases h0 : 0 < lastLen gs
    · rw [decide_eq_true (show ((lastLen gs : Nat) : Int) > 0 by omega)]
      refine iteT ?_
      walk_at "go"
      refine ⟨LS, vsA, rfl, .inl (SqL.of (sm _ _ eLSA)), fun l hl => ?_⟩
      have sm1 := sm.trans (same_new (o := .lst vsA) hl)
      walk_at "go"
      refine ⟨gs, l, _, rfl, cpA sm hl, hne, hwf, by omega, hss, hok, by omega, fun H17 s17' => ?_⟩
      have s17 := sm1.trans s17'
      walk_at "go"
      refine iteF ?_
      walk_at "go"
      refine ⟨LS, gs, rfl, hgsA.sm s17, hne, hz1, hz2, hz3, ?_⟩
      walk_at "go"
      rw [decide_eq_true rfl]
      exact q H17
    · rw [decide_eq_false (show ¬ ((lastLen gs : Nat) : Int) > 0 by omega)]
      refine iteF ?_
      refine iteF ?_
      walk_at "go"
      refine ⟨LS, gs, rfl, hgsA.sm sm, hne, hz1, hz2, hz3, ?_⟩
      walk_at "go"
      rw [decide_eq_true rfl]
      exact q H'
end
end K18
set_option Elab.async false
set_option linter.all false
set_option maxRecDepth 100000
set_option maxHeartbeats 1000000
/-! A law's def run by the caller itself: there no repr is under way. -/
namespace K18
open PySem PySem.Spec L2
section
variable {P : Program} {w : World} {K : PySem.W.Frag} {mg : Str → Option Value} {base : Heap}
/-- the law, called with a list of ints by the caller, answers True -/
def Runs (P : Program) (w : World) (K : PySem.W.Frag) (mg : Str → Option Value) (base : Heap) (fa : Addr) : Prop :=
  ∀ (st : Shared) (H : Hp) (a : Addr) (ns : List Int), Env0 P w K mg base callerA [] st H → SqL K H a (ns.map V.int) →
    codeAny (model P w) callerA (.call (.ref fa) ⟨[.ref a], []⟩) (CR CX0 [] P w H st (fun v _ => v = .bl true) E0) st
theorem runs_of {x p : Str} {sd : Stmt} {N : List Str} {f : Addr} {fd : FuncData} {sp : Sp} (S : FnScope N [p] (defScope sd)) (F : Fun K x x sd f fd) (bnd : ∀ (z : Shared) (u : Value), BindsTo z fd ⟨[u], []⟩ [(p, u)])
    (spl : ∀ (H : Hp) (a : Addr) (ns : List Int), SqL K H a (ns.map V.int) → sp [.ref a] H (fun v _ => v = .bl true) E0) (room : callerA.depth < recursionLimit)
    (body : ∀ (cdv : Value) (st : Shared) (H : Hp) (vs : List V) (Q : VK) (E : XK), sp vs H Q E →
      ∃ t, PSs (cxOf CX0 P w K mg base N x (defScope sd) f cdv callerA [] st H E).nox (defBody sd) t ∧ t { nx := fun _ H' => Q .non H', rt := Q } (start N vs) H) : Runs P w K mg base f := by
  intro st H a ns en hS
  obtain ⟨oc, od, kV, doc, pm, an, cdv, ct, osl, rfl, look, code⟩ := F.ex
  have inS : K.In st.heap := en.mod.kin.keeps (fun b o z => And.left (en.bs b o z))
  have par : ∀ y ∈ [(p, Value.ref a)], (defScope sd).names.lookup y.1 = some .local ∨ ((defScope sd).names.lookup y.1 = some .cell ∧ ((cellsFrom (st.heap.objs.size + 1) (defScope sd).names []).lookup y.1).isSome = true) := by
    intro y hy
    have e := List.mem_singleton.mp hy
    rw [e]
    exact Or.imp id (fun z => And.intro z (PySem.W.cellsFrom_some _ _ _ (Or.inl z))) (S.par p List.mem_cons_self)
  refine codeAny_call_function room (inS _ _ look) rfl S.co S.gen rfl (PySem.W.codeRec_of inS code) (bnd st (.ref a) _ _ _ _ ?_)
  refine wpAny_newFunctionEnv_cells S.kind par (fun env eq s2 inCall => ?_)
  subst eq
  refine And.intro ((en.mod.nolimit.keeps (fun b o z => And.left (en.bs b o z))).keeps inCall.toInCall.keep) (codeAny_func ?_)
  obtain ⟨t, pt, qt⟩ := body cdv st H [.ref a] (fun v _ => v = .bl true) E0 (spl H a ns hS)
  have inv : Inv (cxOf CX0 P w K mg base N x (defScope sd) f cdv callerA [] st H E0) [] (start N [.ref a]) H s2 :=
    inv_start S rfl en rfl (.cons rfl .nil) inCall
  refine wpAny_mono (pt.nox.run [] s2 _ H _ inv qt) (fun fl s3 res => ?_) (fun _ _ z => z)
  cases fl with
  | ret u =>
    obtain ⟨v, σ1, H1, J, rv, q⟩ := res
    exact Exists.intro v (Exists.intro H1 ⟨J.os, J.bare, J.base, J.hok, rv, q⟩)
  | next =>
    obtain ⟨σ1, H1, J, q⟩ := res
    have q : V.non = V.bl true := q
    cases q
  | brk => exact (match res with | ⟨_, _, _, q⟩ => False.elim q)
  | cont => exact (match res with | ⟨_, _, _, q⟩ => False.elim q)
end
end K18
set_option Elab.async false
set_option linter.all false
set_option maxRecDepth 100000
set_option maxHeartbeats 1000000
/-! From the def's run to the walk that the head asks for. -/
namespace K18
open PySem PySem.Spec L2 PyProof.Rows
section
variable {P : Program} {w : World} {K : PySem.W.Frag} {mg mb : Str → Option Value} {fa a : Addr} {st : Shared} {vs : List Value} {ns : List Int}
theorem top_core (KX : K.In st.heap) (gl : st.heap.Ns mainGlobals mg) (bu : st.heap.Ns builtinsNs mb) (bb : ∀ x : Str, x ≠ "__name__" → mb x = bootBuiltins x) (li : st.heap.NoLimit) (ge : st.gens = #[])
    (ha : st.heap.get? a = some { cls := .type "list", data := .seq vs.toArray }) (R : ∀ base : Heap, K.In base → base.Ns mainGlobals mg → Runs P w K mg base fa)
    {H : Hp} (ok : HOk P w H st.heap) (own : ∀ b u, H b = some u → b = a ∧ K.lookup a = none ∧ ∃ o xs, u = .frz o (.lst xs)) (hS : SqL K H a (ns.map V.int)) :
    codeAny (model P w) callerA (.call (.ref fa) ⟨[.ref a], []⟩) (fun r s' => r = .ok (.ret (.bool true)) ∧ OldK st.heap s'.heap ∧ s'.os = st.os ∧ AllBare s'.gens) st := by
  have freeK : ∀ b o, K.lookup b = some o → H b = none := fun b o z => by
    cases e : H b with
    | none => rfl
    | some u =>
      obtain ⟨e1, e2, _⟩ := own b u e
      rw [e1, e2] at z
      cases z
  have freeD : ∀ b m, st.heap.Ns b m → H b = none := fun b m ⟨o, es, ep, z, d, _⟩ => by
    cases e : H b with
    | none => rfl
    | some u =>
      obtain ⟨e1, _⟩ := own b u e
      rw [e1, ha] at z
      cases z
      have d : Data.seq vs.toArray _ = Data.dict es ep := d
      cases d
  have nsT : ∀ b m, st.heap.Ns b m → (hidT st.heap H).Ns b m := fun b m n => by
    have fr := freeD b m n
    obtain ⟨o, es, ep, z, d, r⟩ := n
    exact ⟨o, es, ep, hidT_get z fr, d, r⟩
  have kT : K.In (hidT st.heap H) := fun b o z => hidT_get (KX b o z) (freeK b o z)
  have limT : (hidT st.heap H).NoLimit := by
    obtain ⟨m, n1, n2⟩ := li
    exact ⟨m, nsT _ _ n1, n2⟩
  have en : Env0 P w K mg (hidT st.heap H) callerA [] st H :=
    { frames := rfl, mod := ⟨kT, nsT _ _ gl, ⟨mb, nsT _ _ bu, bb⟩, limT⟩, bs := fun b o z => of_hidT z, bsz := Nat.le_of_eq (hidT_size _ _), funs := trivial, frf := fun b z => (nomatch (show b ∈ ([] : List Addr) from z)), hok := ok, bare := .of_eq ge }
  refine codeAny_mono (R _ kT (nsT _ _ gl) st H a ns en hS) (fun r s' res => ?_)
  cases r with
  | error e => exact False.elim res
  | ok fl =>
    cases fl with
    | ret u =>
      obtain ⟨v, H', os, bare, un, ok', rv, q⟩ := res
      have q : v = .bl true := q
      rw [q] at rv
      have rv : u = Value.bool true := rv
      rw [rv]
      refine And.intro rfl (And.intro (OldK.of_keep (fun b o z => ?_)) (And.intro os bare))
      cases e : H b with
      | none => exact un.keep b o z e (fun y => (nomatch (show b ∈ ([] : List Addr) from y))) (fun y => (nomatch (show b ∈ ([] : List Addr) from y)))
      | some u =>
        obtain ⟨_, _, ob, xs, rfl⟩ := own b u e
        have o1 := (ok b _ e).1
        have o2 := (ok' b _ (un.frzs b ob _ e)).1
        rw [z] at o1
        cases o1
        exact o2
    | next => exact False.elim res
    | brk => exact False.elim res
    | cont => exact False.elim res
theorem top_law (KX : K.In st.heap) (gl : st.heap.Ns mainGlobals mg) (bu : st.heap.Ns builtinsNs mb) (bb : ∀ x : Str, x ≠ "__name__" → mb x = bootBuiltins x) (li : st.heap.NoLimit) (ge : st.gens = #[])
    (ha : st.heap.get? a = some { cls := .type "list", data := .seq vs.toArray }) (hi : IntsAre vs ns) (hl : ns.length ≤ sizeLine) (R : ∀ base : Heap, K.In base → base.Ns mainGlobals mg → Runs P w K mg base fa) :
    codeAny (model P w) callerA (.call (.ref fa) ⟨[.ref a], []⟩) (fun r s' => r = .ok (.ret (.bool true)) ∧ OldK st.heap s'.heap ∧ s'.os = st.os ∧ AllBare s'.gens) st := by
  have rv := vals_ints hi
  have lv := hi.length
  cases k : K.lookup a with
  | some o =>
    have e := KX a o k
    rw [ha] at e
    cases e
    refine top_core KX gl bu bb li ge ha R (H := fun _ => none) (fun b u z => ?_) (fun b u z => ?_) (ns := ns) ?_
    · have z : (none : Option HO) = some u := z
      cases z
    · have z : (none : Option HO) = some u := z
      cases z
    · exact .inr ⟨_, vs.toArray, _, k, rfl, rfl, rfl, by rw [List.size_toArray, lv]; exact hl, by simpa using rv⟩
  | none =>
    have hH : ∀ b u, (if b = a then some (HO.frz { cls := .type "list", data := .seq vs.toArray } (.lst (ns.map V.int))) else none) = some u → b = a ∧ u = .frz { cls := .type "list", data := .seq vs.toArray } (.lst (ns.map V.int)) := fun b u z => by
      by_cases e : b = a
      · rw [if_pos e] at z
        exact ⟨e, (Option.some.inj z).symm⟩
      · rw [if_neg e] at z
        cases z
    refine top_core KX gl bu bb li ge ha R (H := fun b => if b = a then some (.frz { cls := .type "list", data := .seq vs.toArray } (.lst (ns.map V.int))) else none) (fun b u z => ?_) (fun b u z => ?_) (ns := ns) ?_
    · obtain ⟨e1, e2⟩ := hH b u z
      rw [e1, e2]
      exact ⟨ha, by rw [List.length_map]; exact hl, vs, _, rv, ha⟩
    · obtain ⟨e1, e2⟩ := hH b u z
      exact ⟨e1, k, _, _, e2⟩
    · exact .inl (.inr ⟨{ cls := .type "list", data := .seq vs.toArray }, if_pos rfl⟩)
end
/-- the walk, from the def's run -/
theorem walk_top {l : PySem.W.OpenLaw} {n : Nat} {q : Program} {loose : List Str} {XP : (Str → Option Value) → Heap → Prop} {YP : World → Heap → Prop} {d : DefRec} {K : Params → PySem.W.Frag} (hn : l.most = some n) (hn2 : n ≤ sizeLine) (hdf : d.params.defaults = [])
    (hY : ∀ (w : World) (h : Heap), YP w h → (K w.params).In h)
    (R : ∀ (w : World) (mg : Str → Option Value) (fa : Addr) (h : Heap), (K w.params).In h → h.Ns mainGlobals mg → mg d.name = some (.ref fa) → ∀ base : Heap, (K w.params).In base → base.Ns mainGlobals mg → Runs l.prog w (K w.params) mg base fa) :
    PySem.W.WalkO q loose XP YP l.row.toRowW d [] (fun f vs => PySem.call f vs) := by
  refine Att.attach_call hn hdf (fun w s0 s1 mg mb fa o pm cd doc a vs ns G Y _ _ _ nam obj nums len gens => ?_)
  exact top_law (hY w _ Y) G.T.g G.T.b G.T.builtins G.T.nolimit gens obj nums (Nat.le_trans len hn2) (R w mg fa _ (hY w _ Y) G.T.g nam)
end K18
set_option Elab.async false
set_option linter.all false
set_option maxRecDepth 100000
set_option maxHeartbeats 1000000
/-! The defs' promises put together. -/
namespace K18
open PySem PySem.Spec L2
theorem de_mk {K : PySem.W.Frag} {h : Heap} {mg : Str → Option Value} {x : Str} {sd : Stmt} {ps : List Str} {f : Addr} {od an : Option Addr} {sl : Array (Option Value)} {oc kV dc pm cd ct : Value} (X : K.In h) (G : h.Ns mainGlobals mg)
    (a : PySem.W.nsIn K mainGlobals x = some (some (.ref f))) (l : K.lookup f = some ⟨oc, od, .func (PySem.W.fnOf x x (defArgs sd) (defBody sd) (defScope sd) .none kV dc pm an cd ct), sl⟩) (c : PySem.W.codeIn K cd x = true) (k : PySem.W.keepIn K (.ref f) = true)
    (hb : ∀ (kV doc pm : Value) (an : Option Addr) (cdv ct : Value) (us : List Value), us.length = ps.length → bindArgs (PySem.W.fnOf x x (defArgs sd) (defBody sd) (defScope sd) .none kV doc pm an cdv ct) ⟨us, []⟩ = pure (ps.zip us)) : De K mg x sd ps :=
  ⟨⟨f, _, fun_mk l c k, PySem.W.mg_of X G a, (fun_mk l c k).binds hb⟩⟩
theorem b_is_variable : ∀ (kV doc pm : Value) (an : Option Addr) (cdv ct : Value) (us : List Value), us.length = 1 → bindArgs (PySem.W.fnOf "is_variable" "is_variable" (defArgs s_is_variable) (defBody s_is_variable) (defScope s_is_variable) .none kV doc pm an cdv ct) ⟨us, []⟩ = pure ((["term"] : List Str).zip us) :=
  fun _ _ _ _ _ _ us hl => match us, hl with | [_], _ => rfl
theorem b_size : ∀ (kV doc pm : Value) (an : Option Addr) (cdv ct : Value) (us : List Value), us.length = 1 → bindArgs (PySem.W.fnOf "size" "size" (defArgs s_size) (defBody s_size) (defScope s_size) .none kV doc pm an cdv ct) ⟨us, []⟩ = pure ((["term"] : List Str).zip us) :=
  fun _ _ _ _ _ _ us hl => match us, hl with | [_], _ => rfl
theorem b_depth : ∀ (kV doc pm : Value) (an : Option Addr) (cdv ct : Value) (us : List Value), us.length = 1 → bindArgs (PySem.W.fnOf "depth" "depth" (defArgs s_depth) (defBody s_depth) (defScope s_depth) .none kV doc pm an cdv ct) ⟨us, []⟩ = pure ((["term"] : List Str).zip us) :=
  fun _ _ _ _ _ _ us hl => match us, hl with | [_], _ => rfl
theorem b_substitute : ∀ (kV doc pm : Value) (an : Option Addr) (cdv ct : Value) (us : List Value), us.length = 2 → bindArgs (PySem.W.fnOf "substitute" "substitute" (defArgs s_substitute) (defBody s_substitute) (defScope s_substitute) .none kV doc pm an cdv ct) ⟨us, []⟩ = pure ((["term", "substitution"] : List Str).zip us) :=
  fun _ _ _ _ _ _ us hl => match us, hl with | [_, _], _ => rfl
theorem b_is_wide : ∀ (kV doc pm : Value) (an : Option Addr) (cdv ct : Value) (us : List Value), us.length = 1 → bindArgs (PySem.W.fnOf "is_wide" "is_wide" (defArgs s_is_wide) (defBody s_is_wide) (defScope s_is_wide) .none kV doc pm an cdv ct) ⟨us, []⟩ = pure ((["term"] : List Str).zip us) :=
  fun _ _ _ _ _ _ us hl => match us, hl with | [_], _ => rfl
theorem b_reverse : ∀ (kV doc pm : Value) (an : Option Addr) (cdv ct : Value) (us : List Value), us.length = 1 → bindArgs (PySem.W.fnOf "reverse" "reverse" (defArgs s_reverse) (defBody s_reverse) (defScope s_reverse) .none kV doc pm an cdv ct) ⟨us, []⟩ = pure ((["steps"] : List Str).zip us) :=
  fun _ _ _ _ _ _ us hl => match us, hl with | [_], _ => rfl
theorem b_moved : ∀ (kV doc pm : Value) (an : Option Addr) (cdv ct : Value) (us : List Value), us.length = 2 → bindArgs (PySem.W.fnOf "moved" "moved" (defArgs s_moved) (defBody s_moved) (defScope s_moved) .none kV doc pm an cdv ct) ⟨us, []⟩ = pure ((["steps", "position"] : List Str).zip us) :=
  fun _ _ _ _ _ _ us hl => match us, hl with | [_, _], _ => rfl
theorem b_compose : ∀ (kV doc pm : Value) (an : Option Addr) (cdv ct : Value) (us : List Value), us.length = 2 → bindArgs (PySem.W.fnOf "compose" "compose" (defArgs s_compose) (defBody s_compose) (defScope s_compose) .none kV doc pm an cdv ct) ⟨us, []⟩ = pure ((["values", "substitution"] : List Str).zip us) :=
  fun _ _ _ _ _ _ us hl => match us, hl with | [_, _], _ => rfl
theorem b_instantiated : ∀ (kV doc pm : Value) (an : Option Addr) (cdv ct : Value) (us : List Value), us.length = 2 → bindArgs (PySem.W.fnOf "instantiated" "instantiated" (defArgs s_instantiated) (defBody s_instantiated) (defScope s_instantiated) .none kV doc pm an cdv ct) ⟨us, []⟩ = pure ((["steps", "substitution"] : List Str).zip us) :=
  fun _ _ _ _ _ _ us hl => match us, hl with | [_, _], _ => rfl
theorem b_flat_length : ∀ (kV doc pm : Value) (an : Option Addr) (cdv ct : Value) (us : List Value), us.length = 1 → bindArgs (PySem.W.fnOf "flat_length" "flat_length" (defArgs s_flat_length) (defBody s_flat_length) (defScope s_flat_length) .none kV doc pm an cdv ct) ⟨us, []⟩ = pure ((["stages"] : List Str).zip us) :=
  fun _ _ _ _ _ _ us hl => match us, hl with | [_], _ => rfl
theorem b_needed_stages : ∀ (kV doc pm : Value) (an : Option Addr) (cdv ct : Value) (us : List Value), us.length = 1 → bindArgs (PySem.W.fnOf "needed_stages" "needed_stages" (defArgs s_needed_stages) (defBody s_needed_stages) (defScope s_needed_stages) .none kV doc pm an cdv ct) ⟨us, []⟩ = pure ((["stages"] : List Str).zip us) :=
  fun _ _ _ _ _ _ us hl => match us, hl with | [_], _ => rfl
theorem b_check_values : ∀ (kV doc pm : Value) (an : Option Addr) (cdv ct : Value) (us : List Value), us.length = 1 → bindArgs (PySem.W.fnOf "check_values" "check_values" (defArgs s_check_values) (defBody s_check_values) (defScope s_check_values) .none kV doc pm an cdv ct) ⟨us, []⟩ = pure ((["steps"] : List Str).zip us) :=
  fun _ _ _ _ _ _ us hl => match us, hl with | [_], _ => rfl
theorem b_flat_steps : ∀ (kV doc pm : Value) (an : Option Addr) (cdv ct : Value) (us : List Value), us.length = 2 → bindArgs (PySem.W.fnOf "flat_steps" "flat_steps" (defArgs s_flat_steps) (defBody s_flat_steps) (defScope s_flat_steps) .none kV doc pm an cdv ct) ⟨us, []⟩ = pure ((["steps", "flats"] : List Str).zip us) :=
  fun _ _ _ _ _ _ us hl => match us, hl with | [_, _], _ => rfl
theorem b_flatten : ∀ (kV doc pm : Value) (an : Option Addr) (cdv ct : Value) (us : List Value), us.length = 2 → bindArgs (PySem.W.fnOf "flatten" "flatten" (defArgs s_flatten) (defBody s_flatten) (defScope s_flatten) .none kV doc pm an cdv ct) ⟨us, []⟩ = pure ((["stages", "limit"] : List Str).zip us) :=
  fun _ _ _ _ _ _ us hl => match us, hl with | [_, _], _ => rfl
theorem b_used : ∀ (kV doc pm : Value) (an : Option Addr) (cdv ct : Value) (us : List Value), us.length = 1 → bindArgs (PySem.W.fnOf "used" "used" (defArgs s_used) (defBody s_used) (defScope s_used) .none kV doc pm an cdv ct) ⟨us, []⟩ = pure ((["stages"] : List Str).zip us) :=
  fun _ _ _ _ _ _ us hl => match us, hl with | [_], _ => rfl
theorem b_l_mix : ∀ (kV doc pm : Value) (an : Option Addr) (cdv ct : Value) (us : List Value), us.length = 1 → bindArgs (PySem.W.fnOf "_law_mix" "_law_mix" (defArgs s_l_mix) (defBody s_l_mix) (defScope s_l_mix) .none kV doc pm an cdv ct) ⟨us, []⟩ = pure ((["_law_cell"] : List Str).zip us) :=
  fun _ _ _ _ _ _ us hl => match us, hl with | [_], _ => rfl
theorem b_l_number : ∀ (kV doc pm : Value) (an : Option Addr) (cdv ct : Value) (us : List Value), us.length = 1 → bindArgs (PySem.W.fnOf "_law_number" "_law_number" (defArgs s_l_number) (defBody s_l_number) (defScope s_l_number) .none kV doc pm an cdv ct) ⟨us, []⟩ = pure ((["_law_cell"] : List Str).zip us) :=
  fun _ _ _ _ _ _ us hl => match us, hl with | [_], _ => rfl
theorem b_l_state : ∀ (kV doc pm : Value) (an : Option Addr) (cdv ct : Value) (us : List Value), us.length = 1 → bindArgs (PySem.W.fnOf "_law_state" "_law_state" (defArgs s_l_state) (defBody s_l_state) (defScope s_l_state) .none kV doc pm an cdv ct) ⟨us, []⟩ = pure ((["_law_script"] : List Str).zip us) :=
  fun _ _ _ _ _ _ us hl => match us, hl with | [_], _ => rfl
theorem b_l_draw : ∀ (kV doc pm : Value) (an : Option Addr) (cdv ct : Value) (us : List Value), us.length = 2 → bindArgs (PySem.W.fnOf "_law_draw" "_law_draw" (defArgs s_l_draw) (defBody s_l_draw) (defScope s_l_draw) .none kV doc pm an cdv ct) ⟨us, []⟩ = pure ((["_law_state_here", "_law_many"] : List Str).zip us) :=
  fun _ _ _ _ _ _ us hl => match us, hl with | [_, _], _ => rfl
theorem b_l_word : ∀ (kV doc pm : Value) (an : Option Addr) (cdv ct : Value) (us : List Value), us.length = 2 → bindArgs (PySem.W.fnOf "_law_word" "_law_word" (defArgs s_l_word) (defBody s_l_word) (defScope s_l_word) .none kV doc pm an cdv ct) ⟨us, []⟩ = pure ((["_law_state_here", "_law_many"] : List Str).zip us) :=
  fun _ _ _ _ _ _ us hl => match us, hl with | [_, _], _ => rfl
theorem b_l_names : ∀ (kV doc pm : Value) (an : Option Addr) (cdv ct : Value) (us : List Value), us.length = 2 → bindArgs (PySem.W.fnOf "_law_names" "_law_names" (defArgs s_l_names) (defBody s_l_names) (defScope s_l_names) .none kV doc pm an cdv ct) ⟨us, []⟩ = pure ((["_law_state_here", "_law_count"] : List Str).zip us) :=
  fun _ _ _ _ _ _ us hl => match us, hl with | [_, _], _ => rfl
theorem b_l_operations : ∀ (kV doc pm : Value) (an : Option Addr) (cdv ct : Value) (us : List Value), us.length = 1 → bindArgs (PySem.W.fnOf "_law_operations" "_law_operations" (defArgs s_l_operations) (defBody s_l_operations) (defScope s_l_operations) .none kV doc pm an cdv ct) ⟨us, []⟩ = pure ((["_law_state_here"] : List Str).zip us) :=
  fun _ _ _ _ _ _ us hl => match us, hl with | [_], _ => rfl
theorem b_l_leaf : ∀ (kV doc pm : Value) (an : Option Addr) (cdv ct : Value) (us : List Value), us.length = 3 → bindArgs (PySem.W.fnOf "_law_leaf" "_law_leaf" (defArgs s_l_leaf) (defBody s_l_leaf) (defScope s_l_leaf) .none kV doc pm an cdv ct) ⟨us, []⟩ = pure ((["_law_state_here", "_law_operations_here", "_law_count"] : List Str).zip us) :=
  fun _ _ _ _ _ _ us hl => match us, hl with | [_, _, _], _ => rfl
theorem b_l_term : ∀ (kV doc pm : Value) (an : Option Addr) (cdv ct : Value) (us : List Value), us.length = 4 → bindArgs (PySem.W.fnOf "_law_term" "_law_term" (defArgs s_l_term) (defBody s_l_term) (defScope s_l_term) .none kV doc pm an cdv ct) ⟨us, []⟩ = pure ((["_law_state_here", "_law_operations_here", "_law_count", "_law_height"] : List Str).zip us) :=
  fun _ _ _ _ _ _ us hl => match us, hl with | [_, _, _, _], _ => rfl
theorem b_l_subterm : ∀ (kV doc pm : Value) (an : Option Addr) (cdv ct : Value) (us : List Value), us.length = 2 → bindArgs (PySem.W.fnOf "_law_subterm" "_law_subterm" (defArgs s_l_subterm) (defBody s_l_subterm) (defScope s_l_subterm) .none kV doc pm an cdv ct) ⟨us, []⟩ = pure ((["_law_term_here", "_law_position"] : List Str).zip us) :=
  fun _ _ _ _ _ _ us hl => match us, hl with | [_, _], _ => rfl
theorem b_l_replace : ∀ (kV doc pm : Value) (an : Option Addr) (cdv ct : Value) (us : List Value), us.length = 3 → bindArgs (PySem.W.fnOf "_law_replace" "_law_replace" (defArgs s_l_replace) (defBody s_l_replace) (defScope s_l_replace) .none kV doc pm an cdv ct) ⟨us, []⟩ = pure ((["_law_term_here", "_law_position", "_law_new"] : List Str).zip us) :=
  fun _ _ _ _ _ _ us hl => match us, hl with | [_, _, _], _ => rfl
theorem b_l_positions : ∀ (kV doc pm : Value) (an : Option Addr) (cdv ct : Value) (us : List Value), us.length = 1 → bindArgs (PySem.W.fnOf "_law_positions" "_law_positions" (defArgs s_l_positions) (defBody s_l_positions) (defScope s_l_positions) .none kV doc pm an cdv ct) ⟨us, []⟩ = pure ((["_law_term_here"] : List Str).zip us) :=
  fun _ _ _ _ _ _ us hl => match us, hl with | [_], _ => rfl
theorem b_l_substitute : ∀ (kV doc pm : Value) (an : Option Addr) (cdv ct : Value) (us : List Value), us.length = 2 → bindArgs (PySem.W.fnOf "_law_substitute" "_law_substitute" (defArgs s_l_substitute) (defBody s_l_substitute) (defScope s_l_substitute) .none kV doc pm an cdv ct) ⟨us, []⟩ = pure ((["_law_term_here", "_law_substitution"] : List Str).zip us) :=
  fun _ _ _ _ _ _ us hl => match us, hl with | [_, _], _ => rfl
theorem b_l_variables : ∀ (kV doc pm : Value) (an : Option Addr) (cdv ct : Value) (us : List Value), us.length = 1 → bindArgs (PySem.W.fnOf "_law_variables" "_law_variables" (defArgs s_l_variables) (defBody s_l_variables) (defScope s_l_variables) .none kV doc pm an cdv ct) ⟨us, []⟩ = pure ((["_law_term_here"] : List Str).zip us) :=
  fun _ _ _ _ _ _ us hl => match us, hl with | [_], _ => rfl
theorem b_l_same : ∀ (kV doc pm : Value) (an : Option Addr) (cdv ct : Value) (us : List Value), us.length = 2 → bindArgs (PySem.W.fnOf "_law_same" "_law_same" (defArgs s_l_same) (defBody s_l_same) (defScope s_l_same) .none kV doc pm an cdv ct) ⟨us, []⟩ = pure ((["_law_first", "_law_second"] : List Str).zip us) :=
  fun _ _ _ _ _ _ us hl => match us, hl with | [_, _], _ => rfl
theorem b_l_pattern : ∀ (kV doc pm : Value) (an : Option Addr) (cdv ct : Value) (us : List Value), us.length = 3 → bindArgs (PySem.W.fnOf "_law_pattern" "_law_pattern" (defArgs s_l_pattern) (defBody s_l_pattern) (defScope s_l_pattern) .none kV doc pm an cdv ct) ⟨us, []⟩ = pure ((["_law_state_here", "_law_term_here", "_law_places"] : List Str).zip us) :=
  fun _ _ _ _ _ _ us hl => match us, hl with | [_, _, _], _ => rfl
theorem b_l_step : ∀ (kV doc pm : Value) (an : Option Addr) (cdv ct : Value) (us : List Value), us.length = 5 → bindArgs (PySem.W.fnOf "_law_step" "_law_step" (defArgs s_l_step) (defBody s_l_step) (defScope s_l_step) .none kV doc pm an cdv ct) ⟨us, []⟩ = pure ((["_law_state_here", "_law_operations_here", "_law_count", "_law_term_here", "_law_source"] : List Str).zip us) :=
  fun _ _ _ _ _ _ us hl => match us, hl with | [_, _, _, _, _], _ => rfl
theorem b_l_chain : ∀ (kV doc pm : Value) (an : Option Addr) (cdv ct : Value) (us : List Value), us.length = 6 → bindArgs (PySem.W.fnOf "_law_chain" "_law_chain" (defArgs s_l_chain) (defBody s_l_chain) (defScope s_l_chain) .none kV doc pm an cdv ct) ⟨us, []⟩ = pure ((["_law_state_here", "_law_operations_here", "_law_count", "_law_term_here", "_law_first", "_law_many"] : List Str).zip us) :=
  fun _ _ _ _ _ _ us hl => match us, hl with | [_, _, _, _, _, _], _ => rfl
theorem b_l_equation : ∀ (kV doc pm : Value) (an : Option Addr) (cdv ct : Value) (us : List Value), us.length = 3 → bindArgs (PySem.W.fnOf "_law_equation" "_law_equation" (defArgs s_l_equation) (defBody s_l_equation) (defScope s_l_equation) .none kV doc pm an cdv ct) ⟨us, []⟩ = pure ((["_law_given", "_law_stages_here", "_law_source"] : List Str).zip us) :=
  fun _ _ _ _ _ _ us hl => match us, hl with | [_, _, _], _ => rfl
theorem b_l_has_position : ∀ (kV doc pm : Value) (an : Option Addr) (cdv ct : Value) (us : List Value), us.length = 2 → bindArgs (PySem.W.fnOf "_law_has_position" "_law_has_position" (defArgs s_l_has_position) (defBody s_l_has_position) (defScope s_l_has_position) .none kV doc pm an cdv ct) ⟨us, []⟩ = pure ((["_law_term_here", "_law_position"] : List Str).zip us) :=
  fun _ _ _ _ _ _ us hl => match us, hl with | [_, _], _ => rfl
theorem b_l_is_step : ∀ (kV doc pm : Value) (an : Option Addr) (cdv ct : Value) (us : List Value), us.length = 1 → bindArgs (PySem.W.fnOf "_law_is_step" "_law_is_step" (defArgs s_l_is_step) (defBody s_l_is_step) (defScope s_l_is_step) .none kV doc pm an cdv ct) ⟨us, []⟩ = pure ((["_law_step_here"] : List Str).zip us) :=
  fun _ _ _ _ _ _ us hl => match us, hl with | [_], _ => rfl
theorem b_l_next : ∀ (kV doc pm : Value) (an : Option Addr) (cdv ct : Value) (us : List Value), us.length = 4 → bindArgs (PySem.W.fnOf "_law_next" "_law_next" (defArgs s_l_next) (defBody s_l_next) (defScope s_l_next) .none kV doc pm an cdv ct) ⟨us, []⟩ = pure ((["_law_given", "_law_stages_here", "_law_term_here", "_law_step_here"] : List Str).zip us) :=
  fun _ _ _ _ _ _ us hl => match us, hl with | [_, _, _, _], _ => rfl
theorem b_l_follow : ∀ (kV doc pm : Value) (an : Option Addr) (cdv ct : Value) (us : List Value), us.length = 4 → bindArgs (PySem.W.fnOf "_law_follow" "_law_follow" (defArgs s_l_follow) (defBody s_l_follow) (defScope s_l_follow) .none kV doc pm an cdv ct) ⟨us, []⟩ = pure ((["_law_given", "_law_stages_here", "_law_term_here", "_law_steps"] : List Str).zip us) :=
  fun _ _ _ _ _ _ us hl => match us, hl with | [_, _, _, _], _ => rfl
theorem b_l_by_stage : ∀ (kV doc pm : Value) (an : Option Addr) (cdv ct : Value) (us : List Value), us.length = 4 → bindArgs (PySem.W.fnOf "_law_by_stage" "_law_by_stage" (defArgs s_l_by_stage) (defBody s_l_by_stage) (defScope s_l_by_stage) .none kV doc pm an cdv ct) ⟨us, []⟩ = pure ((["_law_state_here", "_law_operations_here", "_law_stages_here", "_law_term_here"] : List Str).zip us) :=
  fun _ _ _ _ _ _ us hl => match us, hl with | [_, _, _, _], _ => rfl
theorem b_l_stages : ∀ (kV doc pm : Value) (an : Option Addr) (cdv ct : Value) (us : List Value), us.length = 3 → bindArgs (PySem.W.fnOf "_law_stages" "_law_stages" (defArgs s_l_stages) (defBody s_l_stages) (defScope s_l_stages) .none kV doc pm an cdv ct) ⟨us, []⟩ = pure ((["_law_state_here", "_law_operations_here", "_law_many"] : List Str).zip us) :=
  fun _ _ _ _ _ _ us hl => match us, hl with | [_, _, _], _ => rfl
theorem b_l_is_integer : ∀ (kV doc pm : Value) (an : Option Addr) (cdv ct : Value) (us : List Value), us.length = 1 → bindArgs (PySem.W.fnOf "_law_is_integer" "_law_is_integer" (defArgs s_l_is_integer) (defBody s_l_is_integer) (defScope s_l_is_integer) .none kV doc pm an cdv ct) ⟨us, []⟩ = pure ((["_law_actual"] : List Str).zip us) :=
  fun _ _ _ _ _ _ us hl => match us, hl with | [_], _ => rfl
theorem b_l_length : ∀ (kV doc pm : Value) (an : Option Addr) (cdv ct : Value) (us : List Value), us.length = 1 → bindArgs (PySem.W.fnOf "_law_length" "_law_length" (defArgs s_l_length) (defBody s_l_length) (defScope s_l_length) .none kV doc pm an cdv ct) ⟨us, []⟩ = pure ((["_law_stages_here"] : List Str).zip us) :=
  fun _ _ _ _ _ _ us hl => match us, hl with | [_], _ => rfl
theorem b_l_used : ∀ (kV doc pm : Value) (an : Option Addr) (cdv ct : Value) (us : List Value), us.length = 2 → bindArgs (PySem.W.fnOf "_law_used" "_law_used" (defArgs s_l_used) (defBody s_l_used) (defScope s_l_used) .none kV doc pm an cdv ct) ⟨us, []⟩ = pure ((["_law_given", "_law_stages_here"] : List Str).zip us) :=
  fun _ _ _ _ _ _ us hl => match us, hl with | [_, _], _ => rfl
theorem b_l_refused : ∀ (kV doc pm : Value) (an : Option Addr) (cdv ct : Value) (us : List Value), us.length = 2 → bindArgs (PySem.W.fnOf "_law_refused" "_law_refused" (defArgs s_l_refused) (defBody s_l_refused) (defScope s_l_refused) .none kV doc pm an cdv ct) ⟨us, []⟩ = pure ((["_law_stages_here", "_law_limit"] : List Str).zip us) :=
  fun _ _ _ _ _ _ us hl => match us, hl with | [_, _], _ => rfl
theorem b_law : ∀ (kV doc pm : Value) (an : Option Addr) (cdv ct : Value) (us : List Value), us.length = 1 → bindArgs (PySem.W.fnOf "law" "law" (defArgs s_law) (defBody s_law) (defScope s_law) .none kV doc pm an cdv ct) ⟨us, []⟩ = pure ((["_law_script"] : List Str).zip us) :=
  fun _ _ _ _ _ _ us hl => match us, hl with | [_], _ => rfl
theorem bi_mk {K : PySem.W.Frag} {h : Heap} {mg : Str → Option Value} {t1 t2 : Tok} (X : K.In h) (G : h.Ns mainGlobals mg) (z0 : PySem.W.nsIn K mainGlobals "isinstance" = some none) (z1 : PySem.W.nsIn K mainGlobals "int" = some none) (z2 : PySem.W.nsIn K mainGlobals "len" = some none) (z3 : PySem.W.nsIn K mainGlobals "list" = some none) (z4 : PySem.W.nsIn K mainGlobals "tuple" = some none) (z5 : PySem.W.nsIn K mainGlobals "dict" = some none) (z6 : PySem.W.nsIn K mainGlobals "range" = some none) (z7 : PySem.W.nsIn K mainGlobals "max" = some none) (z8 : PySem.W.nsIn K mainGlobals "str" = some none) (z9 : PySem.W.nsIn K mainGlobals "sorted" = some none) (z10 : PySem.W.nsIn K mainGlobals "repr" = some none) (z11 : PySem.W.nsIn K mainGlobals "bool" = some none) (z12 : PySem.W.nsIn K mainGlobals "enumerate" = some none) (z13 : PySem.W.nsIn K mainGlobals "reversed" = some none) (z14 : PySem.W.nsIn K mainGlobals "ValueError" = some none) (c1 : PySem.W.nsIn K mainGlobals "WIDE_SIZE" = some (some (.int 4000 t1))) (c2 : PySem.W.nsIn K mainGlobals "WIDE_DEPTH" = some (some (.int 120 t2))) : Bi mg :=
  ⟨PySem.W.mg_none_of X G z0, PySem.W.mg_none_of X G z1, PySem.W.mg_none_of X G z2, PySem.W.mg_none_of X G z3, PySem.W.mg_none_of X G z4, PySem.W.mg_none_of X G z5, PySem.W.mg_none_of X G z6, PySem.W.mg_none_of X G z7, PySem.W.mg_none_of X G z8, PySem.W.mg_none_of X G z9, PySem.W.mg_none_of X G z10, PySem.W.mg_none_of X G z11, PySem.W.mg_none_of X G z12, PySem.W.mg_none_of X G z13, PySem.W.mg_none_of X G z14, ⟨t1, PySem.W.mg_of X G c1⟩, ⟨t2, PySem.W.mg_of X G c2⟩⟩
theorem kit_ve {K : PySem.W.Frag} {C : Addr} (v : PySem.W.subIn K (.ref C) (.type "ValueError") = some true) : PySem.W.kitOne K (.ref C) (.type "ValueError") = some true := by
  have n : ¬ ((Value.ref C == Value.type "ValueError") = true) := fun z => by
    have e := beq_iff_eq.mp z
    cases e
  have m : PySem.W.kitMeta "ValueError" = true := by decide +kernel
  show (if (Value.ref C == Value.type "ValueError") = true then some true else if PySem.W.kitMeta "ValueError" = true then PySem.W.subIn K (.ref C) (.type "ValueError") else none) = some true
  rw [if_neg n, if_pos m]
  exact v
theorem sl_mk {K : PySem.W.Frag} {h : Heap} {mg : Str → Option Value} {C : Addr} (X : K.In h) (G : h.Ns mainGlobals mg) (a : PySem.W.nsIn K mainGlobals "StepLimit" = some (some (.ref C)))
    (x : PySem.W.excIn K C [.type "ValueError", .type "Exception", .type "BaseException", .type "object"] "ValueError.__new__" = true) (k : PySem.W.keepIn K (.ref C) = true) (b : PySem.W.subIn K (.ref C) (.type "BaseException") = some true) (t : PySem.W.typeIn K (.ref C) = some (.type "type"))
    (s : PySem.W.subIn K (.ref C) (.ref C) = some true) (e1 : PySem.W.findIn K (.ref C) "__getattribute__" = some (some (.builtin "BaseException.__getattribute__"))) (e2 : PySem.W.findIn K (.ref C) "__getattr__" = some none) (e4 : PySem.W.hasDictIn K C = true)
    (e5 : PySem.W.findIn K (.ref C) "__class__" = some (some (.builtin "object.__class__"))) (e6 : PySem.W.specialIn K (.builtin "object.__class__") "__get__" = some (some (.builtin "getset_descriptor.__get__"))) (e7 : PySem.W.takesIn K (.builtin "object.__class__") = some true) (e8 : PySem.W.mroIn K C (.type "object") = some true)
    (v : PySem.W.subIn K (.ref C) (.type "ValueError") = some true) : Sl K mg C :=
  ⟨PySem.W.mg_of X G a, x, k, b, t, PySem.W.exm_ref b e4 t s, ⟨e1, e2, b, e4, e5, e6, e7, e8⟩, kit_ve v⟩
theorem law_all {P : Program} {w : World} {K : PySem.W.Frag} {mg : Str → Option Value} {fa : Addr} (hfa : mg "law" = some (.ref fa)) (B : Bi mg) {C : Addr} (S : Sl K mg C) (D_is_variable : De K mg "is_variable" s_is_variable ["term"]) (D_size : De K mg "size" s_size ["term"]) (D_depth : De K mg "depth" s_depth ["term"]) (D_substitute : De K mg "substitute" s_substitute ["term", "substitution"]) (D_is_wide : De K mg "is_wide" s_is_wide ["term"]) (D_reverse : De K mg "reverse" s_reverse ["steps"]) (D_moved : De K mg "moved" s_moved ["steps", "position"]) (D_compose : De K mg "compose" s_compose ["values", "substitution"]) (D_instantiated : De K mg "instantiated" s_instantiated ["steps", "substitution"]) (D_flat_length : De K mg "flat_length" s_flat_length ["stages"]) (D_needed_stages : De K mg "needed_stages" s_needed_stages ["stages"]) (D_check_values : De K mg "check_values" s_check_values ["steps"]) (D_flat_steps : De K mg "flat_steps" s_flat_steps ["steps", "flats"]) (D_flatten : De K mg "flatten" s_flatten ["stages", "limit"]) (D_used : De K mg "used" s_used ["stages"]) (D_l_mix : De K mg "_law_mix" s_l_mix ["_law_cell"]) (D_l_number : De K mg "_law_number" s_l_number ["_law_cell"]) (D_l_state : De K mg "_law_state" s_l_state ["_law_script"]) (D_l_draw : De K mg "_law_draw" s_l_draw ["_law_state_here", "_law_many"]) (D_l_word : De K mg "_law_word" s_l_word ["_law_state_here", "_law_many"]) (D_l_names : De K mg "_law_names" s_l_names ["_law_state_here", "_law_count"]) (D_l_operations : De K mg "_law_operations" s_l_operations ["_law_state_here"]) (D_l_leaf : De K mg "_law_leaf" s_l_leaf ["_law_state_here", "_law_operations_here", "_law_count"]) (D_l_term : De K mg "_law_term" s_l_term ["_law_state_here", "_law_operations_here", "_law_count", "_law_height"]) (D_l_subterm : De K mg "_law_subterm" s_l_subterm ["_law_term_here", "_law_position"]) (D_l_replace : De K mg "_law_replace" s_l_replace ["_law_term_here", "_law_position", "_law_new"]) (D_l_positions : De K mg "_law_positions" s_l_positions ["_law_term_here"]) (D_l_substitute : De K mg "_law_substitute" s_l_substitute ["_law_term_here", "_law_substitution"]) (D_l_variables : De K mg "_law_variables" s_l_variables ["_law_term_here"]) (D_l_same : De K mg "_law_same" s_l_same ["_law_first", "_law_second"]) (D_l_pattern : De K mg "_law_pattern" s_l_pattern ["_law_state_here", "_law_term_here", "_law_places"]) (D_l_step : De K mg "_law_step" s_l_step ["_law_state_here", "_law_operations_here", "_law_count", "_law_term_here", "_law_source"]) (D_l_chain : De K mg "_law_chain" s_l_chain ["_law_state_here", "_law_operations_here", "_law_count", "_law_term_here", "_law_first", "_law_many"]) (D_l_equation : De K mg "_law_equation" s_l_equation ["_law_given", "_law_stages_here", "_law_source"]) (D_l_has_position : De K mg "_law_has_position" s_l_has_position ["_law_term_here", "_law_position"]) (D_l_is_step : De K mg "_law_is_step" s_l_is_step ["_law_step_here"]) (D_l_next : De K mg "_law_next" s_l_next ["_law_given", "_law_stages_here", "_law_term_here", "_law_step_here"]) (D_l_follow : De K mg "_law_follow" s_l_follow ["_law_given", "_law_stages_here", "_law_term_here", "_law_steps"]) (D_l_by_stage : De K mg "_law_by_stage" s_l_by_stage ["_law_state_here", "_law_operations_here", "_law_stages_here", "_law_term_here"]) (D_l_stages : De K mg "_law_stages" s_l_stages ["_law_state_here", "_law_operations_here", "_law_many"]) (D_l_is_integer : De K mg "_law_is_integer" s_l_is_integer ["_law_actual"]) (D_l_length : De K mg "_law_length" s_l_length ["_law_stages_here"]) (D_l_used : De K mg "_law_used" s_l_used ["_law_given", "_law_stages_here"]) (D_l_refused : De K mg "_law_refused" s_l_refused ["_law_stages_here", "_law_limit"]) (D_law : De K mg "law" s_law ["_law_script"]) (base : Heap) : Runs P w K mg base fa := by
  have k_is_variable : Kn P w K mg base CX0 1 "is_variable" ["term"] sp_is_variable := ok_is_variable B D_is_variable
  have k_size : Kn P w K mg base CX0 41 "size" ["term"] (sp_size 40) := ok_size D_size k_is_variable 40
  have k_depth : Kn P w K mg base CX0 41 "depth" ["term"] (sp_depth 40) := ok_depth B D_depth k_is_variable 40
  have k_is_wide : Kn P w K mg base CX0 42 "is_wide" ["term"] sp_is_wide := ok_is_wide B D_is_wide k_size k_depth
  have k_substitute : Kn P w K mg base CX0 41 "substitute" ["term", "substitution"] (sp_sub 40) := ok_substitute B D_substitute k_is_variable 40
  have k_reverse : Kn P w K mg base CX0 1 "reverse" ["steps"] sp_reverse := ok_reverse B D_reverse
  have k_moved : Kn P w K mg base CX0 1 "moved" ["steps", "position"] sp_moved := ok_moved B D_moved
  have k_compose : Kn P w K mg base CX0 42 "compose" ["values", "substitution"] sp_compose := ok_compose B D_compose k_substitute
  have k_instantiated : Kn P w K mg base CX0 43 "instantiated" ["steps", "substitution"] sp_inst := ok_instantiated B D_instantiated k_compose
  have k_flat_length : Kn P w K mg base CX0 1 "flat_length" ["stages"] sp_flat_length := ok_flat_length D_flat_length
  have k_check_values : Kn P w K mg base CX0 43 "check_values" ["steps"] sp_check := ok_check_values D_check_values k_is_wide
  have k_used : Kn P w K mg base CX0 2 "used" ["stages"] sp_used := ok_used B D_used
  have k_needed_stages : Kn P w K mg base CX0 1 "needed_stages" ["stages"] sp_needed := ok_needed_stages B D_needed_stages
  have k_flat_steps : Kn P w K mg base CX0 44 "flat_steps" ["steps", "flats"] sp_flat_steps := ok_flat_steps B D_flat_steps k_reverse k_moved k_instantiated k_check_values
  have k_flatten : Kn P w K mg base (L2.CX P w) 45 "flatten" ["stages", "limit"] (sp_flatten C) := ok_flatten B S D_flatten k_flat_length k_needed_stages k_flat_steps
  have k_l_mix : Kn P w K mg base CX0 1 "_law_mix" ["_law_cell"] sp_mix := ok_l_mix B D_l_mix
  have k_l_number : Kn P w K mg base CX0 2 "_law_number" ["_law_cell"] sp_mix := ok_l_number B D_l_number k_l_mix
  have k_l_state : Kn P w K mg base CX0 1 "_law_state" ["_law_script"] (sp_state K) := ok_l_state B D_l_state
  have k_l_draw : Kn P w K mg base CX0 3 "_law_draw" ["_law_state_here", "_law_many"] sp_draw := ok_l_draw B D_l_draw k_l_number
  have k_l_word : Kn P w K mg base CX0 4 "_law_word" ["_law_state_here", "_law_many"] sp_word := ok_l_word B D_l_word k_l_draw
  have k_l_names : Kn P w K mg base CX0 5 "_law_names" ["_law_state_here", "_law_count"] sp_names := ok_l_names B D_l_names k_l_draw k_l_word
  have k_l_operations : Kn P w K mg base CX0 6 "_law_operations" ["_law_state_here"] sp_ops := ok_l_operations B D_l_operations k_l_draw k_l_names
  have k_l_leaf : Kn P w K mg base CX0 4 "_law_leaf" ["_law_state_here", "_law_operations_here", "_law_count"] sp_leaf := ok_l_leaf B D_l_leaf k_l_draw
  have k_l_term : Kn P w K mg base CX0 6 "_law_term" ["_law_state_here", "_law_operations_here", "_law_count", "_law_height"] (sp_term 1) := ok_l_term B D_l_term k_l_leaf k_l_draw 1
  have k_l_term_1 : Kn P w K mg base CX0 6 "_law_term" ["_law_state_here", "_law_operations_here", "_law_count", "_law_height"] (sp_termLe 1) := ok_termLe B D_l_term k_l_leaf k_l_draw 1
  have k_l_term_2 : Kn P w K mg base CX0 7 "_law_term" ["_law_state_here", "_law_operations_here", "_law_count", "_law_height"] (sp_termLe 2) := ok_termLe B D_l_term k_l_leaf k_l_draw 2
  have k_l_subterm : Kn P w K mg base CX0 1 "_law_subterm" ["_law_term_here", "_law_position"] sp_subterm := ok_l_subterm D_l_subterm
  have k_l_replace : Kn P w K mg base CX0 41 "_law_replace" ["_law_term_here", "_law_position", "_law_new"] (sp_replace 40) := ok_l_replace B D_l_replace 40
  have k_l_positions : Kn P w K mg base CX0 41 "_law_positions" ["_law_term_here"] (sp_positions 40) := ok_l_positions B D_l_positions 40
  have k_l_substitute : Kn P w K mg base CX0 41 "_law_substitute" ["_law_term_here", "_law_substitution"] (sp_sub 40) := ok_l_substitute B D_l_substitute 40
  have k_l_variables : Kn P w K mg base CX0 41 "_law_variables" ["_law_term_here"] (sp_variables 40) := ok_l_variables B D_l_variables 40
  have k_l_same : Kn P w K mg base CX0 41 "_law_same" ["_law_first", "_law_second"] (sp_same 40) := ok_l_same B D_l_same 40
  have k_l_pattern : Kn P w K mg base CX0 42 "_law_pattern" ["_law_state_here", "_law_term_here", "_law_places"] sp_pattern := ok_l_pattern B D_l_pattern k_l_draw k_l_replace k_l_subterm k_l_variables
  have k_l_step : Kn P w K mg base CX0 43 "_law_step" ["_law_state_here", "_law_operations_here", "_law_count", "_law_term_here", "_law_source"] sp_step := ok_l_step B D_l_step k_l_draw k_l_term k_l_positions k_l_replace k_l_subterm k_l_substitute k_l_variables k_l_pattern
  have k_l_chain : Kn P w K mg base CX0 44 "_law_chain" ["_law_state_here", "_law_operations_here", "_law_count", "_law_term_here", "_law_first", "_law_many"] sp_chain := ok_l_chain B D_l_chain k_l_step
  have k_l_equation : Kn P w K mg base CX0 1 "_law_equation" ["_law_given", "_law_stages_here", "_law_source"] sp_equation := ok_l_equation D_l_equation
  have k_l_has_position : Kn P w K mg base CX0 1 "_law_has_position" ["_law_term_here", "_law_position"] sp_has := ok_l_has_position B D_l_has_position
  have k_l_is_step : Kn P w K mg base CX0 1 "_law_is_step" ["_law_step_here"] sp_is_step := ok_l_is_step B D_l_is_step
  have k_l_next : Kn P w K mg base CX0 42 "_law_next" ["_law_given", "_law_stages_here", "_law_term_here", "_law_step_here"] sp_next := ok_l_next B D_l_next k_l_is_step k_l_has_position k_l_equation k_l_replace k_l_subterm k_l_substitute k_l_variables k_l_same
  have k_l_follow : Kn P w K mg base CX0 43 "_law_follow" ["_law_given", "_law_stages_here", "_law_term_here", "_law_steps"] sp_follow := ok_l_follow B D_l_follow k_l_next
  have k_l_by_stage : Kn P w K mg base CX0 42 "_law_by_stage" ["_law_state_here", "_law_operations_here", "_law_stages_here", "_law_term_here"] sp_by_stage := ok_l_by_stage B D_l_by_stage k_l_draw k_l_term_1 k_l_positions k_l_replace k_l_substitute k_l_variables
  have k_l_stages : Kn P w K mg base CX0 45 "_law_stages" ["_law_state_here", "_law_operations_here", "_law_many"] sp_stages := ok_l_stages B D_l_stages k_l_draw k_l_term_2 k_l_by_stage k_l_chain
  have k_l_is_integer : Kn P w K mg base CX0 1 "_law_is_integer" ["_law_actual"] sp_is_integer := ok_l_is_integer B D_l_is_integer
  have k_l_length : Kn P w K mg base CX0 1 "_law_length" ["_law_stages_here"] sp_flat_length := ok_l_length B D_l_length
  have k_l_used : Kn P w K mg base CX0 1 "_law_used" ["_law_given", "_law_stages_here"] sp_l_used := ok_l_used B D_l_used
  have k_l_refused : Kn P w K mg base CX0 46 "_law_refused" ["_law_stages_here", "_law_limit"] sp_refused := ok_l_refused B S D_l_refused k_flatten
  obtain ⟨f, fd, F, hm, hb⟩ := D_law.ex
  have e := hfa.symm.trans hm
  cases e
  exact runs_of sc_law F (fun z u M A E Q hq => by
    obtain ⟨oc, od, kV, doc, pm, an, cdv, ct, osl, rfl, look, code⟩ := F.ex
    exact BindsTo.of_eq (b_law kV doc pm an cdv ct [u] rfl) M A E Q hq) (sp := sp_law K) (fun H a ns hS => ⟨a, ns, rfl, hS, fun _ => rfl⟩) (by decide)
    (fun cdv st H vs Q E hsp => law_body B S k_l_state k_l_operations k_l_stages k_l_draw k_l_length k_flat_length k_l_is_integer k_used k_l_used k_flatten k_l_follow k_l_same k_l_refused rfl (Room.deeper (k := 46) ⟨rfl, by decide, by decide⟩ _) hsp)
end K18
open PySem PySem.W PyProof.Rows
set_option Elab.async false
set_option maxRecDepth 100000 in
set_option maxHeartbeats 0 in
theorem PySem.Challenge.cw_joinedends_k18_whole_flat_form_holds : PySem.Challenge.rw_joinedends_k18_whole_flat_form.Holds := by
  w_on; o_law; k_head; (case hw => w_witness2)
  k_fill
  refine K18.walk_top (l := PySem.Challenge.rw_joinedends_k18_whole_flat_form) (n := 63) rfl (by decide) rfl (fun w h Y => PySem.W.kIn_of Y) ?R
  case R =>
    intro w mg fa h KX G hmg base _ _
    refine' K18.law_all hmg (K18.bi_mk KX G ?z0 ?z1 ?z2 ?z3 ?z4 ?z5 ?z6 ?z7 ?z8 ?z9 ?z10 ?z11 ?z12 ?z13 ?z14 ?w1 ?w2) (K18.sl_mk KX G ?y0 ?y1 ?y2 ?y3 ?y4 ?y5 ?y6 ?y7 ?y8 ?y9 ?y10 ?y11 ?y12 ?y13) (K18.de_mk KX G ?a0 ?l0 ?c0 ?k0 K18.b_is_variable) (K18.de_mk KX G ?a1 ?l1 ?c1 ?k1 K18.b_size) (K18.de_mk KX G ?a2 ?l2 ?c2 ?k2 K18.b_depth) (K18.de_mk KX G ?a3 ?l3 ?c3 ?k3 K18.b_substitute) (K18.de_mk KX G ?a4 ?l4 ?c4 ?k4 K18.b_is_wide) (K18.de_mk KX G ?a5 ?l5 ?c5 ?k5 K18.b_reverse) (K18.de_mk KX G ?a6 ?l6 ?c6 ?k6 K18.b_moved) (K18.de_mk KX G ?a7 ?l7 ?c7 ?k7 K18.b_compose) (K18.de_mk KX G ?a8 ?l8 ?c8 ?k8 K18.b_instantiated) (K18.de_mk KX G ?a9 ?l9 ?c9 ?k9 K18.b_flat_length) (K18.de_mk KX G ?a10 ?l10 ?c10 ?k10 K18.b_needed_stages) (K18.de_mk KX G ?a11 ?l11 ?c11 ?k11 K18.b_check_values) (K18.de_mk KX G ?a12 ?l12 ?c12 ?k12 K18.b_flat_steps) (K18.de_mk KX G ?a13 ?l13 ?c13 ?k13 K18.b_flatten) (K18.de_mk KX G ?a14 ?l14 ?c14 ?k14 K18.b_used) (K18.de_mk KX G ?a15 ?l15 ?c15 ?k15 K18.b_l_mix) (K18.de_mk KX G ?a16 ?l16 ?c16 ?k16 K18.b_l_number) (K18.de_mk KX G ?a17 ?l17 ?c17 ?k17 K18.b_l_state) (K18.de_mk KX G ?a18 ?l18 ?c18 ?k18 K18.b_l_draw) (K18.de_mk KX G ?a19 ?l19 ?c19 ?k19 K18.b_l_word) (K18.de_mk KX G ?a20 ?l20 ?c20 ?k20 K18.b_l_names) (K18.de_mk KX G ?a21 ?l21 ?c21 ?k21 K18.b_l_operations) (K18.de_mk KX G ?a22 ?l22 ?c22 ?k22 K18.b_l_leaf) (K18.de_mk KX G ?a23 ?l23 ?c23 ?k23 K18.b_l_term) (K18.de_mk KX G ?a24 ?l24 ?c24 ?k24 K18.b_l_subterm) (K18.de_mk KX G ?a25 ?l25 ?c25 ?k25 K18.b_l_replace) (K18.de_mk KX G ?a26 ?l26 ?c26 ?k26 K18.b_l_positions) (K18.de_mk KX G ?a27 ?l27 ?c27 ?k27 K18.b_l_substitute) (K18.de_mk KX G ?a28 ?l28 ?c28 ?k28 K18.b_l_variables) (K18.de_mk KX G ?a29 ?l29 ?c29 ?k29 K18.b_l_same) (K18.de_mk KX G ?a30 ?l30 ?c30 ?k30 K18.b_l_pattern) (K18.de_mk KX G ?a31 ?l31 ?c31 ?k31 K18.b_l_step) (K18.de_mk KX G ?a32 ?l32 ?c32 ?k32 K18.b_l_chain) (K18.de_mk KX G ?a33 ?l33 ?c33 ?k33 K18.b_l_equation) (K18.de_mk KX G ?a34 ?l34 ?c34 ?k34 K18.b_l_has_position) (K18.de_mk KX G ?a35 ?l35 ?c35 ?k35 K18.b_l_is_step) (K18.de_mk KX G ?a36 ?l36 ?c36 ?k36 K18.b_l_next) (K18.de_mk KX G ?a37 ?l37 ?c37 ?k37 K18.b_l_follow) (K18.de_mk KX G ?a38 ?l38 ?c38 ?k38 K18.b_l_by_stage) (K18.de_mk KX G ?a39 ?l39 ?c39 ?k39 K18.b_l_stages) (K18.de_mk KX G ?a40 ?l40 ?c40 ?k40 K18.b_l_is_integer) (K18.de_mk KX G ?a41 ?l41 ?c41 ?k41 K18.b_l_length) (K18.de_mk KX G ?a42 ?l42 ?c42 ?k42 K18.b_l_used) (K18.de_mk KX G ?a43 ?l43 ?c43 ?k43 K18.b_l_refused) (K18.de_mk KX G ?a44 ?l44 ?c44 ?k44 K18.b_law) base
    (case z0 => k_is); (case z1 => k_is); (case z2 => k_is); (case z3 => k_is); (case z4 => k_is); (case z5 => k_is)
    (case z6 => k_is); (case z7 => k_is); (case z8 => k_is); (case z9 => k_is); (case z10 => k_is); (case z11 => k_is)
    (case z12 => k_is); (case z13 => k_is); (case z14 => k_is); (case w1 => k_is); (case w2 => k_is); (case y0 => k_is)
    (case y1 => k_exc); (case y2 => k_is); (case y3 => k_is); (case y4 => k_is); (case y5 => k_is); (case y6 => k_is)
    (case y7 => k_is); (case y8 => k_is); (case y9 => k_is); (case y10 => k_is); (case y11 => k_is); (case y12 => k_is)
    (case y13 => k_is); (case a0 => k_is); (case l0 => k_is); (case c0 => k_is); (case k0 => k_is); (case a1 => k_is)
    (case l1 => k_is); (case c1 => k_is); (case k1 => k_is); (case a2 => k_is); (case l2 => k_is); (case c2 => k_is)
    (case k2 => k_is); (case a3 => k_is); (case l3 => k_is); (case c3 => k_is); (case k3 => k_is); (case a4 => k_is)
    (case l4 => k_is); (case c4 => k_is); (case k4 => k_is); (case a5 => k_is); (case l5 => k_is); (case c5 => k_is)
    (case k5 => k_is); (case a6 => k_is); (case l6 => k_is); (case c6 => k_is); (case k6 => k_is); (case a7 => k_is)
    (case l7 => k_is); (case c7 => k_is); (case k7 => k_is); (case a8 => k_is); (case l8 => k_is); (case c8 => k_is)
    (case k8 => k_is); (case a9 => k_is); (case l9 => k_is); (case c9 => k_is); (case k9 => k_is); (case a10 => k_is)
    (case l10 => k_is); (case c10 => k_is); (case k10 => k_is); (case a11 => k_is); (case l11 => k_is); (case c11 => k_is)
    (case k11 => k_is); (case a12 => k_is); (case l12 => k_is); (case c12 => k_is); (case k12 => k_is); (case a13 => k_is)
    (case l13 => k_is); (case c13 => k_is); (case k13 => k_is); (case a14 => k_is); (case l14 => k_is); (case c14 => k_is)
    (case k14 => k_is); (case a15 => k_is); (case l15 => k_is); (case c15 => k_is); (case k15 => k_is); (case a16 => k_is)
    (case l16 => k_is); (case c16 => k_is); (case k16 => k_is); (case a17 => k_is); (case l17 => k_is); (case c17 => k_is)
    (case k17 => k_is); (case a18 => k_is); (case l18 => k_is); (case c18 => k_is); (case k18 => k_is); (case a19 => k_is)
    (case l19 => k_is); (case c19 => k_is); (case k19 => k_is); (case a20 => k_is); (case l20 => k_is); (case c20 => k_is)
    (case k20 => k_is); (case a21 => k_is); (case l21 => k_is); (case c21 => k_is); (case k21 => k_is); (case a22 => k_is)
    (case l22 => k_is); (case c22 => k_is); (case k22 => k_is); (case a23 => k_is); (case l23 => k_is); (case c23 => k_is)
    (case k23 => k_is); (case a24 => k_is); (case l24 => k_is); (case c24 => k_is); (case k24 => k_is); (case a25 => k_is)
    (case l25 => k_is); (case c25 => k_is); (case k25 => k_is); (case a26 => k_is); (case l26 => k_is); (case c26 => k_is)
    (case k26 => k_is); (case a27 => k_is); (case l27 => k_is); (case c27 => k_is); (case k27 => k_is); (case a28 => k_is)
    (case l28 => k_is); (case c28 => k_is); (case k28 => k_is); (case a29 => k_is); (case l29 => k_is); (case c29 => k_is)
    (case k29 => k_is); (case a30 => k_is); (case l30 => k_is); (case c30 => k_is); (case k30 => k_is); (case a31 => k_is)
    (case l31 => k_is); (case c31 => k_is); (case k31 => k_is); (case a32 => k_is); (case l32 => k_is); (case c32 => k_is)
    (case k32 => k_is); (case a33 => k_is); (case l33 => k_is); (case c33 => k_is); (case k33 => k_is); (case a34 => k_is)
    (case l34 => k_is); (case c34 => k_is); (case k34 => k_is); (case a35 => k_is); (case l35 => k_is); (case c35 => k_is)
    (case k35 => k_is); (case a36 => k_is); (case l36 => k_is); (case c36 => k_is); (case k36 => k_is); (case a37 => k_is)
    (case l37 => k_is); (case c37 => k_is); (case k37 => k_is); (case a38 => k_is); (case l38 => k_is); (case c38 => k_is)
    (case k38 => k_is); (case a39 => k_is); (case l39 => k_is); (case c39 => k_is); (case k39 => k_is); (case a40 => k_is)
    (case l40 => k_is); (case c40 => k_is); (case k40 => k_is); (case a41 => k_is); (case l41 => k_is); (case c41 => k_is)
    (case k41 => k_is); (case a42 => k_is); (case l42 => k_is); (case c42 => k_is); (case k42 => k_is); (case a43 => k_is)
    (case l43 => k_is); (case c43 => k_is); (case k43 => k_is); (case a44 => k_is); (case l44 => k_is); (case c44 => k_is)
    (case k44 => k_is)
