import PyProof.Rows.All
import Wide.All
import OpenK.AllK
import Wide.FinOn
import HandS.ForMost
import HandS.ForExc
import HandS.TryMany
import HandS.IsInst
import HandS.More
import HandS.Rev
import HandS.Style
import HandS.Dict
import KE.DatumOrd
import KE.Datum
import PySem.Challenge.RW_everyloop_k45_shortest_texts
set_option Elab.async false
set_option maxRecDepth 100000
set_option linter.all false
/-! Pi: an interpreter of the part of Python that stands in these programs, as plain functions over data, and its soundness over the hand layer. -/
namespace Pi
open PySem L2

/-! ### data, objects that are shared, the slots of a frame -/
/-- a value as data. own: a list that its one slot owns (or a new one); loc: that slot's list, named by the slot; hnd: a shared object by its number; scr: the script; cls: a class by its name -/
inductive D where
  | non | bl (b : Bool) | int (i : Int) | str (x : Str) | lst (l : List D) | tup (l : List D) | hnd (n : Nat)
  | scr (l : List Int) | own (l : List D) | loc (i : Nat) | ty (n : String) | obj (c : Str) (fs : List (Str × D))
/-- a shared object -/
inductive Ob where
  | lst (l : List D) | dK (l : List (Key × D)) | dT (l : List (List Key × D)) | ins (c : Str) (fs : List (Str × D))
abbrev Sto := List Ob
abbrev Env := List (Option D)
inductive Out (α : Type) where
  | ok (a : α) (δ : Sto) | err (c : Str) (δ : Sto) | stk
namespace Out
variable {α β : Type}
def bind : Out α → (α → Sto → Out β) → Out β
  | .ok a δ, k => k a δ
  | .err c δ, _ => .err c δ
  | .stk, _ => .stk
@[simp] theorem bind_ok (a : α) (δ : Sto) (k : α → Sto → Out β) : (Out.ok a δ).bind k = k a δ := rfl
@[simp] theorem bind_err (c : Str) (δ : Sto) (k : α → Sto → Out β) : (Out.err c δ : Out α).bind k = .err c δ := rfl
@[simp] theorem bind_stk (k : α → Sto → Out β) : (Out.stk : Out α).bind k = .stk := rfl
end Out
/-- what a statement comes to -/
inductive OutS where
  | nx (ρ : Env) (δ : Sto) | rt (d : D) (δ : Sto) | bk (ρ : Env) (δ : Sto) | ct (ρ : Env) (δ : Sto) | err (c : Str) (ρ : Env) (δ : Sto) | stk

/-- the written part, and where the classes stand -/
structure Cn where
  K : PySem.W.Frag
  ca : Str → Addr

/-! ### what stands for what -/
section
variable (c : Cn) (α : List Addr) (B : Addr → Prop) (H : Hp)
mutual
inductive Rp : V → D → Prop
  | non : Rp .non .non
  | bl (b : Bool) : Rp (.bl b) (.bl b)
  | int (i : Int) : Rp (.int i) (.int i)
  | str (x : Str) : Rp (.str x) (.str x)
  | lst {a : Addr} {xs : List V} {l : List D} : H a = some (.lst xs) → a ∉ α → ¬ B a → RpL xs l → Rp (.ref a) (.lst l)
  | tup {a : Addr} {xs : List V} {l : List D} : H a = some (.tup xs) → a ∉ α → ¬ B a → RpL xs l → Rp (.ref a) (.tup l)
  | hnd {a : Addr} {n : Nat} : α[n]? = some a → Rp (.ref a) (.hnd n)
  | scr {a : Addr} {l : List Int} : (Rd H a (.lst (l.map V.int)) ∧ a ∉ α ∧ ¬ B a) ∨ SqL c.K (fun _ => none) a (l.map V.int) → Rp (.ref a) (.scr l)
  | ty (n : String) : Rp (.ty n) (.ty n)
  | obj {a dx : Addr} {n : Str} {gs : List (Str × V)} {fs : List (Str × D)} : H a = some (.ins (c.ca n) dx gs) → a ∉ α → ¬ B a → RpF gs fs → Rp (.ref a) (.obj n fs)
inductive RpL : List V → List D → Prop
  | nil : RpL [] []
  | cons {v : V} {vs : List V} {d : D} {ds : List D} : Rp v d → RpL vs ds → RpL (v :: vs) (d :: ds)
inductive RpF : List (Str × V) → List (Str × D) → Prop
  | nil : RpF [] []
  | cons {k : Str} {v : V} {vs : List (Str × V)} {d : D} {ds : List (Str × D)} : Rp v d → RpF vs ds → RpF ((k, v) :: vs) ((k, d) :: ds)
end
inductive RpK {κ : Type} : List (κ × V) → List (κ × D) → Prop
  | nil : RpK [] []
  | cons {k : κ} {v : V} {vs : List (κ × V)} {d : D} {ds : List (κ × D)} : Rp c α B H v d → RpK vs ds → RpK ((k, v) :: vs) ((k, d) :: ds)
def RpOb (a : Addr) : Ob → Prop
  | .lst l => ∃ xs, H a = some (.lst xs) ∧ RpL c α B H xs l
  | .dK l => ∃ ks, H a = some (.dK ks) ∧ RpK c α B H ks l
  | .dT l => ∃ ks, H a = some (.dT ks) ∧ RpK c α B H ks l
  | .ins n l => ∃ dx fs, H a = some (.ins (c.ca n) dx fs) ∧ RpK c α B H fs l
/-- the shared objects; B: what is kept apart -/
structure RpS (δ : Sto) : Prop where
  len : α.length = δ.length
  nd : α.Nodup
  tr : ∀ a, B a → a ∉ α ∧ ∃ o, H a = some o
  at_ : ∀ (n : Nat) (a : Addr) (o : Ob), α[n]? = some a → δ[n]? = some o → RpOb c α B H a o
end

/-- from (α, H) to (α', H'): what was tracked stands, but the shared objects; the new shared ones are new -/
structure Ext (α α' : List Addr) (H H' : Hp) : Prop where
  pre : ∃ β, α' = α ++ β
  keep : ∀ a o, a ∉ α → H a = some o → H' a = some o
  new : ∀ a, a ∈ α' → a ∉ α → H a = none
  there : ∀ a o, H a = some o → ∃ u, H' a = some u

section
variable {c : Cn} {α α' α1 α2 : List Addr} {A B B' : Addr → Prop} {H H' H1 H2 : Hp}
theorem Ext.refl (α : List Addr) (H : Hp) : Ext α α H H := ⟨⟨[], (List.append_nil _).symm⟩, fun _ _ _ h => h, fun _ h n => absurd h n, fun _ o h => ⟨o, h⟩⟩
theorem Ext.free (e : Ext α α' H H') {a : Addr} (h : H' a = none) : H a = none := by
  cases q : H a with
  | none => rfl
  | some o =>
    obtain ⟨u, z⟩ := e.there a o q
    rw [h] at z
    cases z
theorem Ext.out (e : Ext α α' H H') {a : Addr} {o : HO} (n : a ∉ α) (h : H a = some o) : a ∉ α' := fun z => by
  have := e.new a z n
  rw [h] at this
  cases this
theorem Ext.trans (e : Ext α α1 H H1) (f : Ext α1 α2 H1 H2) : Ext α α2 H H2 := by
  obtain ⟨β, rfl⟩ := e.pre
  obtain ⟨γ, rfl⟩ := f.pre
  refine ⟨⟨β ++ γ, List.append_assoc _ _ _⟩, fun a o n h => f.keep a o (e.out n h) (e.keep a o n h), fun a h n => ?_, fun a o h => ?_⟩
  · by_cases z : a ∈ α ++ β
    · exact e.new a z n
    · exact e.free (f.new a h z)
  · obtain ⟨u, z⟩ := e.there a o h
    exact f.there a u z
theorem Ext.get (e : Ext α α' H H') {n : Nat} {a : Addr} (h : α[n]? = some a) : α'[n]? = some a := by
  obtain ⟨β, rfl⟩ := e.pre
  rw [List.getElem?_append_left (List.getElem?_eq_some_iff.mp h).1]
  exact h
theorem Ext.mem (e : Ext α α' H H') {a : Addr} (h : a ∈ α) : a ∈ α' := by
  obtain ⟨β, rfl⟩ := e.pre
  exact List.mem_append_left _ h
theorem Ext.rd (e : Ext α α' H H') {a : Addr} {u : HO} (n : a ∉ α) (h : Rd H a u) : Rd H' a u := by
  rcases h with h | ⟨o, h⟩
  · exact .inl (e.keep _ _ n h)
  · exact .inr ⟨o, e.keep _ _ n h⟩
theorem rd_some {a : Addr} {u : HO} (h : Rd H a u) : ∃ o, H a = some o := by
  rcases h with h | ⟨o, h⟩
  · exact ⟨_, h⟩
  · exact ⟨_, h⟩
mutual
theorem Rp.ext (e : Ext α α' H H') (ho : ∀ a, B' a → (∃ o, H a = some o) → B a) : ∀ {v : V} {d : D}, Rp c α B H v d → Rp c α' B' H' v d
  | _, _, .non => .non
  | _, _, .bl b => .bl b
  | _, _, .int i => .int i
  | _, _, .str x => .str x
  | _, _, .lst h1 h2 h3 h4 => .lst (e.keep _ _ h2 h1) (e.out h2 h1) (fun z => h3 (ho _ z ⟨_, h1⟩)) (RpL.ext e ho h4)
  | _, _, .tup h1 h2 h3 h4 => .tup (e.keep _ _ h2 h1) (e.out h2 h1) (fun z => h3 (ho _ z ⟨_, h1⟩)) (RpL.ext e ho h4)
  | _, _, .hnd h => .hnd (e.get h)
  | _, _, .scr (.inl ⟨h1, h2, h3⟩) => .scr (.inl ⟨e.rd h2 h1, let ⟨_, z⟩ := rd_some h1; e.out h2 z, fun z => h3 (ho _ z (rd_some h1))⟩)
  | _, _, .scr (.inr h) => .scr (.inr h)
  | _, _, .ty n => .ty n
  | _, _, .obj h1 h2 h3 h4 => .obj (e.keep _ _ h2 h1) (e.out h2 h1) (fun z => h3 (ho _ z ⟨_, h1⟩)) (RpF.ext e ho h4)
theorem RpL.ext (e : Ext α α' H H') (ho : ∀ a, B' a → (∃ o, H a = some o) → B a) : ∀ {v : List V} {d : List D}, RpL c α B H v d → RpL c α' B' H' v d
  | _, _, .nil => .nil
  | _, _, .cons h1 h2 => .cons (Rp.ext e ho h1) (RpL.ext e ho h2)
theorem RpF.ext (e : Ext α α' H H') (ho : ∀ a, B' a → (∃ o, H a = some o) → B a) : ∀ {v : List (Str × V)} {d : List (Str × D)}, RpF c α B H v d → RpF c α' B' H' v d
  | _, _, .nil => .nil
  | _, _, .cons h1 h2 => .cons (Rp.ext e ho h1) (RpF.ext e ho h2)
end
end
end Pi
namespace Pi
open PySem L2
section
variable {c : Cn} {α α' α1 α2 : List Addr} {A B B' : Addr → Prop} {H H' H1 H2 : Hp} {δ δ' : Sto}
/-! ### fewer things kept apart -/
theorem Rp.less (hB : ∀ a, B' a → B a) {v : V} {d : D} (h : Rp c α B H v d) : Rp c α B' H v d := h.ext (Ext.refl α H) fun a z _ => hB a z
theorem RpL.less (hB : ∀ a, B' a → B a) {v : List V} {d : List D} (h : RpL c α B H v d) : RpL c α B' H v d := h.ext (Ext.refl α H) fun a z _ => hB a z
theorem Rp.stay (e : Ext α α' H H') {v : V} {d : D} (h : Rp c α B H v d) : Rp c α' B H' v d := h.ext e fun _ z _ => z
theorem RpL.stay (e : Ext α α' H H') {v : List V} {d : List D} (h : RpL c α B H v d) : RpL c α' B H' v d := h.ext e fun _ z _ => z
/-- one more thing kept apart that was not there -/
theorem Rp.more {p : Addr} (hp : H p = none) {v : V} {d : D} (h : Rp c α B H v d) : Rp c α (fun a => B a ∨ a = p) H v d := h.ext (Ext.refl α H) fun a z ⟨o, q⟩ => by
  rcases z with z | z
  · exact z
  · rw [z, hp] at q; cases q
theorem RpL.more {p : Addr} (hp : H p = none) {v : List V} {d : List D} (h : RpL c α B H v d) : RpL c α (fun a => B a ∨ a = p) H v d := h.ext (Ext.refl α H) fun a z ⟨o, q⟩ => by
  rcases z with z | z
  · exact z
  · rw [z, hp] at q; cases q
theorem RpK.map {κ : Type} (f : ∀ v d, Rp c α B H v d → Rp c α' B' H' v d) : ∀ {vs : List (κ × V)} {ds : List (κ × D)}, RpK c α B H vs ds → RpK c α' B' H' vs ds
  | _, _, .nil => .nil
  | _, _, .cons h t => .cons (f _ _ h) (RpK.map f t)
theorem RpL.len {vs : List V} {ds : List D} (h : RpL c α B H vs ds) : vs.length = ds.length := by
  induction ds generalizing vs with
  | nil => cases h; rfl
  | cons d ds ih => cases h with | cons h1 h2 => simp [ih h2]
theorem RpK.len {κ : Type} {vs : List (κ × V)} {ds : List (κ × D)} (h : RpK c α B H vs ds) : vs.length = ds.length := by
  induction h with
  | nil => rfl
  | cons _ _ ih => simp [ih]
theorem RpL.get {vs : List V} {ds : List D} (h : RpL c α B H vs ds) : ∀ (i : Nat) (d : D), ds[i]? = some d → ∃ v, vs[i]? = some v ∧ Rp c α B H v d := by
  induction ds generalizing vs with
  | nil => intro i d e; simp at e
  | cons x ds ih =>
    cases h with
    | cons h1 h2 =>
      intro i d e
      cases i with
      | zero => simp at e; subst e; exact ⟨_, rfl, h1⟩
      | succ i => simp at e; simpa using ih h2 i d e
theorem RpL.append {vs us : List V} {ds es : List D} (h : RpL c α B H vs ds) (k : RpL c α B H us es) : RpL c α B H (vs ++ us) (ds ++ es) := by
  induction ds generalizing vs with
  | nil => cases h; exact k
  | cons d ds ih => cases h with | cons h1 h2 => exact .cons h1 (ih h2)
theorem RpL.set {vs : List V} {ds : List D} (h : RpL c α B H vs ds) {v : V} {d : D} (k : Rp c α B H v d) : ∀ i : Nat, RpL c α B H (vs.set i v) (ds.set i d) := by
  induction ds generalizing vs with
  | nil => intro i; cases h; exact .nil
  | cons x ds ih =>
    cases h with
    | cons h1 h2 =>
      intro i
      cases i with
      | zero => exact .cons k h2
      | succ i => exact .cons h1 (ih h2 i)
theorem RpL.take {vs : List V} {ds : List D} (h : RpL c α B H vs ds) : ∀ n : Nat, RpL c α B H (vs.take n) (ds.take n) := by
  induction ds generalizing vs with
  | nil => intro i; cases h; simp; exact .nil
  | cons x ds ih =>
    cases h with
    | cons h1 h2 =>
      intro i
      cases i with
      | zero => exact .nil
      | succ i => exact .cons h1 (ih h2 i)
theorem RpL.drop {vs : List V} {ds : List D} (h : RpL c α B H vs ds) : ∀ n : Nat, RpL c α B H (vs.drop n) (ds.drop n) := by
  induction ds generalizing vs with
  | nil => intro i; cases h; simp; exact .nil
  | cons x ds ih =>
    intro i
    cases i with
    | zero => exact h
    | succ i => cases h with | cons h1 h2 => exact ih h2 i
theorem RpL.reverse {vs : List V} {ds : List D} (h : RpL c α B H vs ds) : RpL c α B H vs.reverse ds.reverse := by
  induction ds generalizing vs with
  | nil => cases h; exact .nil
  | cons d ds ih =>
    cases h with
    | cons h1 h2 =>
      rw [List.reverse_cons, List.reverse_cons]
      exact (ih h2).append (.cons h1 .nil)
theorem RpL.rep {vs : List V} {ds : List D} (h : RpL c α B H vs ds) : ∀ n : Nat, RpL c α B H (List.replicate n vs).flatten (List.replicate n ds).flatten
  | 0 => .nil
  | n + 1 => by
    rw [List.replicate_succ, List.replicate_succ, List.flatten_cons, List.flatten_cons]
    exact h.append (RpL.rep h n)

theorem RpOb.map {o : Ob} {a : Addr} (hf : ∀ v d, Rp c α B H v d → Rp c α' B' H' v d) (hl : ∀ v d, RpL c α B H v d → RpL c α' B' H' v d) (hk : ∀ u, H a = some u → H' a = some u) (h : RpOb c α B H a o) : RpOb c α' B' H' a o := by
  cases o with
  | lst l => obtain ⟨xs, e, r⟩ := h; exact ⟨xs, hk _ e, hl _ _ r⟩
  | dK l => obtain ⟨xs, e, r⟩ := h; exact ⟨xs, hk _ e, r.map hf⟩
  | dT l => obtain ⟨xs, e, r⟩ := h; exact ⟨xs, hk _ e, r.map hf⟩
  | ins n l => obtain ⟨dx, xs, e, r⟩ := h; exact ⟨dx, xs, hk _ e, r.map hf⟩
theorem RpOb.there {o : Ob} {a : Addr} (h : RpOb c α B H a o) : ∃ u, H a = some u := by
  cases o with
  | lst l => obtain ⟨xs, e, r⟩ := h; exact ⟨_, e⟩
  | dK l => obtain ⟨xs, e, r⟩ := h; exact ⟨_, e⟩
  | dT l => obtain ⟨xs, e, r⟩ := h; exact ⟨_, e⟩
  | ins n l => obtain ⟨dx, xs, e, r⟩ := h; exact ⟨_, e⟩
theorem RpS.there (s : RpS c α B H δ) {a : Addr} (h : a ∈ α) : ∃ u, H a = some u := by
  obtain ⟨n, hn, e⟩ := List.getElem_of_mem h
  have h1 : α[n]? = some a := by rw [List.getElem?_eq_getElem hn, e]
  have h2 : n < δ.length := by rw [← s.len]; exact hn
  exact (s.at_ n a _ h1 (List.getElem?_eq_getElem h2)).there
theorem RpS.less (hB : ∀ a, B' a → B a) (s : RpS c α B H δ) : RpS c α B' H δ :=
  ⟨s.len, s.nd, fun a z => s.tr a (hB a z), fun n a o h1 h2 => (s.at_ n a o h1 h2).map (fun _ _ r => r.less hB) (fun _ _ r => r.less hB) fun _ e => e⟩
/-- all that was there stands -/
theorem RpS.same (e : ∀ a o, H a = some o → H' a = some o) (s : RpS c α B H δ) : RpS c α B H' δ := by
  have x : Ext α α H H' := ⟨⟨[], (List.append_nil _).symm⟩, fun a o _ h => e a o h, fun _ h n => absurd h n, fun a o h => ⟨o, e a o h⟩⟩
  refine ⟨s.len, s.nd, fun a z => ⟨(s.tr a z).1, ?_⟩, fun n a o h1 h2 => (s.at_ n a o h1 h2).map (fun _ _ r => r.stay x) (fun _ _ r => r.stay x) fun u q => e a u q⟩
  obtain ⟨o, q⟩ := (s.tr a z).2
  exact ⟨o, e a o q⟩
theorem RpS.fresh (s : RpS c α B H δ) {p : Addr} (h : H p = none) : p ∉ α ∧ ¬ B p := by
  refine ⟨fun z => ?_, fun z => ?_⟩
  · obtain ⟨u, q⟩ := s.there z
    rw [h] at q; cases q
  · obtain ⟨_, u, q⟩ := s.tr p z
    rw [h] at q; cases q
/-- a new object, kept apart -/
theorem ext_new {p : Addr} {o : HO} (h : H p = none) : Ext α α H (upd H p o) := by
  have k : ∀ a u, H a = some u → upd H p o a = some u := fun a u e => by rw [upd_ne (ne_of_none e h)]; exact e
  exact ⟨⟨[], (List.append_nil _).symm⟩, fun a u _ e => k a u e, fun _ h n => absurd h n, fun a u e => ⟨u, k a u e⟩⟩
theorem same_new {p : Addr} {o : HO} (h : H p = none) : ∀ a u, H a = some u → upd H p o a = some u := fun a u e => by rw [upd_ne (ne_of_none e h)]; exact e
theorem RpS.new (s : RpS c α B H δ) {p : Addr} {o : HO} (h : H p = none) : RpS c α (fun a => B a ∨ a = p) (upd H p o) δ := by
  have f := s.fresh h
  refine ⟨s.len, s.nd, fun a z => ?_, fun n a u h1 h2 => ?_⟩
  · rcases z with z | z
    · obtain ⟨n, u, q⟩ := s.tr a z
      exact ⟨n, u, same_new h a u q⟩
    · subst z
      exact ⟨f.1, o, upd_same⟩
  · refine (s.at_ n a u h1 h2).map (fun v d r => ((r.more h).stay (ext_new h))) (fun v d r => ((r.more h).stay (ext_new h))) fun u e => same_new h a u e
/-- one more shared object -/
theorem RpS.share (s : RpS c α B H δ) {p : Addr} {o : HO} {ob : Ob} (h : H p = none) (hp : RpOb c (α ++ [p]) B (upd H p o) p ob) : RpS c (α ++ [p]) B (upd H p o) (δ ++ [ob]) ∧ Ext α (α ++ [p]) H (upd H p o) := by
  have f := s.fresh h
  have x : Ext α (α ++ [p]) H (upd H p o) := by
    refine ⟨⟨[p], rfl⟩, fun a u _ e => same_new h a u e, fun a z n => ?_, fun a u e => ⟨u, same_new h a u e⟩⟩
    rcases List.mem_append.mp z with z | z
    · exact absurd z n
    · rw [List.mem_singleton.mp z]; exact h
  refine ⟨⟨by simp [s.len], ?_, fun a z => ?_, fun n a u h1 h2 => ?_⟩, x⟩
  · rw [List.nodup_append]
    refine ⟨s.nd, by simp, fun a ha b hb e => ?_⟩
    rw [List.mem_singleton.mp hb] at e
    exact f.1 (e ▸ ha)
  · obtain ⟨n, u, q⟩ := s.tr a z
    refine ⟨fun hm => ?_, u, same_new h a u q⟩
    rcases List.mem_append.mp hm with hm | hm
    · exact n hm
    · rw [List.mem_singleton.mp hm, h] at q; cases q
  · by_cases hn : n < α.length
    · rw [List.getElem?_append_left hn] at h1
      rw [List.getElem?_append_left (by rw [← s.len]; exact hn)] at h2
      exact (s.at_ n a u h1 h2).map (fun v d r => r.stay x) (fun v d r => r.stay x) fun u e => same_new h a u e
    · rw [List.getElem?_append_right (by omega)] at h1
      rw [List.getElem?_append_right (by rw [← s.len]; omega), ← s.len] at h2
      have e0 : n - α.length = 0 := by
        have := (List.getElem?_eq_some_iff.mp h1).1
        simp at this
        omega
      rw [e0] at h1 h2
      simp at h1 h2
      subst h1 h2
      exact hp
/-- a shared object is written -/
theorem ext_write {p : Addr} {o u : HO} (h : p ∈ α) (hp : H p = some u) : Ext α α H (upd H p o) := by
  refine ⟨⟨[], (List.append_nil _).symm⟩, fun a u n e => ?_, fun _ h n => absurd h n, fun a u e => ?_⟩
  · rw [upd_ne (fun z => n (by rw [z]; exact h))]; exact e
  · by_cases z : a = p
    · subst z; exact ⟨o, upd_same⟩
    · exact ⟨u, by rw [upd_ne z]; exact e⟩
theorem RpS.write (s : RpS c α B H δ) {n : Nat} {p : Addr} {o : HO} {ob : Ob} (h : α[n]? = some p) (hp : RpOb c α B (upd H p o) p ob) : RpS c α B (upd H p o) (δ.set n ob) ∧ Ext α α H (upd H p o) := by
  have hm : p ∈ α := List.mem_of_getElem? h
  obtain ⟨u, hu⟩ := s.there hm
  have x : Ext α α H (upd H p o) := ext_write hm hu
  refine ⟨⟨by simp [s.len], s.nd, fun a z => ?_, fun m a ob' h1 h2 => ?_⟩, x⟩
  · obtain ⟨k, q⟩ := s.tr a z
    obtain ⟨v, q⟩ := q
    exact ⟨k, v, x.keep a v k q⟩
  · by_cases hmn : m = n
    · subst hmn
      rw [h] at h1
      cases h1
      have hl : m < δ.length := by rw [← s.len]; exact (List.getElem?_eq_some_iff.mp h).1
      rw [List.getElem?_set_self hl] at h2
      cases h2
      exact hp
    · rw [List.getElem?_set_ne (fun z => hmn z.symm)] at h2
      have hap : a ≠ p := fun z => hmn (nd_ix s.nd h1 (by rw [z]; exact h))
      exact (s.at_ m a ob' h1 h2).map (fun v d r => r.stay x) (fun v d r => r.stay x) fun u e => by rw [upd_ne hap]; exact e
end

/-! ### a frame -/
def MutA (σ : St) (ρ : Env) (a : Addr) : Prop := ∃ (i : Nat) (l : List D), ρ[i]? = some (some (.own l)) ∧ σ[i]? = some (some (.ref a))
def Bx (A : Addr → Prop) (σ : St) (ρ : Env) : Addr → Prop := fun a => A a ∨ MutA σ ρ a
def isVal : D → Bool
  | .own _ => false
  | .loc _ => false
  | _ => true
/-- the frame's entry; M: lists that stood then and may be changed -/
structure Base where
  α : List Addr
  A : Addr → Prop
  H : Hp
  M : Addr → Prop
/-- as Ext, but for M -/
structure ExtM (M : Addr → Prop) (α α' : List Addr) (H H' : Hp) : Prop where
  pre : ∃ β, α' = α ++ β
  keep : ∀ a o, a ∉ α → ¬ M a → H a = some o → H' a = some o
  new : ∀ a, a ∈ α' → a ∉ α → H a = none
  there : ∀ a o, H a = some o → ∃ u, H' a = some u
theorem Ext.m {M : Addr → Prop} {α α' : List Addr} {H H' : Hp} (e : Ext α α' H H') : ExtM M α α' H H' := ⟨e.pre, fun a o n _ h => e.keep a o n h, e.new, e.there⟩
theorem ExtM.ext {M : Addr → Prop} {α α' : List Addr} {H H' : Hp} (e : ExtM M α α' H H') (h : ∀ a, ¬ M a) : Ext α α' H H' := ⟨e.pre, fun a o n z => e.keep a o n (h a) z, e.new, e.there⟩
theorem ExtM.free {M : Addr → Prop} {α α' : List Addr} {H H' : Hp} (e : ExtM M α α' H H') {a : Addr} (h : H' a = none) : H a = none := by
  cases q : H a with
  | none => rfl
  | some o =>
    obtain ⟨u, z⟩ := e.there a o q
    rw [h] at z
    cases z
theorem ExtM.trans {M M' : Addr → Prop} {α α1 α2 : List Addr} {H H1 H2 : Hp} (e : ExtM M α α1 H H1) (f : ExtM M' α1 α2 H1 H2) (hM : ∀ a o, M' a → H a = some o → M a) : ExtM M α α2 H H2 := by
  obtain ⟨β, rfl⟩ := e.pre
  obtain ⟨γ, rfl⟩ := f.pre
  have out : ∀ a o, a ∉ α → H a = some o → a ∉ α ++ β := fun a o n h z => by
    have := e.new a z n
    rw [h] at this
    cases this
  refine ⟨⟨β ++ γ, List.append_assoc _ _ _⟩, fun a o n m h => f.keep a o (out a o n h) (fun z => m (hM a o z h)) (e.keep a o n m h), fun a h n => ?_, fun a o h => ?_⟩
  · by_cases z : a ∈ α ++ β
    · exact e.new a z n
    · exact e.free (f.new a h z)
  · obtain ⟨u, z⟩ := e.there a o h
    exact f.there a u z
theorem ExtM.then {M : Addr → Prop} {α α1 α2 : List Addr} {H H1 H2 : Hp} (e : ExtM M α α1 H H1) (f : Ext α1 α2 H1 H2) : ExtM M α α2 H H2 := e.trans (f.m (M := fun _ => False)) fun _ _ z => z.elim
structure Rel (c : Cn) (b : Base) (α : List Addr) (H : Hp) (σ : St) (ρ : Env) (δ : Sto) : Prop where
  len : σ.length = ρ.length
  val : ∀ (i : Nat) (d : D), ρ[i]? = some (some d) → isVal d = true → ∃ v, σ[i]? = some (some v) ∧ Rp c α (Bx b.A σ ρ) H v d
  own : ∀ (i : Nat) (l : List D), ρ[i]? = some (some (.own l)) → ∃ (a : Addr) (xs : List V), σ[i]? = some (some (.ref a)) ∧ H a = some (.lst xs) ∧ RpL c α (Bx b.A σ ρ) H xs l ∧ (b.M a ∨ b.H a = none) ∧ ¬ b.A a
  inj : ∀ (i j : Nat) (l l' : List D) (a : Addr), ρ[i]? = some (some (.own l)) → ρ[j]? = some (some (.own l')) → σ[i]? = some (some (.ref a)) → σ[j]? = some (some (.ref a)) → i = j
  nloc : ∀ (i j : Nat), ρ[i]? ≠ some (some (.loc j))
  sto : RpS c α (Bx b.A σ ρ) H δ
  ext : ExtM b.M b.α α b.H H
section
variable {c : Cn} {b : Base} {α α' : List Addr} {H H' : Hp} {σ : St} {ρ : Env} {δ δ' : Sto}
theorem Rel.step (r : Rel c b α H σ ρ δ) (e : Ext α α' H H') (s : RpS c α' (Bx b.A σ ρ) H' δ') : Rel c b α' H' σ ρ δ' := by
  refine ⟨r.len, fun i d h k => ?_, fun i l h => ?_, r.inj, r.nloc, s, r.ext.then e⟩
  · obtain ⟨v, h1, h2⟩ := r.val i d h k
    exact ⟨v, h1, h2.stay e⟩
  · obtain ⟨a, xs, h1, h2, h3, h4⟩ := r.own i l h
    exact ⟨a, xs, h1, e.keep _ _ (r.sto.tr a (.inr ⟨i, l, h, h1⟩)).1 h2, h3.stay e, h4⟩
end
end Pi
namespace Pi
open PySem L2
section
variable {c : Cn} {b : Base} {α α' α1 α2 : List Addr} {A B B' : Addr → Prop} {H H' H1 H2 : Hp} {σ σ' : St} {ρ ρ' : Env} {δ δ' δ1 : Sto}
/-! ### results -/
/-- the result of an operation -/
def ResV (c : Cn) (B : Addr → Prop) (α' : List Addr) (H H' : Hp) (δ' : Sto) (v : V) (d : D) : Prop :=
  match d with
  | .own l => ∃ p xs, v = .ref p ∧ H p = none ∧ H' p = some (.lst xs) ∧ RpS c α' (fun a => B a ∨ a = p) H' δ' ∧ RpL c α' (fun a => B a ∨ a = p) H' xs l
  | .loc _ => False
  | d => RpS c α' B H' δ' ∧ Rp c α' B H' v d
/-- the result of an expression in a frame -/
def Res (c : Cn) (B : Addr → Prop) (σ : St) (ρ : Env) (α' : List Addr) (H H' : Hp) (δ' : Sto) (v : V) (d : D) : Prop :=
  match d with
  | .loc i => RpS c α' B H' δ' ∧ (∃ l, ρ[i]? = some (some (.own l))) ∧ σ[i]? = some (some v)
  | d => ResV c B α' H H' δ' v d
/-- what an operation takes: mut: a list that is not to be kept -/
def RpQ (c : Cn) (α : List Addr) (B : Addr → Prop) (H : Hp) (v : V) (d : D) : Prop :=
  match d with
  | .own l => ∃ a xs, v = .ref a ∧ H a = some (.lst xs) ∧ a ∉ α ∧ RpL c α B H xs l
  | .loc _ => False
  | d => Rp c α B H v d
inductive RpQL (c : Cn) (α : List Addr) (B : Addr → Prop) (H : Hp) : List V → List D → Prop
  | nil : RpQL c α B H [] []
  | cons {v : V} {vs : List V} {d : D} {ds : List D} : RpQ c α B H v d → RpQL c α B H vs ds → RpQL c α B H (v :: vs) (d :: ds)
def opd (ρ : Env) : D → D
  | .loc i => match ρ[i]? with
    | some (some (.own l)) => .own l
    | _ => .non
  | d => d
def fzd : D → Option D
  | .own l => some (.lst l)
  | .loc _ => none
  | d => some d
theorem RpQ.stay (e : Ext α α' H H') {v : V} {d : D} (h : RpQ c α B H v d) : RpQ c α' B H' v d := by
  cases d with
  | own l => obtain ⟨a, xs, h1, h2, h3, h4⟩ := h; exact ⟨a, xs, h1, e.keep _ _ h3 h2, e.out h3 h2, h4.stay e⟩
  | loc i => exact h
  | _ => exact Rp.stay e h
theorem RpQL.stay (e : Ext α α' H H') {v : List V} {d : List D} (h : RpQL c α B H v d) : RpQL c α' B H' v d := by
  induction h with
  | nil => exact .nil
  | cons h _ ih => exact .cons (h.stay e) ih
theorem Rp.q {v : V} {d : D} (h : Rp c α B H v d) : RpQ c α B H v d := by cases h <;> (constructor <;> assumption)
theorem Rp.val {v : V} {d : D} (h : Rp c α B H v d) : isVal d = true := by cases h <;> rfl
theorem ResV.sto {v : V} {d : D} (h : ResV c B α' H H' δ' v d) : RpS c α' B H' δ' := by
  cases d with
  | own l => obtain ⟨p, xs, h1, h2, h3, h4, h5⟩ := h; exact h4.less fun a z => .inl z
  | loc i => exact h.elim
  | _ => exact h.1
theorem Res.sto {v : V} {d : D} (h : Res c B σ ρ α' H H' δ' v d) : RpS c α' B H' δ' := by
  cases d with
  | loc i => exact h.1
  | own l => exact ResV.sto (d := .own l) h
  | _ => exact h.1
/-- a value's or a new list's result as a value -/
theorem Res.fz (r : RpS c α B H δ) {v : V} {d d' : D} (h : Res c B σ ρ α' H H' δ' v d) (e : fzd d = some d') : RpS c α' B H' δ' ∧ Rp c α' B H' v d' := by
  refine ⟨h.sto, ?_⟩
  cases d with
  | own l =>
    obtain ⟨p, xs, h1, h2, h3, h4, h5⟩ := h
    cases e
    subst h1
    exact .lst h3 (h4.tr p (.inr rfl)).1 (r.fresh h2).2 (h5.less fun a z => .inl z)
  | loc i => cases e
  | _ => cases e; exact h.2
theorem ResV.fz (r : RpS c α B H δ) {v : V} {d d' : D} (h : ResV c B α' H H' δ' v d) (e : fzd d = some d') : RpS c α' B H' δ' ∧ Rp c α' B H' v d' := by
  cases d with
  | loc i => exact h.elim
  | own l => exact Res.fz (σ := []) (ρ := []) (d := .own l) r h e
  | _ => cases e; exact h
theorem Res.opd (r : Rel c b α H σ ρ δ) (e : Ext α α' H H') {v : V} {d : D} (h : Res c (Bx b.A σ ρ) σ ρ α' H H' δ' v d) : RpS c α' (Bx b.A σ ρ) H' δ' ∧ RpQ c α' (Bx b.A σ ρ) H' v (opd ρ d) := by
  refine ⟨h.sto, ?_⟩
  cases d with
  | own l =>
    obtain ⟨p, xs, h1, h2, h3, h4, h5⟩ := h
    exact ⟨p, xs, h1, h3, (h4.tr p (.inr rfl)).1, h5.less fun a z => .inl z⟩
  | loc i =>
    obtain ⟨h1, ⟨l, h2⟩, h3⟩ := h
    obtain ⟨a, xs, q1, q2, q3, q4⟩ := r.own i l h2
    rw [q1] at h3
    cases h3
    have na := (r.sto.tr a (.inr ⟨i, l, h2, q1⟩)).1
    have e0 : Pi.opd ρ (.loc i) = .own l := by simp [Pi.opd, h2]
    rw [e0]
    exact ⟨a, xs, rfl, e.keep _ _ na q2, e.out na q2, q3.stay e⟩
  | _ => exact h.2.q

/-! ### what is wanted behind -/
def Post {β : Type} (c : Cn) (W : WX) (σ : St) (B : Addr → Prop) (α : List Addr) (H : Hp) (k : β → Sto → List Addr → Hp → Prop) : Out β → Prop
  | .ok x δ' => ∀ α' H', Ext α α' H H' → k x δ' α' H'
  | .err e δ' => ∀ α' H' o, Ext α α' H H' → RpS c α' B H' δ' → W (.ref (c.ca e)) o σ H'
  | .stk => False
section
variable {β γ : Type} {W : WX} {k k' : β → Sto → List Addr → Hp → Prop} {o : Out β}
theorem Post.weak (e : Ext α α1 H H1) (h : Post c W σ B α H k o) : Post c W σ B α1 H1 k o := by
  cases o with
  | ok x δ' => intro α' H' e'; exact h α' H' (e.trans e')
  | err x δ' => intro α' H' oo e' s'; exact h α' H' oo (e.trans e') s'
  | stk => exact h
theorem Post.mono (h : Post c W σ B α H k o) (f : ∀ x δ' α' H', Ext α α' H H' → k x δ' α' H' → k' x δ' α' H') : Post c W σ B α H k' o := by
  cases o with
  | ok x δ' => intro α' H' e'; exact f _ _ _ _ e' (h α' H' e')
  | err x δ' => exact h
  | stk => exact h
theorem Post.bind {g : β → Sto → Out γ} {kg : γ → Sto → List Addr → Hp → Prop} (h : Post c W σ B α H kg (o.bind g)) :
    Post c W σ B α H (fun x δ1 α1 H1 => Post c W σ B α1 H1 kg (g x δ1)) o := by
  cases o with
  | ok x δ' => intro α' H' e'; exact Post.weak e' h
  | err x δ' => exact h
  | stk => exact h
end
abbrev FE := Env → Sto → Out D
abbrev FT := Env → Sto → Out Bool
abbrev FA := Env → Sto → Out (List D)
abbrev FS := Env → Sto → OutS
def SimE (c : Cn) (W : WX) (t : TE) (f : FE) : Prop := ∀ (b : Base) (α : List Addr) (H : Hp) (σ : St) (ρ : Env) (δ : Sto) (Q : VK), Rel c b α H σ ρ δ →
  Post c W σ (Bx b.A σ ρ) α H (fun d δ' α' H' => ∀ v, Res c (Bx b.A σ ρ) σ ρ α' H H' δ' v d → Q v H') (f ρ δ) → t σ H Q
def SimT (c : Cn) (W : WX) (t : TT) (f : FT) : Prop := ∀ (b : Base) (α : List Addr) (H : Hp) (σ : St) (ρ : Env) (δ : Sto) (Q : Bool → Hp → Prop), Rel c b α H σ ρ δ →
  Post c W σ (Bx b.A σ ρ) α H (fun k δ' α' H' => RpS c α' (Bx b.A σ ρ) H' δ' → Q k H') (f ρ δ) → t σ H Q
/-- arguments as values -/
def SimA (c : Cn) (W : WX) (t : TA) (f : FA) : Prop := ∀ (b : Base) (α : List Addr) (H : Hp) (σ : St) (ρ : Env) (δ : Sto) (Q : List V → Hp → Prop), Rel c b α H σ ρ δ →
  Post c W σ (Bx b.A σ ρ) α H (fun ds δ' α' H' => ∀ vs, RpS c α' (Bx b.A σ ρ) H' δ' → RpL c α' (Bx b.A σ ρ) H' vs ds → Q vs H') (f ρ δ) → t σ H Q
/-- arguments of an operation -/
def SimO (c : Cn) (W : WX) (t : TA) (f : FA) : Prop := ∀ (b : Base) (α : List Addr) (H : Hp) (σ : St) (ρ : Env) (δ : Sto) (Q : List V → Hp → Prop), Rel c b α H σ ρ δ →
  Post c W σ (Bx b.A σ ρ) α H (fun ds δ' α' H' => ∀ vs, RpS c α' (Bx b.A σ ρ) H' δ' → RpQL c α' (Bx b.A σ ρ) H' vs ds → Q vs H') (f ρ δ) → t σ H Q
/-- an operation by values -/
def OpS1 (c : Cn) (r : V → Hp → VK → Prop) (k : D → Sto → Out D) : Prop := ∀ (W : WX) (σ : St) (B : Addr → Prop) (α : List Addr) (H : Hp) (δ : Sto) (Q : VK) (v : V) (d : D), RpS c α B H δ → RpQ c α B H v d →
  Post c W σ B α H (fun d' δ' α' H' => ∀ v', ResV c B α' H H' δ' v' d' → Q v' H') (k d δ) → r v H Q
def OpS2 (c : Cn) (r : R2) (k : D → D → Sto → Out D) : Prop := ∀ (W : WX) (σ : St) (B : Addr → Prop) (α : List Addr) (H : Hp) (δ : Sto) (Q : VK) (v u : V) (d e : D), RpS c α B H δ → RpQ c α B H v d → RpQ c α B H u e →
  Post c W σ B α H (fun d' δ' α' H' => ∀ v', ResV c B α' H H' δ' v' d' → Q v' H') (k d e δ) → r v u H Q
def OpSL (c : Cn) (r : List V → Hp → VK → Prop) (k : List D → Sto → Out D) : Prop := ∀ (W : WX) (σ : St) (B : Addr → Prop) (α : List Addr) (H : Hp) (δ : Sto) (Q : VK) (vs : List V) (ds : List D), RpS c α B H δ → RpQL c α B H vs ds →
  Post c W σ B α H (fun d' δ' α' H' => ∀ v', ResV c B α' H H' δ' v' d' → Q v' H') (k ds δ) → r vs H Q

/-! ### the combinators of expressions -/
def eVar (i : Nat) : FE := fun ρ δ => match ρ[i]? with
  | some (some (.own _)) => .ok (.loc i) δ
  | some (some (.loc _)) => .stk
  | some (some d) => .ok d δ
  | _ => .stk
def eC (d : D) : FE := fun _ δ => .ok d δ
def e1 (k : D → Sto → Out D) (f : FE) : FE := fun ρ δ => (f ρ δ).bind fun d δ1 => k (opd ρ d) δ1
def e2 (k : D → D → Sto → Out D) (f g : FE) : FE := fun ρ δ => (f ρ δ).bind fun d δ1 => (g ρ δ1).bind fun e δ2 => k (opd ρ d) (opd ρ e) δ2
def aNil : FA := fun _ δ => .ok [] δ
def aCons (f : FE) (g : FA) : FA := fun ρ δ => (f ρ δ).bind fun d δ1 => match fzd d with
  | some d' => (g ρ δ1).bind fun ds δ2 => .ok (d' :: ds) δ2
  | none => .stk
def oCons (f : FE) (g : FA) : FA := fun ρ δ => (f ρ δ).bind fun d δ1 => (g ρ δ1).bind fun ds δ2 => .ok (opd ρ d :: ds) δ2
def eL (k : List D → Sto → Out D) (f : FA) : FE := fun ρ δ => (f ρ δ).bind fun ds δ1 => k ds δ1
def eTup (f : FA) : FE := fun ρ δ => (f ρ δ).bind fun ds δ1 => if ds.length ≤ 1000 then .ok (.tup ds) δ1 else .stk
def eLst (f : FA) : FE := fun ρ δ => (f ρ δ).bind fun ds δ1 => if ds.length ≤ 1000 then .ok (.own ds) δ1 else .stk
/-- a display that is shared -/
def eLstH (f : FA) : FE := fun ρ δ => (f ρ δ).bind fun ds δ1 => if ds.length ≤ 1000 then .ok (.hnd δ1.length) (δ1 ++ [.lst ds]) else .stk
def eIf (t : FT) (f g : FE) : FE := fun ρ δ => (t ρ δ).bind fun k δ1 => if k = true then f ρ δ1 else g ρ δ1
def asB : D → Option Bool
  | .bl b => some b
  | _ => none
def eAnd (f g : FE) : FE := fun ρ δ => (f ρ δ).bind fun d δ1 => match d with
  | .bl true => g ρ δ1
  | .bl false => .ok (.bl false) δ1
  | _ => .stk
def eOr (f g : FE) : FE := fun ρ δ => (f ρ δ).bind fun d δ1 => match d with
  | .bl false => g ρ δ1
  | .bl true => .ok (.bl true) δ1
  | _ => .stk
def eNot (f : FE) : FE := fun ρ δ => (f ρ δ).bind fun d δ1 => match d with
  | .bl k => .ok (.bl (!k)) δ1
  | _ => .stk
def tVal (f : FE) : FT := fun ρ δ => (f ρ δ).bind fun d δ1 => match d with
  | .bl k => .ok k δ1
  | _ => .stk
def truth (d : D) (δ : Sto) : Option Bool := match d with
  | .non => some false
  | .bl b => some b
  | .int i => some (i != 0)
  | .str x => if x.length ≤ 1000000 then some ((x.length : Int) != 0) else none
  | .lst l => some (!l.isEmpty)
  | .own l => some (!l.isEmpty)
  | .tup l => some (!l.isEmpty)
  | .hnd n => match δ[n]? with
    | some (.lst l) => some (!l.isEmpty)
    | some (.dK l) => some (!l.isEmpty)
    | _ => none
  | _ => none
def tTru (f : FE) : FT := fun ρ δ => (f ρ δ).bind fun d δ1 => match truth (opd ρ d) δ1 with
  | some k => .ok k δ1
  | none => .stk
def tAndF (f g : FT) : FT := fun ρ δ => (f ρ δ).bind fun k δ1 => if k = true then g ρ δ1 else .ok false δ1
def tOrF (f g : FT) : FT := fun ρ δ => (f ρ δ).bind fun k δ1 => if k = true then .ok true δ1 else g ρ δ1
def tNotF (f : FT) : FT := fun ρ δ => (f ρ δ).bind fun k δ1 => .ok (!k) δ1
/-- a def is called -/
def eCall (n : Nat) (F : List D → Sto → Out D) (f : FA) : FE := fun ρ δ => (f ρ δ).bind fun ds δ1 => if ds.length = n then F ds δ1 else .stk

/-! ### their soundness -/
variable {W : WX} {ta tb : TE} {t u : TA} {tt tt' : TT} {f g : FE} {fa ga : FA} {ft gt : FT}
theorem sim_var (i : Nat) : SimE c W (tVar i) (eVar i) := by
  intro b α H σ ρ δ Q r h
  unfold eVar at h
  split at h
  · rename_i l e
    obtain ⟨a, xs, q1, q2, q3, q4⟩ := r.own i l e
    exact ⟨_, q1, h α H (Ext.refl α H) _ ⟨r.sto, ⟨l, e⟩, q1⟩⟩
  · exact h.elim
  · rename_i d n1 n2 e
    have hv : isVal d = true := by
      cases d with
      | own l => exact absurd rfl (n1 l)
      | loc l => exact absurd rfl (n2 l)
      | _ => rfl
    obtain ⟨v, q1, q2⟩ := r.val i d e hv
    refine ⟨v, q1, h α H (Ext.refl α H) v ?_⟩
    cases d with
    | own l => cases hv
    | loc l => cases hv
    | _ => exact ⟨r.sto, q2⟩
  · exact h.elim
theorem res_val (s : RpS c α B H δ) {v : V} {d : D} (h : Rp c α B H v d) : ResV c B α H' H δ v d := by
  cases d with
  | own l => cases h
  | loc l => cases h
  | _ => exact ⟨s, h⟩
theorem res_of {v : V} {d : D} (h : ResV c B α' H H' δ' v d) : Res c B σ ρ α' H H' δ' v d := by
  cases d with
  | loc l => exact h.elim
  | _ => exact h
theorem sim_c {v : V} {d : D} (h : ∀ α B H, Rp c α B H v d) : SimE c W (tC v) (eC d) := by
  intro b α H σ ρ δ Q r k
  exact k α H (Ext.refl α H) v (res_of (res_val r.sto (h _ _ _)))
theorem sim_int (z : Int) : SimE c W (tC (.int z)) (eC (.int z)) := sim_c fun _ _ _ => .int z
theorem sim_str (z : Str) : SimE c W (tC (.str z)) (eC (.str z)) := sim_c fun _ _ _ => .str z
theorem sim_bl (z : Bool) : SimE c W (tC (.bl z)) (eC (.bl z)) := sim_c fun _ _ _ => .bl z
theorem sim_non : SimE c W (tC .non) (eC .non) := sim_c fun _ _ _ => .non
theorem sim_1 {r : V → Hp → VK → Prop} {k : D → Sto → Out D} (ho : OpS1 c r k) (ha : SimE c W ta f) : SimE c W (tUn r ta) (e1 k f) := by
  intro b α H σ ρ δ Q rel h
  refine ha b α H σ ρ δ _ rel (h.bind.mono fun d δ1 α1 H1 x1 h1 v rv => ?_)
  obtain ⟨s1, q1⟩ := rv.opd rel x1
  refine ho W σ _ α1 H1 δ1 Q v _ s1 q1 (h1.mono fun d' δ2 α2 H2 x2 h2 v' r2 => h2 v' ?_)
  cases d' with
  | loc l => exact r2.elim
  | own l => obtain ⟨p, xs, z1, z2, z3⟩ := r2; exact ⟨p, xs, z1, x1.free z2, z3⟩
  | _ => exact r2
theorem sim_2 {r : R2} {k : D → D → Sto → Out D} (ho : OpS2 c r k) (ha : SimE c W ta f) (hb : SimE c W tb g) : SimE c W (tOp r ta tb) (e2 k f g) := by
  intro b α H σ ρ δ Q rel h
  refine ha b α H σ ρ δ _ rel (h.bind.mono fun d δ1 α1 H1 x1 h1 v rv => ?_)
  obtain ⟨s1, q1⟩ := rv.opd rel x1
  have rel1 := rel.step x1 s1
  refine hb b α1 H1 σ ρ δ1 _ rel1 (h1.bind.mono fun e δ2 α2 H2 x2 h2 u ru => ?_)
  obtain ⟨s2, q2⟩ := ru.opd rel1 x2
  refine ho W σ _ α2 H2 δ2 Q v u _ _ s2 (q1.stay x2) q2 (h2.mono fun d' δ3 α3 H3 x3 h3 v' r3 => h3 v' ?_)
  cases d' with
  | loc l => exact r3.elim
  | own l => obtain ⟨p, xs, z1, z2, z3⟩ := r3; exact ⟨p, xs, z1, x1.free (x2.free z2), z3⟩
  | _ => exact r3
theorem sim_nil : SimA c W tNil aNil := fun b α H σ ρ δ Q rel h => h α H (Ext.refl α H) [] rel.sto .nil
theorem sim_onil : SimO c W tNil aNil := fun b α H σ ρ δ Q rel h => h α H (Ext.refl α H) [] rel.sto .nil
theorem sim_cons (ha : SimE c W ta f) (hb : SimA c W t fa) : SimA c W (tCons ta t) (aCons f fa) := by
  intro b α H σ ρ δ Q rel h
  refine ha b α H σ ρ δ _ rel (h.bind.mono fun d δ1 α1 H1 x1 h1 v rv => ?_)
  cases e : fzd d with
  | none => rw [e] at h1; exact h1.elim
  | some d' =>
    rw [e] at h1
    obtain ⟨s1, q1⟩ := rv.fz rel.sto e
    refine hb b α1 H1 σ ρ δ1 _ (rel.step x1 s1) (h1.bind.mono fun ds δ2 α2 H2 x2 h2 vs s2 q2 => ?_)
    exact h2 α2 H2 (Ext.refl _ _) _ s2 (.cons (q1.stay x2) q2)
theorem sim_ocons (ha : SimE c W ta f) (hb : SimO c W t fa) : SimO c W (tCons ta t) (oCons f fa) := by
  intro b α H σ ρ δ Q rel h
  refine ha b α H σ ρ δ _ rel (h.bind.mono fun d δ1 α1 H1 x1 h1 v rv => ?_)
  obtain ⟨s1, q1⟩ := rv.opd rel x1
  refine hb b α1 H1 σ ρ δ1 _ (rel.step x1 s1) (h1.bind.mono fun ds δ2 α2 H2 x2 h2 vs s2 q2 => ?_)
  exact h2 α2 H2 (Ext.refl _ _) _ s2 (.cons (q1.stay x2) q2)
theorem sim_L {r : List V → Hp → VK → Prop} {k : List D → Sto → Out D} (ho : OpSL c r k) (ha : SimO c W t fa) : SimE c W (tCB r t) (eL k fa) := by
  intro b α H σ ρ δ Q rel h
  refine ha b α H σ ρ δ _ rel (h.bind.mono fun ds δ1 α1 H1 x1 h1 vs s1 q1 => ?_)
  refine ho W σ _ α1 H1 δ1 Q vs _ s1 q1 (h1.mono fun d' δ2 α2 H2 x2 h2 v' r2 => h2 v' ?_)
  cases d' with
  | loc l => exact r2.elim
  | own l => obtain ⟨p, xs, z1, z2, z3⟩ := r2; exact ⟨p, xs, z1, x1.free z2, z3⟩
  | _ => exact r2
theorem le_line {n : Nat} (h : n ≤ 1000) : n ≤ sizeLine := Nat.le_of_lt (small1000 h)
theorem sim_tup (ha : SimA c W t fa) : SimE c W (tTup t) (eTup fa) := by
  intro b α H σ ρ δ Q rel h
  refine ha b α H σ ρ δ _ rel (h.bind.mono fun ds δ1 α1 H1 x1 h1 vs s1 q1 => ?_)
  split at h1
  · rename_i hl
    refine ⟨by rw [q1.len]; exact le_line hl, fun p hp => ?_⟩
    have f := s1.fresh hp
    refine h1 α1 _ (ext_new hp) _ ⟨s1.same (same_new hp), .tup upd_same f.1 f.2 (q1.stay (ext_new hp))⟩
  · exact h1.elim
theorem sim_lst (ha : SimA c W t fa) : SimE c W (tLst t) (eLst fa) := by
  intro b α H σ ρ δ Q rel h
  refine ha b α H σ ρ δ _ rel (h.bind.mono fun ds δ1 α1 H1 x1 h1 vs s1 q1 => ?_)
  split at h1
  · rename_i hl
    refine ⟨by rw [q1.len]; exact le_line hl, fun p hp => ?_⟩
    exact h1 α1 _ (ext_new hp) _ ⟨p, vs, rfl, x1.free hp, upd_same, s1.new hp, (q1.more hp).stay (ext_new hp)⟩
  · exact h1.elim
theorem sim_lstH (ha : SimA c W t fa) : SimE c W (tLst t) (eLstH fa) := by
  intro b α H σ ρ δ Q rel h
  refine ha b α H σ ρ δ _ rel (h.bind.mono fun ds δ1 α1 H1 x1 h1 vs s1 q1 => ?_)
  split at h1
  · rename_i hl
    refine ⟨by rw [q1.len]; exact le_line hl, fun p hp => ?_⟩
    have x : Ext α1 (α1 ++ [p]) H1 (upd H1 p (.lst vs)) := by
      refine ⟨⟨[p], rfl⟩, fun a u _ e => same_new hp a u e, fun a z n => ?_, fun a u e => ⟨u, same_new hp a u e⟩⟩
      rcases List.mem_append.mp z with z | z
      · exact absurd z n
      · rw [List.mem_singleton.mp z]; exact hp
    obtain ⟨s2, x2⟩ := s1.share (ob := .lst ds) hp ⟨vs, upd_same, q1.stay x⟩
    refine h1 _ _ x2 _ ⟨s2, .hnd ?_⟩
    rw [← s1.len, List.getElem?_append_right (Nat.le_refl _)]
    simp
  · exact h1.elim
theorem sim_if (ht : SimT c W tt ft) (ha : SimE c W ta f) (hb : SimE c W tb g) : SimE c W (tIf tt ta tb) (eIf ft f g) := by
  intro b α H σ ρ δ Q rel h
  refine ht b α H σ ρ δ _ rel (h.bind.mono fun k δ1 α1 H1 x1 h1 s1 => ?_)
  have fin : ∀ d δ2 α2 H2, Ext α1 α2 H1 H2 → (∀ v, Res c (Bx b.A σ ρ) σ ρ α2 H H2 δ2 v d → Q v H2) → ∀ v, Res c (Bx b.A σ ρ) σ ρ α2 H1 H2 δ2 v d → Q v H2 := fun d δ2 α2 H2 x2 h2 v r2 => h2 v (by
    cases d with
    | own l => obtain ⟨p, xs, z1, z2, z3⟩ := r2; exact ⟨p, xs, z1, x1.free z2, z3⟩
    | _ => exact r2)
  cases k with
  | true => exact ha b α1 H1 σ ρ δ1 _ (rel.step x1 s1) (Post.mono (show Post _ _ _ _ _ _ _ (f ρ δ1) from h1) fin)
  | false => exact hb b α1 H1 σ ρ δ1 _ (rel.step x1 s1) (Post.mono (show Post _ _ _ _ _ _ _ (g ρ δ1) from h1) fin)
end
end Pi
namespace Pi
open PySem L2
section
variable {c : Cn} {b : Base} {α α' α1 α2 : List Addr} {A B B' : Addr → Prop} {H H' H1 H2 : Hp} {σ σ' : St} {ρ ρ' : Env} {δ δ' δ1 : Sto}
variable {W : WX} {ta tb : TE} {t u : TA} {tt tt' : TT} {f g : FE} {fa ga : FA} {ft gt : FT}
theorem Res.back (x : Ext α α1 H H1) {v : V} {d : D} (h : Res c B σ ρ α' H1 H' δ' v d) : Res c B σ ρ α' H H' δ' v d := by
  cases d with
  | own l => obtain ⟨p, xs, z1, z2, z3⟩ := h; exact ⟨p, xs, z1, x.free z2, z3⟩
  | _ => exact h
theorem ResV.back (x : Ext α α1 H H1) {v : V} {d : D} (h : ResV c B α' H1 H' δ' v d) : ResV c B α' H H' δ' v d := by
  cases d with
  | own l => obtain ⟨p, xs, z1, z2, z3⟩ := h; exact ⟨p, xs, z1, x.free z2, z3⟩
  | _ => exact h
/-! ### truth values -/
theorem Res.bl {k : Bool} {v : V} (h : Res c B σ ρ α' H H' δ' v (.bl k)) : v = .bl k := by
  obtain ⟨_, h⟩ := h
  cases h
  rfl
theorem sim_and (ha : SimE c W ta f) (hb : SimE c W tb g) : SimE c W (tAndV ta tb) (eAnd f g) := by
  intro b α H σ ρ δ Q rel h
  refine ha b α H σ ρ δ _ rel (h.bind.mono fun d δ1 α1 H1 x1 h1 v rv => ?_)
  split at h1
  · exact ⟨true, rv.bl, hb b α1 H1 σ ρ δ1 _ (rel.step x1 rv.sto) (h1.mono fun d δ2 α2 H2 x2 h2 v r2 => h2 v (r2.back x1))⟩
  · exact ⟨false, rv.bl, h1 α1 H1 (Ext.refl _ _) _ ⟨rv.sto, .bl false⟩⟩
  · exact h1.elim
theorem sim_or (ha : SimE c W ta f) (hb : SimE c W tb g) : SimE c W (tOrV ta tb) (eOr f g) := by
  intro b α H σ ρ δ Q rel h
  refine ha b α H σ ρ δ _ rel (h.bind.mono fun d δ1 α1 H1 x1 h1 v rv => ?_)
  split at h1
  · exact ⟨false, rv.bl, hb b α1 H1 σ ρ δ1 _ (rel.step x1 rv.sto) (h1.mono fun d δ2 α2 H2 x2 h2 v r2 => h2 v (r2.back x1))⟩
  · exact ⟨true, rv.bl, h1 α1 H1 (Ext.refl _ _) _ ⟨rv.sto, .bl true⟩⟩
  · exact h1.elim
theorem sim_not (ha : SimE c W ta f) : SimE c W (tNotV ta) (eNot f) := by
  intro b α H σ ρ δ Q rel h
  refine ha b α H σ ρ δ _ rel (h.bind.mono fun d δ1 α1 H1 x1 h1 v rv => ?_)
  split at h1
  · rename_i k
    exact ⟨k, rv.bl, h1 α1 H1 (Ext.refl _ _) _ ⟨rv.sto, .bl _⟩⟩
  · exact h1.elim
theorem sim_tval (ha : SimE c W ta f) : SimT c W (tB ta) (tVal f) := by
  intro b α H σ ρ δ Q rel h
  refine ha b α H σ ρ δ _ rel (h.bind.mono fun d δ1 α1 H1 x1 h1 v rv => ?_)
  split at h1
  · rename_i k
    exact ⟨k, rv.bl, h1 α1 H1 (Ext.refl _ _) rv.sto⟩
  · exact h1.elim
theorem sim_ttest (ha : SimE c W ta f) : SimT c W (tTest ta) (tVal f) := sim_tval ha
theorem isEmpty_rp {vs : List V} {l : List D} (h : RpL c α B H vs l) : (!vs.isEmpty) = !l.isEmpty := by
  cases l with
  | nil => cases h; rfl
  | cons d ds => cases h; rfl
theorem isEmpty_rk {κ : Type} {vs : List (κ × V)} {l : List (κ × D)} (h : RpK c α B H vs l) : (!vs.isEmpty) = !l.isEmpty := by
  cases h <;> rfl
theorem le_line' {n : Nat} (h : n ≤ 1000000) : n ≤ sizeLine := Nat.le_trans h (by decide)
theorem truth_ok (s : RpS c α B H δ) {v : V} {d : D} {k : Bool} (h : RpQ c α B H v d) (e : truth d δ = some k) : TruV c.K v H k := by
  cases d with
  | non => cases h; cases e; rfl
  | bl b => cases h; cases e; rfl
  | int i => cases h; cases e; rfl
  | str x =>
    cases h
    simp only [truth] at e
    split at e
    · rename_i hl
      cases e
      exact ⟨le_line' hl, rfl⟩
    · cases e
  | lst l =>
    cases e
    cases h with
    | lst h1 h2 h3 h4 => exact .inl ⟨_, SqL.of h1, (isEmpty_rp h4).symm⟩
  | own l =>
    cases e
    obtain ⟨a, xs, rfl, h1, h2, h3⟩ := h
    exact .inl ⟨_, SqL.of h1, (isEmpty_rp h3).symm⟩
  | tup l =>
    cases e
    cases h with
    | tup h1 h2 h3 h4 => exact .inr (.inl ⟨_, SqT.of h1, (isEmpty_rp h4).symm⟩)
  | hnd n =>
    cases h with
    | hnd h1 =>
      simp only [truth] at e
      split at e
      · rename_i l hl
        cases e
        obtain ⟨xs, q1, q2⟩ := s.at_ n _ _ h1 hl
        exact .inl ⟨_, SqL.of q1, (isEmpty_rp q2).symm⟩
      · rename_i l hl
        cases e
        obtain ⟨xs, q1, q2⟩ := s.at_ n _ _ h1 hl
        exact .inr (.inr ⟨_, q1, (isEmpty_rk q2).symm⟩)
      · cases e
  | scr l => cases e
  | loc l => cases e
  | ty l => cases e
  | obj l => cases e
theorem sim_ttru (ha : SimE c W ta f) : SimT c W (fun σ H Q => ta σ H fun x H' => ∃ k, TruV c.K x H' k ∧ Q k H') (tTru f) := by
  intro b α H σ ρ δ Q rel h
  refine ha b α H σ ρ δ _ rel (h.bind.mono fun d δ1 α1 H1 x1 h1 v rv => ?_)
  obtain ⟨s1, q1⟩ := rv.opd rel x1
  split at h1
  · rename_i k e
    exact ⟨k, truth_ok s1 q1 e, h1 α1 H1 (Ext.refl _ _) s1⟩
  · exact h1.elim
theorem sim_tand (ha : SimT c W tt ft) (hb : SimT c W tt' gt) : SimT c W (tAnd tt tt') (tAndF ft gt) := by
  intro b α H σ ρ δ Q rel h
  refine ha b α H σ ρ δ _ rel (h.bind.mono fun k δ1 α1 H1 x1 h1 s1 => ?_)
  cases k with
  | true => exact hb b α1 H1 σ ρ δ1 _ (rel.step x1 s1) h1
  | false => exact h1 α1 H1 (Ext.refl _ _) s1
theorem sim_tor (ha : SimT c W tt ft) (hb : SimT c W tt' gt) : SimT c W (tOr tt tt') (tOrF ft gt) := by
  intro b α H σ ρ δ Q rel h
  refine ha b α H σ ρ δ _ rel (h.bind.mono fun k δ1 α1 H1 x1 h1 s1 => ?_)
  cases k with
  | true => exact h1 α1 H1 (Ext.refl _ _) s1
  | false => exact hb b α1 H1 σ ρ δ1 _ (rel.step x1 s1) h1
theorem sim_tnot (ha : SimT c W tt ft) : SimT c W (tNot tt) (tNotF ft) := by
  intro b α H σ ρ δ Q rel h
  exact ha b α H σ ρ δ _ rel (h.bind.mono fun k δ1 α1 H1 x1 h1 s1 => h1 α1 H1 (Ext.refl _ _) s1)

/-! ### defs and their calls -/
/-- the promise of a def: what its meaning F says -/
def SpF (c : Cn) (n : Nat) (F : List D → Sto → Out D) : Sp := fun vs H Q E => ∃ (α : List Addr) (A : Addr → Prop) (ds : List D) (δ : Sto), ds.length = n ∧ RpS c α A H δ ∧ RpL c α A H vs ds ∧
  Post c (fun cls o _ H' => E cls o H') [] A α H (fun d δ' α' H' => ∀ v, ResV c A α' H H' δ' v d → Q v H') (F ds δ)
theorem SpF.len {c : Cn} {n : Nat} {F : List D → Sto → Out D} {vs : List V} {H : Hp} {Q : VK} {E : XK} (h : SpF c n F vs H Q E) : vs.length = n := by
  obtain ⟨α, A, ds, δ, e, _, r, _⟩ := h
  rw [r.len, e]
theorem sim_call {n : Nat} {F : List D → Sto → Out D} (ha : SimA c W t fa) : SimE c W (tCallS (SpF c n F) (WE W) t) (eCall n F fa) := by
  intro b α H σ ρ δ Q rel h
  refine ha b α H σ ρ δ _ rel (h.bind.mono fun ds δ1 α1 H1 x1 h1 vs s1 q1 => ?_)
  split at h1
  · rename_i hn
    refine ⟨α1, _, ds, δ1, hn, s1, q1, ?_⟩
    have h2 := h1.mono (k' := fun d δ' α' H' => ∀ v, ResV c (Bx b.A σ ρ) α' H1 H' δ' v d → Q v H') fun d δ2 α2 H2 x2 h2 v r2 => h2 v (res_of (r2.back x1))
    cases e : F ds δ1 with
    | ok d δ2 => rw [e] at h2; exact h2
    | err z δ2 => rw [e] at h2; exact h2
    | stk => rw [e] at h2; exact h2
  · exact h1.elim

/-! ### statements -/
/-- what is handed back -/
def RetV (c : Cn) (b : Base) (α' : List Addr) (H' : Hp) (δ' : Sto) (v : V) (d : D) : Prop :=
  match d with
  | .own l => ∃ p xs, v = .ref p ∧ (b.M p ∨ b.H p = none) ∧ H' p = some (.lst xs) ∧ RpS c α' (fun a => b.A a ∨ a = p) H' δ' ∧ RpL c α' (fun a => b.A a ∨ a = p) H' xs l
  | .loc _ => False
  | d => RpS c α' b.A H' δ' ∧ Rp c α' b.A H' v d
def PostS (c : Cn) (b : Base) (W : WX) (D : Ends) : OutS → Prop
  | .nx ρ' δ' => ∀ α' H' σ', Rel c b α' H' σ' ρ' δ' → D.nx σ' H'
  | .bk ρ' δ' => ∀ α' H' σ', Rel c b α' H' σ' ρ' δ' → D.bk σ' H'
  | .ct ρ' δ' => ∀ α' H' σ', Rel c b α' H' σ' ρ' δ' → D.ct σ' H'
  | .rt d δ' => ∀ v α' H', ExtM b.M b.α α' b.H H' → RetV c b α' H' δ' v d → D.rt v H'
  | .err e ρ' δ' => ∀ α' H' σ' o, Rel c b α' H' σ' ρ' δ' → W (.ref (c.ca e)) o σ' H'
  | .stk => False
def SimS (c : Cn) (W : WX) (t : TS) (f : FS) : Prop := ∀ (b : Base) (α : List Addr) (H : Hp) (σ : St) (ρ : Env) (δ : Sto) (D : Ends), Rel c b α H σ ρ δ → PostS c b W D (f ρ δ) → t D σ H
def OutS.seq (o : OutS) (k : FS) : OutS := match o with
  | .nx ρ δ => k ρ δ
  | o => o
def sNx : FS := fun ρ δ => .nx ρ δ
def sBk : FS := fun ρ δ => .bk ρ δ
def sCt : FS := fun ρ δ => .ct ρ δ
def sSeq (f g : FS) : FS := fun ρ δ => (f ρ δ).seq g
/-- an expression's result within a statement -/
def bindS {β : Type} (o : Out β) (ρ : Env) (k : β → Sto → OutS) : OutS := match o with
  | .ok x δ => k x δ
  | .err e δ => .err e ρ δ
  | .stk => .stk
@[simp] theorem bindS_ok {β : Type} (x : β) (δ : Sto) (ρ : Env) (k : β → Sto → OutS) : bindS (.ok x δ) ρ k = k x δ := rfl
@[simp] theorem bindS_err {β : Type} (e : Str) (δ : Sto) (ρ : Env) (k : β → Sto → OutS) : bindS (.err e δ : Out β) ρ k = .err e ρ δ := rfl
@[simp] theorem seq_nx (ρ : Env) (δ : Sto) (k : FS) : (OutS.nx ρ δ).seq k = k ρ δ := rfl
@[simp] theorem seq_rt (d : D) (δ : Sto) (k : FS) : (OutS.rt d δ).seq k = .rt d δ := rfl
@[simp] theorem seq_bk (ρ : Env) (δ : Sto) (k : FS) : (OutS.bk ρ δ).seq k = .bk ρ δ := rfl
@[simp] theorem seq_ct (ρ : Env) (δ : Sto) (k : FS) : (OutS.ct ρ δ).seq k = .ct ρ δ := rfl
@[simp] theorem seq_err (e : Str) (ρ : Env) (δ : Sto) (k : FS) : (OutS.err e ρ δ).seq k = .err e ρ δ := rfl
def sIf (t : FT) (f g : FS) : FS := fun ρ δ => bindS (t ρ δ) ρ fun k δ1 => if k = true then f ρ δ1 else g ρ δ1
def sDrop (f : FE) : FS := fun ρ δ => bindS (f ρ δ) ρ fun _ δ1 => .nx ρ δ1
/-- what is handed back of a result: the slot's list itself -/
def retd (ρ : Env) : D → Option D
  | .loc i => match ρ[i]? with
    | some (some (.own l)) => some (.own l)
    | _ => none
  | d => some d
def sRet (f : FE) : FS := fun ρ δ => bindS (f ρ δ) ρ fun d δ1 => match retd ρ d with
  | some d' => .rt d' δ1
  | none => .stk
def sRetN : FS := fun _ δ => .rt .non δ
/-- slot i is given a value; a new list as a value -/
def sSet (i : Nat) (f : FE) : FS := fun ρ δ => bindS (f ρ δ) ρ fun d δ1 => match fzd d with
  | some d' => .nx (ρ.set i (some d')) δ1
  | none => .stk
/-- slot i is given a new list, that it owns -/
def sOwn (i : Nat) (f : FE) : FS := fun ρ δ => bindS (f ρ δ) ρ fun d δ1 => match d with
  | .own l => .nx (ρ.set i (some (.own l))) δ1
  | _ => .stk
/-- what is known of a slot is forgotten -/
def sFor1 (i : Nat) : FS := fun ρ δ => .nx (ρ.set i none) δ

theorem Post.toS {β : Type} {o : Out β} {K : β → Sto → OutS} {D : Ends} (r : Rel c b α H σ ρ δ) (h : PostS c b W D (bindS o ρ K)) :
    Post c W σ (Bx b.A σ ρ) α H (fun x δ1 α1 H1 => PostS c b W D (K x δ1)) o := by
  cases o with
  | ok x δ1 => intro α1 H1 x1; exact h
  | err e δ1 => intro α1 H1 o x1 s1; exact h α1 H1 σ o (r.step x1 s1)
  | stk => exact h
theorem sim_nx : SimS c W tNext sNx := fun b α H σ ρ δ D r h => h α H σ r
theorem sim_bk : SimS c W tBreak sBk := fun b α H σ ρ δ D r h => h α H σ r
theorem sim_ct : SimS c W tCont sCt := fun b α H σ ρ δ D r h => h α H σ r
theorem sim_seq {t u : TS} {f g : FS} (h1 : SimS c W t f) (h2 : SimS c W u g) : SimS c W (tSeq t u) (sSeq f g) := by
  intro b α H σ ρ δ D r h
  refine h1 b α H σ ρ δ _ r ?_
  unfold sSeq at h
  cases e : f ρ δ with
  | nx ρ' δ' =>
    rw [e] at h
    intro α' H' σ' r'
    exact h2 b α' H' σ' ρ' δ' D r' h
  | _ => rw [e] at h; exact h
theorem sim_ifs {t u : TS} {f g : FS} (h0 : SimT c W tt ft) (h1 : SimS c W t f) (h2 : SimS c W u g) : SimS c W (tIfS tt t u) (sIf ft f g) := by
  intro b α H σ ρ δ D r h
  refine h0 b α H σ ρ δ _ r ((Post.toS r h).mono fun k δ1 α1 H1 x1 h' s1 => ?_)
  cases k with
  | true => exact h1 b α1 H1 σ ρ δ1 D (r.step x1 s1) h'
  | false => exact h2 b α1 H1 σ ρ δ1 D (r.step x1 s1) h'
theorem sim_drop (ha : SimE c W ta f) : SimS c W (tDrop ta) (sDrop f) := by
  intro b α H σ ρ δ D r h
  exact ha b α H σ ρ δ _ r ((Post.toS r h).mono fun d δ1 α1 H1 x1 h' v rv => h' α1 H1 σ (r.step x1 rv.sto))
theorem sim_retN : SimS c W tRetN sRetN := fun b α H σ ρ δ D r h => h .non α H r.ext ⟨r.sto.less fun a z => .inl z, .non⟩
theorem ret_ok (r : Rel c b α H σ ρ δ) (x : Ext α α1 H H1) {v : V} {d d' : D} (h : Res c (Bx b.A σ ρ) σ ρ α1 H H1 δ1 v d) (e : retd ρ d = some d') : RetV c b α1 H1 δ1 v d' := by
  cases d with
  | own l =>
    cases e
    obtain ⟨p, xs, z1, z2, z3, z4, z5⟩ := h
    refine ⟨p, xs, z1, .inr (r.ext.free z2), z3, z4.less fun a z => ?_, z5.less fun a z => ?_⟩
    · rcases z with z | z
      · exact .inl (.inl z)
      · exact .inr z
    · rcases z with z | z
      · exact .inl (.inl z)
      · exact .inr z
  | loc i =>
    obtain ⟨s1, ⟨l, h2⟩, h3⟩ := h
    have e0 : retd ρ (.loc i) = some (.own l) := by simp [retd, h2]
    rw [e0] at e
    cases e
    obtain ⟨a, xs, q1, q2, q3, q4⟩ := r.own i l h2
    rw [q1] at h3
    cases h3
    have na := (r.sto.tr a (.inr ⟨i, l, h2, q1⟩)).1
    refine ⟨a, xs, rfl, q4.1, x.keep _ _ na q2, s1.less fun z q => ?_, (q3.stay x).less fun z q => ?_⟩
    · rcases q with q | q
      · exact .inl q
      · rw [q]; exact .inr ⟨i, l, h2, q1⟩
    · rcases q with q | q
      · exact .inl q
      · rw [q]; exact .inr ⟨i, l, h2, q1⟩
  | _ => cases e; exact ⟨h.1.less fun a z => .inl z, h.2.less fun a z => .inl z⟩
theorem sim_ret (ha : SimE c W ta f) : SimS c W (tRet ta) (sRet f) := by
  intro b α H σ ρ δ D r h
  refine ha b α H σ ρ δ _ r ((Post.toS r h).mono fun d δ1 α1 H1 x1 h' v rv => ?_)
  cases e : retd ρ d with
  | none => rw [e] at h'; exact h'.elim
  | some d' => rw [e] at h'; exact h' v α1 H1 (r.ext.then x1) (ret_ok r x1 rv e)

/-! ### slots -/
theorem mutA_set {i : Nat} {d : Option D} {v : Option V} (hd : ∀ l, d ≠ some (.own l)) {a : Addr} (h : MutA (σ.set i v) (ρ.set i d) a) : MutA σ ρ a := by
  obtain ⟨j, l, h1, h2⟩ := h
  by_cases e : i = j
  · subst e
    by_cases z : i < ρ.length
    · rw [List.getElem?_set_self z] at h1
      exact absurd (Option.some.inj h1) (hd l)
    · rw [List.getElem?_eq_none (by simpa using z)] at h1
      cases h1
  · rw [List.getElem?_set_ne e] at h1
    rw [List.getElem?_set_ne e] at h2
    exact ⟨j, l, h1, h2⟩
theorem Rel.put (r : Rel c b α H σ ρ δ) {i : Nat} {v : V} {d : D} (h : Rp c α (Bx b.A σ ρ) H v d) : Rel c b α H (σ.set i (some v)) (ρ.set i (some d)) δ := by
  have hd : ∀ l, some d ≠ some (.own l) := fun l e => by cases e; cases h
  have hB : ∀ a, Bx b.A (σ.set i (some v)) (ρ.set i (some d)) a → Bx b.A σ ρ a := fun a z => z.elim .inl fun z => .inr (mutA_set hd z)
  refine ⟨by simp [r.len], fun j e h1 h2 => ?_, fun j l h1 => ?_, fun j k l l' a h1 h2 h3 h4 => ?_, fun j k h1 => ?_, r.sto.less hB, r.ext⟩
  · by_cases q : i = j
    · subst q
      have z : i < ρ.length := by
        have := (List.getElem?_eq_some_iff.mp h1).1
        simpa using this
      rw [List.getElem?_set_self z] at h1
      cases h1
      exact ⟨v, List.getElem?_set_self (by rw [r.len]; exact z), h.less hB⟩
    · rw [List.getElem?_set_ne q] at h1
      obtain ⟨u, q1, q2⟩ := r.val j e h1 h2
      exact ⟨u, by rw [List.getElem?_set_ne q]; exact q1, q2.less hB⟩
  · by_cases q : i = j
    · subst q
      have z : i < ρ.length := by
        have := (List.getElem?_eq_some_iff.mp h1).1
        simpa using this
      rw [List.getElem?_set_self z] at h1
      exact absurd (Option.some.inj h1) (hd l)
    · rw [List.getElem?_set_ne q] at h1
      obtain ⟨a, xs, q1, q2, q3, q4⟩ := r.own j l h1
      exact ⟨a, xs, by rw [List.getElem?_set_ne q]; exact q1, q2, q3.less hB, q4⟩
  · by_cases q : i = j
    · subst q
      have z : i < ρ.length := by
        have := (List.getElem?_eq_some_iff.mp h1).1
        simpa using this
      rw [List.getElem?_set_self z] at h1
      exact absurd (Option.some.inj h1) (hd l)
    · by_cases q' : i = k
      · subst q'
        have z : i < ρ.length := by
          have := (List.getElem?_eq_some_iff.mp h2).1
          simpa using this
        rw [List.getElem?_set_self z] at h2
        exact absurd (Option.some.inj h2) (hd l')
      · rw [List.getElem?_set_ne q] at h1 h3
        rw [List.getElem?_set_ne q'] at h2 h4
        exact r.inj j k l l' a h1 h2 h3 h4
  · by_cases q : i = j
    · subst q
      have z : i < ρ.length := by
        have := (List.getElem?_eq_some_iff.mp h1).1
        simpa using this
      rw [List.getElem?_set_self z] at h1
      have e := Option.some.inj (Option.some.inj h1)
      subst e
      cases h
    · rw [List.getElem?_set_ne q] at h1
      exact r.nloc j k h1
theorem Rel.forget (r : Rel c b α H σ ρ δ) (i : Nat) (v : Option V) : Rel c b α H (σ.set i v) (ρ.set i none) δ := by
  have hd : ∀ l, (none : Option D) ≠ some (.own l) := fun l e => by cases e
  have hB : ∀ a, Bx b.A (σ.set i v) (ρ.set i none) a → Bx b.A σ ρ a := fun a z => z.elim .inl fun z => .inr (mutA_set hd z)
  have no : ∀ {j : Nat} {d : D}, (ρ.set i none)[j]? = some (some d) → i ≠ j ∧ ρ[j]? = some (some d) := fun {j d} h1 => by
    by_cases q : i = j
    · subst q
      have z : i < ρ.length := by
        have := (List.getElem?_eq_some_iff.mp h1).1
        simpa using this
      rw [List.getElem?_set_self z] at h1
      cases h1
    · rw [List.getElem?_set_ne q] at h1
      exact ⟨q, h1⟩
  refine ⟨by simp [r.len], fun j e h1 h2 => ?_, fun j l h1 => ?_, fun j k l l' a h1 h2 h3 h4 => ?_, fun j k h1 => r.nloc j k (no h1).2, r.sto.less hB, r.ext⟩
  · obtain ⟨q, h1⟩ := no h1
    obtain ⟨u, q1, q2⟩ := r.val j e h1 h2
    exact ⟨u, by rw [List.getElem?_set_ne q]; exact q1, q2.less hB⟩
  · obtain ⟨q, h1⟩ := no h1
    obtain ⟨a, xs, q1, q2, q3, q4⟩ := r.own j l h1
    exact ⟨a, xs, by rw [List.getElem?_set_ne q]; exact q1, q2, q3.less hB, q4⟩
  · obtain ⟨q, h1⟩ := no h1
    obtain ⟨q', h2⟩ := no h2
    rw [List.getElem?_set_ne q] at h3
    rw [List.getElem?_set_ne q'] at h4
    exact r.inj j k l l' a h1 h2 h3 h4
/-- a slot comes to own a new list -/
theorem Rel.take (r : Rel c b α H σ ρ δ) {i : Nat} {p : Addr} {xs : List V} {l : List D} (hp : (b.M p ∨ b.H p = none) ∧ ¬ b.A p) (hp2 : ¬ MutA σ ρ p) (h1 : H p = some (.lst xs)) (h2 : RpS c α (fun a => Bx b.A σ ρ a ∨ a = p) H δ)
    (h3 : RpL c α (fun a => Bx b.A σ ρ a ∨ a = p) H xs l) (hv : ∀ (j : Nat) (d : D) (v : V), ρ[j]? = some (some d) → isVal d = true → σ[j]? = some (some v) → Rp c α (Bx b.A σ ρ) H v d → Rp c α (fun a => Bx b.A σ ρ a ∨ a = p) H v d)
    (ho : ∀ (j : Nat) (l' : List D) (a : Addr) (ys : List V), ρ[j]? = some (some (.own l')) → σ[j]? = some (some (.ref a)) → RpL c α (Bx b.A σ ρ) H ys l' → H a = some (.lst ys) → RpL c α (fun a => Bx b.A σ ρ a ∨ a = p) H ys l') : Rel c b α H (σ.set i (some (.ref p))) (ρ.set i (some (.own l))) δ := by
  have hB : ∀ a, Bx b.A (σ.set i (some (.ref p))) (ρ.set i (some (.own l))) a → Bx b.A σ ρ a ∨ a = p := fun a z => by
    rcases z with z | ⟨j, l', z1, z2⟩
    · exact .inl (.inl z)
    · by_cases q : i = j
      · subst q
        have z : i < σ.length := by
          have := (List.getElem?_eq_some_iff.mp z2).1
          simpa using this
        rw [List.getElem?_set_self z] at z2
        cases z2
        exact .inr rfl
      · rw [List.getElem?_set_ne q] at z1 z2
        exact .inl (.inr ⟨j, l', z1, z2⟩)
  have cas : ∀ {j : Nat} {d : D}, (ρ.set i (some (.own l)))[j]? = some (some d) → (i = j ∧ d = .own l ∧ i < ρ.length) ∨ (i ≠ j ∧ ρ[j]? = some (some d)) := fun {j d} h1 => by
    by_cases q : i = j
    · subst q
      have z : i < ρ.length := by
        have := (List.getElem?_eq_some_iff.mp h1).1
        simpa using this
      rw [List.getElem?_set_self z] at h1
      cases h1
      exact .inl ⟨rfl, rfl, z⟩
    · rw [List.getElem?_set_ne q] at h1
      exact .inr ⟨q, h1⟩
  refine ⟨by simp [r.len], fun j e q1 q2 => ?_, fun j l' q1 => ?_, fun j k l1 l2 a q1 q2 q3 q4 => ?_, fun j k q1 => ?_, h2.less hB, r.ext⟩
  · rcases cas q1 with ⟨rfl, rfl, z⟩ | ⟨q, q1⟩
    · cases q2
    · obtain ⟨u, z1, z2⟩ := r.val j e q1 q2
      exact ⟨u, by rw [List.getElem?_set_ne q]; exact z1, (hv j e u q1 q2 z1 z2).less hB⟩
  · rcases cas q1 with ⟨rfl, e, z⟩ | ⟨q, q1⟩
    · cases e
      exact ⟨p, xs, List.getElem?_set_self (by rw [r.len]; exact z), h1, h3.less hB, hp⟩
    · obtain ⟨a, ys, z1, z2, z3, z4⟩ := r.own j l' q1
      exact ⟨a, ys, by rw [List.getElem?_set_ne q]; exact z1, z2, (ho j l' a ys q1 z1 z3 z2).less hB, z4⟩
  · rcases cas q1 with ⟨rfl, e, z⟩ | ⟨q, q1⟩
    · rcases cas q2 with ⟨e2, _, _⟩ | ⟨q', q2⟩
      · exact e2
      · rw [List.getElem?_set_self (by rw [r.len]; exact z)] at q3
        rw [List.getElem?_set_ne q'] at q4
        cases q3
        exact absurd ⟨k, l2, q2, q4⟩ hp2
    · rcases cas q2 with ⟨rfl, e, z⟩ | ⟨q', q2⟩
      · rw [List.getElem?_set_self (by rw [r.len]; exact z)] at q4
        rw [List.getElem?_set_ne q] at q3
        cases q4
        exact absurd ⟨j, l1, q1, q3⟩ hp2
      · rw [List.getElem?_set_ne q] at q3
        rw [List.getElem?_set_ne q'] at q4
        exact r.inj j k l1 l2 a q1 q2 q3 q4
  · rcases cas q1 with ⟨rfl, e, z⟩ | ⟨q, q1⟩
    · cases e
    · exact r.nloc j k q1
theorem sim_set {i : Nat} (ha : SimE c W ta f) : SimS c W (tAsg ta (gName i)) (sSet i f) := by
  intro b α H σ ρ δ D r h
  refine ha b α H σ ρ δ _ r ((Post.toS r h).mono fun d δ1 α1 H1 x1 h' v rv => ?_)
  cases e : fzd d with
  | none => rw [e] at h'; exact h'.elim
  | some d' =>
    rw [e] at h'
    obtain ⟨s1, q1⟩ := rv.fz r.sto e
    exact h' α1 H1 _ ((r.step x1 s1).put q1)
theorem sim_own {i : Nat} (ha : SimE c W ta f) : SimS c W (tAsg ta (gName i)) (sOwn i f) := by
  intro b α H σ ρ δ D r h
  refine ha b α H σ ρ δ _ r ((Post.toS r h).mono fun d δ1 α1 H1 x1 h' v rv => ?_)
  cases d with
  | own l =>
    obtain ⟨p, xs, rfl, z2, z3, z4, z5⟩ := rv
    have r1 := r.step x1 (z4.less fun a z => .inl z)
    have nm : ¬ MutA σ ρ p := fun z => by
      obtain ⟨_, o, q⟩ := r.sto.tr p (.inr z)
      rw [z2] at q; cases q
    refine h' α1 H1 _ (r1.take ⟨.inr (r.ext.free z2), fun z => (r.sto.fresh z2).2 (.inl z)⟩ nm z3 z4 z5 (fun j d v q1 q2 q3 q4 => ?_) fun j l' a ys q1 q2 q3 q4 => ?_)
    · obtain ⟨u, w1, w2⟩ := r.val j d q1 q2
      rw [q3] at w1
      cases w1
      exact (w2.more z2).stay x1
    · obtain ⟨a', ys', w1, w2, w3, w4⟩ := r.own j l' q1
      rw [q2] at w1
      cases w1
      have na := (r.sto.tr a (.inr ⟨j, l', q1, q2⟩)).1
      have w2' := x1.keep _ _ na w2
      rw [q4] at w2'
      cases w2'
      exact (w3.more z2).stay x1
  | _ => exact h'.elim
end
end Pi
namespace Pi
open PySem L2
section
variable {c : Cn} {b : Base} {α α' α1 α2 : List Addr} {A B B' M : Addr → Prop} {H H' H1 H2 : Hp} {σ σ' : St} {ρ ρ' : Env} {δ δ' δ1 : Sto}
variable {W : WX} {ta tb : TE} {t u : TA} {tt tt' : TT} {f g : FE} {fa ga : FA} {ft gt : FT}
/-! ### from now on -/
def Base.now (b : Base) (α : List Addr) (H : Hp) (σ : St) (ρ : Env) : Base := ⟨α, b.A, H, MutA σ ρ⟩
theorem Rel.mutOf (r : Rel c b α H σ ρ δ) {a : Addr} (h : MutA σ ρ a) : (b.M a ∨ b.H a = none) ∧ ¬ b.A a := by
  obtain ⟨i, l, h1, h2⟩ := h
  obtain ⟨a', xs, q1, q2, q3, q4⟩ := r.own i l h1
  rw [h2] at q1
  cases q1
  exact q4
theorem Rel.start (r : Rel c b α H σ ρ δ) : Rel c (b.now α H σ ρ) α H σ ρ δ := by
  refine ⟨r.len, r.val, fun i l h => ?_, r.inj, r.nloc, r.sto, (Ext.refl α H).m⟩
  obtain ⟨a, xs, q1, q2, q3, q4⟩ := r.own i l h
  exact ⟨a, xs, q1, q2, q3, .inl ⟨i, l, h, q1⟩, q4.2⟩
theorem Rel.back (r : Rel c b α H σ ρ δ) (s : Rel c (b.now α H σ ρ) α' H' σ' ρ' δ') : Rel c b α' H' σ' ρ' δ' := by
  refine ⟨s.len, s.val, fun i l h => ?_, s.inj, s.nloc, s.sto, r.ext.trans s.ext fun a o z e => ?_⟩
  · obtain ⟨a, xs, q1, q2, q3, q4, q5⟩ := s.own i l h
    refine ⟨a, xs, q1, q2, q3, ?_, q5⟩
    rcases q4 with q4 | q4
    · exact (r.mutOf q4).1
    · exact .inr (r.ext.free q4)
  · rcases (r.mutOf z).1 with q | q
    · exact q
    · rw [q] at e; cases e
theorem RetV.back (r : Rel c b α H σ ρ δ) {v : V} {d : D} (h : RetV c (b.now α H σ ρ) α' H' δ' v d) : RetV c b α' H' δ' v d := by
  cases d with
  | own l =>
    obtain ⟨p, xs, z1, z2, z3⟩ := h
    refine ⟨p, xs, z1, ?_, z3⟩
    rcases z2 with z2 | z2
    · exact (r.mutOf z2).1
    · exact .inr (r.ext.free z2)
  | _ => exact h
theorem PostS.now {D : Ends} {o : OutS} (r : Rel c b α H σ ρ δ) (h : PostS c b W D o) : PostS c (b.now α H σ ρ) W D o := by
  cases o with
  | nx ρ' δ' => intro α' H' σ' s; exact h α' H' σ' (r.back s)
  | bk ρ' δ' => intro α' H' σ' s; exact h α' H' σ' (r.back s)
  | ct ρ' δ' => intro α' H' σ' s; exact h α' H' σ' (r.back s)
  | rt d δ' =>
    intro v α' H' e q
    refine h v α' H' (r.ext.trans e fun a o z e => ?_) (q.back r)
    rcases (r.mutOf z).1 with q | q
    · exact q
    · rw [q] at e; cases e
  | err e ρ' δ' => intro α' H' σ' o s; exact h α' H' σ' o (r.back s)
  | stk => exact h
mutual
theorem Rp.extM (e : ExtM M α α' H H') (hM : ∀ a, M a → B a) (ho : ∀ a, B' a → (∃ o, H a = some o) → B a) : ∀ {v : V} {d : D}, Rp c α B H v d → Rp c α' B' H' v d
  | _, _, .non => .non
  | _, _, .bl b => .bl b
  | _, _, .int i => .int i
  | _, _, .str x => .str x
  | _, _, .lst h1 h2 h3 h4 => .lst (e.keep _ _ h2 (fun z => h3 (hM _ z)) h1) (fun z => by have := e.new _ z h2; rw [h1] at this; cases this) (fun z => h3 (ho _ z ⟨_, h1⟩)) (RpL.extM e hM ho h4)
  | _, _, .tup h1 h2 h3 h4 => .tup (e.keep _ _ h2 (fun z => h3 (hM _ z)) h1) (fun z => by have := e.new _ z h2; rw [h1] at this; cases this) (fun z => h3 (ho _ z ⟨_, h1⟩)) (RpL.extM e hM ho h4)
  | _, _, .hnd h => .hnd (by
      obtain ⟨β, rfl⟩ := e.pre
      rw [List.getElem?_append_left (List.getElem?_eq_some_iff.mp h).1]
      exact h)
  | _, _, .scr (.inl ⟨h1, h2, h3⟩) => .scr (.inl ⟨by
      rcases h1 with h1 | ⟨o, h1⟩
      · exact .inl (e.keep _ _ h2 (fun z => h3 (hM _ z)) h1)
      · exact .inr ⟨o, e.keep _ _ h2 (fun z => h3 (hM _ z)) h1⟩, (fun z => by
        obtain ⟨o, q⟩ := rd_some h1
        have := e.new _ z h2; rw [q] at this; cases this), fun z => h3 (ho _ z (rd_some h1))⟩)
  | _, _, .scr (.inr h) => .scr (.inr h)
  | _, _, .ty n => .ty n
  | _, _, .obj h1 h2 h3 h4 => .obj (e.keep _ _ h2 (fun z => h3 (hM _ z)) h1) (fun z => by have := e.new _ z h2; rw [h1] at this; cases this) (fun z => h3 (ho _ z ⟨_, h1⟩)) (RpF.extM e hM ho h4)
theorem RpL.extM (e : ExtM M α α' H H') (hM : ∀ a, M a → B a) (ho : ∀ a, B' a → (∃ o, H a = some o) → B a) : ∀ {v : List V} {d : List D}, RpL c α B H v d → RpL c α' B' H' v d
  | _, _, .nil => .nil
  | _, _, .cons h1 h2 => .cons (Rp.extM e hM ho h1) (RpL.extM e hM ho h2)
theorem RpF.extM (e : ExtM M α α' H H') (hM : ∀ a, M a → B a) (ho : ∀ a, B' a → (∃ o, H a = some o) → B a) : ∀ {v : List (Str × V)} {d : List (Str × D)}, RpF c α B H v d → RpF c α' B' H' v d
  | _, _, .nil => .nil
  | _, _, .cons h1 h2 => .cons (Rp.extM e hM ho h1) (RpF.extM e hM ho h2)
end
/-- what was a value at the start still is -/
theorem Rel.later (s : Rel c (b.now α H σ ρ) α' H' σ' ρ' δ') {v : V} {d : D} (h : Rp c α (Bx b.A σ ρ) H v d) : Rp c α' (Bx b.A σ' ρ') H' v d := by
  refine h.extM s.ext (fun a z => .inr z) fun a z ⟨o, q⟩ => ?_
  rcases z with z | z
  · exact .inl z
  · rcases (s.mutOf z).1 with z | z
    · exact .inr z
    · rw [z] at q; cases q
theorem Rel.laterL (s : Rel c (b.now α H σ ρ) α' H' σ' ρ' δ') {v : List V} {d : List D} (h : RpL c α (Bx b.A σ ρ) H v d) : RpL c α' (Bx b.A σ' ρ') H' v d := by
  refine h.extM s.ext (fun a z => .inr z) fun a z ⟨o, q⟩ => ?_
  rcases z with z | z
  · exact .inl z
  · rcases (s.mutOf z).1 with z | z
    · exact .inr z
    · rw [z] at q; cases q

/-! ### wrappers -/
def frz (i : Nat) (ρ : Env) : Env := match ρ[i]? with
  | some (some (.own l)) => ρ.set i (some (.lst l))
  | _ => ρ
theorem Rel.frz (r : Rel c b α H σ ρ δ) (i : Nat) : Rel c b α H σ (Pi.frz i ρ) δ := by
  unfold Pi.frz
  split
  · rename_i l e
    obtain ⟨a, xs, q1, q2, q3, q4, q5⟩ := r.own i l e
    have hi : i < ρ.length := (List.getElem?_eq_some_iff.mp e).1
    have hd : ∀ l', some (D.lst l) ≠ some (.own l') := fun l' e => by cases e
    have sub : ∀ z, MutA σ (ρ.set i (some (.lst l))) z → MutA σ ρ z ∧ z ≠ a := fun z ⟨j, l', z1, z2⟩ => by
      by_cases q : i = j
      · subst q
        rw [List.getElem?_set_self hi] at z1
        cases z1
      · rw [List.getElem?_set_ne q] at z1
        refine ⟨⟨j, l', z1, z2⟩, fun w => q ?_⟩
        subst w
        exact r.inj i j l l' z e z1 q1 z2
    have hB : ∀ z, Bx b.A σ (ρ.set i (some (.lst l))) z → Bx b.A σ ρ z := fun z w => w.elim .inl fun w => .inr (sub z w).1
    have cas : ∀ {j : Nat} {d : D}, (ρ.set i (some (.lst l)))[j]? = some (some d) → (i = j ∧ d = .lst l) ∨ (i ≠ j ∧ ρ[j]? = some (some d)) := fun {j d} h1 => by
      by_cases q : i = j
      · subst q
        rw [List.getElem?_set_self hi] at h1
        cases h1
        exact .inl ⟨rfl, rfl⟩
      · rw [List.getElem?_set_ne q] at h1
        exact .inr ⟨q, h1⟩
    refine ⟨by simp [r.len], fun j d h1 h2 => ?_, fun j l' h1 => ?_, fun j k l1 l2 w h1 h2 h3 h4 => ?_, fun j k h1 => ?_, r.sto.less hB, r.ext⟩
    · rcases cas h1 with ⟨rfl, rfl⟩ | ⟨q, h1⟩
      · refine ⟨_, q1, .lst q2 (r.sto.tr a (.inr ⟨i, l, e, q1⟩)).1 (fun z => ?_) (q3.less hB)⟩
        rcases z with z | z
        · exact q5 z
        · exact (sub a z).2 rfl
      · obtain ⟨v, z1, z2⟩ := r.val j d h1 h2
        exact ⟨v, z1, z2.less hB⟩
    · rcases cas h1 with ⟨rfl, z⟩ | ⟨q, h1⟩
      · cases z
      · obtain ⟨w, ys, z1, z2, z3, z4⟩ := r.own j l' h1
        exact ⟨w, ys, z1, z2, z3.less hB, z4⟩
    · rcases cas h1 with ⟨rfl, z⟩ | ⟨q, h1⟩
      · cases z
      · rcases cas h2 with ⟨rfl, z⟩ | ⟨q', h2⟩
        · cases z
        · exact r.inj j k l1 l2 w h1 h2 h3 h4
    · rcases cas h1 with ⟨rfl, z⟩ | ⟨q, h1⟩
      · cases z
      · exact r.nloc j k h1
  · exact r
def sFrz (i : Nat) (f : FS) : FS := fun ρ δ => f (frz i ρ) δ
def sFgt (i : Nat) (f : FS) : FS := fun ρ δ => f (ρ.set i none) δ
theorem sim_frz {i : Nat} {t : TS} {f : FS} (h : SimS c W t f) : SimS c W t (sFrz i f) := fun b α H σ ρ δ D r k => h b α H σ _ δ D (r.frz i) k
theorem set_get {σ : St} {i : Nat} {v : Option V} (h : σ[i]? = some v) : σ.set i v = σ := by
  obtain ⟨h1, h2⟩ := List.getElem?_eq_some_iff.mp h
  rw [← h2]
  exact List.set_getElem_self h1
theorem sim_fgt {i : Nat} {t : TS} {f : FS} (h : SimS c W t f) : SimS c W t (sFgt i f) := fun b α H σ ρ δ D r k => by
  cases e : σ[i]? with
  | none =>
    have hl : σ.length ≤ i := List.getElem?_eq_none_iff.mp e
    have z : ρ.set i none = ρ := List.set_eq_of_length_le (by rw [← r.len]; exact hl)
    unfold sFgt at k
    rw [z] at k
    exact h b α H σ ρ δ D r k
  | some v =>
    have := r.forget i v
    rw [set_get e] at this
    exact h b α H σ _ δ D this k

/-! ### targets -/
abbrev FG := D → Env → Option Env
def SimG (c : Cn) (g : TG) (fg : FG) : Prop := ∀ (b : Base) (α : List Addr) (H : Hp) (σ : St) (ρ : Env) (δ : Sto) (v : V) (d : D) (Q : St → Hp → Prop), Rel c b α H σ ρ δ → Rp c α (Bx b.A σ ρ) H v d →
  (∃ ρ', fg d ρ = some ρ' ∧ ∀ σ', Rel c b α H σ' ρ' δ → (∀ a, Bx b.A σ' ρ' a → Bx b.A σ ρ a) → Q σ' H) → g v σ H Q
abbrev FGs := List D → Env → Option Env
def SimGs (c : Cn) (g : TGs) (fg : FGs) : Prop := ∀ (b : Base) (α : List Addr) (H : Hp) (σ : St) (ρ : Env) (δ : Sto) (v : List V) (d : List D) (Q : St → Hp → Prop), Rel c b α H σ ρ δ → RpL c α (Bx b.A σ ρ) H v d →
  (∃ ρ', fg d ρ = some ρ' ∧ ∀ σ', Rel c b α H σ' ρ' δ → (∀ a, Bx b.A σ' ρ' a → Bx b.A σ ρ a) → Q σ' H) → g v σ H Q
def gName' (i : Nat) : FG := fun d ρ => some (ρ.set i (some d))
def gsNil : FGs := fun ds ρ => match ds with
  | [] => some ρ
  | _ => none
def gsCons (f : FG) (g : FGs) : FGs := fun ds ρ => match ds with
  | d :: r => match f d ρ with
    | some ρ1 => g r ρ1
    | none => none
  | _ => none
def gTup' (n : Nat) (f : FGs) : FG := fun d ρ => match d with
  | .tup ds => if ds.length = n then f ds ρ else none
  | _ => none
theorem simg_name {i : Nat} : SimG c (gName i) (gName' i) := by
  intro b α H σ ρ δ v d Q r h ⟨ρ', e, k⟩
  cases e
  refine k _ (r.put h) fun a z => z.elim .inl fun z => .inr (mutA_set (fun l e => ?_) z)
  cases e
  cases h
theorem simg_nil : SimGs c gNil gsNil := by
  intro b α H σ ρ δ v d Q r h ⟨ρ', e, k⟩
  cases h with
  | nil => cases e; exact ⟨rfl, k σ r fun _ z => z⟩
  | cons => cases e
theorem simg_cons {g : TG} {u : TGs} {fg : FG} {fu : FGs} (h1 : SimG c g fg) (h2 : SimGs c u fu) : SimGs c (gCons g u) (gsCons fg fu) := by
  intro b α H σ ρ δ v d Q r h ⟨ρ', e, k⟩
  cases h with
  | nil => cases e
  | @cons v vs d ds q1 q2 =>
    unfold gsCons at e
    dsimp only at e
    cases e1 : fg d ρ with
    | none => rw [e1] at e; cases e
    | some ρ1 =>
      rw [e1] at e
      refine ⟨_, _, rfl, h1 b α H σ ρ δ _ _ _ r q1 ⟨ρ1, e1, fun σ1 r1 hB => ?_⟩⟩
      exact h2 b α H σ1 ρ1 δ _ _ _ r1 (q2.less hB) ⟨ρ', e, fun σ' r' hB' => k σ' r' fun a z => hB a (hB' a z)⟩
theorem simg_tup {n : Nat} {u : TGs} {fu : FGs} (h : SimGs c u fu) : SimG c (gTup c.K n u) (gTup' n fu) := by
  intro b α H σ ρ δ v d Q r q ⟨ρ', e, k⟩
  cases q with
  | tup q1 q2 q3 q4 =>
    unfold gTup' at e
    dsimp only at e
    split at e
    · rename_i hn
      exact ⟨_, _, rfl, SqT.of q1, by rw [q4.len]; exact hn, h b α H σ ρ δ _ _ _ r q4 ⟨ρ', e, k⟩⟩
    · cases e
  | _ => cases e
def sAsgG (f : FE) (g : FG) : FS := fun ρ δ => bindS (f ρ δ) ρ fun d δ1 => match fzd d with
  | some d' => match g d' ρ with
    | some ρ1 => .nx ρ1 δ1
    | none => .stk
  | none => .stk
theorem sim_asgG {tg : TG} {fg : FG} (ha : SimE c W ta f) (hg : SimG c tg fg) : SimS c W (tAsg ta tg) (sAsgG f fg) := by
  intro b α H σ ρ δ D r h
  refine ha b α H σ ρ δ _ r ((Post.toS r h).mono fun d δ1 α1 H1 x1 h' v rv => ?_)
  cases e : fzd d with
  | none => rw [e] at h'; exact h'.elim
  | some d' =>
    rw [e] at h'
    dsimp only at h'
    cases e1 : fg d' ρ with
    | none => rw [e1] at h'; exact h'.elim
    | some ρ1 =>
      rw [e1] at h'
      obtain ⟨s1, q1⟩ := rv.fz r.sto e
      exact hg b α1 H1 σ ρ δ1 _ _ _ (r.step x1 s1) q1 ⟨ρ1, e1, fun σ' r' _ => h' α1 H1 σ' r'⟩

/-! ### for, over a list that does not change -/
def forL (g : FG) (body : FS) : List D → Env → Sto → OutS
  | [], ρ, δ => .nx ρ δ
  | d :: r, ρ, δ => match g d ρ with
    | none => .stk
    | some ρ1 => match body ρ1 δ with
      | .nx ρ2 δ2 => forL g body r ρ2 δ2
      | .ct ρ2 δ2 => forL g body r ρ2 δ2
      | .bk ρ2 δ2 => .nx ρ2 δ2
      | o => o
def itemsL (d : D) : Option (List D) := match d with
  | .lst l => some l
  | .own l => some l
  | .scr l => some (l.map D.int)
  | _ => none
def sFor (f : FE) (g : FG) (body : FS) : FS := fun ρ δ => bindS (f ρ δ) ρ fun d δ1 => match itemsL d with
  | some l => forL g body l ρ δ1
  | none => .stk
/-- one turn -/
theorem forL_turn {D : Ends} {tg : TG} {fg : FG} {tb : TS} {body : FS} {d : Pi.D} {l : List Pi.D} (hg : SimG c tg fg) (hb : SimS c W tb body) (N : St → Hp → Prop) (hN : ∀ σ' H', (∃ α' ρ' δ', Rel c b α' H' σ' ρ' δ' ∧ PostS c b W D (forL fg body l ρ' δ')) → N σ' H')
    (r : Rel c b α H σ ρ δ) {v : V} (q : Rp c α (Bx b.A σ ρ) H v d) (h : PostS c b W D (forL fg body (d :: l) ρ δ)) : tg v σ H fun σ2 H2 => tb { D with nx := N, ct := N, bk := D.nx } σ2 H2 := by
  unfold forL at h
  cases e : fg d ρ with
  | none => rw [e] at h; exact h.elim
  | some ρ1 =>
    rw [e] at h
    refine hg b α H σ ρ δ v d _ r q ⟨ρ1, e, fun σ1 r1 _ => hb b α H σ1 ρ1 δ _ r1 ?_⟩
    dsimp only at h
    cases e2 : body ρ1 δ with
    | nx ρ2 δ2 => rw [e2] at h; intro α' H' σ' s; exact hN σ' H' ⟨α', ρ2, δ2, s, h⟩
    | ct ρ2 δ2 => rw [e2] at h; intro α' H' σ' s; exact hN σ' H' ⟨α', ρ2, δ2, s, h⟩
    | bk ρ2 δ2 => rw [e2] at h; exact h
    | rt d δ2 => rw [e2] at h; exact h
    | err z ρ2 δ2 => rw [e2] at h; exact h
    | stk => rw [e2] at h; exact h
theorem scr_vals {l : List Int} : RpL c α B H (l.map V.int) (l.map D.int) := by
  induction l with
  | nil => exact .nil
  | cons x l ih => exact .cons (.int x) ih
theorem forL_run {D : Ends} {tg : TG} {fg : FG} {tb : TS} {body : FS} {l : List Pi.D} {a : Addr} {xs : List V} (hg : SimG c tg fg) (hb : SimS c W tb body)
    (r : Rel c b α H σ ρ δ) (hx : RpL c α (Bx b.A σ ρ) H xs l) (hl : SqL c.K H a xs) (hst : ∀ α' H' σ' ρ' δ', Rel c (b.now α H σ ρ) α' H' σ' ρ' δ' → SqL c.K H' a xs) (h : PostS c b W D (forL fg body l ρ δ)) :
    ∃ W : Nat → Nat → St → Hp → Prop, (∃ m, W 0 m σ H) ∧ ∀ i m σ H, W i m σ H →
      ((Itl c.K a).stop i H ∧ D.nx σ H) ∨ ((Itl c.K a).go i H ∧ ∃ N : St → Hp → Prop, (∀ σ' H', N σ' H' → ∃ m', m' < m ∧ W (i + 1) m' σ' H') ∧ ∀ x H', (Itl c.K a).yld i H x H' → tg x σ H' fun σ2 H2 => tb { D with nx := N, ct := N, bk := D.nx } σ2 H2) := by
  have len := hx.len
  refine for_list (xs := xs) (fun i σ1 H1 => ∃ α1 ρ1 δ1, Rel c (b.now α H σ ρ) α1 H1 σ1 ρ1 δ1 ∧ PostS c (b.now α H σ ρ) W D (forL fg body (l.drop i) ρ1 δ1)) ⟨α, ρ, δ, r.start, ?_⟩ (fun i σ1 H1 _ ⟨α1, ρ1, δ1, r1, _⟩ => hst _ _ _ _ _ r1) ?_ ?_
  · rw [List.drop_zero]; exact PostS.now r h
  · rintro i x σ1 H1 hi ⟨α1, ρ1, δ1, r1, h1⟩
    have hil : i < l.length := by rw [← len]; exact (List.getElem?_eq_some_iff.mp hi).1
    have e : l.drop i = l[i] :: l.drop (i + 1) := List.drop_eq_getElem_cons hil
    rw [e] at h1
    obtain ⟨v, q1, q2⟩ := (r1.laterL hx).get i l[i] (List.getElem?_eq_getElem hil)
    rw [hi] at q1
    cases q1
    exact forL_turn hg hb _ (fun σ' H' z => z) r1 q2 h1
  · rintro σ1 H1 ⟨α1, ρ1, δ1, r1, h1⟩
    rw [len, List.drop_length] at h1
    exact h1 α1 H1 σ1 r1
theorem sim_for {tg : TG} {fg : FG} {tb : TS} {body : FS} (ha : SimE c W ta f) (hg : SimG c tg fg) (hb : SimS c W tb body) : SimS c W (tFor (iList c.K ta) tg tb) (sFor f fg body) := by
  intro b α H σ ρ δ D r h
  refine ha b α H σ ρ δ _ r ((Post.toS r h).mono fun d δ1 α1 H1 x1 h' v rv => ?_)
  have r1 := r.step x1 rv.sto
  cases d with
  | lst l =>
    obtain ⟨_, rv⟩ := rv
    cases rv with
    | @lst a xs _ q1 q2 q3 q4 =>
      refine ⟨a, rfl, ⟨_, SqL.of q1⟩, forL_run hg hb r1 q4 (SqL.of q1) (fun α' H' σ' ρ' δ' s => SqL.of (s.ext.keep _ _ q2 (fun z => q3 (.inr z)) q1)) h'⟩
  | own l =>
    obtain ⟨p, xs, rfl, z2, z3, z4, z5⟩ := rv
    have np := (z4.tr p (.inr rfl)).1
    refine ⟨p, rfl, ⟨_, SqL.of z3⟩, forL_run hg hb r1 (z5.less fun a z => .inl z) (SqL.of z3) (fun α' H' σ' ρ' δ' s => SqL.of (s.ext.keep _ _ np (fun z => ?_) z3)) h'⟩
    obtain ⟨_, o, q⟩ := r.sto.tr p (.inr z)
    rw [z2] at q; cases q
  | scr l =>
    obtain ⟨_, rv⟩ := rv
    cases rv with
    | @scr a _ q =>
      have hs : ∀ H', (∀ o, a ∉ α1 → ¬ (Bx b.A σ ρ) a → H1 a = some o → H' a = some o) → SqL c.K H' a (l.map V.int) := fun H' k => by
        rcases q with ⟨q1, q2, q3⟩ | q
        · rcases q1 with q1 | ⟨o, q1⟩
          · exact .inl (.inl (k _ q2 q3 q1))
          · exact .inl (.inr ⟨o, k _ q2 q3 q1⟩)
        · rcases q with (q | ⟨o, q⟩) | q
          · cases q
          · cases q
          · exact .inr q
      refine ⟨a, rfl, ⟨_, hs H1 fun o _ _ e => e⟩, forL_run hg hb r1 scr_vals (hs H1 fun o _ _ e => e) (fun α' H' σ' ρ' δ' s => hs H' fun o n1 n2 e => s.ext.keep _ _ n1 (fun z => n2 (.inr z)) e) h'⟩
  | _ => exact h'.elim
/-- over a range -/
def sForR1 (f : FA) (g : FG) (body : FS) : FS := fun ρ δ => bindS (f ρ δ) ρ fun ds δ1 => match ds with
  | [.int j] => if -(2 ^ 62) ≤ j ∧ j < 2 ^ 62 then forL g body ((List.range j.toNat).map fun i => .int (i : Nat)) ρ δ1 else .stk
  | _ => .stk
def sForR2 (f : FA) (g : FG) (body : FS) : FS := fun ρ δ => bindS (f ρ δ) ρ fun ds δ1 => match ds with
  | [.int i, .int j] => if -(2 ^ 62) ≤ i ∧ i < 2 ^ 62 ∧ -(2 ^ 62) ≤ j ∧ j < 2 ^ 62 then forL g body ((List.range (j - i).toNat).map fun k => .int (i + (k : Nat))) ρ δ1 else .stk
  | _ => .stk
theorem forL_rng {D : Ends} {tg : TG} {fg : FG} {tb : TS} {body : FS} {lo : Int} {n : Nat} (hg : SimG c tg fg) (hb : SimS c W tb body)
    (r : Rel c b α H σ ρ δ) (h : PostS c b W D (forL fg body ((List.range n).map fun k => .int (lo + (k : Nat))) ρ δ)) :
    ∃ W : Nat → Nat → St → Hp → Prop, (∃ m, W 0 m σ H) ∧ ∀ i m σ H, W i m σ H →
      ((Itr lo n).stop i H ∧ D.nx σ H) ∨ ((Itr lo n).go i H ∧ ∃ N : St → Hp → Prop, (∀ σ' H', N σ' H' → ∃ m', m' < m ∧ W (i + 1) m' σ' H') ∧ ∀ x H', (Itr lo n).yld i H x H' → tg x σ H' fun σ2 H2 => tb { D with nx := N, ct := N, bk := D.nx } σ2 H2) := by
  refine for_range (fun i σ1 H1 => ∃ α1 ρ1 δ1, Rel c b α1 H1 σ1 ρ1 δ1 ∧ PostS c b W D (forL fg body (((List.range n).map fun k => Pi.D.int (lo + (k : Nat))).drop i) ρ1 δ1)) ⟨α, ρ, δ, r, ?_⟩ ?_ ?_
  · rw [List.drop_zero]; exact h
  · rintro i σ1 H1 hi ⟨α1, ρ1, δ1, r1, h1⟩
    have hil : i < ((List.range n).map fun k => Pi.D.int (lo + (k : Nat))).length := by simpa using hi
    have e := List.drop_eq_getElem_cons hil
    rw [e] at h1
    refine forL_turn hg hb _ (fun σ' H' z => z) r1 ?_ h1
    simp only [List.getElem_map, List.getElem_range]
    exact .int _
  · rintro σ1 H1 ⟨α1, ρ1, δ1, r1, h1⟩
    rw [List.drop_of_length_le (by simp)] at h1
    exact h1 α1 H1 σ1 r1
theorem sim_forR1 {tg : TG} {fg : FG} {tb : TS} {body : FS} (ha : SimO c W t fa) (hg : SimG c tg fg) (hb : SimS c W tb body) : SimS c W (tFor (iRng1 t) tg tb) (sForR1 fa fg body) := by
  intro b α H σ ρ δ D r h
  refine ha b α H σ ρ δ _ r ((Post.toS r h).mono fun ds δ1 α1 H1 x1 h' vs s1 q1 => ?_)
  split at h'
  · rename_i j
    split at h'
    · rename_i hj
      cases q1 with
      | cons q1 q2 =>
        cases q2
        cases q1
        refine ⟨j, rfl, hj.1, hj.2, forL_rng (lo := 0) hg hb (r.step x1 s1) ?_⟩
        have e : (fun k : Nat => Pi.D.int (0 + (k : Nat))) = fun i : Nat => Pi.D.int (i : Nat) := by funext k; rw [Int.zero_add]
        rw [e]
        exact h'
    · exact h'.elim
  · exact h'.elim
theorem sim_forR2 {tg : TG} {fg : FG} {tb : TS} {body : FS} (ha : SimO c W t fa) (hg : SimG c tg fg) (hb : SimS c W tb body) : SimS c W (tFor (iRng2 t) tg tb) (sForR2 fa fg body) := by
  intro b α H σ ρ δ D r h
  refine ha b α H σ ρ δ _ r ((Post.toS r h).mono fun ds δ1 α1 H1 x1 h' vs s1 q1 => ?_)
  split at h'
  · rename_i i j
    split at h'
    · rename_i hj
      cases q1 with
      | cons q1 q2 =>
        cases q2 with
        | cons q2 q3 =>
          cases q3
          cases q1
          cases q2
          exact ⟨i, j, rfl, hj, forL_rng hg hb (r.step x1 s1) h'⟩
    · exact h'.elim
  · exact h'.elim

/-! ### while: fuel says how many turns at most -/
def whileF (t : FT) (body : FS) : Nat → Env → Sto → OutS
  | 0, _, _ => .stk
  | n + 1, ρ, δ => bindS (t ρ δ) ρ fun k δ1 => if k = true then (match body ρ δ1 with
      | .nx ρ2 δ2 => whileF t body n ρ2 δ2
      | .ct ρ2 δ2 => whileF t body n ρ2 δ2
      | .bk ρ2 δ2 => .nx ρ2 δ2
      | o => o) else .nx ρ δ1
def sWhile (n : Nat) (t : FT) (body : FS) : FS := fun ρ δ => whileF t body n ρ δ
theorem sim_while {n : Nat} {tb : TS} {body : FS} (ht : SimT c W tt ft) (hb : SimS c W tb body) : SimS c W (tWhile tt tb) (sWhile n ft body) := by
  intro b α H σ ρ δ D r h
  refine ⟨fun m σ1 H1 => ∃ α1 ρ1 δ1, Rel c b α1 H1 σ1 ρ1 δ1 ∧ PostS c b W D (whileF ft body m ρ1 δ1), ⟨n, α, ρ, δ, r, h⟩, ?_⟩
  rintro m σ1 H1 ⟨α1, ρ1, δ1, r1, h1⟩
  cases m with
  | zero => exact h1.elim
  | succ m =>
    refine ht b α1 H1 σ1 ρ1 δ1 _ r1 ((Post.toS r1 h1).mono fun k δ2 α2 H2 x2 h2 s2 => ?_)
    cases k with
    | false => exact h2 α2 H2 σ1 (r1.step x2 s2)
    | true =>
      refine ⟨fun σ' H' => ∃ α' ρ' δ', Rel c b α' H' σ' ρ' δ' ∧ PostS c b W D (whileF ft body m ρ' δ'), fun σ' H' z => ⟨m, Nat.lt_succ_self m, z⟩, hb b α2 H2 σ1 ρ1 δ2 _ (r1.step x2 s2) ?_⟩
      rw [if_pos rfl] at h2
      cases e2 : body ρ1 δ2 with
      | nx ρ2 δ2 => rw [e2] at h2; intro α' H' σ' s; exact ⟨α', ρ2, δ2, s, h2⟩
      | ct ρ2 δ2 => rw [e2] at h2; intro α' H' σ' s; exact ⟨α', ρ2, δ2, s, h2⟩
      | bk ρ2 δ2 => rw [e2] at h2; exact h2
      | rt d δ2 => rw [e2] at h2; exact h2
      | err z ρ2 δ2 => rw [e2] at h2; exact h2
      | stk => rw [e2] at h2; exact h2

/-! ### a def -/
/-- the meaning of a def by that of its body: slots beyond the parameters are empty; nothing shared is new -/
def fnV (n : Nat) (body : FS) (ds : List D) (δ : Sto) : Out D := match body (ds.map some ++ List.replicate n none) δ with
  | .nx _ δ' => .ok .non δ'
  | .rt d δ' => .ok d δ'
  | .err e _ δ' => .err e δ'
  | _ => .stk
theorem start_rel {N : List Str} {vs : List V} {ds : List D} (s : RpS c α A H δ) (r : RpL c α A H vs ds) (n : Nat) (hn : N.length - vs.length = n) :
    Rel c ⟨α, A, H, fun _ => False⟩ α H (L2.start N vs) (ds.map some ++ List.replicate n none) δ := by
  have len := r.len
  have get : ∀ (i : Nat) (d : D), (ds.map some ++ List.replicate n none)[i]? = some (some d) → ds[i]? = some d ∧ (L2.start N vs)[i]? = some (vs[i]?) := fun i d h => by
    by_cases hi : i < ds.length
    · rw [List.getElem?_append_left (by simpa using hi)] at h
      rw [List.getElem?_map] at h
      refine ⟨by simpa using h, ?_⟩
      unfold L2.start
      rw [List.getElem?_append_left (by rw [List.length_map, len]; exact hi), List.getElem?_map, List.getElem?_eq_getElem (by rw [len]; exact hi)]
      rfl
    · rw [List.getElem?_append_right (by simpa using hi)] at h
      have := List.mem_of_getElem? h
      rw [List.mem_replicate] at this
      cases this.2
  have nom : ∀ a, ¬ MutA (L2.start N vs) (ds.map some ++ List.replicate n none) a := fun a ⟨i, l, h1, h2⟩ => by
    obtain ⟨v, q1, q2⟩ := r.get i _ (get i _ h1).1
    cases q2
  have hB : ∀ a, Bx A (L2.start N vs) (ds.map some ++ List.replicate n none) a → A a := fun a z => z.elim id fun z => (nom a z).elim
  refine ⟨?_, fun i d h k => ?_, fun i l h => ?_, fun i j l l' a h1 h2 h3 h4 => ?_, fun i j h => ?_, s.less hB, (Ext.refl α H).m⟩
  · unfold L2.start
    rw [List.length_append, List.length_append, List.length_map, List.length_map, List.length_replicate, List.length_replicate, len, ← hn, len]
  · obtain ⟨h1, h2⟩ := get i d h
    obtain ⟨v, q1, q2⟩ := r.get i d h1
    exact ⟨v, by rw [h2, q1], q2.less hB⟩
  · obtain ⟨v, q1, q2⟩ := r.get i _ (get i _ h).1
    cases q2
  · obtain ⟨v, q1, q2⟩ := r.get i _ (get i _ h1).1
    cases q2
  · obtain ⟨v, q1, q2⟩ := r.get i _ (get i _ h).1
    cases q2
theorem fn_end {N : List Str} {np n : Nat} {t : TS} {body : FS} {vs : List V} {Q : VK} {E : XK} (hn : N.length - np = n) (h : SimS c (fun cls o _ H' => E cls o H') t body)
    (hsp : SpF c np (fnV n body) vs H Q E) : t { nx := fun _ H' => Q .non H', rt := Q } (L2.start N vs) H := by
  obtain ⟨α, A, ds, δ, hl, s, r, p⟩ := hsp
  have rel := start_rel (N := N) s r n (by rw [r.len, hl]; exact hn)
  have no : ∀ a : Addr, ¬ (fun _ : Addr => False) a := fun a z => z
  have hB : ∀ {σ' : St} {ρ' : Env} (a : Addr), A a → Bx A σ' ρ' a := fun a z => .inl z
  refine h _ α H _ _ δ _ rel ?_
  unfold fnV at p
  cases e : body (ds.map some ++ List.replicate n none) δ with
  | nx ρ' δ' =>
    rw [e] at p
    intro α' H' σ' r'
    exact p α' H' (r'.ext.ext no) .non ⟨r'.sto.less hB, .non⟩
  | rt d δ' =>
    rw [e] at p
    intro v α' H' x q
    refine p α' H' (x.ext no) v ?_
    cases d with
    | own l =>
      obtain ⟨w, xs, z1, z2, z3⟩ := q
      exact ⟨w, xs, z1, z2.elim False.elim id, z3⟩
    | _ => exact q
  | err z ρ' δ' =>
    rw [e] at p
    intro α' H' σ' o r'
    exact p α' H' o (r'.ext.ext no) (r'.sto.less hB)
  | bk ρ' δ' => rw [e] at p; exact p.elim
  | ct ρ' δ' => rw [e] at p; exact p.elim
  | stk => rw [e] at p; exact p.elim
end
end Pi
namespace Pi
open PySem L2
section
variable {c : Cn} {b : Base} {α α' α1 α2 : List Addr} {A B B' M : Addr → Prop} {H H' H1 H2 : Hp} {σ σ' : St} {ρ ρ' : Env} {δ δ' δ1 : Sto}
variable {W : WX} {ta tb : TE} {t u : TA} {tt tt' : TT} {f g : FE} {fa ga : FA} {ft gt : FT}
/-! ### operations -/
def asL (d : D) (δ : Sto) : Option (List D) := match d with
  | .lst l => some l
  | .own l => some l
  | .hnd n => match δ[n]? with
    | some (.lst l) => some l
    | _ => none
  | _ => none
theorem asL_ok (s : RpS c α B H δ) {v : V} {d : D} {l : List D} (h : RpQ c α B H v d) (e : asL d δ = some l) : ∃ a xs, v = .ref a ∧ H a = some (.lst xs) ∧ RpL c α B H xs l := by
  cases d with
  | lst l =>
    cases e
    cases h with
    | lst h1 h2 h3 h4 => exact ⟨_, _, rfl, h1, h4⟩
  | own l =>
    cases e
    obtain ⟨a, xs, rfl, h1, h2, h3⟩ := h
    exact ⟨a, xs, rfl, h1, h3⟩
  | hnd n =>
    cases h with
    | hnd h1 =>
      simp only [asL] at e
      split at e
      · rename_i l' hl
        cases e
        obtain ⟨xs, q1, q2⟩ := s.at_ n _ _ h1 hl
        exact ⟨_, xs, rfl, q1, q2⟩
      · cases e
  | _ => cases e
/-- a value's end -/
theorem fin_val {Q : VK} {d : D} {v : V} (s : RpS c α B H δ) (h : Post c W σ B α H (fun d' δ' α' H' => ∀ v', ResV c B α' H H' δ' v' d' → Q v' H') (.ok d δ)) (r : Rp c α B H v d) : Q v H :=
  h α H (Ext.refl _ _) v (res_val s r)
theorem fin_own {Q : VK} {l : List D} {xs : List V} {p : Addr} (s : RpS c α B H δ) (h : Post c W σ B α H (fun d' δ' α' H' => ∀ v', ResV c B α' H H' δ' v' d' → Q v' H') (.ok (.own l) δ)) (hp : H p = none) (r : RpL c α B H xs l) : Q (.ref p) (upd H p (.lst xs)) :=
  h α _ (ext_new hp) _ ⟨p, xs, rfl, hp, upd_same, s.new hp, (r.more hp).stay (ext_new hp)⟩
theorem fin_tup {Q : VK} {l : List D} {xs : List V} {p : Addr} (s : RpS c α B H δ) (h : Post c W σ B α H (fun d' δ' α' H' => ∀ v', ResV c B α' H H' δ' v' d' → Q v' H') (.ok (.tup l) δ)) (hp : H p = none) (r : RpL c α B H xs l) : Q (.ref p) (upd H p (.tup xs)) :=
  h α _ (ext_new hp) _ ⟨s.same (same_new hp), .tup upd_same (s.fresh hp).1 (s.fresh hp).2 (r.stay (ext_new hp))⟩
theorem RpQ.int {v : V} {i : Int} (h : RpQ c α B H v (.int i)) : v = .int i := by cases h; rfl
theorem RpQ.str {v : V} {i : Str} (h : RpQ c α B H v (.str i)) : v = .str i := by cases h; rfl
theorem RpQ.bl {v : V} {i : Bool} (h : RpQ c α B H v (.bl i)) : v = .bl i := by cases h; rfl
theorem RpQ.non {v : V} (h : RpQ c α B H v .non) : v = .non := by cases h; rfl
def kII (p : Int → Int → Bool) (g : Int → Int → D) : D → D → Sto → Out D := fun d e δ => match d, e with
  | .int i, .int j => if p i j = true then .ok (g i j) δ else .stk
  | _, _ => .stk
theorem op_ii0 {gv : Int → Int → V} {g : Int → Int → D} (hg : ∀ i j α B H, Rp c α B H (gv i j) (g i j)) : OpS2 c (rI0 gv) (kII (fun _ _ => true) g) := by
  intro W σ B α H δ Q v u d e s rv ru h
  unfold kII at h
  split at h
  · rename_i i j
    have := rv.int; have := ru.int; subst_vars
    rw [if_pos rfl] at h
    exact ⟨i, j, rfl, rfl, fin_val s h (hg i j _ _ _)⟩
  · exact h.elim
theorem op_ii {C : Int → Int → Prop} {p : Int → Int → Bool} {gv : Int → Int → V} {g : Int → Int → D} (hp : ∀ i j, p i j = true → C i j) (hg : ∀ i j α B H, Rp c α B H (gv i j) (g i j)) : OpS2 c (rI C gv) (kII p g) := by
  intro W σ B α H δ Q v u d e s rv ru h
  unfold kII at h
  split at h
  · rename_i i j
    have := rv.int; have := ru.int; subst_vars
    split at h
    · rename_i hc
      exact ⟨i, j, rfl, rfl, hp i j hc, fin_val s h (hg i j _ _ _)⟩
    · exact h.elim
  · exact h.elim
def BIG : Nat := 1000000
/-- + -/
def rPlus : R2 := fun x y H Q => rI0 (fun i j => .int (i + j)) x y H Q ∨ (∃ i j, x = .str i ∧ y = .str j ∧ i.length + j.length ≤ sizeLine ∧ Q (.str (i ++ j)) H) ∨ rCat x y H Q
theorem op_plus {X : Cx} : OpR X (binaryOp .Add) rPlus := op_add.or (op_add_str.or op_cat)
def kPlus (d e : D) (δ : Sto) : Out D := match d, e with
  | .int i, .int j => .ok (.int (i + j)) δ
  | .str x, .str y => if x.length + y.length ≤ BIG then .ok (.str (x ++ y)) δ else .stk
  | _, _ => match asL d δ, asL e δ with
    | some l, some m => if l.length + m.length ≤ BIG then .ok (.own (l ++ m)) δ else .stk
    | _, _ => .stk
theorem ops_plus : OpS2 c rPlus kPlus := by
  intro W σ B α H δ Q v u d e s rv ru h
  unfold kPlus at h
  split at h
  · rename_i i j
    have := rv.int; have := ru.int; subst_vars
    exact .inl ⟨i, j, rfl, rfl, fin_val s h (.int _)⟩
  · rename_i i j
    have := rv.str; have := ru.str; subst_vars
    split at h
    · rename_i hl
      exact .inr (.inl ⟨i, j, rfl, rfl, le_line' hl, fin_val s h (.str _)⟩)
    · exact h.elim
  · split at h
    · rename_i l m e1 e2
      split at h
      · rename_i hl
        obtain ⟨a, xs, rfl, q1, q2⟩ := asL_ok s rv e1
        obtain ⟨a', ys, rfl, q3, q4⟩ := asL_ok s ru e2
        exact .inr (.inr ⟨a, a', xs, ys, rfl, rfl, q1, q3, by rw [q2.len, q4.len]; exact le_line' hl, fun p hp => fin_own s h hp (q2.append q4)⟩)
      · exact h.elim
    · exact h.elim
def kMinus : D → D → Sto → Out D := kII (fun _ _ => true) fun i j => .int (i - j)
theorem ops_minus : OpS2 c (rI0 fun i j => .int (i - j)) kMinus := op_ii0 fun i j _ _ _ => .int _
/-- * -/
def smallI (i : Int) : Bool := decide (-(2 ^ 64) < i ∧ i < 2 ^ 64)
def rTimes : R2 := fun x y H Q => rI CMul (fun i j => .int (i * j)) x y H Q ∨ rRep x y H Q
theorem op_times {X : Cx} : OpR X (binaryOp .Mult) rTimes := op_mul.or op_rep
def kTimes (d e : D) (δ : Sto) : Out D := match d, e with
  | .int i, .int j => if (smallI i || smallI j) = true then .ok (.int (i * j)) δ else .stk
  | d, .int k => match asL d δ with
    | some l => if -(2 ^ 63) ≤ k ∧ k < 2 ^ 63 ∧ l.length * k.toNat ≤ BIG then .ok (.own (List.replicate k.toNat l).flatten) δ else .stk
    | _ => .stk
  | _, _ => .stk
theorem ops_times : OpS2 c rTimes kTimes := by
  intro W σ B α H δ Q v u d e s rv ru h
  unfold kTimes at h
  split at h
  · rename_i i j
    have := rv.int; have := ru.int; subst_vars
    split at h
    · rename_i hc
      refine .inl ⟨i, j, rfl, rfl, ?_, fin_val s h (.int _)⟩
      rw [Bool.or_eq_true] at hc
      exact hc.imp of_decide_eq_true of_decide_eq_true
    · exact h.elim
  · rename_i k hk
    have := ru.int; subst_vars
    split at h
    · rename_i l e1
      split at h
      · rename_i hl
        obtain ⟨a, xs, rfl, q1, q2⟩ := asL_ok s rv e1
        exact .inr ⟨a, k, xs, rfl, rfl, q1, hl.1, hl.2.1, by rw [q2.len]; exact le_line' hl.2.2, fun p hp => fin_own s h hp (q2.rep _)⟩
      · exact h.elim
    · exact h.elim
  · exact h.elim
def kFdiv : D → D → Sto → Out D := kII (fun _ j => decide (0 < j ∧ j < 1073741824)) fun i j => .int (i / j)
theorem ops_fdiv : OpS2 c (rI CDiv fun i j => .int (i / j)) kFdiv := op_ii (fun i j h => show 0 < j ∧ j < 1073741824 from of_decide_eq_true h) fun i j _ _ _ => .int _
def kMod : D → D → Sto → Out D := kII (fun _ j => decide (0 < j)) fun i j => .int (i % j)
theorem ops_mod : OpS2 c (rI (fun _ j => 0 < j) fun i j => .int (i % j)) kMod := op_ii (fun i j h => of_decide_eq_true h) fun i j _ _ _ => .int _
def kLt : D → D → Sto → Out D := kII (fun _ _ => true) fun i j => .bl (decide (i < j))
def kLe : D → D → Sto → Out D := kII (fun _ _ => true) fun i j => .bl (decide (i ≤ j))
def kGt : D → D → Sto → Out D := kII (fun _ _ => true) fun i j => .bl (decide (j < i))
def kGe : D → D → Sto → Out D := kII (fun _ _ => true) fun i j => .bl (decide (j ≤ i))
theorem ops_lt : OpS2 c (rI0 fun i j => .bl (decide (i < j))) kLt := op_ii0 fun i j _ _ _ => .bl _
theorem ops_le : OpS2 c (rI0 fun i j => .bl (decide (i ≤ j))) kLe := op_ii0 fun i j _ _ _ => .bl _
theorem ops_gt : OpS2 c (rI0 fun i j => .bl (decide (j < i))) kGt := op_ii0 fun i j _ _ _ => .bl _
theorem ops_ge : OpS2 c (rI0 fun i j => .bl (decide (j ≤ i))) kGe := op_ii0 fun i j _ _ _ => .bl _
def kNeg (d : D) (δ : Sto) : Out D := match d with
  | .int i => .ok (.int (-i)) δ
  | _ => .stk
theorem ops_neg : OpS1 c (rU fun i => .int (-i)) kNeg := by
  intro W σ B α H δ Q v d s rv h
  unfold kNeg at h
  split at h
  · rename_i i
    have := rv.int; subst this
    exact ⟨i, rfl, fin_val s h (.int _)⟩
  · exact h.elim

/-! ### == -/
mutual
def pyD : D → Option PyData
  | .non => some .none
  | .bl b => some (.bool b)
  | .int i => some (.int i)
  | .str x => some (.str x)
  | .lst l => (pyDs l).map .list
  | .tup l => (pyDs l).map .tuple
  | _ => none
def pyDs : List D → Option (List PyData)
  | [] => some []
  | d :: r => match pyD d, pyDs r with
    | some x, some xs => some (x :: xs)
    | _, _ => none
end
mutual
theorem pyD_ok : ∀ {d : D} {v : V} {x : PyData}, Rp c α B H v d → pyD d = some x → Dp c.K H v x
  | _, _, _, .non, e => by cases e; exact .non
  | _, _, _, .bl b, e => by cases e; exact .bl b
  | _, _, _, .int i, e => by cases e; exact .int i
  | _, _, _, .str z, e => by cases e; exact .str z
  | .lst l, _, _, .lst h1 h2 h3 h4, e => by
    unfold pyD at e
    cases e2 : pyDs l with
    | none => rw [e2] at e; cases e
    | some xs => rw [e2] at e; cases e; exact .lst (SqL.of h1) (pyDs_ok h4 e2)
  | .tup l, _, _, .tup h1 h2 h3 h4, e => by
    unfold pyD at e
    cases e2 : pyDs l with
    | none => rw [e2] at e; cases e
    | some xs => rw [e2] at e; cases e; exact .tup (SqT.of h1) (pyDs_ok h4 e2)
  | _, _, _, .hnd h, e => by cases e
  | _, _, _, .scr h, e => by cases e
  | _, _, _, .ty h, e => by cases e
  | _, _, _, .obj _ _ _ _, e => by cases e
theorem pyDs_ok : ∀ {d : List D} {v : List V} {x : List PyData}, RpL c α B H v d → pyDs d = some x → DpAll c.K H v x
  | _, _, _, .nil, e => by cases e; exact .nil
  | d :: r, _, _, .cons h1 h2, e => by
    unfold pyDs at e
    cases e1 : pyD d with
    | none => rw [e1] at e; cases e
    | some y =>
      cases e2 : pyDs r with
      | none => rw [e1, e2] at e; cases e
      | some ys => rw [e1, e2] at e; cases e; exact .cons (pyD_ok h1 e1) (pyDs_ok h2 e2)
end
def pyQ (d : D) (δ : Sto) : Option PyData := match asL d δ with
  | some l => (pyDs l).map .list
  | none => pyD d
theorem pyQ_ok (s : RpS c α B H δ) {v : V} {d : D} {x : PyData} (h : RpQ c α B H v d) (e : pyQ d δ = some x) : Dp c.K H v x := by
  unfold pyQ at e
  cases e1 : asL d δ with
  | some l =>
    rw [e1] at e
    dsimp only at e
    obtain ⟨a, xs, rfl, q1, q2⟩ := asL_ok s h e1
    cases e2 : pyDs l with
    | none => rw [e2] at e; cases e
    | some ys => rw [e2] at e; cases e; exact .lst (SqL.of q1) (pyDs_ok q2 e2)
  | none =>
    rw [e1] at e
    cases d with
    | own l => cases e1
    | loc i => exact h.elim
    | _ => exact pyD_ok h e
def scalE : D → D → Option Bool
  | .non, .non => some true | .non, .int _ => some false | .int _, .non => some false | .non, .bl _ => some false | .bl _, .non => some false
  | .non, .str _ => some false | .str _, .non => some false
  | .int i, .int j => some (decide (i = j)) | .bl i, .bl j => some (decide (i = j)) | .str i, .str j => some (decide (i = j))
  | .int _, .str _ => some false | .str _, .int _ => some false | .bl _, .str _ => some false | .str _, .bl _ => some false
  | _, _ => none
theorem scalE_ok {v u : V} {d e : D} {k : Bool} (h1 : RpQ c α B H v d) (h2 : RpQ c α B H u e) (h : scalE d e = some k) : scal v u = true ∧ decide (v = u) = k := by
  unfold scalE at h
  split at h <;> first
    | (cases h; cases h1; cases h2; exact ⟨rfl, by simp⟩)
    | (cases h)
def rEqU (K : PySem.W.Frag) : R2 := fun x y H Q => rEq x y H Q ∨ rEqD K x y H Q
def rNeU (K : PySem.W.Frag) : R2 := fun x y H Q => rNe x y H Q ∨ rNeD K x y H Q
theorem op_eqU {X : Cx} (hu : X.A.units + 64 < cLine) : OpR X (compareOp .Eq) (rEqU X.K) := op_eq.or (op_eqD hu)
theorem op_neU {X : Cx} (hu : X.A.units + 64 < cLine) : OpR X (compareOp .NotEq) (rNeU X.K) := op_ne.or (op_neD hu)
def eqK (d e : D) (δ : Sto) : Option Bool := match scalE d e with
  | some k => some k
  | none => match pyQ d δ, pyQ e δ with
    | some x, some y => if SeqAt.shaped x = true ∧ SeqAt.shaped y = true then some (PyData.eqv x y) else none
    | _, _ => none
def kEq (d e : D) (δ : Sto) : Out D := match eqK d e δ with
  | some k => .ok (.bl k) δ
  | none => .stk
def kNe (d e : D) (δ : Sto) : Out D := match eqK d e δ with
  | some k => .ok (.bl (!k)) δ
  | none => .stk
theorem ops_eq : OpS2 c (rEqU c.K) kEq := by
  intro W σ B α H δ Q v u d e s rv ru h
  unfold kEq at h
  split at h
  · rename_i k hk
    unfold eqK at hk
    split at hk
    · rename_i k' hs
      cases hk
      obtain ⟨q1, q2⟩ := scalE_ok rv ru hs
      exact .inl ⟨q1, by rw [q2]; exact fin_val s h (.bl _)⟩
    · split at hk
      · rename_i x y e1 e2
        split at hk
        · rename_i hsh
          cases hk
          exact .inr ⟨x, y, pyQ_ok s rv e1, pyQ_ok s ru e2, hsh.1, hsh.2, fin_val s h (.bl _)⟩
        · cases hk
      · cases hk
  · exact h.elim
theorem ops_ne : OpS2 c (rNeU c.K) kNe := by
  intro W σ B α H δ Q v u d e s rv ru h
  unfold kNe at h
  split at h
  · rename_i k hk
    unfold eqK at hk
    split at hk
    · rename_i k' hs
      cases hk
      obtain ⟨q1, q2⟩ := scalE_ok rv ru hs
      exact .inl ⟨q1, by rw [q2]; exact fin_val s h (.bl _)⟩
    · split at hk
      · rename_i x y e1 e2
        split at hk
        · rename_i hsh
          cases hk
          exact .inr ⟨x, y, pyQ_ok s rv e1, pyQ_ok s ru e2, hsh.1, hsh.2, fin_val s h (.bl _)⟩
        · cases hk
      · cases hk
  · exact h.elim
/-- is None, is not None: the right side is None as it stands -/
def isN : D → Bool
  | .non => true
  | _ => false
theorem isN_ok {v : V} {d : D} (h : RpQ c α B H v d) : decide (v = .non) = isN d := by
  cases d with
  | own l => obtain ⟨a, xs, rfl, _⟩ := h; rfl
  | loc i => exact h.elim
  | _ => cases h <;> rfl
def kIsN (d e : D) (δ : Sto) : Out D := match e with
  | .non => .ok (.bl (isN d)) δ
  | _ => .stk
def kNotN (d e : D) (δ : Sto) : Out D := match e with
  | .non => .ok (.bl (!isN d)) δ
  | _ => .stk
theorem ops_isN : OpS2 c (fun x y H Q => y = V.non ∧ Q (.bl (decide (x = .non))) H) kIsN := by
  intro W σ B α H δ Q v u d e s rv ru h
  unfold kIsN at h
  split at h
  · exact ⟨ru.non, by rw [isN_ok rv]; exact fin_val s h (.bl _)⟩
  · exact h.elim
theorem ops_notN : OpS2 c (fun x y H Q => y = V.non ∧ Q (.bl (!decide (x = .non))) H) kNotN := by
  intro W σ B α H δ Q v u d e s rv ru h
  unfold kNotN at h
  split at h
  · exact ⟨ru.non, by rw [isN_ok rv]; exact fin_val s h (.bl _)⟩
  · exact h.elim

/-! ### in -/
def flatD : D → Bool
  | .non => true | .bl _ => true | .int _ => true | .str _ => true
  | _ => false
def eqF : D → D → Bool
  | .non, .non => true
  | .bl a, .bl b => a == b
  | .bl a, .int b => (if a then 1 else 0) == b
  | .int a, .bl b => a == (if b then 1 else 0)
  | .int a, .int b => a == b
  | .str a, .str b => a == b
  | _, _ => false
theorem flat_ok {v : V} {d : D} (h : RpQ c α B H v d) (e : flatD d = true) : flatV v = true := by
  cases d <;> first | (cases e; done) | (cases h; rfl)
theorem eqF_ok {v u : V} {d e : D} (h1 : RpQ c α B H v d) (h2 : RpQ c α B H u e) (f1 : flatD d = true) (f2 : flatD e = true) : eqV v u = eqF d e := by
  cases d <;> first | (cases f1; done) | (cases h1; cases e <;> first | (cases f2; done) | (cases h2; rfl))
theorem flats_ok {vs : List V} {l : List D} (h : RpL c α B H vs l) (e : l.all flatD = true) : vs.all flatV = true := by
  induction l generalizing vs with
  | nil => cases h; rfl
  | cons d l ih =>
    cases h with
    | cons h1 h2 =>
      rw [List.all_cons, Bool.and_eq_true] at e
      rw [List.all_cons, flat_ok h1.q e.1, ih h2 e.2]
      rfl
theorem any_ok {v : V} {d : D} (hv : RpQ c α B H v d) (fd : flatD d = true) {vs : List V} {l : List D} (h : RpL c α B H vs l) (e : l.all flatD = true) : inV v vs = l.any fun y => eqF y d := by
  induction l generalizing vs with
  | nil => cases h; rfl
  | cons x l ih =>
    cases h with
    | cons h1 h2 =>
      rw [List.all_cons, Bool.and_eq_true] at e
      have := ih h2 e.2
      unfold inV at this ⊢
      rw [List.any_cons, List.any_cons, this, eqF_ok h1.q hv e.1 fd]
def asQ (d : D) (δ : Sto) : Option (List D) := match d with
  | .tup l => some l
  | d => asL d δ
theorem asQ_ok (s : RpS c α B H δ) {v : V} {d : D} {l : List D} (h : RpQ c α B H v d) (e : asQ d δ = some l) : ∃ a xs, v = .ref a ∧ (SqL c.K H a xs ∨ SqT c.K H a xs) ∧ RpL c α B H xs l := by
  cases d with
  | tup l =>
    cases e
    cases h with
    | tup h1 h2 h3 h4 => exact ⟨_, _, rfl, .inr (SqT.of h1), h4⟩
  | _ =>
    obtain ⟨a, xs, q0, q1, q2⟩ := asL_ok s h e
    exact ⟨a, xs, q0, .inl (SqL.of q1), q2⟩
/-- in a sequence of flat things, or one sign in a text -/
def inK (d e : D) (δ : Sto) : Option Bool := match d, e with
  | .str x, .str y => if x.length = 1 then some (decide (x.cps.toList.headD 0 ∈ y.cps.toList)) else none
  | d, e => match asQ e δ with
    | some l => if flatD d = true ∧ l.all flatD = true then some (l.any fun y => eqF y d) else none
    | none => none
def rInU (K : PySem.W.Frag) : R2 := fun x y H Q => rIn K false x y H Q ∨ ∃ (c : Nat) (z : Str), x = .str ⟨#[c]⟩ ∧ y = .str z ∧ Q (.bl (decide (c ∈ z.cps.toList))) H
def rNotInU (K : PySem.W.Frag) : R2 := fun x y H Q => rIn K true x y H Q ∨ ∃ (c : Nat) (z : Str), x = .str ⟨#[c]⟩ ∧ y = .str z ∧ Q (.bl (!decide (c ∈ z.cps.toList))) H
theorem op_inU {X : Cx} : OpR X (compareOp .In) (rInU X.K) := op_in_seq.or op_in_sign
theorem op_notInU {X : Cx} : OpR X (compareOp .NotIn) (rNotInU X.K) := op_notIn_seq.or op_notIn_sign
theorem one_sign {x : Str} (h : x.length = 1) : x = ⟨#[x.cps.toList.headD 0]⟩ := by
  obtain ⟨⟨l⟩⟩ := x
  have h' : l.length = 1 := h
  match l, h' with
  | [a], _ => rfl
def kIn (d e : D) (δ : Sto) : Out D := match inK d e δ with
  | some k => .ok (.bl k) δ
  | none => .stk
def kNotIn (d e : D) (δ : Sto) : Out D := match inK d e δ with
  | some k => .ok (.bl (!k)) δ
  | none => .stk
theorem inK_ok (s : RpS c α B H δ) {v u : V} {d e : D} {k : Bool} (rv : RpQ c α B H v d) (ru : RpQ c α B H u e) (hk : inK d e δ = some k) :
    (∃ p xs, u = .ref p ∧ (SqL c.K H p xs ∨ SqT c.K H p xs) ∧ flatV v = true ∧ xs.all flatV = true ∧ inV v xs = k) ∨ ∃ (n : Nat) (z : Str), v = .str ⟨#[n]⟩ ∧ u = .str z ∧ decide (n ∈ z.cps.toList) = k := by
  unfold inK at hk
  split at hk
  · rename_i x y
    have := rv.str; have := ru.str; subst_vars
    split at hk
    · rename_i hl
      cases hk
      exact .inr ⟨_, y, congrArg V.str (one_sign hl), rfl, rfl⟩
    · cases hk
  · split at hk
    · rename_i l e1
      split at hk
      · rename_i hf
        cases hk
        obtain ⟨a, xs, rfl, q1, q2⟩ := asQ_ok s ru e1
        exact .inl ⟨a, xs, rfl, q1, flat_ok rv hf.1, flats_ok q2 hf.2, any_ok rv hf.1 q2 hf.2⟩
      · cases hk
    · cases hk
theorem ops_in : OpS2 c (rInU c.K) kIn := by
  intro W σ B α H δ Q v u d e s rv ru h
  unfold kIn at h
  split at h
  · rename_i k hk
    rcases inK_ok s rv ru hk with ⟨p, xs, q0, q1, q2, q3, q4⟩ | ⟨n, z, q0, q1, q2⟩
    · exact .inl ⟨p, xs, q0, q1, q2, q3, by rw [if_neg Bool.false_ne_true, q4]; exact fin_val s h (.bl _)⟩
    · exact .inr ⟨n, z, q0, q1, by rw [q2]; exact fin_val s h (.bl _)⟩
  · exact h.elim
theorem ops_notIn : OpS2 c (rNotInU c.K) kNotIn := by
  intro W σ B α H δ Q v u d e s rv ru h
  unfold kNotIn at h
  split at h
  · rename_i k hk
    rcases inK_ok s rv ru hk with ⟨p, xs, q0, q1, q2, q3, q4⟩ | ⟨n, z, q0, q1, q2⟩
    · exact .inl ⟨p, xs, q0, q1, q2, q3, by rw [if_pos rfl, q4]; exact fin_val s h (.bl _)⟩
    · exact .inr ⟨n, z, q0, q1, by rw [q2]; exact fin_val s h (.bl _)⟩
  · exact h.elim

/-! ### items, slices -/
theorem RpL.at_ {vs : List V} {l : List D} (h : RpL c α B H vs l) {i : Int} {d : D} (e : atI l i = some d) : ∃ v, atI vs i = some v ∧ Rp c α B H v d := by
  unfold atI at e ⊢
  rw [h.len]
  cases q : ixN l.length i with
  | none => rw [q] at e; cases e
  | some j =>
    rw [q] at e
    exact h.get j d e
def kIx (d e : D) (δ : Sto) : Out D := match e with
  | .int i => match d with
    | .tup l => match atI l i with
      | some x => .ok x δ
      | none => .stk
    | .str x => if x.length ≤ BIG then (match atI x.cps.toList i with
      | some n => .ok (.str ⟨#[n]⟩) δ
      | none => .stk) else .stk
    | .scr l => match atI l i with
      | some x => .ok (.int x) δ
      | none => .stk
    | d => match asL d δ with
      | some l => match atI l i with
        | some x => .ok x δ
        | none => .stk
      | none => .stk
  | _ => .stk
theorem ops_ix : OpS2 c (rIx c.K) kIx := by
  intro W σ B α H δ Q v u d e s rv ru h
  unfold kIx at h
  split at h
  · rename_i i
    have := ru.int; subst this
    split at h
    · rename_i l
      cases rv with
      | tup h1 h2 h3 h4 =>
        split at h
        · rename_i x ex
          obtain ⟨w, q1, q2⟩ := h4.at_ ex
          exact .inr (.inl ⟨_, _, i, w, rfl, rfl, SqT.of h1, q1, fin_val s h q2⟩)
        · exact h.elim
    · rename_i x
      have := rv.str; subst this
      split at h
      · rename_i hl
        split at h
        · rename_i n en
          exact .inr (.inr ⟨x, i, n, rfl, rfl, le_line' hl, en, fin_val s h (.str _)⟩)
        · exact h.elim
      · exact h.elim
    · rename_i l
      cases rv with
      | @scr a _ q =>
        split at h
        · rename_i x ex
          have hs : SqL c.K H a (l.map V.int) := by
            rcases q with ⟨q, _⟩ | q
            · exact .inl q
            · rcases q with (q | ⟨o, q⟩) | q
              · cases q
              · cases q
              · exact .inr q
          have z : RpL c α B H (l.map V.int) (l.map D.int) := scr_vals
          refine .inl ⟨a, _, i, V.int x, rfl, rfl, hs, ?_, fin_val s h (.int _)⟩
          unfold atI at ex ⊢
          rw [List.length_map]
          cases q : ixN l.length i with
          | none => rw [q] at ex; cases ex
          | some j =>
            rw [q] at ex
            show (l.map V.int)[j]? = _
            rw [List.getElem?_map, show l[j]? = some x from ex]
            rfl
        · exact h.elim
    · split at h
      · rename_i l e1
        obtain ⟨a, xs, rfl, q1, q2⟩ := asL_ok s rv e1
        split at h
        · rename_i x ex
          obtain ⟨w, q3, q4⟩ := q2.at_ ex
          exact .inl ⟨a, xs, i, w, rfl, rfl, SqL.of q1, q3, fin_val s h q4⟩
        · exact h.elim
      · exact h.elim
  · exact h.elim
/-- the parts of a slice -/
abbrev FO := Env → Sto → Out (Option Int)
def SimPO (c : Cn) (W : WX) (t : TO) (f : FO) : Prop := ∀ (b : Base) (α : List Addr) (H : Hp) (σ : St) (ρ : Env) (δ : Sto) (Q : Option Int → Hp → Prop), Rel c b α H σ ρ δ →
  Post c W σ (Bx b.A σ ρ) α H (fun k δ' α' H' => RpS c α' (Bx b.A σ ρ) H' δ' → Q k H') (f ρ δ) → t σ H Q
def oNone : FO := fun _ δ => .ok none δ
def oSome (f : FE) : FO := fun ρ δ => (f ρ δ).bind fun d δ1 => match d with
  | .int i => .ok (some i) δ1
  | _ => .stk
theorem simo_none : SimPO c W tNoPart oNone := fun b α H σ ρ δ Q r h => h α H (Ext.refl _ _) r.sto
theorem simo_some (ha : SimE c W ta f) : SimPO c W (tPart ta) (oSome f) := by
  intro b α H σ ρ δ Q rel h
  refine ha b α H σ ρ δ _ rel (h.bind.mono fun d δ1 α1 H1 x1 h1 v rv => ?_)
  split at h1
  · rename_i i
    obtain ⟨s1, q1⟩ := rv
    cases q1
    exact ⟨i, rfl, h1 α1 H1 (Ext.refl _ _) s1⟩
  · exact h1.elim
def cutL {β : Type} (xs : List β) (lo hi : Option Int) : List β := (xs.drop (HT.sIx xs.length 0 lo)).take (HT.sIx xs.length xs.length hi - HT.sIx xs.length 0 lo)
theorem RpL.cut {vs : List V} {l : List D} (h : RpL c α B H vs l) (lo hi : Option Int) : RpL c α B H (cutV vs lo hi) (cutL l lo hi) := by
  unfold cutV cutL
  rw [h.len]
  exact (h.drop _).take _
def rSlU (K : PySem.W.Frag) : V → Option Int → Option Int → Hp → VK → Prop := fun x lo hi H Q => rSlL K x lo hi H Q ∨ rSlS x lo hi H Q
theorem sl_u {X : Cx} : SlR X (rSlU X.K) := sl_list.or sl_str
def kSl (d : D) (lo hi : Option Int) (δ : Sto) : Out D := match d with
  | .str x => if x.length ≤ BIG then .ok (.str (cutS x lo hi)) δ else .stk
  | d => match asL d δ with
    | some l => .ok (.own (cutL l lo hi)) δ
    | none => .stk
def eSl (f : FE) (g h : FO) : FE := fun ρ δ => (f ρ δ).bind fun d δ1 => (g ρ δ1).bind fun lo δ2 => (h ρ δ2).bind fun hi δ3 => kSl (opd ρ d) lo hi δ3
theorem sim_sl {tl th : TO} {fl fh : FO} (ha : SimE c W ta f) (hl : SimPO c W tl fl) (hh : SimPO c W th fh) : SimE c W (tSl (rSlU c.K) ta tl th) (eSl f fl fh) := by
  intro b α H σ ρ δ Q rel h
  refine ha b α H σ ρ δ _ rel (h.bind.mono fun d δ1 α1 H1 x1 h1 v rv => ?_)
  obtain ⟨s1, q1⟩ := rv.opd rel x1
  have rel1 := rel.step x1 s1
  refine hl b α1 H1 σ ρ δ1 _ rel1 (h1.bind.mono fun lo δ2 α2 H2 x2 h2 s2 => ?_)
  have rel2 := rel1.step x2 s2
  refine hh b α2 H2 σ ρ δ2 _ rel2 (h2.bind.mono fun hi δ3 α3 H3 x3 h3 s3 => ?_)
  have q3 := (q1.stay x2).stay x3
  unfold kSl at h3
  split at h3
  · rename_i x ex
    rw [ex] at q3
    have := q3.str; subst this
    split at h3
    · rename_i hl
      exact .inr ⟨x, rfl, le_line' hl, h3 α3 H3 (Ext.refl _ _) _ ⟨s3, .str _⟩⟩
    · exact h3.elim
  · split at h3
    · rename_i l e1
      obtain ⟨a, xs, rfl, w1, w2⟩ := asL_ok s3 q3 e1
      refine .inl ⟨a, xs, rfl, SqL.of w1, fun p hp => ?_⟩
      exact h3 α3 _ (ext_new hp) _ ⟨p, _, rfl, x1.free (x2.free (x3.free hp)), upd_same, s3.new hp, ((w2.cut lo hi).more hp).stay (ext_new hp)⟩
    · exact h3.elim

/-! ### built-ins -/
theorem RpQL.one {vs : List V} {d : D} (h : RpQL c α B H vs [d]) : ∃ v, vs = [v] ∧ RpQ c α B H v d := by
  cases h with
  | cons h1 h2 => cases h2; exact ⟨_, rfl, h1⟩
theorem RpQL.two {vs : List V} {d e : D} (h : RpQL c α B H vs [d, e]) : ∃ v u, vs = [v, u] ∧ RpQ c α B H v d ∧ RpQ c α B H u e := by
  cases h with
  | cons h1 h2 =>
    obtain ⟨u, rfl, h3⟩ := h2.one
    exact ⟨_, u, rfl, h1, h3⟩
def rLenU (K : PySem.W.Frag) : List V → Hp → VK → Prop := fun xs H Q => (∃ p ys, xs = [.ref p] ∧ (SqL K H p ys ∨ SqT K H p ys) ∧ Q (.int ys.length) H) ∨ ∃ z, xs = [.str z] ∧ z.length ≤ sizeLine ∧ Q (.int z.length) H
theorem call_lenU {X : Cx} : CallR X (.builtin "len") (rLenU X.K) := call_len_seq.or call_len_str
def kLen (ds : List D) (δ : Sto) : Out D := match ds with
  | [.str x] => if x.length ≤ BIG then .ok (.int x.length) δ else .stk
  | [.scr l] => .ok (.int l.length) δ
  | [d] => match asQ d δ with
    | some l => .ok (.int l.length) δ
    | none => .stk
  | _ => .stk
theorem scr_sq {a : Addr} {l : List Int} (h : Rp c α B H (.ref a) (.scr l)) : SqL c.K H a (l.map V.int) := by
  cases h with
  | scr q =>
    rcases q with ⟨q, _⟩ | q
    · exact .inl q
    · rcases q with (q | ⟨o, q⟩) | q
      · cases q
      · cases q
      · exact .inr q
theorem ops_len : OpSL c (rLenU c.K) kLen := by
  intro W σ B α H δ Q vs ds s rs h
  unfold kLen at h
  split at h
  · rename_i x
    obtain ⟨v, rfl, r⟩ := rs.one
    have := r.str; subst this
    split at h
    · rename_i hl
      exact .inr ⟨x, rfl, le_line' hl, fin_val s h (.int _)⟩
    · exact h.elim
  · rename_i l
    obtain ⟨v, rfl, r⟩ := rs.one
    have r' : Rp c α B H v (.scr l) := r
    cases v with
    | ref a =>
      refine .inl ⟨a, _, rfl, .inl (scr_sq r'), ?_⟩
      rw [List.length_map]
      exact fin_val s h (.int _)
    | _ => cases r'
  · rename_i d _ _
    obtain ⟨v, rfl, r⟩ := rs.one
    split at h
    · rename_i l e1
      obtain ⟨a, xs, rfl, q1, q2⟩ := asQ_ok s r e1
      refine .inl ⟨a, xs, rfl, q1, ?_⟩
      rw [q2.len]
      exact fin_val s h (.int _)
    · exact h.elim
  · exact h.elim
/-- str of a number -/
def kStr (ds : List D) (δ : Sto) : Out D := match ds with
  | [.int i] => if i.natAbs < 2 ^ 64 then .ok (.str (toString i)) δ else .stk
  | _ => .stk
theorem log_small {n : Nat} (h : n < 2 ^ 64) : n.log2 < 1920 := by
  by_cases z : n = 0
  · subst z; decide
  · have : n.log2 < 64 := (Nat.log2_lt z).mpr h
    omega
theorem ops_str : OpSL c (fun xs H Q => ∃ i : Int, xs = [.int i] ∧ i.natAbs.log2 < 1920 ∧ Q (.str (toString i)) H) kStr := by
  intro W σ B α H δ Q vs ds s rs h
  unfold kStr at h
  split at h
  · rename_i i
    obtain ⟨v, rfl, r⟩ := rs.one
    have := r.int; subst this
    split at h
    · rename_i hl
      exact ⟨i, rfl, log_small hl, fin_val s h (.str _)⟩
    · exact h.elim
  · exact h.elim
/-- int of a text -/
def kInt (ds : List D) (δ : Sto) : Out D := match ds with
  | [.str x] => match PySem.intText? x with
    | some n => if x.length ≤ 640 then .ok (.int n) δ else .stk
    | none => .stk
  | _ => .stk
theorem ops_int : OpSL c (fun xs H Q => ∃ a n, xs = [.str a] ∧ PySem.intText? a = some n ∧ a.length ≤ 640 ∧ Q (.int n) H) kInt := by
  intro W σ B α H δ Q vs ds s rs h
  unfold kInt at h
  split at h
  · rename_i x
    obtain ⟨v, rfl, r⟩ := rs.one
    have := r.str; subst this
    split at h
    · rename_i n en
      split at h
      · rename_i hl
        exact ⟨x, n, rfl, en, hl, fin_val s h (.int _)⟩
      · exact h.elim
    · exact h.elim
  · exact h.elim
/-- sum of a list of numbers -/
def intsD : List D → Option (List Int)
  | [] => some []
  | .int i :: r => (intsD r).map (i :: ·)
  | _ :: _ => none
theorem intsD_ok : ∀ {l : List D} {ns : List Int} {vs : List V}, RpL c α B H vs l → intsD l = some ns → vs = ns.map V.int
  | [], _, _, h, e => by cases h; cases e; rfl
  | d :: r, ns, _, .cons h1 h2, e => by
    cases d with
    | int i =>
      unfold intsD at e
      cases e2 : intsD r with
      | none => rw [e2] at e; cases e
      | some ms =>
        rw [e2] at e
        cases e
        cases h1
        rw [intsD_ok h2 e2]
        rfl
    | _ => cases e
def kSum (ds : List D) (δ : Sto) : Out D := match ds with
  | [d] => match asL d δ with
    | some l => match intsD l with
      | some ns => .ok (.int ns.sum) δ
      | none => .stk
    | none => .stk
  | _ => .stk
theorem ops_sum : OpSL c (rSum c.K) kSum := by
  intro W σ B α H δ Q vs ds s rs h
  unfold kSum at h
  split at h
  · rename_i d
    obtain ⟨v, rfl, r⟩ := rs.one
    split at h
    · rename_i l e1
      split at h
      · rename_i ns e2
        obtain ⟨a, xs, rfl, q1, q2⟩ := asL_ok s r e1
        refine ⟨a, ns, rfl, ?_, fin_val s h (.int _)⟩
        rw [← intsD_ok q2 e2]
        exact SqL.of q1
      · exact h.elim
    · exact h.elim
  · exact h.elim
/-- list of a list or tuple -/
def kList (ds : List D) (δ : Sto) : Out D := match ds with
  | [d] => match asQ d δ with
    | some l => .ok (.own l) δ
    | none => .stk
  | _ => .stk
theorem ops_list : OpSL c (fun xs H Q => ∃ p ys, xs = [.ref p] ∧ (SqL c.K H p ys ∨ SqT c.K H p ys) ∧ ∀ l, H l = none → Q (.ref l) (upd H l (.lst ys))) kList := by
  intro W σ B α H δ Q vs ds s rs h
  unfold kList at h
  split at h
  · rename_i d
    obtain ⟨v, rfl, r⟩ := rs.one
    split at h
    · rename_i l e1
      obtain ⟨a, xs, rfl, q1, q2⟩ := asQ_ok s r e1
      exact ⟨a, xs, rfl, q1, fun p hp => fin_own s h hp q2⟩
    · exact h.elim
  · exact h.elim
/-- isinstance(x, T), T built-in -/
def tyD (d : D) (δ : Sto) : Option String := match d with
  | .non => some "NoneType" | .bl _ => some "bool" | .int _ => some "int" | .str _ => some "str" | .lst _ => some "list" | .own _ => some "list" | .tup _ => some "tuple"
  | .hnd n => match δ[n]? with
    | some (.lst _) => some "list"
    | _ => none
  | _ => none
theorem tyD_ok (s : RpS c α B H δ) {v : V} {d : D} {n : String} (h : RpQ c α B H v d) (e : tyD d δ = some n) : TyX c.K H v (.type n) := by
  cases d with
  | non => cases e; cases h; exact .base .non
  | bl b => cases e; cases h; exact .base (.bl b)
  | int i => cases e; cases h; exact .base (.int i)
  | str x => cases e; cases h; exact .base (.str x)
  | lst l => cases e; cases h with | lst h1 h2 h3 h4 => exact .base (.lst h1)
  | own l => cases e; obtain ⟨a, xs, rfl, h1, h2, h3⟩ := h; exact .base (.lst h1)
  | tup l => cases e; cases h with | tup h1 h2 h3 h4 => exact .base (.tup h1)
  | hnd n =>
    cases h with
    | hnd h1 =>
      simp only [tyD] at e
      split at e
      · rename_i l hl
        cases e
        obtain ⟨xs, q1, q2⟩ := s.at_ n _ _ h1 hl
        exact .base (.lst q1)
      · cases e
  | _ => cases e
def kIsi (ds : List D) (δ : Sto) : Out D := match ds with
  | [d, .ty b] => match tyD d δ with
    | some a => match kitB a b with
      | some k => .ok (.bl k) δ
      | none => .stk
    | none => .stk
  | _ => .stk
theorem ops_isi : OpSL c (rIsi c.K) kIsi := by
  intro W σ B α H δ Q vs ds s rs h
  unfold kIsi at h
  split at h
  · rename_i d b
    obtain ⟨v, u, rfl, r1, r2⟩ := rs.two
    have r2' : Rp c α B H u (.ty b) := r2
    cases r2'
    split at h
    · rename_i a ea
      split at h
      · rename_i k ek
        exact ⟨v, .ty b, .type a, .type b, k, rfl, .ty b, tyD_ok s r1 ea, kit_ty ek, fin_val s h (.bl _)⟩
      · exact h.elim
    · exact h.elim
  · exact h.elim
theorem sim_ty (n : String) : SimE c W (tC (.ty n)) (eC (.ty n)) := sim_c fun _ _ _ => .ty n
end
end Pi
namespace Pi
open PySem L2
section
variable {c : Cn} {b : Base} {α α' α1 α2 : List Addr} {A B B' M : Addr → Prop} {H H' H1 H2 : Hp} {σ σ' : St} {ρ ρ' : Env} {δ δ' δ1 : Sto}
variable {W : WX} {ta tb : TE} {t u : TA} {tt tt' : TT} {f g : FE} {fa ga : FA} {ft gt : FT}
/-! ### raise, try -/
def sRaise (e : Str) : FS := fun ρ δ => .err e ρ δ
theorem sim_raise {e : Str} : SimS c W (fun _ σ H => W (.ref (c.ca e)) none σ H) (sRaise e) := fun b α H σ ρ δ D r h => h α H σ none r
def handle (sub : Str → Str → Option Bool) : List (Str × FS) → Str → Env → Sto → OutS
  | [], e, ρ, δ => .err e ρ δ
  | (n, f) :: r, e, ρ, δ => match sub e n with
    | some true => f ρ δ
    | some false => handle sub r e ρ δ
    | none => .stk
def sTry (sub : Str → Str → Option Bool) (f : FS) (hs : List (Str × FS)) : FS := fun ρ δ => match f ρ δ with
  | .err e ρ1 δ1 => handle sub hs e ρ1 δ1
  | o => o
inductive HdSim (c : Cn) (W : WX) : List (Value × (Addr → Value → Option Addr → TS)) → List (Str × FS) → Prop
  | nil : HdSim c W [] []
  | cons {n : Str} {ts : Addr → Value → Option Addr → TS} {f : FS} {l : List (Value × (Addr → Value → Option Addr → TS))} {hs : List (Str × FS)} : (∀ a cls d, SimS c W (ts a cls d) f) → HdSim c W l hs → HdSim c W ((.ref (c.ca n), ts) :: l) ((n, f) :: hs)
def SubOk (c : Cn) (sub : Str → Str → Option Bool) : Prop := ∀ e n k, sub e n = some k → PySem.W.exmOne c.K (.ref (c.ca e)) (.ref (c.ca n)) = some k
theorem handle_ok {sub : Str → Str → Option Bool} (hs : SubOk c sub) {D : Ends} {l : List (Value × (Addr → Value → Option Addr → TS))} {hd : List (Str × FS)} (h : HdSim c W l hd) {e : Str} {o : Option Addr} (r : Rel c b α H σ ρ δ) (p : PostS c b W D (handle sub hd e ρ δ)) :
    wMany c.K W D l (.ref (c.ca e)) o σ H := by
  induction h with
  | nil => exact p α H σ o r
  | @cons n ts f l hs' h1 h2 ih =>
    unfold handle at p
    cases q : sub e n with
    | none => rw [q] at p; exact p.elim
    | some k =>
      rw [q] at p
      refine ⟨k, hs e n k q, fun z a _ => ?_, fun z => ?_⟩
      · subst z; exact h1 a _ o b α H σ ρ δ D r p
      · subst z; exact ih p
theorem sim_try {sub : Str → Str → Option Bool} (hs : SubOk c sub) {tb : WX → TS} {fb : FS} {l : List (Value × (Addr → Value → Option Addr → TS))} {hd : List (Str × FS)} (hb : ∀ W', SimS c W' (tb W') fb) (hh : HdSim c W l hd) :
    SimS c W (fun D σ H => tb (wMany c.K W D l) D σ H) (sTry sub fb hd) := by
  intro b α H σ ρ δ D r h
  refine hb _ b α H σ ρ δ D r ?_
  unfold sTry at h
  cases e : fb ρ δ with
  | err z ρ1 δ1 => rw [e] at h; intro α' H' σ' o r'; exact handle_ok hs hh r' h
  | nx ρ1 δ1 => rw [e] at h; exact h
  | bk ρ1 δ1 => rw [e] at h; exact h
  | ct ρ1 δ1 => rw [e] at h; exact h
  | rt d δ1 => rw [e] at h; exact h
  | stk => rw [e] at h; exact h

/-! ### a list that a slot owns is changed -/
theorem extM_own {a : Addr} {o u : HO} (h : H a = some u) (n : a ∉ α) : ExtM (fun z => z = a) α α H (upd H a o) := by
  refine ⟨⟨[], (List.append_nil _).symm⟩, fun z w _ q e => by rw [upd_ne q]; exact e, fun z k q => absurd k q, fun z w e => ?_⟩
  by_cases q : z = a
  · subst q; exact ⟨o, upd_same⟩
  · exact ⟨w, by rw [upd_ne q]; exact e⟩
theorem RpS.own (s : RpS c α B H δ) {a : Addr} {o u : HO} (h : H a = some u) (hB : B a) : RpS c α B (upd H a o) δ := by
  have n := (s.tr a hB).1
  have x := extM_own (o := o) h n
  have k : ∀ {v d}, Rp c α B H v d → Rp c α B (upd H a o) v d := fun r => r.extM x (fun z q => by rw [q]; exact hB) fun z q _ => q
  have kl : ∀ {v d}, RpL c α B H v d → RpL c α B (upd H a o) v d := fun r => r.extM x (fun z q => by rw [q]; exact hB) fun z q _ => q
  refine ⟨s.len, s.nd, fun z q => ⟨(s.tr z q).1, ?_⟩, fun m z w h1 h2 => ?_⟩
  · obtain ⟨w, e⟩ := (s.tr z q).2
    exact x.there z w e
  · have hz : z ≠ a := fun q => n (by rw [← q]; exact List.mem_of_getElem? h1)
    exact (s.at_ m z w h1 h2).map (fun _ _ r => k r) (fun _ _ r => kl r) fun u e => by rw [upd_ne hz]; exact e
theorem Rel.change (r : Rel c b α H σ ρ δ) {i : Nat} {l l' : List D} {a : Addr} {xs : List V} (h1 : ρ[i]? = some (some (.own l))) (h2 : σ[i]? = some (some (.ref a))) (h3 : RpL c α (Bx b.A σ ρ) H xs l') :
    Rel c b α (upd H a (.lst xs)) σ (ρ.set i (some (.own l'))) δ := by
  obtain ⟨a', ys, q1, q2, q3, q4, q5⟩ := r.own i l h1
  rw [h2] at q1
  cases q1
  have hi : i < ρ.length := (List.getElem?_eq_some_iff.mp h1).1
  have ma : MutA σ ρ a := ⟨i, l, h1, h2⟩
  have x := extM_own (o := .lst xs) q2 (r.sto.tr a (.inr ma)).1
  have k : ∀ {v d}, Rp c α (Bx b.A σ ρ) H v d → Rp c α (Bx b.A σ ρ) (upd H a (.lst xs)) v d := fun r => r.extM x (fun z q => by rw [q]; exact .inr ma) fun z q _ => q
  have kl : ∀ {v d}, RpL c α (Bx b.A σ ρ) H v d → RpL c α (Bx b.A σ ρ) (upd H a (.lst xs)) v d := fun r => r.extM x (fun z q => by rw [q]; exact .inr ma) fun z q _ => q
  have cas : ∀ {j : Nat} {d : D}, (ρ.set i (some (.own l')))[j]? = some (some d) → (i = j ∧ d = .own l') ∨ (i ≠ j ∧ ρ[j]? = some (some d)) := fun {j d} e => by
    by_cases q : i = j
    · subst q
      rw [List.getElem?_set_self hi] at e
      cases e
      exact .inl ⟨rfl, rfl⟩
    · rw [List.getElem?_set_ne q] at e
      exact .inr ⟨q, e⟩
  have hm : ∀ z, MutA σ (ρ.set i (some (.own l'))) z → MutA σ ρ z := fun z ⟨j, l1, w1, w2⟩ => by
    rcases cas w1 with ⟨rfl, e⟩ | ⟨q, e⟩
    · rw [h2] at w2; cases w2; exact ma
    · exact ⟨j, l1, e, w2⟩
  have hB : ∀ z, Bx b.A σ (ρ.set i (some (.own l'))) z → Bx b.A σ ρ z := fun z w => w.elim .inl fun w => .inr (hm z w)
  refine ⟨by simp [r.len], fun j d e1 e2 => ?_, fun j l1 e1 => ?_, fun j m l1 l2 w e1 e2 e3 e4 => ?_, fun j m e1 => ?_, (r.sto.own q2 (.inr ma)).less hB, ?_⟩
  · rcases cas e1 with ⟨rfl, rfl⟩ | ⟨q, e⟩
    · cases e2
    · obtain ⟨v, w1, w2⟩ := r.val j d e e2
      exact ⟨v, w1, (k w2).less hB⟩
  · rcases cas e1 with ⟨rfl, e⟩ | ⟨q, e⟩
    · cases e
      exact ⟨a, xs, h2, upd_same, (kl h3).less hB, q4, q5⟩
    · obtain ⟨z, zs, w1, w2, w3, w4⟩ := r.own j l1 e
      have hz : z ≠ a := fun w => q (by subst w; exact r.inj i j l l1 z h1 e h2 w1)
      exact ⟨z, zs, w1, by rw [upd_ne hz]; exact w2, (kl w3).less hB, w4⟩
  · have g : ∀ {j : Nat} {l1 : List D}, (ρ.set i (some (.own l')))[j]? = some (some (.own l1)) → ∃ l3, ρ[j]? = some (some (.own l3)) := fun {j l1} e => by
      rcases cas e with ⟨rfl, e⟩ | ⟨q, e⟩
      · exact ⟨l, h1⟩
      · exact ⟨l1, e⟩
    obtain ⟨l3, e1'⟩ := g e1
    obtain ⟨l4, e2'⟩ := g e2
    exact r.inj j m l3 l4 w e1' e2' e3 e4
  · rcases cas e1 with ⟨rfl, e⟩ | ⟨q, e⟩
    · cases e
    · exact r.nloc j m e
  · refine r.ext.trans x fun z w e1 e2 => ?_
    rw [e1] at e2 ⊢
    rcases q4 with q4 | q4
    · exact q4
    · rw [q4] at e2; cases e2
/-- the list that a receiver names, and how it is put back -/
def getL (d : D) (ρ : Env) (δ : Sto) : Option (List D) := match d with
  | .loc i => match ρ[i]? with
    | some (some (.own l)) => some l
    | _ => none
  | .hnd n => match δ[n]? with
    | some (.lst l) => some l
    | _ => none
  | _ => none
def putL (d : D) (l : List D) (ρ : Env) (δ : Sto) : OutS := match d with
  | .loc i => .nx (ρ.set i (some (.own l))) δ
  | .hnd n => .nx ρ (δ.set n (.lst l))
  | _ => .stk
theorem putL_ok {D : Ends} {v : V} {d : Pi.D} {l : List Pi.D} {x : Ext α1 α H1 H} (r : Rel c b α H σ ρ δ) (hd : Res c (Bx b.A σ ρ) σ ρ α1 H2 H1 δ1 v d) (hg : getL d ρ δ = some l) :
    ∃ a xs, v = .ref a ∧ H a = some (.lst xs) ∧ RpL c α (Bx b.A σ ρ) H xs l ∧ (∀ xs' l', RpL c α (Bx b.A σ ρ) H xs' l' → PostS c b W D (putL d l' ρ δ) → D.nx σ (upd H a (.lst xs'))) := by
  cases d with
  | loc i =>
    simp only [getL] at hg
    split at hg
    · rename_i l0 e
      cases hg
      obtain ⟨a, xs, q1, q2, q3, q4⟩ := r.own i l e
      obtain ⟨_, _, h3⟩ := hd
      rw [q1] at h3
      cases h3
      exact ⟨a, xs, rfl, q2, q3, fun xs' l' w p => p α _ σ (r.change e q1 w)⟩
    · cases hg
  | hnd n =>
    simp only [getL] at hg
    split at hg
    · rename_i l0 e
      cases hg
      obtain ⟨_, h3⟩ := hd
      cases h3 with
      | hnd h3 =>
        have h4 := x.get h3
        obtain ⟨xs, q1, q2⟩ := r.sto.at_ n _ _ h4 e
        refine ⟨_, xs, rfl, q1, q2, fun xs' l' w p => ?_⟩
        have xw : Ext α α H (upd H _ (.lst xs')) := ext_write (List.mem_of_getElem? h4) q1
        obtain ⟨s2, x2⟩ := r.sto.write (ob := .lst l') h4 ⟨xs', upd_same, w.stay xw⟩
        exact p α _ σ (r.step x2 s2)
    · cases hg
  | _ => cases hg
/-- x.append(e) -/
def sApp (f g : FE) : FS := fun ρ δ => bindS (f ρ δ) ρ fun d δ1 => bindS (g ρ δ1) ρ fun e δ2 => match fzd e with
  | some e' => match getL d ρ δ2 with
    | some l => if l.length < BIG then putL d (l ++ [e']) ρ δ2 else .stk
    | none => .stk
  | none => .stk
theorem tyList (r : Rel c b α H σ ρ δ) (x : Ext α α1 H H1) {v : V} {d : D} (h : Res c (Bx b.A σ ρ) σ ρ α1 H H1 δ1 v d) {ρ2 : Env} {δ2 : Sto} {l : List D} (e : getL d ρ2 δ2 = some l) (hl : ∀ n a, d = .hnd n → α1[n]? = some a → ∃ xs, H1 a = some (.lst xs)) : tyV c.K "list" v H1 := by
  cases d with
  | loc i =>
    obtain ⟨s1, ⟨l0, h2⟩, h3⟩ := h
    obtain ⟨a, xs, q1, q2, q3, q4⟩ := r.own i l0 h2
    rw [q1] at h3
    cases h3
    have na := (r.sto.tr a (.inr ⟨i, l0, h2, q1⟩)).1
    exact Or.inl ⟨rfl, xs, Or.inl (Or.inl (x.keep _ _ na q2))⟩
  | hnd n =>
    obtain ⟨s1, h2⟩ := h
    cases h2 with
    | hnd h3 =>
      obtain ⟨xs, q⟩ := hl n _ rfl h3
      exact Or.inl ⟨rfl, xs, Or.inl (Or.inl q)⟩
  | _ => cases e
/-- what the receiver is, ahead of the arguments -/
def isLs (d : D) (δ : Sto) : Bool := match d with
  | .loc _ => true
  | .hnd n => match δ[n]? with
    | some (.lst _) => true
    | _ => false
  | _ => false
theorem tyLs (r : Rel c b α H σ ρ δ) (x : Ext α α1 H H1) {v : V} {d : D} (h : Res c (Bx b.A σ ρ) σ ρ α1 H H1 δ1 v d) (e : isLs d δ1 = true) : tyV c.K "list" v H1 := by
  cases d with
  | loc i =>
    obtain ⟨s1, ⟨l0, h2⟩, h3⟩ := h
    obtain ⟨a, xs, q1, q2, q3, q4⟩ := r.own i l0 h2
    rw [q1] at h3
    cases h3
    have na := (r.sto.tr a (.inr ⟨i, l0, h2, q1⟩)).1
    exact Or.inl ⟨rfl, xs, Or.inl (Or.inl (x.keep _ _ na q2))⟩
  | hnd n =>
    obtain ⟨s1, h2⟩ := h
    cases h2 with
    | hnd h3 =>
      simp only [isLs] at e
      split at e
      · rename_i l hl
        obtain ⟨xs, q1, q2⟩ := s1.at_ n _ _ h3 hl
        exact Or.inl ⟨rfl, xs, Or.inl (Or.inl q1)⟩
      · cases e
  | _ => cases e
/-- a method of a list that changes it: r by values, k by data -/
def LmS (c : Cn) (r : V → List V → Hp → VK → Prop) (k : List D → List D → Option (List D)) : Prop := ∀ (α : List Addr) (B : Addr → Prop) (H : Hp) (a : Addr) (xs : List V) (l : List D) (vs : List V) (ds l' : List D) (Q : VK),
  H a = some (.lst xs) → RpL c α B H xs l → RpL c α B H vs ds → k l ds = some l' → (∀ xs' v, RpL c α B H xs' l' → Q v (upd H a (.lst xs'))) → r (.ref a) vs H Q
def sLm (k : List D → List D → Option (List D)) (f : FE) (g : FA) : FS := fun ρ δ => bindS (f ρ δ) ρ fun d δ1 => if isLs d δ1 = true then bindS (g ρ δ1) ρ fun ds δ2 => match getL d ρ δ2 with
  | some l => match k l ds with
    | some l' => putL d l' ρ δ2
    | none => .stk
  | none => .stk else .stk
theorem sim_lm {r : V → List V → Hp → VK → Prop} {k : List D → List D → Option (List D)} (hk : LmS c r k) (ha : SimE c W ta f) (hb : SimA c W t fa) : SimS c W (tDrop (tBM c.K "list" r ta t)) (sLm k f fa) := by
  intro b α H σ ρ δ D rel h
  refine ha b α H σ ρ δ _ rel ((Post.toS rel h).mono fun d δ1 α1 H1 x1 h1 v rv => ?_)
  split at h1
  · rename_i hls
    have rel1 := rel.step x1 rv.sto
    refine ⟨tyLs rel x1 rv hls, hb b α1 H1 σ ρ δ1 _ rel1 ((Post.toS rel1 h1).mono fun ds δ2 α2 H2 x2 h2 vs s2 q2 => ?_)⟩
    split at h2
    · rename_i l el
      split at h2
      · rename_i l' ek
        obtain ⟨a, xs, rfl, w1, w2, w3⟩ := putL_ok (W := W) (D := D) (x := x2) (rel1.step x2 s2) rv el
        exact hk α2 _ H2 a xs l vs ds l' _ w1 w2 q2 ek fun xs' v w => w3 xs' l' w h2
      · exact h2.elim
    · exact h2.elim
  · exact h1.elim
def kApp (l ds : List D) : Option (List D) := match ds with
  | [d] => if l.length < BIG then some (l ++ [d]) else none
  | _ => none
theorem lm_append : LmS c rAppend kApp := by
  intro α B H a xs l vs ds l' Q h1 h2 h3 e h4
  unfold kApp at e
  split at e
  · split at e
    · rename_i hl
      cases e
      cases h3 with
      | cons q1 q2 =>
        cases q2
        refine ⟨a, xs, _, rfl, rfl, h1, ?_, h4 _ _ (h2.append (.cons q1 .nil))⟩
        rw [h2.len]
        exact Nat.lt_of_lt_of_le hl (le_line' (Nat.le_refl _))
    · cases e
  · cases e
/-- x.extend(ys), ys a list -/
def sExt (f g : FE) : FS := fun ρ δ => bindS (f ρ δ) ρ fun d δ1 => if isLs d δ1 = true then bindS (g ρ δ1) ρ fun e δ2 => match getL d ρ δ2, asL (opd ρ e) δ2 with
  | some l, some m => if l.length + m.length ≤ BIG then putL d (l ++ m) ρ δ2 else .stk
  | _, _ => .stk else .stk
theorem sim_ext (ha : SimE c W ta f) (hb : SimE c W tb g) : SimS c W (tDrop (tBM c.K "list" rExtend ta (tCons tb tNil))) (sExt f g) := by
  intro b α H σ ρ δ D rel h
  refine ha b α H σ ρ δ _ rel ((Post.toS rel h).mono fun d δ1 α1 H1 x1 h1 v rv => ?_)
  split at h1
  · rename_i hls
    have rel1 := rel.step x1 rv.sto
    refine ⟨tyLs rel x1 rv hls, hb b α1 H1 σ ρ δ1 _ rel1 ((Post.toS rel1 h1).mono fun e δ2 α2 H2 x2 h2 u ru => ?_)⟩
    obtain ⟨s2, q2⟩ := ru.opd rel1 x2
    split at h2
    · rename_i l m el em
      split at h2
      · rename_i hl
        obtain ⟨a, xs, rfl, w1, w2, w3⟩ := putL_ok (W := W) (D := D) (x := x2) (rel1.step x2 s2) rv el
        obtain ⟨a', ys, rfl, w4, w5⟩ := asL_ok s2 q2 em
        exact ⟨a, a', xs, ys, rfl, rfl, w1, w4, by rw [w2.len, w5.len]; exact le_line' hl, w3 _ _ (w2.append w5) h2⟩
      · exact h2.elim
    · exact h2.elim
  · exact h1.elim
/-- xs[i] = e -/
def sSetI (f g h : FE) : FS := fun ρ δ => bindS (f ρ δ) ρ fun e δ1 => match fzd e with
  | some e' => bindS (g ρ δ1) ρ fun d δ2 => bindS (h ρ δ2) ρ fun i δ3 => match i with
    | .int i => match getL d ρ δ3 with
      | some l => match ixN l.length i with
        | some j => putL d (l.set j e') ρ δ3
        | none => .stk
      | none => .stk
    | _ => .stk
  | none => .stk
theorem sim_setI {tc : TE} {h : FE} (ha : SimE c W ta f) (hb : SimE c W tb g) (hc : SimE c W tc h) : SimS c W (tAsg ta (gSub tb tc rSetL)) (sSetI f g h) := by
  intro b α H σ ρ δ D rel h0
  refine ha b α H σ ρ δ _ rel ((Post.toS rel h0).mono fun e δ1 α1 H1 x1 h1 v rv => ?_)
  split at h1
  · rename_i e' ee
    obtain ⟨s1, q1⟩ := rv.fz rel.sto ee
    have rel1 := rel.step x1 s1
    refine hb b α1 H1 σ ρ δ1 _ rel1 ((Post.toS rel1 h1).mono fun d δ2 α2 H2 x2 h2 u ru => ?_)
    have rel2 := rel1.step x2 ru.sto
    refine hc b α2 H2 σ ρ δ2 _ rel2 ((Post.toS rel2 h2).mono fun i δ3 α3 H3 x3 h3 w rw_ => ?_)
    split at h3
    · rename_i i
      obtain ⟨s3, q3⟩ := rw_
      cases q3
      split at h3
      · rename_i l el
        split at h3
        · rename_i j ej
          obtain ⟨a, xs, rfl, w1, w2, w3⟩ := putL_ok (W := W) (D := D) (x := x3) (rel2.step x3 s3) ru el
          exact ⟨a, xs, i, j, rfl, rfl, w1, by rw [w2.len]; exact ej, w3 _ _ (w2.set ((q1.stay x2).stay x3) j) h3⟩
        · exact h3.elim
      · exact h3.elim
    · exact h3.elim
  · exact h1.elim

/-! ### attributes -/
theorem RpK.look {κ : Type} [DecidableEq κ] {vs : List (κ × V)} {ds : List (κ × D)} (h : RpK c α B H vs ds) (k : κ) : (∀ d, ds.lookup k = some d → ∃ v, vs.lookup k = some v ∧ Rp c α B H v d) ∧ (ds.lookup k = none → vs.lookup k = none) := by
  induction h with
  | nil => exact ⟨fun d e => (nomatch e), fun _ => rfl⟩
  | @cons k' v vs d ds h1 h2 ih =>
    rw [List.lookup_cons, List.lookup_cons]
    cases q : k == k' with
    | true => exact ⟨fun d' e => by cases e; exact ⟨v, rfl, h1⟩, fun e => by cases e⟩
    | false => exact ih
theorem RpF.look {vs : List (Str × V)} {ds : List (Str × D)} (h : RpF c α B H vs ds) (k : Str) : ∀ d, ds.lookup k = some d → ∃ v, vs.lookup k = some v ∧ Rp c α B H v d := by
  induction ds generalizing vs with
  | nil => intro d e; cases e
  | cons x ds ih =>
    cases h with
    | @cons k' v vs d ds h1 h2 =>
      rw [List.lookup_cons, List.lookup_cons]
      cases q : k == k' with
      | true => intro d' e; cases e; exact ⟨v, rfl, h1⟩
      | false => exact ih h2
def fldD (cn f : Str) (d : D) (δ : Sto) : Option D := match d with
  | .hnd n => match δ[n]? with
    | some (.ins k fs) => if k = cn then fs.lookup f else none
    | _ => none
  | .obj k fs => if k = cn then fs.lookup f else none
  | _ => none
def kFld (cn f : Str) (d : D) (δ : Sto) : Out D := match fldD cn f d δ with
  | some x => .ok x δ
  | none => .stk
theorem fldD_ok {cn fn : Str} (s : RpS c α B H δ) {v : V} {d x : D} (h : RpQ c α B H v d) (e : fldD cn fn d δ = some x) : ∃ a dx fs w, v = .ref a ∧ H a = some (.ins (c.ca cn) dx fs) ∧ fs.lookup fn = some w ∧ Rp c α B H w x := by
  cases d with
  | hnd n =>
    cases h with
    | hnd h1 =>
      simp only [fldD] at e
      split at e
      · rename_i k fs hl
        split at e
        · rename_i hk
          subst hk
          obtain ⟨dx, gs, q1, q2⟩ := s.at_ n _ _ h1 hl
          obtain ⟨w, q3, q4⟩ := (q2.look fn).1 x e
          exact ⟨_, dx, gs, w, rfl, q1, q3, q4⟩
        · cases e
      · cases e
  | obj k fs =>
    simp only [fldD] at e
    split at e
    · rename_i hk
      subst hk
      cases h with
      | obj h1 h2 h3 h4 =>
        obtain ⟨w, q3, q4⟩ := h4.look fn x e
        exact ⟨_, _, _, w, rfl, h1, q3, q4⟩
    · cases e
  | _ => cases e
theorem sim_fld {cn fn : Str} (hC : Cls c.K (c.ca cn)) (hn : NoAttr c.K (c.ca cn) fn) (ha : SimE c W ta f) : SimE c W (tFld c.K ta fn) (e1 (kFld cn fn) f) := by
  intro b α H σ ρ δ Q rel h
  refine ha b α H σ ρ δ _ rel (h.bind.mono fun d δ1 α1 H1 x1 h1 v rv => ?_)
  obtain ⟨s1, q1⟩ := rv.opd rel x1
  unfold kFld at h1
  split at h1
  · rename_i x ex
    obtain ⟨a, dx, fs, w, rfl, z1, z2, z3⟩ := fldD_ok s1 q1 ex
    exact ⟨a, _, dx, fs, w, rfl, z1, hC, hn, z2, h1 α1 H1 (Ext.refl _ _) w (res_of (res_val s1 z3))⟩
  · exact h1.elim
def putD (f : Str) (x : D) : List (Str × D) → List (Str × D)
  | [] => [(f, x)]
  | (g, y) :: r => if g = f then (g, x) :: r else (g, y) :: putD f x r
theorem putF_ok {fn : Str} {v : V} {x : D} (hv : Rp c α B H v x) : ∀ {vs : List (Str × V)} {ds : List (Str × D)}, RpK c α B H vs ds → RpK c α B H (putF fn v vs) (putD fn x ds)
  | _, _, .nil => .cons hv .nil
  | _, _, @RpK.cons _ _ _ _ _ k' w vs d ds h1 h2 => by
    unfold putF putD
    by_cases q : k' = fn
    · rw [if_pos q, if_pos q]; exact .cons hv h2
    · rw [if_neg q, if_neg q]; exact .cons h1 (putF_ok hv h2)
/-- o.f = e: e is asked first -/
def sSetF (cn fn : Str) (f g : FE) : FS := fun ρ δ => bindS (g ρ δ) ρ fun e δ1 => match fzd e with
  | some e' => bindS (f ρ δ1) ρ fun d δ2 => match d with
    | .hnd n => match δ2[n]? with
      | some (.ins k fs) => if k = cn ∧ fs.length < 1000 then .nx ρ (δ2.set n (.ins k (putD fn e' fs))) else .stk
      | _ => .stk
    | _ => .stk
  | none => .stk
theorem sim_setF {cn fn : Str} (hC : Cls c.K (c.ca cn)) (hn : NoAttr c.K (c.ca cn) fn) (ha : SimE c W ta f) (hb : SimE c W tb g) : SimS c W (sFld c.K ta tb fn) (sSetF cn fn f g) := by
  intro b α H σ ρ δ D rel h0
  refine hb b α H σ ρ δ _ rel ((Post.toS rel h0).mono fun e δ1 α1 H1 x1 h1 v rv => ?_)
  split at h1
  · rename_i e' ee
    obtain ⟨s1, q1⟩ := rv.fz rel.sto ee
    have rel1 := rel.step x1 s1
    refine ha b α1 H1 σ ρ δ1 _ rel1 ((Post.toS rel1 h1).mono fun d δ2 α2 H2 x2 h2 u ru => ?_)
    split at h2
    · rename_i n
      obtain ⟨s2, q2⟩ := ru
      cases q2 with
      | hnd q2 =>
        split at h2
        · rename_i k fs hl
          split at h2
          · rename_i hk
            obtain ⟨rfl, hf⟩ := hk
            obtain ⟨dx, gs, w1, w2⟩ := s2.at_ n _ _ q2 hl
            refine ⟨_, _, dx, gs, rfl, w1, hC, hn, by rw [w2.len]; exact hf, ?_⟩
            have xw : Ext α2 α2 H2 (upd H2 _ (.ins (c.ca k) dx (putF fn v gs))) := ext_write (List.mem_of_getElem? q2) w1
            obtain ⟨s3, x3⟩ := s2.write (ob := .ins k (putD fn e' fs)) q2 ⟨dx, _, upd_same, (putF_ok (q1.stay x2) w2).map fun _ _ r => r.stay xw⟩
            exact h2 α2 _ σ ((rel1.step x2 s2).step x3 s3)
          · exact h2.elim
        · exact h2.elim
    · exact h2.elim
  · exact h1.elim
end
end Pi
namespace Pi
open PySem L2
/-! ### methods and makings that may raise: the wish at the slots -/
section
variable {X : Cx} {k : Nat} {f C : Addr} {fd : FuncData} {ps : List Str} {sp : Sp} {E : St → XK}
theorem pe_call0S {x : Str} {p pos : Pos} (F : FnOk X.prog X.w X.K X.mg X.base (L2.CX X.prog X.w) k f fd ps sp) (hr : Room k X.A) (hg : Gl X x) (hm : X.mg x = some (.ref f)) (hk : PySem.W.keepIn X.K (.ref f) = true)
    (hb : Binds X.K fd ps []) (hx : ∀ σ, PassesAt (L2.CX X.prog X.w) X σ (E σ)) (hdb : (x == ("__debug__" : Str)) = false := by decide) : PE X (.Call (.Name x p) [] [] pos) (tCallS sp E tNil) :=
  ⟨fun pins s σ H Q I h => wpAny_Call_Name_kw (ld_glob I hg hm (PySem.W.callWith_K0 I.kIn hk (run_fnS (us := []) (vs := []) F hr hb (hx σ) I .nil h)) hdb)⟩
def tMethX (C : Addr) (m : Str) (sp : Sp) (E : St → XK) (ta : TE) (t : TA) : TE := fun σ H Q => ta σ H fun x H1 => ∃ a dx fs, x = .ref a ∧ H1 a = some (.ins C dx fs) ∧ fs.lookup m = none ∧ t σ H1 fun vs H2 => sp (x :: vs) H2 Q (E σ)
theorem pe_methX {o e : Expr} {es : List Expr} {m : Str} {apos pos : Pos} {ta : TE} {t : TA} {pl : Sem Bool} (he : PE X o ta) (hC : Cls X.K C) (hm : Meth X.K C m f) (F : FnOk X.prog X.w X.K X.mg X.base (L2.CX X.prog X.w) k f fd ps sp) (hr : Room k X.A)
    (hb : Binds X.K fd ps []) (hx : ∀ σ, PassesAt (L2.CX X.prog X.w) X σ (E σ)) (ha : PA X (e :: es) t)
    (h1 : starEach (e :: es) X.env = (false, eval e X.env) :: starEach es X.env := by rfl) (h2 : (backTo pos (starEach es X.env)).any (·.1) = false := by rfl)
    (h3 : eval (.Call (.Attribute o m apos) (e :: es) [] pos) X.env = (eval o X.env >>= fun ov => standAt apos.atName >>= fun _ => holding [ov] (getMethod ov m pl) >>= fun q =>
      callWith pos q.1 q.2 (backTo pos (starEach (e :: es) X.env)) (backToKw pos (keywordEach [] X.env))) := by rfl) : PE X (.Call (.Attribute o m apos) (e :: es) [] pos) (tMethX C m sp E ta t) := by
  refine ⟨fun pins s σ H Q I h => PySem.W.methodCall_KW (pl := pl) (thn (he.run pins s σ H _ I h) fun u s1 ⟨x, H1, I1, r1, a, dx, fs, e1, e2, e3, q⟩ => ?_) h3⟩
  cases e1
  cases (show u = Value.ref a from r1)
  refine getmeth_ok I1 e2 hC hm e3 (PySem.W.callWith_K (first := [.ref a]) (h₀ := X.base) I.ok.mod.kin hm.kp (thn (ha.run pos pins s1 σ H1 _ I1 q) fun us s2 ⟨vs, H2, I2, r2, q2⟩ => ⟨I2.kIn, ?_⟩) h1 h2)
  exact run_fnS (us := .ref a :: us) (vs := .ref a :: vs) F hr hb (hx σ) I2 (.cons rfl r2) q2
theorem pe_meth0X {o : Expr} {m : Str} {apos pos : Pos} {ta : TE} {pl : Sem Bool} (he : PE X o ta) (hC : Cls X.K C) (hm : Meth X.K C m f) (F : FnOk X.prog X.w X.K X.mg X.base (L2.CX X.prog X.w) k f fd ps sp) (hr : Room k X.A)
    (hb : Binds X.K fd ps []) (hx : ∀ σ, PassesAt (L2.CX X.prog X.w) X σ (E σ))
    (h3 : eval (.Call (.Attribute o m apos) [] [] pos) X.env = (eval o X.env >>= fun ov => standAt apos.atName >>= fun _ => holding [ov] (getMethod ov m pl) >>= fun q =>
      callWith pos q.1 q.2 (backTo pos (starEach [] X.env)) (backToKw pos (keywordEach [] X.env))) := by rfl) : PE X (.Call (.Attribute o m apos) [] [] pos) (tMethX C m sp E ta tNil) := by
  refine ⟨fun pins s σ H Q I h => PySem.W.methodCall_KW (pl := pl) (thn (he.run pins s σ H _ I h) fun u s1 ⟨x, H1, I1, r1, a, dx, fs, e1, e2, e3, q⟩ => ?_) h3⟩
  cases e1
  cases (show u = Value.ref a from r1)
  exact getmeth_ok I1 e2 hC hm e3 (PySem.W.callWith_K0 (first := [.ref a]) I1.kIn hm.kp (run_fnS (us := [.ref a]) (vs := [.ref a]) F hr hb (hx σ) I1 (.cons rfl .nil) q))
def tMakeX (C : Addr) (sp : Sp) (E : St → XK) (t : TA) : TE := fun σ H Q => t σ H fun vs H1 => ∀ x dx, H1 x = none → H1 dx = none → dx ≠ x → sp (.ref x :: vs) (upd (upd H1 dx (.own x)) x (.ins C dx [])) (fun v H2 => v = .non ∧ Q (.ref x) H2) (E σ)
/-- what a call may let out, whatever the heap ahead of it -/
theorem run_makeS {pins : List (Addr × Obj)} {σ : St} {H : Hp} {s : Shared} {Q : VK} {us : List Value} {vs : List V} (M : Mk X.K C f) (F : FnOk X.prog X.w X.K X.mg X.base (L2.CX X.prog X.w) k f fd ps sp) (hr : Room (k + 1) X.A) (hb : Binds X.K fd ps [])
    (hx : PassesAt (L2.CX X.prog X.w) X σ (E σ)) (I : Inv X pins σ H s) (r : Vals vs us)
    (h : ∀ x dx, H x = none → H dx = none → dx ≠ x → sp (.ref x :: vs) (upd (upd H dx (.own x)) x (.ins C dx [])) (fun v H2 => v = .non ∧ Q (.ref x) H2) (E σ)) :
    wpAny (model X.prog X.w) X.A (call (.ref C) us) (EP X pins σ Q) X.xe s := by
  have q0 := h (s.heap.objs.size + 1) s.heap.objs.size (I.hok.fresh (Nat.le_succ _)) (I.hok.fresh (Nat.le_refl _)) (Nat.ne_of_lt (Nat.lt_succ_self _))
  have I2 := Inv.made (C := C) I
  have r2 : Vals (V.ref (s.heap.objs.size + 1) :: vs) (Value.ref (s.heap.objs.size + 1) :: us) := .cons rfl r
  have n1 : (Value.ref (s.heap.objs.size + 1) :: us).length = ps.length := by rw [← r2.length]; exact F.len _ _ _ _ q0
  have n2 := hb _ (Value.ref (s.heap.objs.size + 1) :: us) I2.kIn (by rw [List.append_nil]; exact n1)
  rw [List.append_nil] at n2
  refine wpAny_call (make_map (f := f) I.kIn M.makes M.init (beq_iff_eq.mp M.fn) (codeAny_mono (F.run _ X.stack _ _ ⟨Value.ref (s.heap.objs.size + 1) :: us, []⟩ _ _ _ (E σ) (hr.make C us []) (I2.env0.make C us []) n2 r2 q0) fun z s' hz => ?_))
  cases z with
  | error e => exact hx pins _ _ e s' I2 hz
  | ok fl =>
    cases fl with
    | ret u =>
      obtain ⟨v, H3, I3, rv, ev, q3⟩ := I2.after hz
      cases ev
      exact ⟨rv, ⟨V.ref (s.heap.objs.size + 1), H3, I3, rfl, q3⟩⟩
    | next => exact hz.elim
    | brk => exact hz.elim
    | cont => exact hz.elim
theorem pe_makeX {x : Str} {e : Expr} {es : List Expr} {p pos : Pos} {t : TA} (M : Mk X.K C f) (F : FnOk X.prog X.w X.K X.mg X.base (L2.CX X.prog X.w) k f fd ps sp) (hr : Room (k + 1) X.A) (hg : Gl X x) (hm : X.mg x = some (.ref C)) (hb : Binds X.K fd ps [])
    (hx : ∀ σ, PassesAt (L2.CX X.prog X.w) X σ (E σ)) (ha : PA X (e :: es) t) (hdb : (x == ("__debug__" : Str)) = false := by decide)
    (h1 : starEach (e :: es) X.env = (false, eval e X.env) :: starEach es X.env := by rfl) (h2 : (backTo pos (starEach es X.env)).any (·.1) = false := by rfl) : PE X (.Call (.Name x p) (e :: es) [] pos) (tMakeX C sp E t) :=
  ⟨fun pins s σ H Q I h => wpAny_Call_Name_kw (ld_glob I hg hm (PySem.W.callWith_K (h₀ := X.base) I.ok.mod.kin M.kp (thn (ha.run pos pins s σ H _ I h) fun us s1 ⟨vs, H1, I1, r, q⟩ => ⟨I1.kIn, run_makeS M F hr hb (hx σ) I1 r q⟩) h1 h2) hdb)⟩
end
section
variable {c : Cn} {b : Base} {α α' α1 α2 : List Addr} {A B B' M : Addr → Prop} {H H' H1 H2 : Hp} {σ σ' : St} {ρ ρ' : Env} {δ δ' δ1 : Sto}
variable {W : WX} {ta tb : TE} {t u : TA} {tt tt' : TT} {f g : FE} {fa ga : FA} {ft gt : FT}
/-- o.m(..) of a shared instance -/
def eMeth (cn m : Str) (n : Nat) (F : List D → Sto → Out D) (f : FE) (g : FA) : FE := fun ρ δ => (f ρ δ).bind fun d δ1 => match d with
  | .hnd j => match δ1[j]? with
    | some (.ins k fs) => if k = cn ∧ fs.lookup m = none then (g ρ δ1).bind fun ds δ2 => if ds.length + 1 = n then F (.hnd j :: ds) δ2 else .stk else .stk
    | _ => .stk
  | _ => .stk
theorem sim_meth {cn m : Str} {n : Nat} {F : List D → Sto → Out D} (ha : SimE c W ta f) (hb : SimA c W t fa) : SimE c W (tMethX (c.ca cn) m (SpF c n F) (WE W) ta t) (eMeth cn m n F f fa) := by
  intro b α H σ ρ δ Q rel h
  refine ha b α H σ ρ δ _ rel (h.bind.mono fun d δ1 α1 H1 x1 h1 v rv => ?_)
  split at h1
  · rename_i j
    obtain ⟨s1, q1⟩ := rv
    cases q1 with
    | hnd q1 =>
      split at h1
      · rename_i k fs hl
        split at h1
        · rename_i hk
          obtain ⟨rfl, hm⟩ := hk
          obtain ⟨dx, gs, w1, w2⟩ := s1.at_ j _ _ q1 hl
          refine ⟨_, dx, gs, rfl, w1, (w2.look m).2 hm, ?_⟩
          refine hb b α1 H1 σ ρ δ1 _ (rel.step x1 s1) (h1.bind.mono fun ds δ2 α2 H2 x2 h2 vs s2 q2 => ?_)
          split at h2
          · rename_i hn
            refine ⟨α2, _, .hnd j :: ds, δ2, hn, s2, .cons (.hnd (x2.get q1)) q2, ?_⟩
            have h3 := h2.mono (k' := fun d δ' α' H' => ∀ v, ResV c (Bx b.A σ ρ) α' H2 H' δ' v d → Q v H') fun d δ3 α3 H3 x3 h3 v r3 => h3 v (res_of ((r3.back x2).back x1))
            cases e : F (.hnd j :: ds) δ2 with
            | ok d δ3 => rw [e] at h3; exact h3
            | err z δ3 => rw [e] at h3; exact h3
            | stk => rw [e] at h3; exact h3
          · exact h2.elim
        · exact h1.elim
      · exact h1.elim
  · exact h1.elim
/-- C(..), a shared instance -/
def eMake (cn : Str) (n : Nat) (F : List D → Sto → Out D) (g : FA) : FE := fun ρ δ => (g ρ δ).bind fun ds δ1 => if ds.length + 1 = n then (F (.hnd δ1.length :: ds) (δ1 ++ [.ins cn []])).bind fun r δ2 => match r with
  | .non => .ok (.hnd δ1.length) δ2
  | _ => .stk else .stk
theorem make_new {cn : Str} {x dx : Addr} (s : RpS c α B H δ) (hx : H x = none) (hd : H dx = none) (hn : dx ≠ x) :
    RpS c (α ++ [x]) B (upd (upd H dx (.own x)) x (.ins (c.ca cn) dx [])) (δ ++ [.ins cn []]) ∧ Ext α (α ++ [x]) H (upd (upd H dx (.own x)) x (.ins (c.ca cn) dx [])) := by
  have s1 : RpS c α B (upd H dx (.own x)) δ := (s.new hd).less fun a z => .inl z
  have hx1 : upd H dx (.own x) x = none := by rw [upd_ne (Ne.symm hn)]; exact hx
  obtain ⟨s2, x2⟩ := s1.share (o := .ins (c.ca cn) dx []) (ob := .ins cn []) hx1 ⟨dx, [], upd_same, .nil⟩
  exact ⟨s2, (ext_new hd).trans x2⟩
theorem sim_make {cn : Str} {n : Nat} {F : List D → Sto → Out D} (hb : SimA c W t fa) : SimE c W (tMakeX (c.ca cn) (SpF c n F) (WE W) t) (eMake cn n F fa) := by
  intro b α H σ ρ δ Q rel h
  refine hb b α H σ ρ δ _ rel (h.bind.mono fun ds δ1 α1 H1 x1 h1 vs s1 q1 x dx hx hd hn => ?_)
  split at h1
  · rename_i hl
    obtain ⟨s2, x2⟩ := make_new (cn := cn) s1 hx hd hn
    have hg : (α1 ++ [x])[δ1.length]? = some x := by
      rw [← s1.len, List.getElem?_append_right (Nat.le_refl _)]
      simp
    refine ⟨α1 ++ [x], _, .hnd δ1.length :: ds, _, hl, s2, .cons (.hnd hg) (q1.stay x2), ?_⟩
    have h3 := (Post.weak x2 h1).bind.mono (k' := fun d δ' α' H' => ∀ v, ResV c (Bx b.A σ ρ) α' (upd (upd H1 dx (.own x)) x (.ins (c.ca cn) dx [])) H' δ' v d → v = .non ∧ Q (.ref x) H') fun d δ3 α3 H3 x3 h3 v r3 => by
      split at h3
      · obtain ⟨s3, q3⟩ := r3
        cases q3
        exact ⟨rfl, h3 α3 H3 (Ext.refl _ _) _ ⟨s3, .hnd (x3.get hg)⟩⟩
      · exact h3.elim
    cases e : F (.hnd δ1.length :: ds) (δ1 ++ [.ins cn []]) with
    | ok d δ3 => rw [e] at h3; exact h3
    | err z δ3 => rw [e] at h3; exact h3
    | stk => rw [e] at h3; exact h3
  · exact h1.elim

/-! ### what names no shared object from n on -/
mutual
def lowD (n : Nat) : D → Prop
  | .hnd k => k < n
  | .lst l => lowL n l
  | .tup l => lowL n l
  | .own l => lowL n l
  | .obj _ fs => lowF n fs
  | .loc _ => False
  | _ => True
def lowL (n : Nat) : List D → Prop
  | [] => True
  | d :: r => lowD n d ∧ lowL n r
def lowF (n : Nat) : List (Str × D) → Prop
  | [] => True
  | (_, d) :: r => lowD n d ∧ lowF n r
end
theorem lowL_all {n : Nat} {l : List D} : lowL n l ↔ ∀ d ∈ l, lowD n d := by
  induction l with
  | nil => simp [lowL]
  | cons d l ih => simp [lowL, ih]
theorem lowF_all {n : Nat} {l : List (Str × D)} : lowF n l ↔ ∀ p ∈ l, lowD n p.2 := by
  induction l with
  | nil => simp [lowF]
  | cons d l ih => obtain ⟨k, d⟩ := d; simp [lowF, ih]
mutual
theorem Rp.low : ∀ {v : V} {d : D}, Rp c α B H v d → lowD α.length d
  | _, _, .non => trivial
  | _, _, .bl _ => trivial
  | _, _, .int _ => trivial
  | _, _, .str _ => trivial
  | _, _, .lst _ _ _ h => RpL.low h
  | _, _, .tup _ _ _ h => RpL.low h
  | _, _, .hnd h => (List.getElem?_eq_some_iff.mp h).1
  | _, _, .scr _ => trivial
  | _, _, .ty _ => trivial
  | _, _, .obj _ _ _ h => RpF.low h
theorem RpL.low : ∀ {v : List V} {d : List D}, RpL c α B H v d → lowL α.length d
  | _, _, .nil => trivial
  | _, _, .cons h1 h2 => ⟨Rp.low h1, RpL.low h2⟩
theorem RpF.low : ∀ {v : List (Str × V)} {d : List (Str × D)}, RpF c α B H v d → lowF α.length d
  | _, _, .nil => trivial
  | _, _, .cons h1 h2 => ⟨Rp.low h1, RpF.low h2⟩
end
mutual
theorem Rp.shrink {β : List Addr} : ∀ {v : V} {d : D}, Rp c (α ++ β) B H v d → lowD α.length d → Rp c α B H v d
  | _, _, .non, _ => .non
  | _, _, .bl b, _ => .bl b
  | _, _, .int i, _ => .int i
  | _, _, .str x, _ => .str x
  | _, _, .lst h1 h2 h3 h4, l => .lst h1 (fun z => h2 (List.mem_append_left _ z)) h3 (RpL.shrink h4 l)
  | _, _, .tup h1 h2 h3 h4, l => .tup h1 (fun z => h2 (List.mem_append_left _ z)) h3 (RpL.shrink h4 l)
  | _, _, .hnd h, l => .hnd (by rw [List.getElem?_append_left l] at h; exact h)
  | _, _, .scr (.inl ⟨h1, h2, h3⟩), _ => .scr (.inl ⟨h1, fun z => h2 (List.mem_append_left _ z), h3⟩)
  | _, _, .scr (.inr h), _ => .scr (.inr h)
  | _, _, .ty n, _ => .ty n
  | _, _, .obj h1 h2 h3 h4, l => .obj h1 (fun z => h2 (List.mem_append_left _ z)) h3 (RpF.shrink h4 l)
theorem RpL.shrink {β : List Addr} : ∀ {v : List V} {d : List D}, RpL c (α ++ β) B H v d → lowL α.length d → RpL c α B H v d
  | _, _, .nil, _ => .nil
  | _, _, .cons h1 h2, l => .cons (Rp.shrink h1 l.1) (RpL.shrink h2 l.2)
theorem RpF.shrink {β : List Addr} : ∀ {v : List (Str × V)} {d : List (Str × D)}, RpF c (α ++ β) B H v d → lowF α.length d → RpF c α B H v d
  | _, _, .nil, _ => .nil
  | _, _, .cons h1 h2, l => .cons (Rp.shrink h1 l.1) (RpF.shrink h2 l.2)
end
theorem RpK.shrink {κ : Type} {β : List Addr} {vs us : List (κ × V)} {ds : List (κ × D)} {H0 : Hp} {α0 : List Addr} {B0 : Addr → Prop} (h : RpK c (α ++ β) B H vs ds) (h0 : RpK c α0 B0 H0 us ds) (e : α0.length = α.length) : RpK c α B H vs ds := by
  induction h generalizing us with
  | nil => exact .nil
  | cons h1 h2 ih =>
    cases h0 with
    | cons q1 q2 => exact .cons (h1.shrink (e ▸ q1.low)) (ih q2)
/-- the later shared objects forgotten, where the earlier ones say what they said -/
theorem RpS.shrink {β : List Addr} {ε : Sto} {H0 : Hp} {B0 : Addr → Prop} (s0 : RpS c α B0 H0 δ) (s : RpS c (α ++ β) B H (δ ++ ε)) : RpS c α B H δ := by
  refine ⟨s0.len, (List.nodup_append.mp s.nd).1, fun a z => ⟨fun q => (s.tr a z).1 (List.mem_append_left _ q), (s.tr a z).2⟩, fun n a o h1 h2 => ?_⟩
  have g1 : (α ++ β)[n]? = some a := by rw [List.getElem?_append_left (List.getElem?_eq_some_iff.mp h1).1]; exact h1
  have g2 : (δ ++ ε)[n]? = some o := by rw [List.getElem?_append_left (List.getElem?_eq_some_iff.mp h2).1]; exact h2
  have q := s.at_ n a o g1 g2
  have q0 := s0.at_ n a o h1 h2
  cases o with
  | lst l =>
    obtain ⟨xs, e, r⟩ := q
    obtain ⟨ys, _, r0⟩ := q0
    exact ⟨xs, e, r.shrink r0.low⟩
  | dK l =>
    obtain ⟨xs, e, r⟩ := q
    obtain ⟨ys, _, r0⟩ := q0
    exact ⟨xs, e, r.shrink r0 rfl⟩
  | dT l =>
    obtain ⟨xs, e, r⟩ := q
    obtain ⟨ys, _, r0⟩ := q0
    exact ⟨xs, e, r.shrink r0 rfl⟩
  | ins k l =>
    obtain ⟨dx, xs, e, r⟩ := q
    obtain ⟨_, ys, _, r0⟩ := q0
    exact ⟨dx, xs, e, r.shrink r0 rfl⟩
/-- C(..), an instance that is not changed any more; I: its attributes by the arguments -/
def eMakeV (cn : Str) (I : List D → Option (List (Str × D))) (g : FA) : FE := fun ρ δ => (g ρ δ).bind fun ds δ1 => match I ds with
  | some fs => .ok (.obj cn fs) δ1
  | none => .stk
theorem RpK.toF : ∀ {vs : List (Str × V)} {ds : List (Str × D)}, RpK c α B H vs ds → RpF c α B H vs ds
  | _, _, .nil => .nil
  | _, _, .cons h t => .cons h (RpK.toF t)
theorem sim_makeV {cn : Str} {n : Nat} {F : List D → Sto → Out D} {I : List D → Option (List (Str × D))} (hI : ∀ ds fs δ, I ds = some fs → ds.length + 1 = n ∧ F (.hnd δ.length :: ds) (δ ++ [.ins cn []]) = .ok .non (δ ++ [.ins cn fs]))
    (hL : ∀ ds fs m, I ds = some fs → lowL m ds → lowF m fs) (hb : SimA c W t fa) : SimE c W (tMakeX (c.ca cn) (SpF c n F) (WE W) t) (eMakeV cn I fa) := by
  intro b α H σ ρ δ Q rel h
  refine hb b α H σ ρ δ _ rel (h.bind.mono fun ds δ1 α1 H1 x1 h1 vs s1 q1 x dx hx hd hn => ?_)
  split at h1
  · rename_i fs hfs
    obtain ⟨hl, hF⟩ := hI ds fs δ1 hfs
    obtain ⟨s2, x2⟩ := make_new (cn := cn) s1 hx hd hn
    have hg : (α1 ++ [x])[δ1.length]? = some x := by
      rw [← s1.len, List.getElem?_append_right (Nat.le_refl _)]
      simp
    refine ⟨α1 ++ [x], _, .hnd δ1.length :: ds, _, hl, s2, .cons (.hnd hg) (q1.stay x2), ?_⟩
    rw [hF]
    intro α3 H3 x3 v r3
    obtain ⟨s3, q3⟩ := r3
    cases q3
    refine ⟨rfl, ?_⟩
    obtain ⟨β, rfl⟩ := x3.pre
    have hβ : β = [] := by
      have := s3.len
      rw [List.length_append, List.length_append, s1.len] at this
      simp at this
      exact this
    subst hβ
    rw [List.append_nil] at s3 x3
    obtain ⟨dx', gs, w1, w2⟩ := s3.at_ δ1.length x (.ins cn fs) hg (by rw [List.getElem?_append_right (Nat.le_refl _)]; simp)
    have low : lowF α1.length fs := hL ds fs _ hfs q1.low
    have s4 : RpS c α1 (Bx b.A σ ρ) H3 δ1 := RpS.shrink s1 s3
    have fr := s1.fresh hx
    have x13 : Ext α1 α1 H1 H3 := by
      have x := x2.trans x3
      refine ⟨⟨[], (List.append_nil _).symm⟩, x.keep, fun a h n => absurd h n, x.there⟩
    refine h1 α1 H3 x13 _ ⟨s4, .obj w1 fr.1 fr.2 ((w2.toF).shrink low)⟩
  · exact h1.elim

/-! ### a def that leaves the shared objects as they were -/
open Classical in
noncomputable def fnT (n : Nat) (body : FS) (ds : List D) (δ : Sto) : Out D := match body (ds.map some ++ List.replicate n none) δ with
  | .nx _ δ' => if δ'.take δ.length = δ then .ok .non δ else .stk
  | .rt d δ' => if δ'.take δ.length = δ ∧ lowD δ.length d then .ok d δ else .stk
  | .err e _ δ' => if δ'.take δ.length = δ then .err e δ else .stk
  | _ => .stk
theorem split_take {β : Type} {l k : List β} (h : l.take k.length = k) : ∃ m, l = k ++ m := ⟨l.drop k.length, by conv => lhs; rw [← List.take_append_drop k.length l, h]⟩
theorem fn_endT {N : List Str} {np n : Nat} {t : TS} {body : FS} {vs : List V} {Q : VK} {E : XK} (hn : N.length - np = n) (h : SimS c (fun cls o _ H' => E cls o H') t body)
    (hsp : SpF c np (fnT n body) vs H Q E) : t { nx := fun _ H' => Q .non H', rt := Q } (L2.start N vs) H := by
  obtain ⟨α, A, ds, δ, hl, s, r, p⟩ := hsp
  have rel := start_rel (N := N) s r n (by rw [r.len, hl]; exact hn)
  have no : ∀ a : Addr, ¬ (fun _ : Addr => False) a := fun a z => z
  have hB : ∀ {σ' : St} {ρ' : Env} (a : Addr), A a → Bx A σ' ρ' a := fun a z => .inl z
  have ext0 : ∀ {α' : List Addr} {H' : Hp}, Ext α α' H H' → Ext α α H H' := fun x => ⟨⟨[], (List.append_nil _).symm⟩, x.keep, fun a h n => absurd h n, x.there⟩
  refine h _ α H _ _ δ _ rel ?_
  unfold fnT at p
  cases e : body (ds.map some ++ List.replicate n none) δ with
  | nx ρ' δ' =>
    rw [e] at p
    intro α' H' σ' r'
    dsimp only at p
    split at p
    · rename_i hd
      obtain ⟨m, rfl⟩ := split_take hd
      obtain ⟨β, hβ⟩ := r'.ext.pre
      have hβ' : α' = α ++ β := hβ
      subst hβ'
      exact p α H' (ext0 (r'.ext.ext no)) .non ⟨s.shrink (r'.sto.less hB), .non⟩
    · exact p.elim
  | rt d δ' =>
    rw [e] at p
    intro v α' H' x q
    dsimp only at p
    split at p
    · rename_i hd
      obtain ⟨hd, low⟩ := hd
      obtain ⟨m, rfl⟩ := split_take hd
      obtain ⟨β, hβ⟩ := x.pre
      have hβ' : α' = α ++ β := hβ
      subst hβ'
      rw [← s.len] at low
      refine p α H' (ext0 (x.ext no)) v ?_
      cases d with
      | own l =>
        obtain ⟨w, xs, z1, z2, z3, z4, z5⟩ := q
        exact ⟨w, xs, z1, z2.elim False.elim id, z3, s.shrink z4, z5.shrink low⟩
      | loc i => exact q.elim
      | _ => exact ⟨s.shrink q.1, q.2.shrink low⟩
    · exact p.elim
  | err z ρ' δ' =>
    rw [e] at p
    intro α' H' σ' o r'
    dsimp only at p
    split at p
    · rename_i hd
      obtain ⟨m, rfl⟩ := split_take hd
      obtain ⟨β, hβ⟩ := r'.ext.pre
      have hβ' : α' = α ++ β := hβ
      subst hβ'
      exact p α H' o (ext0 (r'.ext.ext no)) (s.shrink (r'.sto.less hB))
    · exact p.elim
  | bk ρ' δ' => rw [e] at p; exact p.elim
  | ct ρ' δ' => rw [e] at p; exact p.elim
  | stk => rw [e] at p; exact p.elim
end
end Pi
namespace Pi
open PySem L2
section
variable {c : Cn} {b : Base} {α α' α1 α2 : List Addr} {A B B' M : Addr → Prop} {H H' H1 H2 : Hp} {σ σ' : St} {ρ ρ' : Env} {δ δ' δ1 : Sto}
variable {W : WX} {ta tb : TE} {t u : TA} {tt tt' : TT} {f g : FE} {fa ga : FA} {ft gt : FT}
/-! ### comprehensions -/
def wipeE (ρ : Env) : List Nat → Env
  | [] => ρ
  | v :: vs => (wipeE ρ vs).set v none
theorem wipe_get (σ : St) : ∀ (vs : List Nat) (j : Nat), (wipe σ vs)[j]? = if j ∈ vs then (σ[j]?).map fun _ => none else σ[j]?
  | [], j => by simp [wipe]
  | v :: vs, j => by
    unfold wipe
    by_cases e : v = j
    · subst e
      rw [if_pos List.mem_cons_self]
      by_cases hl : v < σ.length
      · rw [List.getElem?_set_self (by rw [wipe_length]; exact hl), List.getElem?_eq_getElem hl]; rfl
      · rw [List.getElem?_eq_none (by rw [List.length_set, wipe_length]; omega), List.getElem?_eq_none (by omega)]; rfl
    · rw [List.getElem?_set_ne e, wipe_get σ vs j]
      have : (j ∈ v :: vs) ↔ j ∈ vs := ⟨fun z => (List.mem_cons.mp z).elim (fun z => absurd z.symm e) id, List.mem_cons_of_mem _⟩
      by_cases h : j ∈ vs
      · rw [if_pos h, if_pos (this.mpr h)]
      · rw [if_neg h, if_neg (fun z => h (this.mp z))]
theorem wipe_set {σ : St} {vs : List Nat} {i : Nat} (x : Option V) (h : i ∈ vs) : wipe (σ.set i x) vs = wipe σ vs := by
  apply List.ext_getElem?
  intro j
  rw [wipe_get, wipe_get]
  by_cases e : i = j
  · subst e
    rw [if_pos h, if_pos h]
    by_cases hl : i < σ.length
    · rw [List.getElem?_set_self hl, List.getElem?_eq_getElem hl]; rfl
    · rw [List.getElem?_eq_none (by rw [List.length_set]; omega), List.getElem?_eq_none (by omega)]
  · rw [List.getElem?_set_ne e]
def noOwn (ρ : Env) (vs : List Nat) : Prop := ∀ i ∈ vs, ∀ l, ρ[i]? ≠ some (some (.own l))
def noOwnB (ρ : Env) (vs : List Nat) : Bool := vs.all fun i => match ρ[i]? with
  | some (some (.own _)) => false
  | _ => true
theorem noOwn_of {ρ : Env} {vs : List Nat} (h : noOwnB ρ vs = true) : noOwn ρ vs := fun i hi l e => by
  have := List.all_eq_true.mp h i hi
  rw [e] at this
  cases this
theorem wipeE_len (ρ : Env) : ∀ vs, (wipeE ρ vs).length = ρ.length
  | [] => rfl
  | v :: vs => by unfold wipeE; rw [List.length_set, wipeE_len ρ vs]
theorem wipeE_some {ρ : Env} {j : Nat} {d : D} : ∀ {vs : List Nat}, (wipeE ρ vs)[j]? = some (some d) → ρ[j]? = some (some d) ∧ j ∉ vs
  | [], h => ⟨h, by simp⟩
  | v :: vs, h => by
    unfold wipeE at h
    by_cases e : v = j
    · subst e
      by_cases hl : v < (wipeE ρ vs).length
      · rw [List.getElem?_set_self hl] at h; cases h
      · rw [List.getElem?_eq_none (by rw [List.length_set]; omega)] at h; cases h
    · rw [List.getElem?_set_ne e] at h
      obtain ⟨h1, h2⟩ := wipeE_some h
      exact ⟨h1, by simp only [List.mem_cons, not_or]; exact ⟨fun z => e z.symm, h2⟩⟩
theorem wipeE_out {ρ : Env} {j : Nat} : ∀ {vs : List Nat}, j ∉ vs → (wipeE ρ vs)[j]? = ρ[j]?
  | [], _ => rfl
  | v :: vs, h => by
    unfold wipeE
    rw [List.getElem?_set_ne (fun z => h (by rw [z]; exact List.mem_cons_self)), wipeE_out fun z => h (List.mem_cons_of_mem _ z)]
theorem mutA_wipe {vs : List Nat} (n : noOwn ρ vs) (a : Addr) : MutA (wipe σ vs) (wipeE ρ vs) a ↔ MutA σ ρ a := by
  constructor
  · rintro ⟨i, l, h1, h2⟩
    obtain ⟨q1, q2⟩ := wipeE_some h1
    rw [wipe_get, if_neg q2] at h2
    exact ⟨i, l, q1, h2⟩
  · rintro ⟨i, l, h1, h2⟩
    have q : i ∉ vs := fun z => n i z l h1
    exact ⟨i, l, by rw [wipeE_out q]; exact h1, by rw [wipe_get, if_neg q]; exact h2⟩
/-- within a comprehension: its own names wiped, its list kept apart, later -/
theorem Rel.comp (r : Rel c b α H σ ρ δ) {vs : List Nat} (n : noOwn ρ vs) {p : Addr} (hp : H p = none) (x : Ext α α' H H') (s : RpS c α' (fun a => Bx b.A σ ρ a ∨ a = p) H' δ') :
    Rel c ⟨b.α, fun a => b.A a ∨ a = p, b.H, b.M⟩ α' H' (wipe σ vs) (wipeE ρ vs) δ' := by
  have hB : ∀ a, Bx (fun a => b.A a ∨ a = p) (wipe σ vs) (wipeE ρ vs) a → Bx b.A σ ρ a ∨ a = p := fun a z => by
    rcases z with (z | z) | z
    · exact .inl (.inl z)
    · exact .inr z
    · exact .inl (.inr ((mutA_wipe n a).mp z))
  refine ⟨by rw [wipe_length, wipeE_len, r.len], fun i d h1 h2 => ?_, fun i l h1 => ?_, fun i j l l' a h1 h2 h3 h4 => ?_, fun i j h1 => r.nloc i j (wipeE_some h1).1, s.less hB, r.ext.then x⟩
  · obtain ⟨q1, q2⟩ := wipeE_some h1
    obtain ⟨v, w1, w2⟩ := r.val i d q1 h2
    exact ⟨v, by rw [wipe_get, if_neg q2]; exact w1, ((w2.more hp).stay x).less hB⟩
  · obtain ⟨q1, q2⟩ := wipeE_some h1
    obtain ⟨a, xs, w1, w2, w3, w4, w5⟩ := r.own i l q1
    have na := (r.sto.tr a (.inr ⟨i, l, q1, w1⟩)).1
    refine ⟨a, xs, by rw [wipe_get, if_neg q2]; exact w1, x.keep _ _ na w2, ((w3.more hp).stay x).less hB, w4, fun z => ?_⟩
    rcases z with z | z
    · exact w5 z
    · rw [z, hp] at w2; cases w2
  · obtain ⟨q1, q2⟩ := wipeE_some h1
    obtain ⟨q3, q4⟩ := wipeE_some h2
    rw [wipe_get, if_neg q2] at h3
    rw [wipe_get, if_neg q4] at h4
    exact r.inj i j l l' a q1 q3 h3 h4
/-- a target of names of the comprehension's own -/
def SimGW (c : Cn) (vs : List Nat) (g : TG) (fg : FG) : Prop := ∀ (b : Base) (α : List Addr) (H : Hp) (σ : St) (ρ : Env) (δ : Sto) (v : V) (d : D) (Q : St → Hp → Prop), Rel c b α H σ ρ δ → noOwn ρ vs → Rp c α (Bx b.A σ ρ) H v d →
  (∃ ρ', fg d ρ = some ρ' ∧ ∀ σ', Rel c b α H σ' ρ' δ → noOwn ρ' vs → (∀ a, Bx b.A σ' ρ' a ↔ Bx b.A σ ρ a) → wipe σ' vs = wipe σ vs → Q σ' H) → g v σ H Q
def SimGWs (c : Cn) (vs : List Nat) (g : TGs) (fg : FGs) : Prop := ∀ (b : Base) (α : List Addr) (H : Hp) (σ : St) (ρ : Env) (δ : Sto) (v : List V) (d : List D) (Q : St → Hp → Prop), Rel c b α H σ ρ δ → noOwn ρ vs → RpL c α (Bx b.A σ ρ) H v d →
  (∃ ρ', fg d ρ = some ρ' ∧ ∀ σ', Rel c b α H σ' ρ' δ → noOwn ρ' vs → (∀ a, Bx b.A σ' ρ' a ↔ Bx b.A σ ρ a) → wipe σ' vs = wipe σ vs → Q σ' H) → g v σ H Q
theorem simw_name {vs : List Nat} {i : Nat} (hi : i ∈ vs) : SimGW c vs (gName i) (gName' i) := by
  intro b α H σ ρ δ v d Q r n h ⟨ρ', e, k⟩
  cases e
  have hd : ∀ l, some d ≠ some (.own l) := fun l e => by cases e; cases h
  refine k _ (r.put h) (fun j hj l e => ?_) (fun a => ⟨fun z => z.elim .inl fun z => .inr (mutA_set hd z), fun z => z.elim .inl fun ⟨j, l, z1, z2⟩ => .inr ?_⟩) (wipe_set _ hi)
  · by_cases q : i = j
    · subst q
      have z : i < ρ.length := by
        have := (List.getElem?_eq_some_iff.mp e).1
        simpa using this
      rw [List.getElem?_set_self z] at e
      exact hd l (Option.some.inj e)
    · rw [List.getElem?_set_ne q] at e
      exact n j hj l e
  · have q : i ≠ j := fun q => n i hi l (by rw [q]; exact z1)
    exact ⟨j, l, by rw [List.getElem?_set_ne q]; exact z1, by rw [List.getElem?_set_ne q]; exact z2⟩
theorem simw_nil {vs : List Nat} : SimGWs c vs gNil gsNil := by
  intro b α H σ ρ δ v d Q r n h ⟨ρ', e, k⟩
  cases h with
  | nil => cases e; exact ⟨rfl, k σ r n (fun _ => Iff.rfl) rfl⟩
  | cons => cases e
theorem simw_cons {vs : List Nat} {g : TG} {u : TGs} {fg : FG} {fu : FGs} (h1 : SimGW c vs g fg) (h2 : SimGWs c vs u fu) : SimGWs c vs (gCons g u) (gsCons fg fu) := by
  intro b α H σ ρ δ v d Q r n h ⟨ρ', e, k⟩
  cases h with
  | nil => cases e
  | @cons v vs' d ds q1 q2 =>
    unfold gsCons at e
    dsimp only at e
    cases e1 : fg d ρ with
    | none => rw [e1] at e; cases e
    | some ρ1 =>
      rw [e1] at e
      refine ⟨_, _, rfl, h1 b α H σ ρ δ _ _ _ r n q1 ⟨ρ1, e1, fun σ1 r1 n1 hB w1 => ?_⟩⟩
      exact h2 b α H σ1 ρ1 δ _ _ _ r1 n1 (q2.less fun a z => (hB a).mp z) ⟨ρ', e, fun σ' r' n' hB' w' => k σ' r' n' (fun a => (hB' a).trans (hB a)) (w'.trans w1)⟩
theorem simw_tup {vs : List Nat} {n : Nat} {u : TGs} {fu : FGs} (h : SimGWs c vs u fu) : SimGW c vs (gTup c.K n u) (gTup' n fu) := by
  intro b α H σ ρ δ v d Q r m q ⟨ρ', e, k⟩
  cases q with
  | tup q1 q2 q3 q4 =>
    unfold gTup' at e
    dsimp only at e
    split at e
    · rename_i hn
      exact ⟨_, _, rfl, SqT.of q1, by rw [q4.len]; exact hn, h b α H σ ρ δ _ _ _ r m q4 ⟨ρ', e, k⟩⟩
    · cases e
  | _ => cases e
/-- the turns; ρ: with the own names wiped -/
def lcL (g : FG) (t : FT) (e : FE) (ρ : Env) : List D → List D → Sto → Out (List D)
  | [], acc, δ => .ok acc δ
  | d :: r, acc, δ => match g d ρ with
    | none => .stk
    | some ρ1 => match t ρ1 δ with
      | .ok k δ1 => if k = true then (match e ρ1 δ1 with
          | .ok y δ2 => match fzd y with
            | some y' => if acc.length < BIG then lcL g t e ρ r (acc ++ [y']) δ2 else .stk
            | none => .stk
          | _ => .stk) else lcL g t e ρ r acc δ1
      | _ => .stk
def itemsC (d : D) : Option (List D) := match d with
  | .lst l => some l
  | .own l => some l
  | .scr l => some (l.map D.int)
  | _ => none
def eLcL (l : List D) (vs : List Nat) (g : FG) (t : FT) (e : FE) : FE := fun ρ δ => if noOwnB ρ vs = true then (lcL g t e (wipeE ρ vs) l [] δ).bind fun ys δ' => .ok (.own ys) δ' else .stk
def eLc (vs : List Nat) (f : FE) (g : FG) (t : FT) (e : FE) : FE := fun ρ δ => (f ρ δ).bind fun d δ1 => match itemsC (opd ρ d) with
  | some l => eLcL l vs g t e ρ δ1
  | none => .stk
def eLcR1 (vs : List Nat) (f : FA) (g : FG) (t : FT) (e : FE) : FE := fun ρ δ => (f ρ δ).bind fun ds δ1 => match ds with
  | [.int j] => if -(2 ^ 62) ≤ j ∧ j < 2 ^ 62 then eLcL ((List.range j.toNat).map fun i => .int (i : Nat)) vs g t e ρ δ1 else .stk
  | _ => .stk
def eLcR2 (vs : List Nat) (f : FA) (g : FG) (t : FT) (e : FE) : FE := fun ρ δ => (f ρ δ).bind fun ds δ1 => match ds with
  | [.int i, .int j] => if -(2 ^ 62) ≤ i ∧ i < 2 ^ 62 ∧ -(2 ^ 62) ≤ j ∧ j < 2 ^ 62 then eLcL ((List.range (j - i).toNat).map fun k => .int (i + (k : Nat))) vs g t e ρ δ1 else .stk
  | _ => .stk
abbrev Wno : WX := fun _ _ _ _ => False
/-- what holds between the turns -/
def LcInv (c : Cn) (b : Base) (W : WX) (σ : St) (ρ : Env) (α : List Addr) (H : Hp) (p : Addr) (k : D → Sto → List Addr → Hp → Prop) (rest : List D → Sto → Out (List D)) (H' : Hp) : Prop :=
  ∃ α' δ' acc ys, Ext α α' H H' ∧ H' p = some (.lst ys) ∧ RpS c α' (fun a => Bx b.A σ ρ a ∨ a = p) H' δ' ∧ RpL c α' (fun a => Bx b.A σ ρ a ∨ a = p) H' ys acc ∧
    Post c W σ (Bx b.A σ ρ) α H k ((rest acc δ').bind fun ys δ' => .ok (.own ys) δ')
theorem Post.noErr {β : Type} {o : Out β} {kk : β → Sto → List Addr → Hp → Prop} (h : ∃ x δ', o = .ok x δ' ∧ ∀ α' H', Ext α α' H H' → kk x δ' α' H') : Post c Wno σ B α H kk o := by
  obtain ⟨x, δ', rfl, h⟩ := h
  exact h
theorem ext_lst {p : Addr} {ys zs : List V} (s : RpS c α (fun a => B a ∨ a = p) H δ) (h : H p = some (.lst ys)) : RpS c α (fun a => B a ∨ a = p) (upd H p (.lst zs)) δ := s.own h (.inr rfl)
theorem lc_turn {tg : TG} {fg : FG} {te : TE} {fe : FE} {vs : List Nat} {d : Pi.D} {l : List Pi.D} {p : Addr} {k : Pi.D → Sto → List Addr → Hp → Prop} (hg : SimGW c vs tg fg) (ht : SimT c Wno tt ft) (he : SimE c Wno te fe)
    (r : Rel c b α H σ ρ δ) (n : noOwn ρ vs) (hp : H p = none) {v : V} (q : Rp c α (Bx b.A σ ρ) H v d) (N : Hp → Prop) (hN : ∀ H', LcInv c b W σ ρ α H p k (lcL fg ft fe (wipeE ρ vs) l) H' → N H')
    (i : LcInv c b W σ ρ α H p k (lcL fg ft fe (wipeE ρ vs) (d :: l)) H') :
    tg v (wipe σ vs) H' fun σ2 H2 => wipe σ2 vs = wipe σ vs ∧ tt σ2 H2 fun b H3 => if b = true then te σ2 H3 fun y H4 => ∃ acc, H4 p = some (.lst acc) ∧ acc.length < sizeLine ∧ N (upd H4 p (.lst (acc ++ [y]))) else N H3 := by
  obtain ⟨α1, δ1, acc, ys, x1, w1, w2, w3, w4⟩ := i
  have rel := r.comp (vs := vs) n hp x1 w2
  have nw : noOwn (wipeE ρ vs) vs := fun i hi l e => absurd hi (wipeE_some e).2
  have hB : ∀ a, Bx (fun a => b.A a ∨ a = p) (wipe σ vs) (wipeE ρ vs) a ↔ (Bx b.A σ ρ a ∨ a = p) := fun a => by
    constructor
    · rintro ((z | z) | z)
      · exact .inl (.inl z)
      · exact .inr z
      · exact .inl (.inr ((mutA_wipe n a).mp z))
    · rintro ((z | z) | z)
      · exact .inl (.inl z)
      · exact .inr ((mutA_wipe n a).mpr z)
      · exact .inl (.inr z)
  have q1 : Rp c α1 (Bx (fun a => b.A a ∨ a = p) (wipe σ vs) (wipeE ρ vs)) H' v d := ((q.more hp).stay x1).less fun a z => (hB a).mp z
  unfold lcL at w4
  cases e : fg d (wipeE ρ vs) with
  | none => rw [e] at w4; exact w4.elim
  | some ρ1 =>
    rw [e] at w4
    dsimp only at w4
    refine hg _ α1 H' _ _ δ1 v d _ rel nw q1 ⟨ρ1, e, fun σ2 r2 n2 hB2 hw => ⟨hw.trans (wipe_wipe σ vs), ?_⟩⟩
    have toB : ∀ a, (Bx b.A σ ρ a ∨ a = p) → Bx (fun a => b.A a ∨ a = p) σ2 ρ1 a := fun a z => (hB2 a).mpr ((hB a).mpr z)
    have ofB : ∀ a, Bx (fun a => b.A a ∨ a = p) σ2 ρ1 a → (Bx b.A σ ρ a ∨ a = p) := fun a z => (hB a).mp ((hB2 a).mp z)
    refine ht _ α1 H' σ2 ρ1 δ1 _ r2 (Post.noErr ?_)
    cases e1 : ft ρ1 δ1 with
    | err z δ2 => rw [e1] at w4; exact w4.elim
    | stk => rw [e1] at w4; exact w4.elim
    | ok kb δ2 =>
      rw [e1] at w4
      dsimp only at w4
      refine ⟨kb, δ2, rfl, fun α2 H2 x2 s2 => ?_⟩
      have s2' := s2.less toB
      have hp2 : H2 p = some (.lst ys) := x2.keep _ _ (w2.tr p (.inr rfl)).1 w1
      cases kb with
      | false =>
        exact hN H2 ⟨α2, δ2, acc, ys, x1.trans x2, hp2, s2', w3.stay x2, w4⟩
      | true =>
        rw [if_pos rfl] at w4
        rw [if_pos rfl]
        refine he _ α2 H2 σ2 ρ1 δ2 _ (r2.step x2 s2) (Post.noErr ?_)
        cases e2 : fe ρ1 δ2 with
        | err z δ3 => rw [e2] at w4; exact w4.elim
        | stk => rw [e2] at w4; exact w4.elim
        | ok y δ3 =>
          rw [e2] at w4
          dsimp only at w4
          cases e3 : fzd y with
          | none => rw [e3] at w4; exact w4.elim
          | some y' =>
            rw [e3] at w4
            dsimp only at w4
            by_cases hl : acc.length < BIG
            · rw [if_pos hl] at w4
              refine ⟨y, δ3, rfl, fun α3 H3 x3 u ru => ?_⟩
              obtain ⟨s3, q3⟩ := ru.fz s2 e3
              have s3' := s3.less toB
              have hp3 : H3 p = some (.lst ys) := x3.keep _ _ (s2'.tr p (.inr rfl)).1 hp2
              have xm := extM_own (o := .lst (ys ++ [u])) hp3 (s3'.tr p (.inr rfl)).1
              have w3' := (w3.stay x2).stay x3
              refine ⟨ys, hp3, by rw [w3.len]; exact Nat.lt_of_lt_of_le hl (le_line' (Nat.le_refl _)), hN _ ⟨α3, δ3, acc ++ [y'], ys ++ [u], ?_, upd_same, ext_lst s3' hp3, ?_, w4⟩⟩
              · have x := (x1.trans x2).trans x3
                refine ⟨x.pre, fun a o m h => ?_, x.new, fun a o h => ?_⟩
                · rw [upd_ne (ne_of_none h hp)]; exact x.keep a o m h
                · obtain ⟨w, z⟩ := x.there a o h
                  by_cases ea : a = p
                  · subst ea; exact ⟨_, upd_same⟩
                  · exact ⟨w, by rw [upd_ne ea]; exact z⟩
              · exact (w3'.append (.cons (q3.less toB) .nil)).extM xm (fun a z => .inr z) fun a z _ => z
            · rw [if_neg hl] at w4; exact w4.elim
where
  wipe_wipe (σ : St) (vs : List Nat) : wipe (wipe σ vs) vs = wipe σ vs := by
    apply List.ext_getElem?
    intro j
    rw [wipe_get, wipe_get]
    by_cases h : j ∈ vs
    · rw [if_pos h, if_pos h]
      cases σ[j]? <;> rfl
    · rw [if_neg h, if_neg h]
theorem lc_done {p : Addr} {Q : VK} {r : List Pi.D → Sto → Out (List Pi.D)} (hr : ∀ acc δ, r acc δ = .ok acc δ) (hp : H p = none) (x0 : Ext α1 α H1 H) (i : LcInv c b W σ ρ α H p (fun d δ' α' H' => ∀ v, Res c (Bx b.A σ ρ) σ ρ α' H1 H' δ' v d → Q v H') r H') : Q (.ref p) H' := by
  obtain ⟨α', δ', acc, ys, x1, w1, w2, w3, w4⟩ := i
  rw [hr] at w4
  exact w4 α' H' x1 _ ⟨p, ys, rfl, x0.free hp, w1, w2, w3⟩
theorem lc_start {p : Addr} {k : D → Sto → List Addr → Hp → Prop} {r : List D → Sto → Out (List D)} (s : RpS c α (Bx b.A σ ρ) H δ) (hp : H p = none) (h : Post c W σ (Bx b.A σ ρ) α H k ((r [] δ).bind fun ys δ' => .ok (.own ys) δ')) :
    LcInv c b W σ ρ α H p k r (upd H p (.lst [])) := ⟨α, δ, [], [], ext_new hp, upd_same, s.new hp, .nil, h⟩
theorem sim_lc {tg : TG} {fg : FG} {te : TE} {fe : FE} {vs : List Nat} (ha : SimE c W ta f) (hg : SimGW c vs tg fg) (ht : SimT c Wno tt ft) (he : SimE c Wno te fe) : SimE c W (tLc (iList c.K ta) tg tt te vs) (eLc vs f fg ft fe) := by
  intro b α H σ ρ δ Q rel h
  refine ha b α H σ ρ δ _ rel (h.bind.mono fun d δ1 α1 H1 x1 h1 v rv => ?_)
  obtain ⟨s1, q1⟩ := rv.opd rel x1
  have rel1 := rel.step x1 s1
  have main : ∀ (a : Addr) (xs : List V) (l : List D), v = .ref a → SqL c.K H1 a xs → (∀ H', Ext α1 α1 H1 H1 → (∃ α', Ext α1 α' H1 H') → SqL c.K H' a xs) → RpL c α1 (Bx b.A σ ρ) H1 xs l →
      Post c W σ (Bx b.A σ ρ) α1 H1 (fun d δ' α' H' => ∀ v, Res c (Bx b.A σ ρ) σ ρ α' H H' δ' v d → Q v H') (eLcL l vs fg ft fe ρ δ1) → ∃ a, v = .ref a ∧ (∃ xs, SqL c.K H1 a xs) ∧
      ∀ D, H1 D = none → ∃ W : Nat → Nat → Hp → Prop, (∃ m, W 0 m (upd H1 D (.lst []))) ∧ ∀ i m H, W i m H →
        ((Itl c.K a).stop i H ∧ Q (.ref D) H) ∨ ((Itl c.K a).go i H ∧ ∃ Nx : Hp → Prop, (∀ H', Nx H' → ∃ m', m' < m ∧ W (i + 1) m' H') ∧ ∀ x H', (Itl c.K a).yld i H x H' → tg x (wipe σ vs) H' fun σ2 H2 => wipe σ2 vs = wipe σ vs ∧ tt σ2 H2 fun b H3 =>
          if b = true then te σ2 H3 fun y H4 => ∃ acc, H4 D = some (.lst acc) ∧ acc.length < sizeLine ∧ Nx (upd H4 D (.lst (acc ++ [y]))) else Nx H3) := by
    intro a xs l ev hs hst hx h2
    refine ⟨a, ev, ⟨xs, hs⟩, fun p hp => ?_⟩
    unfold eLcL at h2
    split at h2
    · rename_i hno
      have n := noOwn_of hno
      have len := hx.len
      refine lc_list (xs := xs) (Qd := fun H' => Q (.ref p) H') (fun i H' => LcInv c b W σ ρ α1 H1 p (fun d δ' α' H' => ∀ v, Res c (Bx b.A σ ρ) σ ρ α' H H' δ' v d → Q v H') (lcL fg ft fe (wipeE ρ vs) (l.drop i)) H') ?_ ?_ ?_ ?_
      · rw [List.drop_zero]; exact lc_start s1 hp h2
      · rintro i H' _ ⟨α', _, _, _, x, _⟩
        exact hst H' (Ext.refl _ _) ⟨α', x⟩
      · intro i x H' hi inv
        have hil : i < l.length := by rw [← len]; exact (List.getElem?_eq_some_iff.mp hi).1
        have e : l.drop i = l[i] :: l.drop (i + 1) := List.drop_eq_getElem_cons hil
        rw [e] at inv
        obtain ⟨w, z1, z2⟩ := hx.get i l[i] (List.getElem?_eq_getElem hil)
        rw [hi] at z1
        cases z1
        exact lc_turn hg ht he rel1 n hp z2 _ (fun H' z => z) inv
      · intro H' inv
        rw [len, List.drop_length] at inv
        exact lc_done (fun _ _ => rfl) hp x1 inv
    · exact h2.elim
  cases ed : itemsC (opd ρ d) with
  | none => rw [ed] at h1; exact h1.elim
  | some l =>
    rw [ed] at h1
    cases eo : opd ρ d with
    | lst l' =>
      rw [eo] at ed q1
      cases ed
      have q1' : Rp c α1 (Bx b.A σ ρ) H1 v (.lst l) := q1
      cases q1' with
      | @lst a xs _ z1 z2 z3 z4 => exact main a xs l rfl (SqL.of z1) (fun H' _ ⟨α', x⟩ => SqL.of (x.keep _ _ z2 z1)) z4 h1
    | own l' =>
      rw [eo] at ed q1
      cases ed
      obtain ⟨a, xs, rfl, z1, z2, z3⟩ := q1
      exact main a xs l rfl (SqL.of z1) (fun H' _ ⟨α', x⟩ => SqL.of (x.keep _ _ z2 z1)) z3 h1
    | scr l' =>
      rw [eo] at ed q1
      cases ed
      have q1' : Rp c α1 (Bx b.A σ ρ) H1 v (.scr l') := q1
      cases q1' with
      | @scr a _ z =>
        have hs : ∀ H', (∀ o, a ∉ α1 → H1 a = some o → H' a = some o) → SqL c.K H' a (l'.map V.int) := fun H' k => by
          rcases z with ⟨z1, z2, z3⟩ | z
          · rcases z1 with z1 | ⟨o, z1⟩
            · exact .inl (.inl (k _ z2 z1))
            · exact .inl (.inr ⟨o, k _ z2 z1⟩)
          · rcases z with (z | ⟨o, z⟩) | z
            · cases z
            · cases z
            · exact .inr z
        exact main a _ _ rfl (hs H1 fun o _ e => e) (fun H' _ ⟨α', x⟩ => hs H' fun o n e => x.keep _ _ n e) scr_vals h1
    | _ => rw [eo] at ed; cases ed
theorem lc_rng {tg : TG} {fg : FG} {te : TE} {fe : FE} {vs : List Nat} {lo : Int} {m : Nat} {Q : VK} (rel1 : Rel c b α1 H1 σ ρ δ1) (x1 : Ext α α1 H H1) (hg : SimGW c vs tg fg) (ht : SimT c Wno tt ft) (he : SimE c Wno te fe)
    (h2 : Post c W σ (Bx b.A σ ρ) α1 H1 (fun d δ' α' H' => ∀ v, Res c (Bx b.A σ ρ) σ ρ α' H H' δ' v d → Q v H') (eLcL ((List.range m).map fun k => .int (lo + (k : Nat))) vs fg ft fe ρ δ1)) :
    ∀ D, H1 D = none → ∃ W : Nat → Nat → Hp → Prop, (∃ m, W 0 m (upd H1 D (.lst []))) ∧ ∀ i n H, W i n H →
        ((Itr lo m).stop i H ∧ Q (.ref D) H) ∨ ((Itr lo m).go i H ∧ ∃ Nx : Hp → Prop, (∀ H', Nx H' → ∃ m', m' < n ∧ W (i + 1) m' H') ∧ ∀ x H', (Itr lo m).yld i H x H' → tg x (wipe σ vs) H' fun σ2 H2 => wipe σ2 vs = wipe σ vs ∧ tt σ2 H2 fun b H3 =>
          if b = true then te σ2 H3 fun y H4 => ∃ acc, H4 D = some (.lst acc) ∧ acc.length < sizeLine ∧ Nx (upd H4 D (.lst (acc ++ [y]))) else Nx H3) := by
  intro p hp
  unfold eLcL at h2
  split at h2
  · rename_i hno
    have n := noOwn_of hno
    refine lc_range (Qd := fun H' => Q (.ref p) H') (fun i H' => LcInv c b W σ ρ α1 H1 p (fun d δ' α' H' => ∀ v, Res c (Bx b.A σ ρ) σ ρ α' H H' δ' v d → Q v H') (lcL fg ft fe (wipeE ρ vs) (((List.range m).map fun k => Pi.D.int (lo + (k : Nat))).drop i)) H') ?_ ?_ ?_
    · rw [List.drop_zero]; exact lc_start rel1.sto hp h2
    · intro i H' hi inv
      have hil : i < ((List.range m).map fun k => Pi.D.int (lo + (k : Nat))).length := by simpa using hi
      rw [List.drop_eq_getElem_cons hil] at inv
      refine lc_turn hg ht he rel1 n hp ?_ _ (fun H' z => z) inv
      simp only [List.getElem_map, List.getElem_range]
      exact .int _
    · intro H' inv
      rw [List.drop_of_length_le (by simp)] at inv
      exact lc_done (fun _ _ => rfl) hp x1 inv
  · exact h2.elim
theorem sim_lcR1 {tg : TG} {fg : FG} {te : TE} {fe : FE} {vs : List Nat} (ha : SimO c W t fa) (hg : SimGW c vs tg fg) (ht : SimT c Wno tt ft) (he : SimE c Wno te fe) : SimE c W (tLc (iRng1 t) tg tt te vs) (eLcR1 vs fa fg ft fe) := by
  intro b α H σ ρ δ Q rel h
  refine ha b α H σ ρ δ _ rel (h.bind.mono fun ds δ1 α1 H1 x1 h1 us s1 q1 => ?_)
  split at h1
  · rename_i j
    split at h1
    · rename_i hj
      obtain ⟨v, rfl, r⟩ := q1.one
      have := r.int; subst this
      refine ⟨j, rfl, hj.1, hj.2, lc_rng (W := W) (lo := 0) (rel.step x1 s1) x1 hg ht he ?_⟩
      have e : (fun k : Nat => Pi.D.int (0 + (k : Nat))) = fun i : Nat => Pi.D.int (i : Nat) := by funext k; rw [Int.zero_add]
      rw [e]
      exact h1
    · exact h1.elim
  · exact h1.elim
theorem sim_lcR2 {tg : TG} {fg : FG} {te : TE} {fe : FE} {vs : List Nat} (ha : SimO c W t fa) (hg : SimGW c vs tg fg) (ht : SimT c Wno tt ft) (he : SimE c Wno te fe) : SimE c W (tLc (iRng2 t) tg tt te vs) (eLcR2 vs fa fg ft fe) := by
  intro b α H σ ρ δ Q rel h
  refine ha b α H σ ρ δ _ rel (h.bind.mono fun ds δ1 α1 H1 x1 h1 us s1 q1 => ?_)
  split at h1
  · rename_i i j
    split at h1
    · rename_i hj
      obtain ⟨v, w, rfl, r1, r2⟩ := q1.two
      have := r1.int; have := r2.int; subst_vars
      exact ⟨i, j, rfl, hj, lc_rng (W := W) (rel.step x1 s1) x1 hg ht he h1⟩
    · exact h1.elim
  · exact h1.elim
def tYesF : FT := fun _ δ => .ok true δ
theorem sim_yes : SimT c W tYes tYesF := fun b α H σ ρ δ Q r h => h α H (Ext.refl _ _) r.sto

/-! ### split, join -/
def eM1 (k : D → D → Sto → Out D) (f g : FE) : FE := fun ρ δ => (f ρ δ).bind fun d δ1 => match d with
  | .str x => (g ρ δ1).bind fun e δ2 => k (.str x) (opd ρ e) δ2
  | _ => .stk
theorem sim_m1 {r : V → List V → Hp → VK → Prop} {k : D → D → Sto → Out D} (ho : OpS2 c (fun x y H Q => r x [y] H Q) k) (ha : SimE c W ta f) (hb : SimE c W tb g) : SimE c W (tM1 r ta tb) (eM1 k f g) := by
  intro b α H σ ρ δ Q rel h
  refine ha b α H σ ρ δ _ rel (h.bind.mono fun d δ1 α1 H1 x1 h1 v rv => ?_)
  split at h1
  · rename_i x
    obtain ⟨s1, q1⟩ := rv
    have rel1 := rel.step x1 s1
    have ev := q1.q.str
    subst ev
    refine ⟨⟨x, rfl⟩, hb b α1 H1 σ ρ δ1 _ rel1 (h1.bind.mono fun e δ2 α2 H2 x2 h2 u ru => ?_)⟩
    obtain ⟨s2, q2⟩ := ru.opd rel1 x2
    exact ho W σ _ α2 H2 δ2 Q _ u _ _ s2 (Rp.q (.str x)) q2 (h2.mono fun d' δ3 α3 H3 x3 h3 v' r3 => h3 v' (res_of ((r3.back x2).back x1)))
  · exact h1.elim
def kSplit (d e : D) (δ : Sto) : Out D := match d, e with
  | .str a, .str b => if (b.length == 0) = false ∧ a.length ≤ 1000 then .ok (.own ((Txt.split a b).map .str)) δ else .stk
  | _, _ => .stk
theorem strs_rp : ∀ (ys : List Str), RpL c α B H (ys.map V.str) (ys.map D.str)
  | [] => .nil
  | y :: ys => .cons (.str y) (strs_rp ys)
theorem ops_split : OpS2 c (fun x y H Q => ∃ a b, x = .str a ∧ [y] = [.str b] ∧ (b.length == 0) = false ∧ a.length + 2 ≤ sizeLine ∧ rNewStrs (Txt.split a b) H Q) kSplit := by
  intro W σ B α H δ Q v u d e s rv ru h
  unfold kSplit at h
  split at h
  · rename_i a b
    have := rv.str; have := ru.str; subst_vars
    split at h
    · rename_i hl
      exact ⟨a, b, rfl, rfl, hl.1, le_line' (by omega), fun p hp => fin_own s h hp (strs_rp _)⟩
    · exact h.elim
  · exact h.elim
def strsD : List D → Option (List Str)
  | [] => some []
  | .str x :: r => (strsD r).map (x :: ·)
  | _ :: _ => none
theorem strsD_ok : ∀ {l : List D} {ns : List Str} {vs : List V}, RpL c α B H vs l → strsD l = some ns → vs = ns.map V.str
  | [], _, _, h, e => by cases h; cases e; rfl
  | d :: r, ns, _, .cons h1 h2, e => by
    cases d with
    | str i =>
      unfold strsD at e
      cases e2 : strsD r with
      | none => rw [e2] at e; cases e
      | some ms =>
        rw [e2] at e
        cases e
        cases h1
        rw [strsD_ok h2 e2]
        rfl
    | _ => cases e
def kJoin (d e : D) (δ : Sto) : Out D := match d with
  | .str a => match asL e δ with
    | some l => match strsD l with
      | some ys => if (ys.map (·.length)).sum + ys.length * a.length ≤ BIG then .ok (.str (Txt.join a ys)) δ else .stk
      | none => .stk
    | none => .stk
  | _ => .stk
theorem ops_join : OpS2 c (fun x y H Q => ∃ a p, ∃ ys : List Str, x = .str a ∧ [y] = [.ref p] ∧ (SqL c.K H p (ys.map V.str) ∨ SqT c.K H p (ys.map V.str)) ∧ (ys.map (·.length)).sum + ys.length * a.length ≤ 16777216 ∧ Q (.str (Txt.join a ys)) H) kJoin := by
  intro W σ B α H δ Q v u d e s rv ru h
  unfold kJoin at h
  split at h
  · rename_i a
    have := rv.str; subst this
    split at h
    · rename_i l el
      split at h
      · rename_i ys ey
        split at h
        · rename_i hl
          obtain ⟨p, xs, rfl, q1, q2⟩ := asL_ok s ru el
          refine ⟨a, p, ys, rfl, rfl, .inl (SqL.of (by rw [← strsD_ok q2 ey]; exact q1)), Nat.le_trans hl (by decide), fin_val s h (.str _)⟩
        · exact h.elim
      · exact h.elim
    · exact h.elim
  · exact h.elim
end
end Pi
namespace Pi
open PySem L2
/-! ### defs by their names -/
section
variable {P : Program} {w : World} {K : PySem.W.Frag} {mg : Str → Option Value} {base : Heap} {c : Cn}
/-- a def of the top stands at its name -/
structure FunAt (K : PySem.W.Frag) (mg : Str → Option Value) (x : Str) (st : Stmt) (ps : List Str) : Prop where
  ex : ∃ f fd, mg x = some (.ref f) ∧ Fun K x x st f fd ∧ Binds K fd ps []
/-- .. keeps its promise -/
structure DefOk (P : Program) (w : World) (K : PySem.W.Frag) (mg : Str → Option Value) (base : Heap) (x : Str) (k : Nat) (ps : List Str) (sp : Sp) : Prop where
  ex : ∃ f fd, mg x = some (.ref f) ∧ PySem.W.keepIn K (.ref f) = true ∧ Binds K fd ps [] ∧ FnOk P w K mg base (L2.CX P w) k f fd ps sp
theorem FunAt.ok {x : Str} {st : Stmt} {ps N : List Str} {k np : Nat} {F : List D → Sto → Out D} (A : FunAt K mg x st ps) (S : FnScope N ps (defScope st)) (hn : ps.length = np)
    (hb : ∀ (f : Addr) (cdv : Value) (A : Around) (outer : List PySem.Env) (s : Shared) (H : Hp) (vs : List V) (Q : VK) (E : XK), Room k (A.deeper (PyProof.Rows.envOfC x (defScope st) s.heap.objs.size f cdv)) → SpF c np F vs H Q E →
      ∃ t, PSs (cxOf (L2.CX P w) P w K mg base N x (defScope st) f cdv A outer s H E) (defBody st) t ∧ t { nx := fun _ H' => Q .non H', rt := Q } (L2.start N vs) H) : DefOk P w K mg base x (k + 1) ps (SpF c np F) := by
  obtain ⟨f, fd, h1, h2, h3⟩ := A.ex
  exact ⟨f, fd, h1, h2.kp, h3, h2.okX S (fun vs H Q E h => by rw [h.len, hn]) fun cdv A outer s H vs Q E hr h => hb f cdv A outer s H vs Q E hr h⟩
theorem FnOk.never {k : Nat} {f : Addr} {fd : FuncData} {ps : List Str} {sp : Sp} (h : ∀ vs H Q E, ¬ sp vs H Q E) : FnOk P w K mg base (L2.CX P w) k f fd ps sp :=
  ⟨fun vs H Q E q => (h vs H Q E q).elim, fun A outer s H args us vs Q E _ _ _ _ q => (h vs H Q E q).elim⟩
/-- the meaning of no fuel -/
def noF : List D → Sto → Out D := fun _ _ => .stk
theorem spF_no {n : Nat} {vs : List V} {H : Hp} {Q : VK} {E : XK} : ¬ SpF c n noF vs H Q E := fun ⟨_, _, _, _, _, _, _, p⟩ => p
theorem FunAt.no {x : Str} {st : Stmt} {ps : List Str} {k np : Nat} (A : FunAt K mg x st ps) : DefOk P w K mg base x k ps (SpF c np noF) := by
  obtain ⟨f, fd, h1, h2, h3⟩ := A.ex
  exact ⟨f, fd, h1, h2.kp, h3, FnOk.never fun _ _ _ _ => spF_no⟩
theorem DefOk.mono {x : Str} {j k : Nat} {ps : List Str} {sp : Sp} (d : DefOk P w K mg base x j ps sp) (h : j ≤ k) : DefOk P w K mg base x k ps sp := by
  obtain ⟨f, fd, h1, h2, h3, h4⟩ := d.ex
  exact ⟨f, fd, h1, h2, h3, h4.mono h⟩
end
section
variable {X : Cx} {W : WX} {sp : Sp} {k : Nat} {ps : List Str} {x : Str} {p pos : Pos} {e : Expr} {es : List Expr} {t : TA}
theorem pe_def (d : DefOk X.prog X.w X.K X.mg X.base x k ps sp) (hr : Room k X.A) (hg : Gl X x) (tk : Takes X W) (ha : PA X (e :: es) t) (hdb : (x == ("__debug__" : Str)) = false := by decide)
    (h1 : starEach (e :: es) X.env = (false, eval e X.env) :: starEach es X.env := by rfl) (h2 : (backTo pos (starEach es X.env)).any (·.1) = false := by rfl) : PE X (.Call (.Name x p) (e :: es) [] pos) (tCallS sp (WE W) t) := by
  obtain ⟨f, fd, q1, q2, q3, q4⟩ := d.ex
  exact pe_callS q4 hr hg q1 q2 q3 (fun σ => passAt tk σ) ha hdb h1 h2
theorem pe_def0 (d : DefOk X.prog X.w X.K X.mg X.base x k ps sp) (hr : Room k X.A) (hg : Gl X x) (tk : Takes X W) (hdb : (x == ("__debug__" : Str)) = false := by decide) : PE X (.Call (.Name x p) [] [] pos) (tCallS sp (WE W) tNil) := by
  obtain ⟨f, fd, q1, q2, q3, q4⟩ := d.ex
  exact pe_call0S q4 hr hg q1 q2 q3 (fun σ => passAt tk σ) hdb
/-- a constant of the module -/
theorem pe_const {v : V} (h : ∃ u, X.mg x = some u ∧ RelV v u) (hg : Gl X x) (hd : (x == ("__debug__" : Str)) = false := by decide) : PE X (.Name x pos) (tC v) := by
  obtain ⟨u, h1, h2⟩ := h
  exact pe_glob hg h1 h2 hd
end
/-! ### own exceptions by their names -/
structure ExcOk (K : PySem.W.Frag) (mg : Str → Option Value) (C : Addr) (nm : Str) : Prop where
  x : PySem.W.excIn K C [.type "ValueError", .type "Exception", .type "BaseException", .type "object"] "ValueError.__new__" = true
  g : mg nm = some (.ref C)
  k : PySem.W.keepIn K (.ref C) = true
  b : PySem.W.subIn K (.ref C) (.type "BaseException") = some true
  t : PySem.W.typeIn K (.ref C) = some (.type "type")
theorem ps_err {X : Cx} {W : WX} {x m : Str} {C : Addr} {j : Nat} {p p2 pos pos2 : Pos} (hc : X.calm = true) (tk : Takes X W) (h : ExcOk X.K X.mg C x) (hg : Gl X x) (hd : (x == ("__debug__" : Str)) = false := by decide) :
    PS X (.Raise (some (.Call (.Name x p) [.Constant (.str m) j p2] [] pos)) none pos2) (fun _ σ H => W (.ref C) none σ H) :=
  ps_raise hc tk (pmk_own PySem.F.excBase_ValueError h.x h.g h.k (raises_own h.b h.t) hg hd)
/-! ### the end -/
def spLaw (K : PySem.W.Frag) : Sp := fun vs H Q _ => ∃ (a : Addr) (ns : List Int), vs = [.ref a] ∧ SqL K H a (ns.map V.int) ∧ ns.length ≤ 63 ∧ ∀ H', Q (.bl true) H'
theorem sp_law {c : Cn} {F : List D → Sto → Out D} (h : ∀ ns : List Int, ns.length ≤ 63 → ∃ δ, F [.scr ns] [] = .ok (.bl true) δ) {vs : List V} {H : Hp} {Q : VK} {E : XK} (s : spLaw c.K vs H Q E) : SpF c 1 F vs H Q E := by
  obtain ⟨a, ns, rfl, hs, hl, k⟩ := s
  obtain ⟨δ, e⟩ := h ns hl
  refine ⟨[], fun _ => False, [.scr ns], [], rfl, ⟨rfl, List.nodup_nil, fun _ z => z.elim, fun n a o z => by simp at z⟩, .cons (.scr ?_) .nil, ?_⟩
  · rcases hs with hs | hs
    · exact .inl ⟨hs, by simp, fun z => z⟩
    · exact .inr (.inr hs)
  · rw [e]
    intro α' H' _ v r
    obtain ⟨_, r⟩ := r
    cases r
    exact k H'
theorem cx_end {P : Program} {w : World} {H : Hp} {s : Shared} {e : Value} {s' : Shared} (h : L2.CX P w [] H s (fun _ _ _ => False) e s') : False := by
  obtain ⟨_, _, _, _, _, _, _, _, _, _, _, _, z⟩ := h
  exact z
end Pi
namespace Pi
open PySem L2
section
variable {c : Cn} {b : Base} {α α' α1 α2 : List Addr} {A B B' M : Addr → Prop} {H H' H1 H2 : Hp} {σ σ' : St} {ρ ρ' : Env} {δ δ' δ1 : Sto}
variable {W : WX} {ta tb tc : TE} {t u : TA} {tt tt' : TT} {f g h : FE} {fa ga : FA} {ft gt : FT}
def kPow : D → D → Sto → Out D := kII (fun i j => decide (0 ≤ j ∧ j ≤ 1000000 ∧ i.natAbs < 2 ^ 64)) fun i j => .int (i ^ j.toNat)
theorem ops_pow : OpS2 c (rI CPow fun i j => .int (i ^ j.toNat)) kPow := op_ii (fun i j h => show 0 ≤ j ∧ j ≤ 1000000 ∧ i.natAbs < 2 ^ 64 from of_decide_eq_true h) fun i j _ _ _ => .int _
/-! ### a < b < c -/
def eChain (k k' : D → D → Sto → Out D) (f g h : FE) : FE := fun ρ δ => (f ρ δ).bind fun d δ1 => (g ρ δ1).bind fun e δ2 => (k (opd ρ d) (opd ρ e) δ2).bind fun r δ3 => match r with
  | .bl true => (h ρ δ3).bind fun x δ4 => k' (opd ρ e) (opd ρ x) δ4
  | .bl false => .ok (.bl false) δ3
  | _ => .stk
theorem sim_chain {r r' : R2} {k k' : D → D → Sto → Out D} (ho : OpS2 c r k) (ho' : OpS2 c r' k') (ha : SimE c W ta f) (hb : SimE c W tb g) (hc : SimE c W tc h) : SimE c W (tChain r r' ta tb tc) (eChain k k' f g h) := by
  intro b α H σ ρ δ Q rel h0
  refine ha b α H σ ρ δ _ rel (h0.bind.mono fun d δ1 α1 H1 x1 h1 v rv => ?_)
  obtain ⟨s1, q1⟩ := rv.opd rel x1
  have rel1 := rel.step x1 s1
  refine hb b α1 H1 σ ρ δ1 _ rel1 (h1.bind.mono fun e δ2 α2 H2 x2 h2 u ru => ?_)
  obtain ⟨s2, q2⟩ := ru.opd rel1 x2
  have rel2 := rel1.step x2 s2
  refine ho W σ _ α2 H2 δ2 _ v u _ _ s2 (q1.stay x2) q2 (h2.bind.mono fun d' δ3 α3 H3 x3 h3 v' r3 => ?_)
  split at h3
  · obtain ⟨s3, q3⟩ := r3
    cases q3
    refine ⟨true, rfl, ?_⟩
    rw [if_pos rfl]
    have rel3 := rel2.step x3 s3
    refine hc b α3 H3 σ ρ δ3 _ rel3 (h3.bind.mono fun x δ4 α4 H4 x4 h4 w rw' => ?_)
    obtain ⟨s4, q4⟩ := rw'.opd rel3 x4
    refine ho' W σ _ α4 H4 δ4 Q u w _ _ s4 ((q2.stay x3).stay x4) q4 (h4.mono fun d'' δ5 α5 H5 x5 h5 v'' r5 => h5 v'' (res_of ?_))
    exact ResV.back x1 (ResV.back x2 (ResV.back x3 (ResV.back x4 r5)))
  · obtain ⟨s3, q3⟩ := r3
    cases q3
    refine ⟨false, rfl, ?_⟩
    rw [if_neg Bool.false_ne_true]
    exact h3 α3 H3 (Ext.refl _ _) _ ⟨s3, .bl _⟩
  · exact h3.elim
/-! ### pairs (int, text): <, min -/
def asIS : D → Option (Int × Str)
  | .tup [.int i, .str x] => some (i, x)
  | _ => none
theorem asIS_eq {d : D} {p : Int × Str} (e : asIS d = some p) : d = .tup [.int p.1, .str p.2] := by
  unfold asIS at e
  split at e
  · cases e; rfl
  · cases e
theorem asIS_ok {v : V} {p : Int × Str} (h : RpQ c α B H v (.tup [.int p.1, .str p.2])) : ∃ a, v = .ref a ∧ H a = some (.tup [.int p.1, .str p.2]) := by
  cases h with
  | tup h1 h2 h3 h4 =>
    cases h4 with
    | cons a1 a2 =>
      cases a2 with
      | cons b1 b2 =>
        cases b2
        cases a1
        cases b1
        exact ⟨_, rfl, h1⟩
def ltP (p q : Int × Str) : Bool := PySem.W.DatumOrd.lt p q
theorem holds_IS {X : Cx} {pins : List (Addr × Obj)} {s : Shared} {p : Int × Str} {a : Addr} (I : Inv X pins σ H s) (h : H a = some (.tup [.int p.1, .str p.2])) : PySem.W.Holds s.heap (.ref a) p := by
  obtain ⟨its, r, pl, _⟩ := I.tuple (SqT.of (K := X.K) h)
  obtain ⟨u, w, rfl, r1, r2⟩ := vals2 r
  obtain ⟨t1, rfl⟩ := r1
  obtain ⟨t2, rfl⟩ := r2
  obtain ⟨o, e1, e2, n, e3⟩ := pl
  exact PySem.W.holds_pair (x := p.1) (y := p.2) ⟨o, e1, e2, n, e3⟩ (PySem.W.holds_int _ _) (PySem.W.holds_str _ _)
def rLtP : R2 := fun x y H Q => ∃ (a b : Addr) (p q : Int × Str), x = .ref a ∧ y = .ref b ∧ H a = some (.tup [.int p.1, .str p.2]) ∧ H b = some (.tup [.int q.1, .str q.2]) ∧ Q (.bl (ltP p q)) H
theorem op_ltP {X : Cx} (hu : X.A.units + 64 < cLine) : OpR X (compareOp .Lt) rLtP := by
  intro pins s σ H x y v u Q I rx ry h
  obtain ⟨a, b, p, q, rfl, rfl, h1, h2, k⟩ := h
  cases rx
  cases ry
  refine PySem.W.lt_datum (holds_IS I h1) (holds_IS I h2) ?_ ⟨.bl _, H, I, rfl, k⟩
  show X.A.units + (max 0 0 + 1) < cLine
  omega
def rLtU : R2 := fun x y H Q => rI0 (fun i j => .bl (decide (i < j))) x y H Q ∨ rLtP x y H Q
theorem op_ltU {X : Cx} (hu : X.A.units + 64 < cLine) : OpR X (compareOp .Lt) rLtU := op_lt.or (op_ltP hu)
def kLtU (d e : D) (δ : Sto) : Out D := match d, e with
  | .int i, .int j => .ok (.bl (decide (i < j))) δ
  | d, e => match asIS d, asIS e with
    | some p, some q => .ok (.bl (ltP p q)) δ
    | _, _ => .stk
theorem ops_ltU : OpS2 c rLtU kLtU := by
  intro W σ B α H δ Q v u d e s rv ru h
  unfold kLtU at h
  split at h
  · have := rv.int; subst this
    have := ru.int; subst this
    exact .inl ⟨_, _, rfl, rfl, fin_val s h (.bl _)⟩
  · split at h
    · rename_i p q e1 e2
      have := asIS_eq e1; subst this
      have := asIS_eq e2; subst this
      obtain ⟨a, rfl, h1⟩ := asIS_ok rv
      obtain ⟨b, rfl, h2⟩ := asIS_ok ru
      exact .inr ⟨a, b, p, q, rfl, rfl, h1, h2, fin_val s h (.bl _)⟩
    · exact h.elim
def minP (p : Int × Str) (ps : List (Int × Str)) : Int × Str := PySem.W.minOf p ps
/-- min(xs) -/
def rMinP (K : PySem.W.Frag) : List V → Hp → VK → Prop := fun vs H Q => ∃ (a : Addr) (as : List Addr) (p : Int × Str) (ps : List (Int × Str)), vs = [.ref a] ∧ SqL K H a (as.map V.ref) ∧ as.length = ps.length + 1 ∧
  (∀ (i : Nat) (b : Addr) (q : Int × Str), as[i]? = some b → (p :: ps)[i]? = some q → H b = some (.tup [.int q.1, .str q.2])) ∧ ∀ b, H b = some (.tup [.int (minP p ps).1, .str (minP p ps).2]) → b ∈ as → Q (.ref b) H
theorem holdAll_IS {X : Cx} {pins : List (Addr × Obj)} {s : Shared} (I : Inv X pins σ H s) : ∀ (as : List Addr) (ps : List (Int × Str)) (us : List Value), Vals (as.map V.ref) us → as.length = ps.length →
    (∀ (i : Nat) (b : Addr) (q : Int × Str), as[i]? = some b → ps[i]? = some q → H b = some (.tup [.int q.1, .str q.2])) → PySem.W.HoldAll s.heap us ps
  | [], [], us, r, _, _ => by cases r; exact PySem.W.HoldAll.nil
  | a :: as, p :: ps, us, r, e, k => by
    cases r with
    | cons h t =>
      cases h
      exact .cons (holds_IS I (k 0 a p rfl rfl)) (holdAll_IS I as ps _ t (by simpa using e) fun i b q h1 h2 => k (i + 1) b q h1 h2)
  | [], _ :: _, _, _, e, _ => by simp at e
  | _ :: _, [], _, _, e, _ => by simp at e
theorem holds_uniq {h : Heap} {v : Value} {p q : Int × Str} (h1 : PySem.W.Holds h v p) (h2 : PySem.W.Holds h v q) : p = q := by
  obtain ⟨_, h1⟩ := h1
  obtain ⟨_, h2⟩ := h2
  obtain ⟨p1, p2⟩ := p
  obtain ⟨q1, q2⟩ := q
  change Reads h v (.tuple [.int p1, .str p2]) _ at h1
  change Reads h v (.tuple [.int q1, .str q2]) _ at h2
  cases h1 with
  | tuple e1 e2 e3 e4 =>
    cases h2 with
    | tuple f1 f2 f3 f4 =>
      rw [e1] at f1
      cases f1
      rw [e3] at f3
      cases f3
      revert e4 f4
      generalize Array.toList _ = l
      intro e4 f4
      cases e4 with
      | cons a1 a2 =>
        cases a2 with
        | cons b1 b2 =>
          cases f4 with
          | cons c1 c2 =>
            cases c2 with
            | cons d1 d2 =>
              cases a1
              cases b1
              cases c1
              cases d1
              rfl
theorem refs_at' : ∀ {ps : List Addr} {us : List Value}, Vals (ps.map V.ref) us → us = ps.map Value.ref
  | [], _, .nil => rfl
  | p :: ps, _, .cons h t => by rw [refs_at' t]; cases h; rfl
theorem cr_minP {X : Cx} (hc : X.calm = true) (hu : X.A.units + 64 < cLine) : CallR X (.builtin "min") (rMinP X.K) := by
  intro pins s σ H vs us Q I r h
  obtain ⟨a, as, p, ps, rfl, hs, hl, hp, q⟩ := h
  obtain ⟨its, rv, pl, hz⟩ := I.list hs
  rw [Vals.ref1 r]
  have ha := holdAll_IS I as (p :: ps) its rv (by simpa using hl) hp
  refine PySem.W.min_list_datum (x := p) (xs := ps) (I.ok.hd hc) pl.isList ha ?_ fun i v h' tk hi hv hk => ?_
  · show X.A.units + 1 + (max 0 0 + 1) < cLine
    omega
  · have e := refs_at' rv
    subst e
    simp only [List.getElem?_toArray, List.getElem?_map] at hi
    cases e1 : as[i]? with
    | none => rw [e1] at hi; cases hi
    | some b =>
      rw [e1] at hi
      cases hi
      have lt : i < (p :: ps).length := by rw [List.length_cons, ← hl]; exact (List.getElem?_eq_some_iff.mp e1).1
      have k1 := hp i b _ e1 (List.getElem?_eq_getElem lt)
      have k2 := (holds_IS I k1).keeps hk
      have k3 := holds_uniq hv k2
      have k4 : minP p ps = (p :: ps)[i] := k3
      exact ⟨.ref b, H, I.kept hk, rfl, q b (by rw [k4]; exact k1) (List.mem_of_getElem? e1)⟩
def pairsD : List D → Option (List (Int × Str))
  | [] => some []
  | d :: r => match asIS d, pairsD r with
    | some p, some ps => some (p :: ps)
    | _, _ => none
theorem pairsD_ok : ∀ {l : List D} {ps : List (Int × Str)} {vs : List V}, RpL c α B H vs l → pairsD l = some ps → ∃ as : List Addr, vs = as.map V.ref ∧ as.length = ps.length ∧ l = ps.map (fun p => D.tup [.int p.1, .str p.2]) ∧
    ∀ (i : Nat) (b : Addr) (q : Int × Str), as[i]? = some b → ps[i]? = some q → H b = some (.tup [.int q.1, .str q.2])
  | [], _, _, .nil, e => by cases e; exact ⟨[], rfl, rfl, rfl, fun i b q z => by simp at z⟩
  | d :: r, ps, _, .cons h1 h2, e => by
    unfold pairsD at e
    cases e1 : asIS d with
    | none => rw [e1] at e; cases e
    | some p =>
      cases e2 : pairsD r with
      | none => rw [e1, e2] at e; cases e
      | some qs =>
        rw [e1, e2] at e
        cases e
        obtain ⟨as, rfl, k1, k2, k3⟩ := pairsD_ok h2 e2
        have := asIS_eq e1; subst this
        obtain ⟨a, rfl, k4⟩ := asIS_ok h1.q
        refine ⟨a :: as, rfl, by simp [k1], by rw [k2]; rfl, fun i b q z1 z2 => ?_⟩
        cases i with
        | zero => cases z1; cases z2; exact k4
        | succ i => exact k3 i b q z1 z2
def kMin (ds : List D) (δ : Sto) : Out D := match ds with
  | [d] => match asL d δ with
    | some l => match pairsD l with
      | some (p :: ps) => .ok (.tup [.int (minP p ps).1, .str (minP p ps).2]) δ
      | _ => .stk
    | none => .stk
  | _ => .stk
theorem minP_mem (p : Int × Str) (ps : List (Int × Str)) : minP p ps ∈ p :: ps := by
  unfold minP PySem.W.minOf
  induction ps generalizing p with
  | nil => simp
  | cons q qs ih =>
    rw [List.foldl_cons]
    split
    · exact List.mem_cons_of_mem _ (ih q)
    · rcases List.mem_cons.mp (ih p) with z | z
      · rw [z]; exact List.mem_cons_self
      · exact List.mem_cons_of_mem _ (List.mem_cons_of_mem _ z)
theorem RpL.mem {vs : List V} {ds : List D} (h : RpL c α B H vs ds) {v : V} (hv : v ∈ vs) : ∃ d, d ∈ ds ∧ Rp c α B H v d := by
  induction vs generalizing ds with
  | nil => cases hv
  | cons x xs ih =>
    cases h with
    | cons h1 h2 =>
      rcases List.mem_cons.mp hv with z | z
      · subst z; exact ⟨_, List.mem_cons_self, h1⟩
      · obtain ⟨d, q1, q2⟩ := ih h2 z
        exact ⟨d, List.mem_cons_of_mem _ q1, q2⟩
theorem ops_min : OpSL c (rMinP c.K) kMin := by
  intro W σ B α H δ Q vs ds s rs h
  unfold kMin at h
  split at h
  · rename_i d
    obtain ⟨v, rfl, r⟩ := rs.one
    split at h
    · rename_i l e1
      split at h
      · rename_i p ps e2
        obtain ⟨a, xs, rfl, q1, q2⟩ := asL_ok s r e1
        obtain ⟨as, rfl, k1, k2, k3⟩ := pairsD_ok q2 e2
        refine ⟨a, as, p, ps, rfl, SqL.of q1, by simpa using k1, k3, fun b hb hm => fin_val s h ?_⟩
        obtain ⟨d', m1, m2⟩ := q2.mem (List.mem_map_of_mem (f := V.ref) hm)
        rw [k2] at m1
        obtain ⟨q, _, rfl⟩ := List.mem_map.mp m1
        obtain ⟨b', eb, k4⟩ := asIS_ok m2.q
        cases eb
        rw [hb] at k4
        have : minP p ps = q := by
          injection k4 with k4
          injection k4 with k4
          injection k4 with k5 k6
          injection k5 with k5
          injection k6 with k6
          injection k6 with k6
          exact Prod.ext k5 k6
        rw [this]
        exact m2
      · exact h.elim
    · exact h.elim
  · exact h.elim
/-! ### tuple(xs) -/
def kTupOf (ds : List D) (δ : Sto) : Out D := match ds with
  | [.tup l] => .ok (.tup l) δ
  | [d] => match asL d δ with
    | some l => .ok (.tup l) δ
    | none => .stk
  | _ => .stk
theorem ops_tupOf : OpSL c (fun xs H Q => ∃ p ys, xs = [.ref p] ∧ ((SqL c.K H p ys ∧ ∀ l, H l = none → Q (.ref l) (upd H l (.tup ys))) ∨ (SqT c.K H p ys ∧ Q (.ref p) H))) kTupOf := by
  intro W σ B α H δ Q vs ds s rs h
  unfold kTupOf at h
  split at h
  · rename_i l
    obtain ⟨v, rfl, r⟩ := rs.one
    have r' : Rp c α B H v (.tup l) := r
    cases r' with
    | tup h1 h2 h3 h4 => exact ⟨_, _, rfl, .inr ⟨SqT.of h1, fin_val s h (.tup h1 h2 h3 h4)⟩⟩
  · rename_i d _
    obtain ⟨v, rfl, r⟩ := rs.one
    split at h
    · rename_i l e1
      obtain ⟨a, xs, rfl, q1, q2⟩ := asL_ok s r e1
      exact ⟨a, xs, rfl, .inl ⟨SqL.of q1, fun p hp => fin_tup s h hp q2⟩⟩
    · exact h.elim
  · exact h.elim
/-! ### xs[::-1] -/
def eRev (f : FE) : FE := fun ρ δ => (f ρ δ).bind fun d δ1 => match asL (opd ρ d) δ1 with
  | some l => .ok (.own l.reverse) δ1
  | none => .stk
theorem sim_rev (ha : SimE c W ta f) : SimE c W (tRevL c.K ta) (eRev f) := by
  intro b α H σ ρ δ Q rel h0
  refine ha b α H σ ρ δ _ rel (h0.bind.mono fun d δ1 α1 H1 x1 h1 v rv => ?_)
  obtain ⟨s1, q1⟩ := rv.opd rel x1
  split at h1
  · rename_i l e1
    obtain ⟨a, xs, rfl, w1, w2⟩ := asL_ok s1 q1 e1
    refine ⟨a, xs, rfl, SqL.of w1, fun p hp => ?_⟩
    have h2 : Post c W σ (Bx b.A σ ρ) α1 H1 (fun d' δ' α' H' => ∀ v', ResV c (Bx b.A σ ρ) α' H1 H' δ' v' d' → Q v' H') (.ok (.own l.reverse) δ1) := fun α' H' x' v' r2 => h1 α' H' x' v' (res_of (ResV.back x1 r2))
    exact fin_own s1 h2 hp w2.reverse
  · exact h1.elim
/-! ### dicts -/
def keyD : D → Option Key
  | .int i => some (.inl i)
  | .str x => some (.inr x)
  | _ => none
theorem keyD_ok {v : V} {d : D} {k : Key} (h : RpQ c α B H v d) (e : keyD d = some k) : v = kV k := by
  cases d with
  | int i => cases e; exact h.int
  | str x => cases e; exact h.str
  | _ => cases e
def keysD : List D → Option (List Key)
  | [] => some []
  | d :: r => match keyD d, keysD r with
    | some k, some ks => some (k :: ks)
    | _, _ => none
theorem keysD_ok : ∀ {l : List D} {ks : List Key} {vs : List V}, RpL c α B H vs l → keysD l = some ks → vs = ks.map kV
  | [], _, _, .nil, e => by cases e; rfl
  | d :: r, ks, _, .cons h1 h2, e => by
    unfold keysD at e
    cases e1 : keyD d with
    | none => rw [e1] at e; cases e
    | some k =>
      cases e2 : keysD r with
      | none => rw [e1, e2] at e; cases e
      | some js =>
        rw [e1, e2] at e
        cases e
        rw [keyD_ok h1.q e1, keysD_ok h2 e2]
        rfl
def valD {κ : Type} [DecidableEq κ] (l : List (κ × D)) (k : κ) : Option D := (l.find? fun p => decide (p.1 = k)).map (·.2)
def putKD {κ : Type} [DecidableEq κ] (l : List (κ × D)) (k : κ) (d : D) : List (κ × D) :=
  if (l.any fun p => decide (p.1 = k)) = true then l.map (fun p => if p.1 = k then (p.1, d) else p) else l ++ [(k, d)]
def RpO (c : Cn) (α : List Addr) (B : Addr → Prop) (H : Hp) : Option V → Option D → Prop
  | none, none => True
  | some v, some d => Rp c α B H v d
  | _, _ => False
theorem RpK.val {κ : Type} [DecidableEq κ] (k : κ) : ∀ {vs : List (κ × V)} {l : List (κ × D)}, RpK c α B H vs l → RpO c α B H (valV vs k) (valD l k)
  | _, _, .nil => True.intro
  | _, _, .cons (k := j) h t => by
    unfold valV valD
    rw [List.find?_cons, List.find?_cons]
    by_cases e : j = k
    · rw [decide_eq_true e]; exact h
    · rw [decide_eq_false e]; exact RpK.val k t
theorem RpK.anyK {κ : Type} [DecidableEq κ] (k : κ) : ∀ {vs : List (κ × V)} {l : List (κ × D)}, RpK c α B H vs l → (vs.any fun p => decide (p.1 = k)) = l.any fun p => decide (p.1 = k)
  | _, _, .nil => rfl
  | _, _, .cons h t => by rw [List.any_cons, List.any_cons, RpK.anyK k t]
theorem RpK.snoc {κ : Type} {k : κ} {v : V} {d : D} (h : Rp c α B H v d) : ∀ {vs : List (κ × V)} {l : List (κ × D)}, RpK c α B H vs l → RpK c α B H (vs ++ [(k, v)]) (l ++ [(k, d)])
  | _, _, .nil => .cons h .nil
  | _, _, .cons q t => .cons q (RpK.snoc h t)
theorem RpK.repl {κ : Type} [DecidableEq κ] {k : κ} {v : V} {d : D} (h : Rp c α B H v d) : ∀ {vs : List (κ × V)} {l : List (κ × D)}, RpK c α B H vs l →
    RpK c α B H (vs.map fun p => if p.1 = k then (p.1, v) else p) (l.map fun p => if p.1 = k then (p.1, d) else p)
  | _, _, .nil => .nil
  | _, _, .cons (k := j) q t => by
    rw [List.map_cons, List.map_cons]
    by_cases e : j = k
    · simp only [e, if_true]; exact .cons h (RpK.repl h t)
    · simp only [e, if_false]; exact .cons q (RpK.repl h t)
theorem RpK.putD {κ : Type} [DecidableEq κ] {k : κ} {v : V} {d : D} {vs : List (κ × V)} {l : List (κ × D)} (r : RpK c α B H vs l) (h : Rp c α B H v d) : RpK c α B H (putK vs k v) (putKD l k d) := by
  unfold putK putKD
  rw [r.anyK k]
  split
  · exact r.repl h
  · exact r.snoc h
/-- what the dict d holds at y -/
def dgD (d y : D) (δ : Sto) : Option (Option D) := match d with
  | .hnd n => match δ[n]? with
    | some (.dK l) => match keyD y with
      | some k => some (valD l k)
      | none => none
    | some (.dT l) => match y with
      | .tup ds => match keysD ds with
        | some ks => some (valD l ks)
        | none => none
      | _ => none
    | _ => none
  | _ => none
theorem dgD_ok (s : RpS c α B H δ) {v u : V} {d y : D} {o : Option D} (hv : RpQ c α B H v d) (hy : RpQ c α B H u y) (e : dgD d y δ = some o) : ∃ a ov, v = .ref a ∧ DGet H a u ov ∧ RpO c α B H ov o := by
  unfold dgD at e
  split at e
  · rename_i n
    have hv' : Rp c α B H v (.hnd n) := hv
    cases hv' with
    | hnd hn =>
      split at e
      · rename_i l el
        obtain ⟨ks, q1, q2⟩ := s.at_ n _ _ hn el
        split at e
        · rename_i k ek
          cases e
          rw [keyD_ok hy ek]
          exact ⟨_, _, rfl, DGet.k q1, q2.val k⟩
        · cases e
      · rename_i l el
        obtain ⟨ks, q1, q2⟩ := s.at_ n _ _ hn el
        split at e
        · rename_i ds
          split at e
          · rename_i js ej
            cases e
            have hy' : Rp c α B H u (.tup ds) := hy
            cases hy' with
            | tup h1 h2 h3 h4 =>
              rw [keysD_ok h4 ej] at h1
              exact ⟨_, _, rfl, DGet.t q1 h1, q2.val js⟩
          · cases e
        · cases e
      · cases e
  · cases e
def eDGet (f g : FE) : FE := fun ρ δ => (f ρ δ).bind fun d δ1 => (g ρ δ1).bind fun y δ2 => match dgD (opd ρ d) (opd ρ y) δ2 with
  | some (some x) => .ok x δ2
  | _ => .stk
theorem sim_dget (ha : SimE c W ta f) (hb : SimE c W tb g) : SimE c W (tDGet ta tb) (eDGet f g) := by
  intro b α H σ ρ δ Q rel h0
  refine ha b α H σ ρ δ _ rel (h0.bind.mono fun d δ1 α1 H1 x1 h1 v rv => ?_)
  obtain ⟨s1, q1⟩ := rv.opd rel x1
  have rel1 := rel.step x1 s1
  refine hb b α1 H1 σ ρ δ1 _ rel1 (h1.bind.mono fun e δ2 α2 H2 x2 h2 u ru => ?_)
  obtain ⟨s2, q2⟩ := ru.opd rel1 x2
  split at h2
  · rename_i x ex
    obtain ⟨a, ov, rfl, k1, k2⟩ := dgD_ok s2 (q1.stay x2) q2 ex
    cases ov with
    | none => exact k2.elim
    | some w => exact ⟨a, w, rfl, k1, h2 α2 H2 (Ext.refl _ _) w (res_of (res_val s2 k2))⟩
  · exact h2.elim
def eDIn (g f : FE) (neg : Bool) : FE := fun ρ δ => (g ρ δ).bind fun y δ1 => (f ρ δ1).bind fun d δ2 => match dgD (opd ρ d) (opd ρ y) δ2 with
  | some o => .ok (.bl (if neg = true then !o.isSome else o.isSome)) δ2
  | none => .stk
theorem RpO.isSome {ov : Option V} {o : Option D} (h : RpO c α B H ov o) : ov.isSome = o.isSome := by
  cases ov <;> cases o <;> first | rfl | exact h.elim
theorem sim_din (ha : SimE c W ta f) (hb : SimE c W tb g) : SimE c W (tDIn tb ta) (eDIn g f false) := by
  intro b α H σ ρ δ Q rel h0
  refine hb b α H σ ρ δ _ rel (h0.bind.mono fun d δ1 α1 H1 x1 h1 v rv => ?_)
  obtain ⟨s1, q1⟩ := rv.opd rel x1
  have rel1 := rel.step x1 s1
  refine ha b α1 H1 σ ρ δ1 _ rel1 (h1.bind.mono fun e δ2 α2 H2 x2 h2 u ru => ?_)
  obtain ⟨s2, q2⟩ := ru.opd rel1 x2
  split at h2
  · rename_i o ex
    obtain ⟨a, ov, rfl, k1, k2⟩ := dgD_ok s2 q2 (q1.stay x2) ex
    refine ⟨a, ov, rfl, k1, ?_⟩
    rw [k2.isSome]
    exact h2 α2 H2 (Ext.refl _ _) _ ⟨s2, .bl _⟩
  · exact h2.elim
theorem sim_dnotin (ha : SimE c W ta f) (hb : SimE c W tb g) : SimE c W (tDNotIn tb ta) (eDIn g f true) := by
  intro b α H σ ρ δ Q rel h0
  refine hb b α H σ ρ δ _ rel (h0.bind.mono fun d δ1 α1 H1 x1 h1 v rv => ?_)
  obtain ⟨s1, q1⟩ := rv.opd rel x1
  have rel1 := rel.step x1 s1
  refine ha b α1 H1 σ ρ δ1 _ rel1 (h1.bind.mono fun e δ2 α2 H2 x2 h2 u ru => ?_)
  obtain ⟨s2, q2⟩ := ru.opd rel1 x2
  split at h2
  · rename_i o ex
    obtain ⟨a, ov, rfl, k1, k2⟩ := dgD_ok s2 q2 (q1.stay x2) ex
    refine ⟨a, ov, rfl, k1, ?_⟩
    rw [k2.isSome]
    exact h2 α2 H2 (Ext.refl _ _) _ ⟨s2, .bl _⟩
  · exact h2.elim
def dpD (d y x : D) (δ : Sto) : Option Sto := match d with
  | .hnd n => match δ[n]? with
    | some (.dK l) => match keyD y with
      | some k => if l.length < BIG then some (δ.set n (.dK (putKD l k x))) else none
      | none => none
    | some (.dT l) => match y with
      | .tup ds => match keysD ds with
        | some ks => if l.length < BIG then some (δ.set n (.dT (putKD l ks x))) else none
        | none => none
      | _ => none
    | _ => none
  | _ => none
theorem lt_line' {n : Nat} (h : n < BIG) : n < sizeLine := Nat.lt_of_lt_of_le h (by decide)
theorem dpD_ok (s : RpS c α B H δ) {v u w : V} {d y x : D} {ε : Sto} (hv : RpQ c α B H v d) (hy : RpQ c α B H u y) (hx : Rp c α B H w x) (e : dpD d y x δ = some ε) :
    ∃ a H', v = .ref a ∧ DPut H a u w H' ∧ RpS c α B H' ε ∧ Ext α α H H' := by
  unfold dpD at e
  split at e
  · rename_i n
    have hv' : Rp c α B H v (.hnd n) := hv
    cases hv' with
    | hnd hn =>
      split at e
      · rename_i l el
        obtain ⟨ks, q1, q2⟩ := s.at_ n _ _ hn el
        split at e
        · rename_i k ek
          split at e
          · rename_i hl
            cases e
            rw [keyD_ok hy ek]
            have xw : Ext α α H (upd H _ (.dK (putK ks k w))) := ext_write (List.mem_of_getElem? hn) q1
            obtain ⟨s2, x2⟩ := s.write (ob := .dK (putKD l k x)) hn ⟨_, upd_same, (q2.putD hx).map fun v d h => h.stay xw⟩
            exact ⟨_, _, rfl, DPut.k q1 (by rw [q2.len]; exact lt_line' hl), s2, x2⟩
          · cases e
        · cases e
      · rename_i l el
        obtain ⟨ks, q1, q2⟩ := s.at_ n _ _ hn el
        split at e
        · rename_i ds
          split at e
          · rename_i js ej
            split at e
            · rename_i hl
              cases e
              have hy' : Rp c α B H u (.tup ds) := hy
              cases hy' with
              | tup h1 h2 h3 h4 =>
                rw [keysD_ok h4 ej] at h1
                have xw : Ext α α H (upd H _ (.dT (putK ks js w))) := ext_write (List.mem_of_getElem? hn) q1
                obtain ⟨s2, x2⟩ := s.write (ob := .dT (putKD l js x)) hn ⟨_, upd_same, (q2.putD hx).map fun v d h => h.stay xw⟩
                exact ⟨_, _, rfl, DPut.t q1 h1 (by rw [q2.len]; exact lt_line' hl), s2, x2⟩
            · cases e
          · cases e
        · cases e
      · cases e
  · cases e
/-- d[y] = x -/
def sDPutF (f g h : FE) : FS := fun ρ δ => bindS (h ρ δ) ρ fun x δ1 => match fzd x with
  | some x' => bindS (f ρ δ1) ρ fun d δ2 => bindS (g ρ δ2) ρ fun y δ3 => match dpD (opd ρ d) (opd ρ y) x' δ3 with
    | some ε => .nx ρ ε
    | none => .stk
  | none => .stk
theorem sim_dput (ha : SimE c W ta f) (hb : SimE c W tb g) (hc : SimE c W tc h) : SimS c W (sDPut ta tb tc) (sDPutF f g h) := by
  intro b α H σ ρ δ D rel h0
  refine hc b α H σ ρ δ _ rel ((Post.toS rel h0).mono fun e δ1 α1 H1 x1 h1 v rv => ?_)
  split at h1
  · rename_i e' ee
    obtain ⟨s1, q1⟩ := rv.fz rel.sto ee
    have rel1 := rel.step x1 s1
    refine ha b α1 H1 σ ρ δ1 _ rel1 ((Post.toS rel1 h1).mono fun d δ2 α2 H2 x2 h2 u ru => ?_)
    obtain ⟨s2, q2⟩ := ru.opd rel1 x2
    have rel2 := rel1.step x2 s2
    refine hb b α2 H2 σ ρ δ2 _ rel2 ((Post.toS rel2 h2).mono fun y δ3 α3 H3 x3 h3 w rw' => ?_)
    obtain ⟨s3, q3⟩ := rw'.opd rel2 x3
    have rel3 := rel2.step x3 s3
    split at h3
    · rename_i ε eε
      obtain ⟨a, H4, rfl, k1, k2, k3⟩ := dpD_ok s3 (q2.stay x3) q3 ((q1.stay x2).stay x3) eε
      exact ⟨a, H4, rfl, k1, h3 _ _ _ (rel3.step k3 k2)⟩
    · exact h3.elim
  · exact h1.elim
/-- {} whose keys are to be tuples; shared -/
def eDNewT : FE := fun _ δ => .ok (.hnd δ.length) (δ ++ [.dT []])
def eDNewK : FE := fun _ δ => .ok (.hnd δ.length) (δ ++ [.dK []])
theorem sim_dnewT : SimE c W tDNewT eDNewT := by
  intro b α H σ ρ δ Q rel h0 p hp
  obtain ⟨s2, x2⟩ := rel.sto.share (ob := .dT []) (o := .dT []) hp ⟨[], upd_same, .nil⟩
  refine h0 _ _ x2 _ ⟨s2, .hnd ?_⟩
  rw [← rel.sto.len, List.getElem?_append_right (Nat.le_refl _)]
  simp
theorem sim_dnewK : SimE c W tDNewK eDNewK := by
  intro b α H σ ρ δ Q rel h0 p hp
  obtain ⟨s2, x2⟩ := rel.sto.share (ob := .dK []) (o := .dK []) hp ⟨[], upd_same, .nil⟩
  refine h0 _ _ x2 _ ⟨s2, .hnd ?_⟩
  rw [← rel.sto.len, List.getElem?_append_right (Nat.le_refl _)]
  simp
/-- {k: v, ..} of constant keys -/
def pairsE : List (Key × FE) → Env → Sto → Out (List (Key × D))
  | [], _, δ => .ok [] δ
  | (k, f) :: r, ρ, δ => (f ρ δ).bind fun d δ1 => match fzd d with
    | some d' => (pairsE r ρ δ1).bind fun ps δ2 => .ok ((k, d') :: ps) δ2
    | none => .stk
def mergeKD (l more : List (Key × D)) : List (Key × D) := more.foldl (fun acc kv => putKD acc kv.1 kv.2) l
def isDK0 : Option Ob → Bool
  | some (.dK []) => true
  | _ => false
def eDisp (ps : List (Key × FE)) : FE := fun ρ δ => (pairsE ps ρ (δ ++ [.dK []])).bind fun kvs δ1 => if kvs.length ≤ 15 ∧ isDK0 δ1[δ.length]? = true then .ok (.hnd δ.length) (δ1.set δ.length (.dK (mergeKD [] kvs))) else .stk
inductive SimPs (c : Cn) (W : WX) : List (TE × TE) → List (Key × FE) → Prop
  | nil : SimPs c W [] []
  | cons {k : Key} {tv : TE} {fv : FE} {ts : List (TE × TE)} {fs : List (Key × FE)} : SimE c W tv fv → SimPs c W ts fs → SimPs c W ((tC (kV k), tv) :: ts) ((k, fv) :: fs)
theorem RpK.stay {κ : Type} (e : Ext α α' H H') {vs : List (κ × V)} {l : List (κ × D)} (h : RpK c α B H vs l) : RpK c α' B H' vs l := h.map fun _ _ r => r.stay e
theorem pairs_ok : ∀ {ts : List (TE × TE)} {fs : List (Key × FE)}, SimPs c W ts fs → ∀ (b : Base) (α : List Addr) (H : Hp) (σ : St) (ρ : Env) (δ : Sto) (Q : List (V × V) → Hp → Prop), Rel c b α H σ ρ δ →
    Post c W σ (Bx b.A σ ρ) α H (fun ps δ' α' H' => ∀ vs : List (Key × V), RpS c α' (Bx b.A σ ρ) H' δ' → RpK c α' (Bx b.A σ ρ) H' vs ps → Q (vs.map fun kv => (kV kv.1, kv.2)) H') (pairsE fs ρ δ) → tPairs ts σ H Q
  | _, _, .nil, b, α, H, σ, ρ, δ, Q, rel, h => h α H (Ext.refl _ _) [] rel.sto .nil
  | _, _, .cons (k := k) h1 h2, b, α, H, σ, ρ, δ, Q, rel, h => by
    refine h1 b α H σ ρ δ _ rel (h.bind.mono fun d δ1 α1 H1 x1 k1 v rv => ?_)
    split at k1
    · rename_i d' ed
      obtain ⟨s1, q1⟩ := rv.fz rel.sto ed
      refine pairs_ok h2 b α1 H1 σ ρ δ1 _ (rel.step x1 s1) (k1.bind.mono fun ps δ2 α2 H2 x2 k2 vs s2 r2 => ?_)
      exact k2 α2 H2 (Ext.refl _ _) ((k, v) :: vs) s2 (.cons (q1.stay x2) r2)
    · exact k1.elim
theorem RpK.mergeD : ∀ {vs : List (Key × V)} {l : List (Key × D)} {us : List (Key × V)} {m : List (Key × D)}, RpK c α B H us m → RpK c α B H vs l → RpK c α B H (mergeK us vs) (mergeKD m l)
  | _, _, _, _, r, .nil => r
  | _, _, us, m, r, .cons (k := k) (v := v) (d := d) h t => by
    show RpK c α B H (mergeK (putK us k v) _) (mergeKD (putKD m k d) _)
    exact RpK.mergeD (r.putD h) t
theorem sim_disp {ts : List (TE × TE)} {fs : List (Key × FE)} (hp : SimPs c W ts fs) : SimE c W (tDisp ts) (eDisp fs) := by
  intro b α H σ ρ δ Q rel h0 p hpn
  obtain ⟨s1, x1⟩ := rel.sto.share (ob := .dK []) (o := .dK []) hpn ⟨[], upd_same, .nil⟩
  have rel1 := rel.step x1 s1
  have hat : (α ++ [p])[δ.length]? = some p := by
    rw [← rel.sto.len, List.getElem?_append_right (Nat.le_refl _)]
    simp
  refine pairs_ok hp b _ _ σ ρ _ _ rel1 ((Post.weak x1 (show Post c W σ (Bx b.A σ ρ) α H (fun d δ' α' H' => ∀ v, Res c (Bx b.A σ ρ) σ ρ α' H H' δ' v d → Q v H') (eDisp fs ρ δ) from h0)).bind.mono fun kvs δ1 α1 H1 x2 h1 vs s2 r2 => ?_)
  split at h1
  · rename_i hc
    obtain ⟨hl, he⟩ := hc
    have hat2 := x2.get hat
    have e1 : δ1[δ.length]? = some (.dK []) := by
      revert he
      cases q : δ1[δ.length]? with
      | none => intro z; cases z
      | some o =>
        intro z
        unfold isDK0 at z
        split at z
        · rename_i e; cases e; rfl
        · cases z
    obtain ⟨ks, q1, q2⟩ := s2.at_ _ _ _ hat2 e1
    cases q2
    refine ⟨q1, vs, rfl, by rw [r2.len]; exact hl, ?_⟩
    have xw : Ext α1 α1 H1 (upd H1 p (.dK (mergeK [] vs))) := ext_write (List.mem_of_getElem? hat2) q1
    obtain ⟨s3, x3⟩ := s2.write (ob := .dK (mergeKD [] kvs)) hat2 ⟨_, upd_same, (RpK.mergeD .nil r2).stay xw⟩
    exact h1 _ _ x3 _ ⟨s3, .hnd (x3.get hat2)⟩
  · exact h1.elim
end
end Pi
namespace Pi
open PySem L2 RT
section
variable {c : Cn} {b : Base} {α α' α1 α2 : List Addr} {A B B' M : Addr → Prop} {H H' H1 H2 : Hp} {σ σ' : St} {ρ ρ' : Env} {δ δ' δ1 : Sto}
variable {W : WX} {ta tb tc : TE} {t u : TA} {tt tt' : TT} {f g h : FE} {fa ga : FA} {ft gt : FT}
/-! ### a written dict: texts to tuples -/
/-- a value that stands in every heap -/
def RpL0 (c : Cn) (xs : List V) (l : List D) : Prop := RpL c [] (fun _ => False) (fun _ => none) xs l
theorem ext0 : Ext [] α (fun _ => none) H := ⟨⟨α, rfl⟩, fun _ _ _ h => (nomatch h), fun _ _ _ => rfl, fun _ _ h => (nomatch h)⟩
theorem RpL0.up {xs : List V} {l : List D} (h : RpL0 c xs l) : RpL c α B H xs l := RpL.ext (B := fun _ => False) ext0 (fun a _ ⟨o, z⟩ => by cases z) h
def Up0 (c : Cn) (v : V) (d : D) : Prop := ∀ α B H, Rp c α B H v d
theorem sqt_up0 {K : PySem.W.Frag} {a : Addr} {xs : List V} (h : SqT K (fun _ => none) a xs) : SqT K H a xs := by
  rcases h with (h | ⟨o, h⟩) | h
  · cases h
  · cases h
  · exact .inr h
inductive TabR (c : Cn) : List DictEntry → List (Str × List D) → Prop
  | nil : TabR c [] []
  | cons {h : Int} {z : Str} {t : Tok} {a : Addr} {xs : List V} {l : List D} {es : List DictEntry} {tbl : List (Str × List D)} : SqT c.K (fun _ => none) a xs → RpL0 c xs l → TabR c es tbl → TabR c (⟨h, .str z t, .ref a⟩ :: es) ((z, l) :: tbl)
def valT (tbl : List (Str × List D)) (z : Str) : Option (List D) := (tbl.find? fun p => decide (p.1 = z)).map (·.2)
theorem TabR.find {es : List DictEntry} {tbl : List (Str × List D)} (h : TabR c es tbl) (z : Str) :
    (valT tbl z = none ∧ es.find? (·.key.isStr z) = none) ∨ ∃ l e a xs, valT tbl z = some l ∧ es.find? (·.key.isStr z) = some e ∧ e.val = .ref a ∧ SqT c.K (fun _ => none) a xs ∧ RpL0 c xs l := by
  induction h with
  | nil => exact .inl ⟨rfl, rfl⟩
  | @cons h z' t a xs l es tbl h1 h2 _ ih =>
    unfold valT
    rw [List.find?_cons, List.find?_cons]
    by_cases e : z' = z
    · have e2 : (Value.str z' t).isStr z = true := beq_iff_eq.mpr e
      rw [decide_eq_true e, e2]
      exact .inr ⟨l, _, a, xs, rfl, rfl, rfl, h1, h2⟩
    · have e2 : (Value.str z' t).isStr z = false := beq_eq_false_iff_ne.mpr e
      rw [decide_eq_false e, e2]
      exact ih
theorem TabR.noref {es : List DictEntry} {tbl : List (Str × List D)} (h : TabR c es tbl) : es.any (·.refKey) = false := by
  induction h with
  | nil => rfl
  | cons _ _ _ ih => rw [List.any_cons, ih]; rfl
structure KTab (c : Cn) (w : World) (p : Addr) (tbl : List (Str × List D)) : Prop where
  ex : ∃ es n, c.K.lookup p = some ⟨.type "dict", none, .dict es n, #[]⟩ ∧ PySem.W.KeysLit w.params es.toList ∧ (p == sysModules) = false ∧ TabR c es.toList tbl
theorem KTab.ns {w : World} {p : Addr} {tbl : List (Str × List D)} (k : KTab c w p tbl) (z : Str) :
    (valT tbl z = none ∧ PySem.W.nsIn c.K p z = some none) ∨ ∃ l a xs, valT tbl z = some l ∧ PySem.W.nsIn c.K p z = some (some (.ref a)) ∧ SqT c.K (fun _ => none) a xs ∧ RpL0 c xs l := by
  obtain ⟨es, n, h1, h2, h3, h4⟩ := k.ex
  have nr := h4.noref
  unfold PySem.W.nsIn
  rw [h1]
  rcases h4.find z with ⟨e1, e2⟩ | ⟨l, e, a, xs, e1, e2, e3, e4, e5⟩
  · refine .inl ⟨e1, ?_⟩
    simp only
    rw [e2]
    simp [nr]
  · refine .inr ⟨l, a, xs, e1, ?_, e4, e5⟩
    simp only
    rw [e2]
    simp only [e3]
def rKIn (K : PySem.W.Frag) (d : Addr) : R2 := fun x y H Q => ∃ (z : Str) (r : Option Value), x = .str z ∧ y = .ref d ∧ PySem.W.nsIn K d z = some r ∧ Q (.bl r.isSome) H
theorem op_inKT {X : Cx} {p : Addr} {ca : Str → Addr} {tbl : List (Str × List D)} (k : KTab ⟨X.K, ca⟩ X.w p tbl) : OpR X (compareOp .In) (rKIn X.K p) := by
  obtain ⟨es, n, h1, h2, h3, _⟩ := k.ex
  exact op_in_kd (es := es) (n := n) ⟨h1, h2, h3⟩
/-- x in TABLE -/
def eKIn (tbl : List (Str × List D)) (f : FE) : FE := fun ρ δ => (f ρ δ).bind fun d δ1 => match d with
  | .str z => .ok (.bl (valT tbl z).isSome) δ1
  | _ => .stk
theorem sim_kin {w : World} {p : Addr} {tbl : List (Str × List D)} (k : KTab c w p tbl) (ha : SimE c W ta f) : SimE c W (tOp (rKIn c.K p) ta (tC (.ref p))) (eKIn tbl f) := by
  intro b α H σ ρ δ Q rel h0
  refine ha b α H σ ρ δ _ rel (h0.bind.mono fun d δ1 α1 H1 x1 h1 v rv => ?_)
  split at h1
  · rename_i z
    obtain ⟨s1, q1⟩ := rv
    cases q1
    rcases k.ns z with ⟨e1, e2⟩ | ⟨l, a, xs, e1, e2, _⟩
    · refine ⟨z, none, rfl, rfl, e2, ?_⟩
      rw [e1] at h1
      exact h1 α1 H1 (Ext.refl _ _) _ ⟨s1, .bl _⟩
    · refine ⟨z, _, rfl, rfl, e2, ?_⟩
      rw [e1] at h1
      exact h1 α1 H1 (Ext.refl _ _) _ ⟨s1, .bl _⟩
  · exact h1.elim
/-- TABLE[x][i] -/
def eKGet (tbl : List (Str × List D)) (i : Int) (f : FE) : FE := fun ρ δ => (f ρ δ).bind fun d δ1 => match d with
  | .str z => match valT tbl z with
    | some l => match atI l i with
      | some x => .ok x δ1
      | none => .stk
    | none => .stk
  | _ => .stk
theorem sim_kget {w : World} {p : Addr} {tbl : List (Str × List D)} {i : Int} (k : KTab c w p tbl) (ha : SimE c W ta f) : SimE c W (tOp (rIx c.K) (tOp (rIxD c.K w) (tC (.ref p)) ta) (tC (.int i))) (eKGet tbl i f) := by
  intro b α H σ ρ δ Q rel h0
  refine ha b α H σ ρ δ _ rel (h0.bind.mono fun d δ1 α1 H1 x1 h1 v rv => ?_)
  split at h1
  · rename_i z
    obtain ⟨s1, q1⟩ := rv
    cases q1
    rcases k.ns z with ⟨e1, e2⟩ | ⟨l, a, xs, e1, e2, e3, e4⟩
    · rw [e1] at h1; exact h1.elim
    · rw [e1] at h1
      simp only at h1
      split at h1
      · rename_i x ex
        obtain ⟨es, n, k1, k2, _, _⟩ := k.ex
        refine ⟨p, z, .ref a, rfl, rfl, ⟨es, n, _, k1, k2, e2, rfl⟩, ?_⟩
        obtain ⟨w', q1, q2⟩ := (e4.up (α := α1) (B := Bx b.A σ ρ) (H := H1)).at_ ex
        exact .inr (.inl ⟨a, xs, i, w', rfl, rfl, sqt_up0 e3, q1, h1 α1 H1 (Ext.refl _ _) w' (res_of (res_val s1 q2))⟩)
      · exact h1.elim
  · exact h1.elim
/-! ### [.. for x in reversed(xs)] -/
def eLcRev (vs : List Nat) (f : FE) (g : FG) (t : FT) (e : FE) : FE := fun ρ δ => (f ρ δ).bind fun d δ1 => match opd ρ d with
  | .lst l => eLcL l.reverse vs g t e ρ δ1
  | .own l => eLcL l.reverse vs g t e ρ δ1
  | _ => .stk
theorem lc_Itv {K : PySem.W.Frag} {a : Addr} {xs : List V} {g : TG} {tt : TT} {te : TE} {vs : List Nat} {σ : St} {H1 : Hp} {D : Addr} {Qd : Hp → Prop} (Pv : Nat → Hp → Prop) (h0 : Pv 0 (upd H1 D (.lst []))) (hl : ∀ i H, i ≤ xs.length → Pv i H → SqL K H a xs)
    (hs : ∀ i x H, xs.reverse[i]? = some x → Pv i H → g x (wipe σ vs) H fun σ2 H2 => wipe σ2 vs = wipe σ vs ∧ tt σ2 H2 fun b H3 =>
      if b = true then te σ2 H3 fun y H4 => ∃ acc, H4 D = some (.lst acc) ∧ acc.length < sizeLine ∧ Pv (i + 1) (upd H4 D (.lst (acc ++ [y]))) else Pv (i + 1) H3) (hd : ∀ H, Pv xs.length H → Qd H) :
    ∃ W : Nat → Nat → Hp → Prop, (∃ m, W 0 m (upd H1 D (.lst []))) ∧ ∀ i m H, W i m H →
      ((Itv K a xs.length).stop i H ∧ Qd H) ∨ ((Itv K a xs.length).go i H ∧ ∃ Nx : Hp → Prop, (∀ H', Nx H' → ∃ m', m' < m ∧ W (i + 1) m' H') ∧ ∀ x H', (Itv K a xs.length).yld i H x H' → g x (wipe σ vs) H' fun σ2 H2 => wipe σ2 vs = wipe σ vs ∧ tt σ2 H2 fun b H3 =>
        if b = true then te σ2 H3 fun y H4 => ∃ acc, H4 D = some (.lst acc) ∧ acc.length < sizeLine ∧ Nx (upd H4 D (.lst (acc ++ [y]))) else Nx H3) := by
  refine ⟨fun i m H => m = xs.length - i ∧ i ≤ xs.length ∧ Pv i H, ⟨xs.length, by simp, Nat.zero_le _, h0⟩, ?_⟩
  rintro i m H ⟨rfl, hi, p⟩
  have q := hl i H hi p
  by_cases hlt : i < xs.length
  · have hj : xs.length - 1 - i < xs.length := by omega
    refine .inr ⟨⟨hlt, xs, xs[xs.length - 1 - i], q, List.getElem?_eq_getElem hj⟩, Pv (i + 1), fun H' p' => ⟨xs.length - (i + 1), by omega, rfl, hlt, p'⟩, fun x H' y => ?_⟩
    obtain ⟨e, y⟩ := y
    subst e
    exact hs i x _ (by rw [List.getElem?_reverse hlt]; exact y xs q) p
  · have e : i = xs.length := by omega
    subst e
    exact .inl ⟨Nat.le_refl _, hd H p⟩
theorem sim_lcRev {tg : TG} {fg : FG} {te : TE} {fe : FE} {vs : List Nat} (ha : SimE c W ta f) (hg : SimGW c vs tg fg) (ht : SimT c Wno tt ft) (he : SimE c Wno te fe) : SimE c W (tLc (iRevA c.K ta) tg tt te vs) (eLcRev vs f fg ft fe) := by
  intro b α H σ ρ δ Q rel h
  refine ha b α H σ ρ δ _ rel (h.bind.mono fun d δ1 α1 H1 x1 h1 v rv => ?_)
  obtain ⟨s1, q1⟩ := rv.opd rel x1
  have rel1 := rel.step x1 s1
  have main : ∀ (a : Addr) (xs : List V) (l : List D), v = .ref a → H1 a = some (.lst xs) → a ∉ α1 → RpL c α1 (Bx b.A σ ρ) H1 xs l →
      Post c W σ (Bx b.A σ ρ) α1 H1 (fun d δ' α' H' => ∀ v, Res c (Bx b.A σ ρ) σ ρ α' H H' δ' v d → Q v H') (eLcL l.reverse vs fg ft fe ρ δ1) → ∃ (a : Addr) (xs : List V), v = .ref a ∧ ((SqL c.K H1 a xs ∧
      ∀ D, H1 D = none → ∃ W : Nat → Nat → Hp → Prop, (∃ m, W 0 m (upd H1 D (.lst []))) ∧ ∀ i m H, W i m H →
        ((Itv c.K a xs.length).stop i H ∧ Q (.ref D) H) ∨ ((Itv c.K a xs.length).go i H ∧ ∃ Nx : Hp → Prop, (∀ H', Nx H' → ∃ m', m' < m ∧ W (i + 1) m' H') ∧ ∀ x H', (Itv c.K a xs.length).yld i H x H' → tg x (wipe σ vs) H' fun σ2 H2 => wipe σ2 vs = wipe σ vs ∧ tt σ2 H2 fun b H3 =>
          if b = true then te σ2 H3 fun y H4 => ∃ acc, H4 D = some (.lst acc) ∧ acc.length < sizeLine ∧ Nx (upd H4 D (.lst (acc ++ [y]))) else Nx H3)) ∨ (SqT c.K H1 a xs ∧
      ∀ D, H1 D = none → ∃ W : Nat → Nat → Hp → Prop, (∃ m, W 0 m (upd H1 D (.lst []))) ∧ ∀ i m H, W i m H →
        ((ItvT c.K a xs.length).stop i H ∧ Q (.ref D) H) ∨ ((ItvT c.K a xs.length).go i H ∧ ∃ Nx : Hp → Prop, (∀ H', Nx H' → ∃ m', m' < m ∧ W (i + 1) m' H') ∧ ∀ x H', (ItvT c.K a xs.length).yld i H x H' → tg x (wipe σ vs) H' fun σ2 H2 => wipe σ2 vs = wipe σ vs ∧ tt σ2 H2 fun b H3 =>
          if b = true then te σ2 H3 fun y H4 => ∃ acc, H4 D = some (.lst acc) ∧ acc.length < sizeLine ∧ Nx (upd H4 D (.lst (acc ++ [y]))) else Nx H3))) := by
    intro a xs l ev hs hna hx h2
    refine ⟨a, xs, ev, .inl ⟨SqL.of hs, fun p hp => ?_⟩⟩
    unfold eLcL at h2
    split at h2
    · rename_i hno
      have n := noOwn_of hno
      have hxr := hx.reverse
      have len : xs.length = l.reverse.length := by rw [← hxr.len, List.length_reverse]
      refine lc_Itv (xs := xs) (Qd := fun H' => Q (.ref p) H') (fun i H' => LcInv c b W σ ρ α1 H1 p (fun d δ' α' H' => ∀ v, Res c (Bx b.A σ ρ) σ ρ α' H H' δ' v d → Q v H') (lcL fg ft fe (wipeE ρ vs) (l.reverse.drop i)) H') ?_ ?_ ?_ ?_
      · rw [List.drop_zero]; exact lc_start s1 hp h2
      · rintro i H' _ ⟨α', _, _, _, x, _⟩
        exact SqL.of (x.keep _ _ hna hs)
      · intro i x H' hi inv
        have hil : i < l.reverse.length := by rw [← len, ← List.length_reverse]; exact (List.getElem?_eq_some_iff.mp hi).1
        have e : l.reverse.drop i = l.reverse[i] :: l.reverse.drop (i + 1) := List.drop_eq_getElem_cons hil
        rw [e] at inv
        obtain ⟨w, z1, z2⟩ := hxr.get i l.reverse[i] (List.getElem?_eq_getElem hil)
        rw [hi] at z1
        cases z1
        exact lc_turn hg ht he rel1 n hp z2 _ (fun H' z => z) inv
      · intro H' inv
        rw [len, List.drop_length] at inv
        exact lc_done (fun _ _ => rfl) hp x1 inv
    · exact h2.elim
  split at h1
  · rename_i l eo
    rw [eo] at q1
    have q1' : Rp c α1 (Bx b.A σ ρ) H1 v (.lst l) := q1
    cases q1' with
    | @lst a xs _ z1 z2 z3 z4 => exact main a xs l rfl z1 z2 z4 h1
  · rename_i l eo
    rw [eo] at q1
    obtain ⟨a, xs, rfl, z1, z2, z3⟩ := q1
    exact main a xs l rfl z1 z2 z3 h1
  · exact h1.elim
end
end Pi
namespace Pi
open PySem L2
theorem smallI_of {i : Int} (h : 0 ≤ i) (h2 : i < 18446744073709551616) : smallI i = true := decide_eq_true ⟨by omega, by omega⟩
theorem atI_nat {α : Type} {l : List α} {i : Nat} : atI l (i : Int) = l[i]? := by
  unfold atI ixN
  rw [if_pos (Int.natCast_nonneg i)]
  by_cases h : (i : Int) < l.length
  · rw [if_pos h]; rfl
  · rw [if_neg h, List.getElem?_eq_none (by omega)]; rfl
/-! ### loops -/
theorem lcL_inv {i : Nat} {e : FE} {ρ : Pi.Env} (I : Sto → Prop) (P : D → Prop) : ∀ (l acc : List D) (δ : Sto), I δ → acc.length + l.length < 1000000 →
    (∀ d ∈ l, ∀ δ, I δ → ∃ y y' δ', e (ρ.set i (some d)) δ = .ok y δ' ∧ fzd y = some y' ∧ I δ' ∧ P y') → ∃ ys δ', lcL (gName' i) tYesF e ρ l acc δ = .ok (acc ++ ys) δ' ∧ I δ' ∧ ys.length = l.length ∧ ∀ y ∈ ys, P y
  | [], acc, δ, h, _, _ => ⟨[], δ, by rw [List.append_nil]; rfl, h, rfl, by simp⟩
  | d :: l, acc, δ, h, hl, k => by
    obtain ⟨y, y', δ', q1, q2, q3, q4⟩ := k d List.mem_cons_self δ h
    obtain ⟨ys, δ2, w1, w2, w3, w4⟩ := lcL_inv I P l (acc ++ [y']) δ' q3 (by simp at hl ⊢; omega) fun d' m => k d' (List.mem_cons_of_mem _ m)
    refine ⟨y' :: ys, δ2, ?_, w2, by simp [w3], ?_⟩
    · have hb : acc.length < BIG := by simp [BIG] at hl ⊢; omega
      simp only [lcL, gName', tYesF, q1, q2, if_true, hb, w1]
      simp
    · intro z hz
      rcases List.mem_cons.mp hz with e | e
      · rw [e]; exact q4
      · exact w4 z e
/-- without a store -/
theorem lcL_map {i : Nat} {e : FE} {ρ : Pi.Env} {δ : Sto} (g : D → D) : ∀ (l acc : List D), acc.length + l.length < 1000000 →
    (∀ d ∈ l, ∃ y, e (ρ.set i (some d)) δ = .ok y δ ∧ fzd y = some (g d)) → lcL (gName' i) tYesF e ρ l acc δ = .ok (acc ++ l.map g) δ
  | [], acc, _, _ => by rw [List.map_nil, List.append_nil]; rfl
  | d :: l, acc, hl, k => by
    obtain ⟨y, q1, q2⟩ := k d List.mem_cons_self
    have w1 := lcL_map (i := i) (e := e) (ρ := ρ) (δ := δ) g l (acc ++ [g d]) (by simp at hl ⊢; omega) fun d' m => k d' (List.mem_cons_of_mem _ m)
    have hb : acc.length < BIG := by simp [BIG] at hl ⊢; omega
    simp only [lcL, gName', tYesF, q1, q2, if_true, hb, w1]
    simp
theorem forL_inv {g : FG} {body : FS} (I : List D → Pi.Env → Sto → Prop) : ∀ (l pre : List D) (ρ : Pi.Env) (δ : Sto), I pre ρ δ →
    (∀ p d s ρ δ, pre ++ l = p ++ d :: s → I p ρ δ → ∃ ρ', g d ρ = some ρ' ∧ ∃ ρ2 δ2, body ρ' δ = .nx ρ2 δ2 ∧ I (p ++ [d]) ρ2 δ2) → ∃ ρ' δ', forL g body l ρ δ = .nx ρ' δ' ∧ I (pre ++ l) ρ' δ'
  | [], pre, ρ, δ, h, _ => ⟨ρ, δ, rfl, by rw [List.append_nil]; exact h⟩
  | d :: l, pre, ρ, δ, h, k => by
    obtain ⟨ρ', q1, ρ2, δ2, q2, q3⟩ := k pre d l ρ δ rfl h
    obtain ⟨ρ3, δ3, w1, w2⟩ := forL_inv I l (pre ++ [d]) ρ2 δ2 q3 fun p d' s ρ δ e => k p d' s ρ δ (by rw [← e]; simp)
    refine ⟨ρ3, δ3, ?_, by simpa using w2⟩
    simp only [forL, q1, q2, w1]
theorem kMod_i (i j : Int) (δ : Sto) : kMod (.int i) (.int j) δ = if 0 < j then .ok (.int (i % j)) δ else .stk := by
  simp [kMod, kII]
theorem kFdiv_i (i j : Int) (δ : Sto) : kFdiv (.int i) (.int j) δ = if 0 < j ∧ j < 1073741824 then .ok (.int (i / j)) δ else .stk := by
  simp [kFdiv, kII]
theorem kMinus_i (i j : Int) (δ : Sto) : kMinus (.int i) (.int j) δ = .ok (.int (i - j)) δ := rfl
theorem kLt_i (i j : Int) (δ : Sto) : kLt (.int i) (.int j) δ = .ok (.bl (decide (i < j))) δ := rfl
theorem kLe_i (i j : Int) (δ : Sto) : kLe (.int i) (.int j) δ = .ok (.bl (decide (i ≤ j))) δ := rfl
theorem kGt_i (i j : Int) (δ : Sto) : kGt (.int i) (.int j) δ = .ok (.bl (decide (j < i))) δ := rfl
theorem kGe_i (i j : Int) (δ : Sto) : kGe (.int i) (.int j) δ = .ok (.bl (decide (j ≤ i))) δ := rfl
theorem kPow_i (i j : Int) (δ : Sto) : kPow (.int i) (.int j) δ = if 0 ≤ j ∧ j ≤ 1000000 ∧ i.natAbs < 2 ^ 64 then .ok (.int (i ^ j.toNat)) δ else .stk := by
  simp [kPow, kII]
theorem sNx_a (ρ : Pi.Env) (δ : Sto) : sNx ρ δ = .nx ρ δ := rfl
theorem sBk_a (ρ : Pi.Env) (δ : Sto) : sBk ρ δ = .bk ρ δ := rfl
theorem sCt_a (ρ : Pi.Env) (δ : Sto) : sCt ρ δ = .ct ρ δ := rfl
theorem sRetN_a (ρ : Pi.Env) (δ : Sto) : sRetN ρ δ = .rt .non δ := rfl
theorem aNil_a (ρ : Pi.Env) (δ : Sto) : aNil ρ δ = .ok [] δ := rfl
theorem tYesF_a (ρ : Pi.Env) (δ : Sto) : tYesF ρ δ = .ok true δ := rfl
end Pi
namespace Pi
open PySem L2
/-! ### lists of texts compared -/
theorem pyDs_strs : ∀ l : List Str, pyDs (l.map D.str) = some (l.map PyData.str)
  | [] => by rw [List.map_nil, List.map_nil]; unfold pyDs; rfl
  | x :: l => by
    rw [List.map_cons, List.map_cons]
    unfold pyDs
    rw [pyDs_strs l]
    unfold pyD
    rfl
theorem eqv_strs (l m : List Str) : PyData.eqv (.list (l.map PyData.str)) (.list (m.map PyData.str)) = decide (l = m) := PySem.W.Datum.eqv (α := List Str) l m
theorem shaped_strs (l : List Str) (h : ∀ x ∈ l, PyData.strOk x = true) : SeqAt.shaped (.list (l.map PyData.str)) = true := by
  unfold SeqAt.shaped
  have h1 : (PyData.list (l.map PyData.str)).depth ≤ 64 := Nat.le_trans (PySem.W.Datum.depth_le (α := List Str) l) (by decide)
  have h2 : PyData.canLayAll0 (l.map PyData.str) = true := by
    clear h1
    induction l with
    | nil => simp [PyData.canLayAll0]
    | cons x l ih =>
      simp only [List.map_cons, PyData.canLayAll0, PyData.canLay0, Bool.and_eq_true]
      exact ⟨h x List.mem_cons_self, ih fun y hy => h y (List.mem_cons_of_mem _ hy)⟩
  have h3 : (PyData.list (l.map PyData.str)).canLay0 = true := by simpa only [PyData.canLay0] using h2
  rw [h3, decide_eq_true h1]
  rfl
theorem eqK_strs {d e : D} {δ : Sto} {l m : List Str} (h : scalE d e = none) (hl : ∀ x ∈ l, PyData.strOk x = true) (hm : ∀ x ∈ m, PyData.strOk x = true) (h1 : asL d δ = some (l.map D.str)) (h2 : asL e δ = some (m.map D.str)) : eqK d e δ = some (decide (l = m)) := by
  unfold eqK pyQ
  rw [h, h1, h2]
  simp only [pyDs_strs, Option.map_some, shaped_strs l hl, shaped_strs m hm, and_self, if_true, eqv_strs]
theorem kEq_strs {d e : D} {δ : Sto} {l m : List Str} (h : scalE d e = none) (hl : ∀ x ∈ l, PyData.strOk x = true) (hm : ∀ x ∈ m, PyData.strOk x = true) (h1 : asL d δ = some (l.map D.str)) (h2 : asL e δ = some (m.map D.str)) : kEq d e δ = .ok (.bl (decide (l = m))) δ := by
  unfold kEq
  rw [eqK_strs h hl hm h1 h2]
theorem kNe_strs {d e : D} {δ : Sto} {l m : List Str} (h : scalE d e = none) (hl : ∀ x ∈ l, PyData.strOk x = true) (hm : ∀ x ∈ m, PyData.strOk x = true) (h1 : asL d δ = some (l.map D.str)) (h2 : asL e δ = some (m.map D.str)) : kNe d e δ = .ok (.bl (!decide (l = m))) δ := by
  unfold kNe
  rw [eqK_strs h hl hm h1 h2]
theorem kPlus_ii (i j : Int) (δ : Sto) : kPlus (.int i) (.int j) δ = .ok (.int (i + j)) δ := rfl
theorem kTimes_ii (i j : Int) (δ : Sto) : kTimes (.int i) (.int j) δ = if (smallI i || smallI j) = true then .ok (.int (i * j)) δ else .stk := rfl
theorem kLen_l (l : List D) (δ : Sto) : kLen [.lst l] δ = .ok (.int l.length) δ := rfl
theorem kLen_o (l : List D) (δ : Sto) : kLen [.own l] δ = .ok (.int l.length) δ := rfl
theorem kIx_t0 (a : D) (l : List D) (δ : Sto) : kIx (.tup (a :: l)) (.int 0) δ = .ok a δ := by
  unfold kIx atI ixN
  simp
theorem kIx_t1 (a b : D) (l : List D) (δ : Sto) : kIx (.tup (a :: b :: l)) (.int 1) δ = .ok b δ := by
  unfold kIx atI ixN
  simp
  rw [if_pos (by omega)]
  rfl
theorem kIx_t2 (a b d : D) (l : List D) (δ : Sto) : kIx (.tup (a :: b :: d :: l)) (.int 2) δ = .ok d δ := by
  unfold kIx atI ixN
  simp
  rw [if_pos (by omega)]
  rfl
theorem kEq_ii (i j : Int) (δ : Sto) : kEq (.int i) (.int j) δ = .ok (.bl (decide (i = j))) δ := rfl
theorem kEq_ss (i j : Str) (δ : Sto) : kEq (.str i) (.str j) δ = .ok (.bl (decide (i = j))) δ := rfl
theorem kNe_ss (i j : Str) (δ : Sto) : kNe (.str i) (.str j) δ = .ok (.bl (!decide (i = j))) δ := rfl
theorem kPlus_ss {a b : Str} (h : a.length + b.length ≤ 1000000) (δ : Sto) : kPlus (.str a) (.str b) δ = .ok (.str (a ++ b)) δ := if_pos h
theorem kIx_l {l : List D} {i : Nat} {d : D} (h : l[i]? = some d) (δ : Sto) : kIx (.lst l) (.int (i : Int)) δ = .ok d δ := by
  unfold kIx
  simp only [asL, Pi.atI_nat, h]
end Pi
namespace Gk
open PySem L2 Pi RT
def topS (i : Nat) : Stmt := PySem.Challenge.pw_everyloop_k45_shortest_texts.main.body.getD i (.Pass ⟨0, 0, 0, 0⟩)
abbrev s__law_mixed : Stmt := topS 21
abbrev s__law_numbers : Stmt := topS 22
abbrev s__law_draw : Stmt := topS 23
abbrev s__law_stitch : Stmt := topS 28
abbrev s__law_list : Stmt := topS 29
abbrev s_is_cross : Stmt := topS 6
abbrev s_is_stitch : Stmt := topS 7
abbrev s_check_stitch : Stmt := topS 8
abbrev s_best_text : Stmt := topS 11
abbrev s_first_items : Stmt := topS 12
abbrev s_shortest : Stmt := topS 18
abbrev s__law_pieces : Stmt := topS 30
abbrev s__law_shortest : Stmt := topS 31
abbrev s_check_chart : Stmt := topS 17
abbrev s_check_way : Stmt := topS 15
abbrev s_other_side : Stmt := topS 9
abbrev s_turned : Stmt := topS 14
abbrev s_on_face : Stmt := topS 16
abbrev s_written : Stmt := topS 19
abbrev s__law_table : Stmt := topS 24
abbrev s__law_turned : Stmt := topS 27
abbrev s_law : Stmt := topS 32
theorem sc__law_mixed : FnScope ["number", "k", "step"] ["number", "k"] (defScope s__law_mixed) := ⟨rfl, rfl, rfl, by decide +kernel, rfl, by decide +kernel, by decide +kernel⟩
theorem sc__law_numbers : FnScope ["script", "numbers", "cell", "rest", "k"] ["script"] (defScope s__law_numbers) := ⟨rfl, rfl, rfl, by decide +kernel, rfl, by decide +kernel, by decide +kernel⟩
theorem sc__law_draw : FnScope ["draws", "many", "at", "first"] ["draws", "many"] (defScope s__law_draw) := ⟨rfl, rfl, rfl, by decide +kernel, rfl, by decide +kernel, by decide +kernel⟩
theorem sc__law_stitch : FnScope ["draws", "pick"] ["draws"] (defScope s__law_stitch) := ⟨rfl, rfl, rfl, by decide +kernel, rfl, by decide +kernel, by decide +kernel⟩
theorem sc__law_list : FnScope ["draws", "few", "k", "found", "turn", "part"] ["draws"] (defScope s__law_list) := ⟨rfl, rfl, rfl, by decide +kernel, rfl, by decide +kernel, by decide +kernel⟩
theorem sc_is_cross : FnScope ["word"] ["word"] (defScope s_is_cross) := ⟨rfl, rfl, rfl, by decide +kernel, rfl, by decide +kernel, by decide +kernel⟩
theorem sc_is_stitch : FnScope ["word"] ["word"] (defScope s_is_stitch) := ⟨rfl, rfl, rfl, by decide +kernel, rfl, by decide +kernel, by decide +kernel⟩
theorem sc_check_stitch : FnScope ["stitch"] ["stitch"] (defScope s_check_stitch) := ⟨rfl, rfl, rfl, by decide +kernel, rfl, by decide +kernel, by decide +kernel⟩
theorem sc_best_text : FnScope ["stitches", "known", "key", "best", "text", "cost", "size", "whole", "rest"] ["stitches", "known"] (defScope s_best_text) := ⟨rfl, rfl, rfl, by decide +kernel, rfl, by decide +kernel, by decide +kernel⟩
theorem sc_first_items : FnScope ["stitches", "known", "found", "run", "size", "times", "inner"] ["stitches", "known"] (defScope s_first_items) := ⟨rfl, rfl, rfl, by decide +kernel, rfl, by decide +kernel, by decide +kernel⟩
theorem sc_shortest : FnScope ["stitches", "stitch"] ["stitches"] (defScope s_shortest) := ⟨rfl, rfl, rfl, by decide +kernel, rfl, by decide +kernel, by decide +kernel⟩
theorem sc__law_pieces : FnScope ["stitches", "i", "j", "best", "part", "found", "size", "words", "text"] ["stitches", "i", "j", "best"] (defScope s__law_pieces) := ⟨rfl, rfl, rfl, by decide +kernel, rfl, by decide +kernel, by decide +kernel⟩
theorem sc__law_shortest : FnScope ["stitches", "many", "best", "size", "i", "j", "found", "k", "words", "text", "rest"] ["stitches"] (defScope s__law_shortest) := ⟨rfl, rfl, rfl, by decide +kernel, rfl, by decide +kernel, by decide +kernel⟩
theorem sc_check_chart : FnScope ["value", "least", "most", "row", "stitch"] ["value", "least", "most"] (defScope s_check_chart) := ⟨rfl, rfl, rfl, by decide +kernel, rfl, by decide +kernel, by decide +kernel⟩
theorem sc_check_way : FnScope ["way"] ["way"] (defScope s_check_way) := ⟨rfl, rfl, rfl, by decide +kernel, rfl, by decide +kernel, by decide +kernel⟩
theorem sc_other_side : FnScope ["stitch"] ["stitch"] (defScope s_other_side) := ⟨rfl, rfl, rfl, by decide +kernel, rfl, by decide +kernel, by decide +kernel⟩
theorem sc_turned : FnScope ["stitch"] ["stitch"] (defScope s_turned) := ⟨rfl, rfl, rfl, by decide +kernel, rfl, by decide +kernel, by decide +kernel⟩
theorem sc_on_face : FnScope ["row", "i", "way", "stitch"] ["row", "i", "way"] (defScope s_on_face) := ⟨rfl, rfl, rfl, by decide +kernel, rfl, by decide +kernel, by decide +kernel⟩
theorem sc_written : FnScope ["value", "way", "i"] ["value", "way"] (defScope s_written) := ⟨rfl, rfl, rfl, by decide +kernel, rfl, by decide +kernel, by decide +kernel⟩
theorem sc__law_table : FnScope [] [] (defScope s__law_table) := ⟨rfl, rfl, rfl, by decide +kernel, rfl, by decide +kernel, by decide +kernel⟩
theorem sc__law_turned : FnScope ["stitch"] ["stitch"] (defScope s__law_turned) := ⟨rfl, rfl, rfl, by decide +kernel, rfl, by decide +kernel, by decide +kernel⟩
theorem sc_law : FnScope ["script", "draws", "stitches", "rows", "due", "back", "stitch", "bad"] ["script"] (defScope s_law) := ⟨rfl, rfl, rfl, by decide +kernel, rfl, by decide +kernel, by decide +kernel⟩
def tbl_KINDS : List (Str × List D) := [("k", [.int 1, .int 1, .str "p"]), ("p", [.int 1, .int 1, .str "k"]), ("s", [.int 1, .int 1, .str "s"]), ("o", [.int 0, .int 1, .str "o"]), ("r", [.int 2, .int 1, .str "R"]), ("R", [.int 2, .int 1, .str "r"]), ("l", [.int 2, .int 1, .str "L"]), ("L", [.int 2, .int 1, .str "l"]), ("d", [.int 3, .int 1, .str "D"]), ("D", [.int 3, .int 1, .str "d"]), ("f", [.int 1, .int 2, .str "F"]), ("F", [.int 1, .int 2, .str "f"])]
def subE (e n : Str) : Option Bool :=
  if e = "BadArgument" ∧ n = "BadArgument" then some true else
  if e = "BadArgument" ∧ n = "BadPattern" then some false else
  if e = "BadPattern" ∧ n = "BadArgument" then some false else
  if e = "BadPattern" ∧ n = "BadPattern" then some true else none
section
variable {P : Program} {w : World} {K : PySem.W.Frag} {mg : Str → Option Value} {base : Heap} {ca : Str → Addr}
structure Txt (P : Program) (w : World) (K : PySem.W.Frag) (mg : Str → Option Value) (ca : Str → Addr) : Prop where
  n_int : mg "int" = none
  n_isinstance : mg "isinstance" = none
  n_len : mg "len" = none
  n_list : mg "list" = none
  n_min : mg "min" = none
  n_range : mg "range" = none
  n_reversed : mg "reversed" = none
  n_str : mg "str" = none
  n_tuple : mg "tuple" = none
  g_KINDS : mg "KINDS" = some (.ref (ca "KINDS"))
  k_KINDS : KTab ⟨K, ca⟩ w (ca "KINDS") tbl_KINDS
  e_BadArgument : ExcOk K mg (ca "BadArgument") "BadArgument"
  e_BadPattern : ExcOk K mg (ca "BadPattern") "BadPattern"
  sub : SubOk ⟨K, ca⟩ subE
  f__law_mixed : FunAt K mg "_law_mixed" s__law_mixed ["number", "k"]
  f__law_numbers : FunAt K mg "_law_numbers" s__law_numbers ["script"]
  f__law_draw : FunAt K mg "_law_draw" s__law_draw ["draws", "many"]
  f__law_stitch : FunAt K mg "_law_stitch" s__law_stitch ["draws"]
  f__law_list : FunAt K mg "_law_list" s__law_list ["draws"]
  f_is_cross : FunAt K mg "is_cross" s_is_cross ["word"]
  f_is_stitch : FunAt K mg "is_stitch" s_is_stitch ["word"]
  f_check_stitch : FunAt K mg "check_stitch" s_check_stitch ["stitch"]
  f_best_text : FunAt K mg "best_text" s_best_text ["stitches", "known"]
  f_first_items : FunAt K mg "first_items" s_first_items ["stitches", "known"]
  f_shortest : FunAt K mg "shortest" s_shortest ["stitches"]
  f__law_pieces : FunAt K mg "_law_pieces" s__law_pieces ["stitches", "i", "j", "best"]
  f__law_shortest : FunAt K mg "_law_shortest" s__law_shortest ["stitches"]
  f_check_chart : FunAt K mg "check_chart" s_check_chart ["value", "least", "most"]
  f_check_way : FunAt K mg "check_way" s_check_way ["way"]
  f_other_side : FunAt K mg "other_side" s_other_side ["stitch"]
  f_turned : FunAt K mg "turned" s_turned ["stitch"]
  f_on_face : FunAt K mg "on_face" s_on_face ["row", "i", "way"]
  f_written : FunAt K mg "written" s_written ["value", "way"]
  f__law_table : FunAt K mg "_law_table" s__law_table []
  f__law_turned : FunAt K mg "_law_turned" s__law_turned ["stitch"]
  f_law : FunAt K mg "law" s_law ["script"]
set_option maxHeartbeats 4000000
def b__law_mixed : FS := (sSeq (sSet 2 (e2 kMod (e2 kPlus (e2 kPlus (e2 kTimes (eVar 0) (eC (.int 48271))) (e2 kTimes (eVar 1) (eC (.int 69621)))) (eC (.int 12345))) (eC (.int 2147483647)))) (sRet (e2 kMod (e2 kPlus (e2 kTimes (eVar 2) (e2 kPlus (e2 kFdiv (eVar 2) (eC (.int 65536))) (eC (.int 3)))) (eVar 1)) (eC (.int 2147483647)))))
def F__law_mixed : List D → Sto → Out D := fnV 1 (b__law_mixed)
theorem ok__law_mixed (T : Txt P w K mg ca) : DefOk P w K mg base "_law_mixed" 1 ["number", "k"] (SpF ⟨K, ca⟩ 2 F__law_mixed) := by
  exact T.f__law_mixed.ok sc__law_mixed rfl fun f cdv A outer s H vs Q E hr hsp => ⟨_, (pss_cons (ps_set (i := 2) sc__law_mixed.nd rfl (by first | exact Or.inl rfl | exact Or.inr rfl) (pe_op op_mod (pe_op op_plus (pe_op op_plus (pe_op op_times (pv 0) pe_int) (pe_op op_times (pv 1) pe_int)) pe_int) pe_int)) (pss_one (ps_ret (pe_op op_mod (pe_op op_plus (pe_op op_times (pv 2) (pe_op op_plus (pe_op op_fdiv (pv 2) pe_int) pe_int)) (pv 1)) pe_int)))), fn_end rfl (sim_seq (sim_set (sim_2 ops_mod (sim_2 ops_plus (sim_2 ops_plus (sim_2 ops_times (sim_var 0) (sim_int 48271)) (sim_2 ops_times (sim_var 1) (sim_int 69621))) (sim_int 12345)) (sim_int 2147483647))) (sim_ret (sim_2 ops_mod (sim_2 ops_plus (sim_2 ops_times (sim_var 2) (sim_2 ops_plus (sim_2 ops_fdiv (sim_var 2) (sim_int 65536)) (sim_int 3))) (sim_var 1)) (sim_int 2147483647)))) hsp⟩
def b__law_numbers (F__law_mixed : List D → Sto → Out D) : FS := (sSeq (sOwn 1 (eLst aNil)) (sSeq (sFor (eVar 0) (gName' 2) (sIf (tVal (e2 kGe (eVar 2) (e2 kPow (eC (.int 10)) (eC (.int 18))))) (sSeq (sSet 3 (eVar 2)) (sForR1 (oCons (eC (.int 60)) aNil) (gName' 4) (sIf (tVal (e2 kGt (eVar 3) (eC (.int 0)))) (sSeq (sLm kApp (eVar 1) (aCons (e2 kMod (eVar 3) (eC (.int 1000000))) aNil)) (sSet 3 (e2 kFdiv (eVar 3) (eC (.int 1000000))))) sNx))) (sSeq (sLm kApp (eVar 1) (aCons (e2 kMod (eVar 2) (eC (.int 1000000))) aNil)) (sForR1 (oCons (eC (.int 5)) aNil) (gName' 4) (sLm kApp (eVar 1) (aCons (e2 kMod (eCall 2 F__law_mixed (aCons (eCall 2 F__law_mixed (aCons (e2 kMod (eVar 2) (eC (.int 2147483647))) (aCons (eVar 4) aNil))) (aCons (e2 kPlus (eVar 4) (eC (.int 7))) aNil))) (eC (.int 1000000))) aNil)))))) (sRet (eVar 1))))
def F__law_numbers : List D → Sto → Out D := fnV 4 (b__law_numbers F__law_mixed)
theorem ok__law_numbers (T : Txt P w K mg ca) : DefOk P w K mg base "_law_numbers" 2 ["script"] (SpF ⟨K, ca⟩ 1 F__law_numbers) := by
  have ok__law_mixed := (ok__law_mixed (base := base) T).mono (k := 1) (by decide)
  exact T.f__law_numbers.ok sc__law_numbers rfl fun f cdv A outer s H vs Q E hr hsp => ⟨_, (pss_cons (ps_set (i := 1) sc__law_numbers.nd rfl (by first | exact Or.inl rfl | exact Or.inr rfl) (pe_lst pa_nil)) (pss_cons (ps_for (passes_of rfl) (by rfl) (pi_list (pv 0)) (pg_name (i := 2) sc__law_numbers.nd rfl (by first | exact Or.inl rfl | exact Or.inr rfl)) (pss_one (ps_if (pt_cmpR op_ge (pv 2) (pe_op op_pow pe_int pe_int) (nomark _)) (pss_cons (ps_set (i := 3) sc__law_numbers.nd rfl (by first | exact Or.inl rfl | exact Or.inr rfl) (pv 2)) (pss_one (ps_for (passes_of rfl) (by rfl) (pi_range1 rfl T.n_range (pa_cons pe_int pa_nil)) (pg_name (i := 4) sc__law_numbers.nd rfl (by first | exact Or.inl rfl | exact Or.inr rfl)) (pss_one (ps_if (pt_cmpR op_gt (pv 3) pe_int (nomark _)) (pss_cons (ps_expr (pe_bm PySem.F.plainAttrs_list PySem.F.slot_list_append PySem.F.type_list_append mt_append (pv 1) (pa_cons (pe_op op_mod (pv 3) pe_int) pa_nil))) (pss_one (ps_set (i := 3) sc__law_numbers.nd rfl (by first | exact Or.inl rfl | exact Or.inr rfl) (pe_op op_fdiv (pv 3) pe_int)))) pss_nil))))) (pss_cons (ps_expr (pe_bm PySem.F.plainAttrs_list PySem.F.slot_list_append PySem.F.type_list_append mt_append (pv 1) (pa_cons (pe_op op_mod (pv 2) pe_int) pa_nil))) (pss_one (ps_for (passes_of rfl) (by rfl) (pi_range1 rfl T.n_range (pa_cons pe_int pa_nil)) (pg_name (i := 4) sc__law_numbers.nd rfl (by first | exact Or.inl rfl | exact Or.inr rfl)) (pss_one (ps_expr (pe_bm PySem.F.plainAttrs_list PySem.F.slot_list_append PySem.F.type_list_append mt_append (pv 1) (pa_cons (pe_op op_mod (pe_def ok__law_mixed hr rfl (takes_of rfl rfl rfl rfl) (pa_cons (pe_def ok__law_mixed hr rfl (takes_of rfl rfl rfl rfl) (pa_cons (pe_op op_mod (pv 2) pe_int) (pa_cons (pv 4) pa_nil))) (pa_cons (pe_op op_plus (pv 4) pe_int) pa_nil))) pe_int) pa_nil)))))))))) (pss_one (ps_ret (pv 1))))), fn_end rfl (sim_seq (sim_own (sim_lst sim_nil)) (sim_seq (sim_for (sim_var 0) simg_name (sim_ifs (sim_ttest (sim_2 ops_ge (sim_var 2) (sim_2 ops_pow (sim_int 10) (sim_int 18)))) (sim_seq (sim_set (sim_var 2)) (sim_forR1 (sim_ocons (sim_int 60) sim_onil) simg_name (sim_ifs (sim_ttest (sim_2 ops_gt (sim_var 3) (sim_int 0))) (sim_seq (sim_lm lm_append (sim_var 1) (sim_cons (sim_2 ops_mod (sim_var 3) (sim_int 1000000)) sim_nil)) (sim_set (sim_2 ops_fdiv (sim_var 3) (sim_int 1000000)))) sim_nx))) (sim_seq (sim_lm lm_append (sim_var 1) (sim_cons (sim_2 ops_mod (sim_var 2) (sim_int 1000000)) sim_nil)) (sim_forR1 (sim_ocons (sim_int 5) sim_onil) simg_name (sim_lm lm_append (sim_var 1) (sim_cons (sim_2 ops_mod (sim_call (sim_cons (sim_call (sim_cons (sim_2 ops_mod (sim_var 2) (sim_int 2147483647)) (sim_cons (sim_var 4) sim_nil))) (sim_cons (sim_2 ops_plus (sim_var 4) (sim_int 7)) sim_nil))) (sim_int 1000000)) sim_nil)))))) (sim_ret (sim_var 1)))) hsp⟩
def b__law_draw (F__law_mixed : List D → Sto → Out D) : FS := (sSeq (sSet 2 (e2 kIx (eVar 0) (eC (.int 1)))) (sSeq (sSetI (e2 kPlus (eVar 2) (eC (.int 1))) (eVar 0) (eC (.int 1))) (sSeq (sIf (tVal (e2 kLt (eVar 2) (eL kLen (oCons (e2 kIx (eVar 0) (eC (.int 0))) aNil)))) (sRet (e2 kMod (e2 kIx (e2 kIx (eVar 0) (eC (.int 0))) (eVar 2)) (eVar 1))) sNx) (sSeq (sSet 3 (e2 kPlus (eC (.int 1)) (eVar 2))) (sSeq (sIf (tVal (e2 kGt (eL kLen (oCons (e2 kIx (eVar 0) (eC (.int 0))) aNil)) (eC (.int 0)))) (sSet 3 (e2 kPlus (eVar 3) (e2 kTimes (eC (.int 1009)) (e2 kIx (e2 kIx (eVar 0) (eC (.int 0))) (eC (.int 0)))))) sNx) (sRet (e2 kMod (e2 kFdiv (eCall 2 F__law_mixed (aCons (eCall 2 F__law_mixed (aCons (eVar 3) (aCons (eVar 2) aNil))) (aCons (eC (.int 5)) aNil))) (eC (.int 7))) (eVar 1))))))))
def F__law_draw : List D → Sto → Out D := fnV 2 (b__law_draw F__law_mixed)
theorem ok__law_draw (T : Txt P w K mg ca) : DefOk P w K mg base "_law_draw" 2 ["draws", "many"] (SpF ⟨K, ca⟩ 2 F__law_draw) := by
  have ok__law_mixed := (ok__law_mixed (base := base) T).mono (k := 1) (by decide)
  exact T.f__law_draw.ok sc__law_draw rfl fun f cdv A outer s H vs Q E hr hsp => ⟨_, (pss_cons (ps_set (i := 2) sc__law_draw.nd rfl (by first | exact Or.inl rfl | exact Or.inr rfl) (pe_ix ix_seq (pv 0) pe_int (fun _ _ => rfl))) (pss_cons (ps_asg (pe_op op_plus (pv 2) pe_int) (pg_sub (pv 0) pe_int set_list)) (pss_cons (ps_if (pt_cmpR op_lt (pv 2) (pe_callB call_lenU rfl T.n_len boot_len (pa_cons (pe_ix ix_seq (pv 0) pe_int (fun _ _ => rfl)) pa_nil)) (nomark _)) (pss_one (ps_ret (pe_op op_mod (pe_ix ix_seq (pe_ix ix_seq (pv 0) pe_int (fun _ _ => rfl)) (pv 2) (fun _ _ => rfl)) (pv 1)))) pss_nil) (pss_cons (ps_set (i := 3) sc__law_draw.nd rfl (by first | exact Or.inl rfl | exact Or.inr rfl) (pe_op op_plus pe_int (pv 2))) (pss_cons (ps_if (pt_cmpR op_gt (pe_callB call_lenU rfl T.n_len boot_len (pa_cons (pe_ix ix_seq (pv 0) pe_int (fun _ _ => rfl)) pa_nil)) pe_int (nomark _)) (pss_one (ps_set (i := 3) sc__law_draw.nd rfl (by first | exact Or.inl rfl | exact Or.inr rfl) (pe_op op_plus (pv 3) (pe_op op_times pe_int (pe_ix ix_seq (pe_ix ix_seq (pv 0) pe_int (fun _ _ => rfl)) pe_int (fun _ _ => rfl)))))) pss_nil) (pss_one (ps_ret (pe_op op_mod (pe_op op_fdiv (pe_def ok__law_mixed hr rfl (takes_of rfl rfl rfl rfl) (pa_cons (pe_def ok__law_mixed hr rfl (takes_of rfl rfl rfl rfl) (pa_cons (pv 3) (pa_cons (pv 2) pa_nil))) (pa_cons pe_int pa_nil))) pe_int) (pv 1))))))))), fn_end rfl (sim_seq (sim_set (sim_2 ops_ix (sim_var 0) (sim_int 1))) (sim_seq (sim_setI (sim_2 ops_plus (sim_var 2) (sim_int 1)) (sim_var 0) (sim_int 1)) (sim_seq (sim_ifs (sim_ttest (sim_2 ops_lt (sim_var 2) (sim_L ops_len (sim_ocons (sim_2 ops_ix (sim_var 0) (sim_int 0)) sim_onil)))) (sim_ret (sim_2 ops_mod (sim_2 ops_ix (sim_2 ops_ix (sim_var 0) (sim_int 0)) (sim_var 2)) (sim_var 1))) sim_nx) (sim_seq (sim_set (sim_2 ops_plus (sim_int 1) (sim_var 2))) (sim_seq (sim_ifs (sim_ttest (sim_2 ops_gt (sim_L ops_len (sim_ocons (sim_2 ops_ix (sim_var 0) (sim_int 0)) sim_onil)) (sim_int 0))) (sim_set (sim_2 ops_plus (sim_var 3) (sim_2 ops_times (sim_int 1009) (sim_2 ops_ix (sim_2 ops_ix (sim_var 0) (sim_int 0)) (sim_int 0))))) sim_nx) (sim_ret (sim_2 ops_mod (sim_2 ops_fdiv (sim_call (sim_cons (sim_call (sim_cons (sim_var 3) (sim_cons (sim_var 2) sim_nil))) (sim_cons (sim_int 5) sim_nil))) (sim_int 7)) (sim_var 1)))))))) hsp⟩
def b__law_stitch (F__law_draw : List D → Sto → Out D) : FS := (sSeq (sSet 1 (eCall 2 F__law_draw (aCons (eVar 0) (aCons (eC (.int 16)) aNil)))) (sSeq (sIf (tVal (e2 kGt (eVar 1) (eC (.int 12)))) (sRet (e2 kPlus (e2 kPlus (e2 kIx (eLst (aCons (eC (.str "x")) (aCons (eC (.str "y")) aNil))) (eCall 2 F__law_draw (aCons (eVar 0) (aCons (eC (.int 2)) aNil)))) (eL kStr (oCons (e2 kPlus (eC (.int 1)) (eCall 2 F__law_draw (aCons (eVar 0) (aCons (eC (.int 4)) aNil)))) aNil))) (eL kStr (oCons (e2 kPlus (eC (.int 1)) (eCall 2 F__law_draw (aCons (eVar 0) (aCons (eC (.int 4)) aNil)))) aNil)))) sNx) (sRet (eIf (tOrF (tVal (e2 kNe (eVar 1) (eC (.int 12)))) (tVal (e2 kEq (eCall 2 F__law_draw (aCons (eVar 0) (aCons (eC (.int 2)) aNil))) (eC (.int 0))))) (e2 kIx (eLst (aCons (eC (.str "k")) (aCons (eC (.str "p")) (aCons (eC (.str "k")) (aCons (eC (.str "p")) (aCons (eC (.str "s")) (aCons (eC (.str "o")) (aCons (eC (.str "r")) (aCons (eC (.str "R")) (aCons (eC (.str "l")) (aCons (eC (.str "L")) (aCons (eC (.str "d")) (aCons (eC (.str "D")) (aCons (eC (.str "f")) aNil)))))))))))))) (eVar 1)) (eC (.str "F"))))))
def F__law_stitch : List D → Sto → Out D := fnV 1 (b__law_stitch F__law_draw)
theorem ok__law_stitch (T : Txt P w K mg ca) : DefOk P w K mg base "_law_stitch" 3 ["draws"] (SpF ⟨K, ca⟩ 1 F__law_stitch) := by
  have ok__law_draw := (ok__law_draw (base := base) T).mono (k := 2) (by decide)
  exact T.f__law_stitch.ok sc__law_stitch rfl fun f cdv A outer s H vs Q E hr hsp => ⟨_, (pss_cons (ps_set (i := 1) sc__law_stitch.nd rfl (by first | exact Or.inl rfl | exact Or.inr rfl) (pe_def ok__law_draw hr rfl (takes_of rfl rfl rfl rfl) (pa_cons (pv 0) (pa_cons pe_int pa_nil)))) (pss_cons (ps_if (pt_cmpR op_gt (pv 1) pe_int (nomark _)) (pss_one (ps_ret (pe_op op_plus (pe_op op_plus (pe_ix ix_seq (pe_lst (pa_cons pe_str (pa_cons pe_str pa_nil))) (pe_def ok__law_draw hr rfl (takes_of rfl rfl rfl rfl) (pa_cons (pv 0) (pa_cons pe_int pa_nil))) (fun _ _ => rfl)) (pe_callTy call_str_int rfl T.n_str PyProof.Rows.boot_str (pa_cons (pe_op op_plus pe_int (pe_def ok__law_draw hr rfl (takes_of rfl rfl rfl rfl) (pa_cons (pv 0) (pa_cons pe_int pa_nil)))) pa_nil))) (pe_callTy call_str_int rfl T.n_str PyProof.Rows.boot_str (pa_cons (pe_op op_plus pe_int (pe_def ok__law_draw hr rfl (takes_of rfl rfl rfl rfl) (pa_cons (pv 0) (pa_cons pe_int pa_nil)))) pa_nil))))) pss_nil) (pss_one (ps_ret (pe_ifExp (PW.pt (pw_or (pt_cmpR (op_neU hr.units) (pv 1) pe_int (nomark _)) (pw_or1 (pt_cmpR (op_eqU hr.units) (pe_def ok__law_draw hr rfl (takes_of rfl rfl rfl rfl) (pa_cons (pv 0) (pa_cons pe_int pa_nil))) pe_int (nomark _))))) (pe_ix ix_seq (pe_lst (pa_cons pe_str (pa_cons pe_str (pa_cons pe_str (pa_cons pe_str (pa_cons pe_str (pa_cons pe_str (pa_cons pe_str (pa_cons pe_str (pa_cons pe_str (pa_cons pe_str (pa_cons pe_str (pa_cons pe_str (pa_cons pe_str pa_nil)))))))))))))) (pv 1) (fun _ _ => rfl)) pe_str))))), fn_end rfl (sim_seq (sim_set (sim_call (sim_cons (sim_var 0) (sim_cons (sim_int 16) sim_nil)))) (sim_seq (sim_ifs (sim_ttest (sim_2 ops_gt (sim_var 1) (sim_int 12))) (sim_ret (sim_2 ops_plus (sim_2 ops_plus (sim_2 ops_ix (sim_lst (sim_cons (sim_str "x") (sim_cons (sim_str "y") sim_nil))) (sim_call (sim_cons (sim_var 0) (sim_cons (sim_int 2) sim_nil)))) (sim_L ops_str (sim_ocons (sim_2 ops_plus (sim_int 1) (sim_call (sim_cons (sim_var 0) (sim_cons (sim_int 4) sim_nil)))) sim_onil))) (sim_L ops_str (sim_ocons (sim_2 ops_plus (sim_int 1) (sim_call (sim_cons (sim_var 0) (sim_cons (sim_int 4) sim_nil)))) sim_onil)))) sim_nx) (sim_ret (sim_if (sim_tor (sim_ttest (sim_2 ops_ne (sim_var 1) (sim_int 12))) (sim_ttest (sim_2 ops_eq (sim_call (sim_cons (sim_var 0) (sim_cons (sim_int 2) sim_nil))) (sim_int 0)))) (sim_2 ops_ix (sim_lst (sim_cons (sim_str "k") (sim_cons (sim_str "p") (sim_cons (sim_str "k") (sim_cons (sim_str "p") (sim_cons (sim_str "s") (sim_cons (sim_str "o") (sim_cons (sim_str "r") (sim_cons (sim_str "R") (sim_cons (sim_str "l") (sim_cons (sim_str "L") (sim_cons (sim_str "d") (sim_cons (sim_str "D") (sim_cons (sim_str "f") sim_nil)))))))))))))) (sim_var 1)) (sim_str "F"))))) hsp⟩
def b__law_list (F__law_draw : List D → Sto → Out D) (F__law_stitch : List D → Sto → Out D) : FS := (sSeq (sSet 1 (eLcR1 [2] (oCons (e2 kPlus (eC (.int 1)) (eCall 2 F__law_draw (aCons (eVar 0) (aCons (eC (.int 3)) aNil)))) aNil) (gName' 2) tYesF (eCall 1 F__law_stitch (aCons (eVar 0) aNil)))) (sSeq (sSet 3 (eLst aNil)) (sSeq (sForR1 (oCons (e2 kPlus (eC (.int 1)) (eCall 2 F__law_draw (aCons (eVar 0) (aCons (eC (.int 3)) aNil)))) aNil) (gName' 4) (sSeq (sSet 5 (eLcR1 [2] (oCons (e2 kPlus (eC (.int 1)) (eCall 2 F__law_draw (aCons (eVar 0) (aCons (eC (.int 3)) aNil)))) aNil) (gName' 2) tYesF (e2 kIx (eVar 1) (eCall 2 F__law_draw (aCons (eVar 0) (aCons (eL kLen (oCons (eVar 1) aNil)) aNil)))))) (sSet 3 (e2 kPlus (eVar 3) (e2 kTimes (eVar 5) (e2 kPlus (eC (.int 1)) (eCall 2 F__law_draw (aCons (eVar 0) (aCons (eC (.int 3)) aNil))))))))) (sRet (eSl (eVar 3) oNone (oSome (eC (.int 9))))))))
def F__law_list : List D → Sto → Out D := fnV 5 (b__law_list F__law_draw F__law_stitch)
theorem ok__law_list (T : Txt P w K mg ca) : DefOk P w K mg base "_law_list" 4 ["draws"] (SpF ⟨K, ca⟩ 1 F__law_list) := by
  have ok__law_draw := (ok__law_draw (base := base) T).mono (k := 3) (by decide)
  have ok__law_stitch := (ok__law_stitch (base := base) T).mono (k := 3) (by decide)
  exact T.f__law_list.ok sc__law_list rfl fun f cdv A outer s H vs Q E hr hsp => ⟨_, (pss_cons (ps_set (i := 1) sc__law_list.nd rfl (by first | exact Or.inl rfl | exact Or.inr rfl) (pe_lc (own := [("k", 2)]) (by rfl) sc__law_list.nd (pi_range1 rfl T.n_range (pa_cons (pe_op op_plus pe_int (pe_def ok__law_draw hr rfl (takes_of rfl rfl rfl rfl) (pa_cons (pv 0) (pa_cons pe_int pa_nil)))) pa_nil)) (blkOk_by (N := ["draws", "few", "k", "found", "turn", "part"]) (sc := defScope s__law_list) (by decide +kernel)) (fun _ _ _ _ _ => (pg_name (i := 2) sc__law_list.nd rfl (by first | exact Or.inl rfl | exact Or.inr rfl))) (fun _ _ _ _ _ => pts_nil) (fun _ _ _ _ _ => (pe_def ok__law_stitch hr rfl takes0 (pa_cons (pv 0) pa_nil))))) (pss_cons (ps_set (i := 3) sc__law_list.nd rfl (by first | exact Or.inl rfl | exact Or.inr rfl) (pe_lst pa_nil)) (pss_cons (ps_for (passes_of rfl) (by rfl) (pi_range1 rfl T.n_range (pa_cons (pe_op op_plus pe_int (pe_def ok__law_draw hr rfl (takes_of rfl rfl rfl rfl) (pa_cons (pv 0) (pa_cons pe_int pa_nil)))) pa_nil)) (pg_name (i := 4) sc__law_list.nd rfl (by first | exact Or.inl rfl | exact Or.inr rfl)) (pss_cons (ps_setLc (i := 5) (own := [("k", 2)]) (by rfl) sc__law_list.nd rfl rfl (sw_true rfl rfl rfl rfl) (pi_range1 rfl T.n_range (pa_cons (pe_op op_plus pe_int (pe_def ok__law_draw hr rfl (takes_of rfl rfl rfl rfl) (pa_cons (pv 0) (pa_cons pe_int pa_nil)))) pa_nil)) (blkOk_by (N := ["draws", "few", "k", "found", "turn", "part"]) (sc := defScope s__law_list) (by decide +kernel)) (fun _ _ _ _ _ => (pg_name (i := 2) sc__law_list.nd rfl (by first | exact Or.inl rfl | exact Or.inr rfl))) (fun _ _ _ _ _ => pts_nil) (fun _ _ _ _ _ => (pe_ix ix_seq (pv 1) (pe_def ok__law_draw hr rfl takes0 (pa_cons (pv 0) (pa_cons (pe_callB call_lenU rfl T.n_len boot_len (pa_cons (pv 1) pa_nil)) pa_nil))) (fun _ _ => rfl)))) (pss_one (ps_set (i := 3) sc__law_list.nd rfl (by first | exact Or.inl rfl | exact Or.inr rfl) (pe_op op_plus (pv 3) (pe_op op_times (pv 5) (pe_op op_plus pe_int (pe_def ok__law_draw hr rfl (takes_of rfl rfl rfl rfl) (pa_cons (pv 0) (pa_cons pe_int pa_nil)))))))))) (pss_one (ps_ret (pe_slice sl_u (pv 3) po_none (po_some pe_int))))))), fn_end rfl (sim_seq (sim_set (sim_lcR1 (vs := [2]) (sim_ocons (sim_2 ops_plus (sim_int 1) (sim_call (sim_cons (sim_var 0) (sim_cons (sim_int 3) sim_nil)))) sim_onil) (simw_name (by decide)) sim_yes (sim_call (sim_cons (sim_var 0) sim_nil)))) (sim_seq (sim_set (sim_lst sim_nil)) (sim_seq (sim_forR1 (sim_ocons (sim_2 ops_plus (sim_int 1) (sim_call (sim_cons (sim_var 0) (sim_cons (sim_int 3) sim_nil)))) sim_onil) simg_name (sim_seq (sim_set (sim_lcR1 (vs := [2]) (sim_ocons (sim_2 ops_plus (sim_int 1) (sim_call (sim_cons (sim_var 0) (sim_cons (sim_int 3) sim_nil)))) sim_onil) (simw_name (by decide)) sim_yes (sim_2 ops_ix (sim_var 1) (sim_call (sim_cons (sim_var 0) (sim_cons (sim_L ops_len (sim_ocons (sim_var 1) sim_onil)) sim_nil)))))) (sim_set (sim_2 ops_plus (sim_var 3) (sim_2 ops_times (sim_var 5) (sim_2 ops_plus (sim_int 1) (sim_call (sim_cons (sim_var 0) (sim_cons (sim_int 3) sim_nil))))))))) (sim_ret (sim_sl (sim_var 3) simo_none (simo_some (sim_int 9))))))) hsp⟩
def b_is_cross : FS := (sRet (eAnd (eL kIsi (oCons (eVar 0) (oCons (eC (.ty "str")) aNil))) (eAnd (e2 kEq (eL kLen (oCons (eVar 0) aNil)) (eC (.int 3))) (eAnd (e2 kIn (e2 kIx (eVar 0) (eC (.int 0))) (eC (.str "xy"))) (eAnd (e2 kIn (e2 kIx (eVar 0) (eC (.int 1))) (eC (.str "1234"))) (e2 kIn (e2 kIx (eVar 0) (eC (.int 2))) (eC (.str "1234"))))))))
def F_is_cross : List D → Sto → Out D := fnV 0 (b_is_cross)
theorem ok_is_cross (T : Txt P w K mg ca) : DefOk P w K mg base "is_cross" 1 ["word"] (SpF ⟨K, ca⟩ 1 F_is_cross) := by
  exact T.f_is_cross.ok sc_is_cross rfl fun f cdv A outer s H vs Q E hr hsp => ⟨_, (pss_one (ps_ret (pe_and (pe_callB call_isi rfl T.n_isinstance PyProof.Rows.boot_isinstance (pa_cons (pv 0) (pa_cons (pe_bltn (v := .ty "str") rfl T.n_str PyProof.Rows.boot_str rfl) pa_nil))) (pe_and (pe_cmpR (op_eqU hr.units) (pe_callB call_lenU rfl T.n_len boot_len (pa_cons (pv 0) pa_nil)) pe_int (nomark _)) (pe_and (pe_cmpR op_inU (pe_ix ix_seq (pv 0) pe_int (fun _ _ => rfl)) pe_str (by rfl)) (pe_and (pe_cmpR op_inU (pe_ix ix_seq (pv 0) pe_int (fun _ _ => rfl)) pe_str (by rfl)) (pe_one (pe_cmpR op_inU (pe_ix ix_seq (pv 0) pe_int (fun _ _ => rfl)) pe_str (by rfl))))))))), fn_end rfl (sim_ret (sim_and (sim_L ops_isi (sim_ocons (sim_var 0) (sim_ocons (sim_ty "str") sim_onil))) (sim_and (sim_2 ops_eq (sim_L ops_len (sim_ocons (sim_var 0) sim_onil)) (sim_int 3)) (sim_and (sim_2 ops_in (sim_2 ops_ix (sim_var 0) (sim_int 0)) (sim_str "xy")) (sim_and (sim_2 ops_in (sim_2 ops_ix (sim_var 0) (sim_int 1)) (sim_str "1234")) (sim_2 ops_in (sim_2 ops_ix (sim_var 0) (sim_int 2)) (sim_str "1234"))))))) hsp⟩
def b_is_stitch (F_is_cross : List D → Sto → Out D) : FS := (sRet (eAnd (eL kIsi (oCons (eVar 0) (oCons (eC (.ty "str")) aNil))) (eOr (eKIn tbl_KINDS (eVar 0)) (eCall 1 F_is_cross (aCons (eVar 0) aNil)))))
def F_is_stitch : List D → Sto → Out D := fnV 0 (b_is_stitch F_is_cross)
theorem ok_is_stitch (T : Txt P w K mg ca) : DefOk P w K mg base "is_stitch" 2 ["word"] (SpF ⟨K, ca⟩ 1 F_is_stitch) := by
  have ok_is_cross := (ok_is_cross (base := base) T).mono (k := 1) (by decide)
  exact T.f_is_stitch.ok sc_is_stitch rfl fun f cdv A outer s H vs Q E hr hsp => ⟨_, (pss_one (ps_ret (pe_and (pe_callB call_isi rfl T.n_isinstance PyProof.Rows.boot_isinstance (pa_cons (pv 0) (pa_cons (pe_bltn (v := .ty "str") rfl T.n_str PyProof.Rows.boot_str rfl) pa_nil))) (pe_one (pe_or (pe_cmpR (op_inKT T.k_KINDS) (pv 0) (pe_const (v := .ref (ca "KINDS")) ⟨_, T.g_KINDS, rfl⟩ rfl) (by rfl)) (pe_one (pe_def ok_is_cross hr rfl (takes_of rfl rfl rfl rfl) (pa_cons (pv 0) pa_nil)))))))), fn_end rfl (sim_ret (sim_and (sim_L ops_isi (sim_ocons (sim_var 0) (sim_ocons (sim_ty "str") sim_onil))) (sim_or (sim_kin T.k_KINDS (sim_var 0)) (sim_call (sim_cons (sim_var 0) sim_nil))))) hsp⟩
def b_check_stitch (F_is_stitch : List D → Sto → Out D) : FS := (sIf (tNotF (tTru (eCall 1 F_is_stitch (aCons (eVar 0) aNil)))) (sRaise "BadPattern") sNx)
def F_check_stitch : List D → Sto → Out D := fnV 0 (b_check_stitch F_is_stitch)
theorem ok_check_stitch (T : Txt P w K mg ca) : DefOk P w K mg base "check_stitch" 3 ["stitch"] (SpF ⟨K, ca⟩ 1 F_check_stitch) := by
  have ok_is_stitch := (ok_is_stitch (base := base) T).mono (k := 2) (by decide)
  exact T.f_check_stitch.ok sc_check_stitch rfl fun f cdv A outer s H vs Q E hr hsp => ⟨_, (pss_one (ps_if (pt_not (pt_truth (pe_def ok_is_stitch hr rfl (takes_of rfl rfl rfl rfl) (pa_cons (pv 0) pa_nil)) (by intro _; rfl))) (pss_one (ps_err (by rfl) (takes_of rfl rfl rfl rfl) T.e_BadPattern rfl)) pss_nil)), fn_end rfl (sim_ifs (sim_tnot (sim_ttru (sim_call (sim_cons (sim_var 0) sim_nil)))) (sim_raise (e := "BadPattern")) sim_nx) hsp⟩
def b_best_text (F_first_items : List D → Sto → Out D) (F_best_text : List D → Sto → Out D) : FS := (sSeq (sSet 2 (eL kTupOf (oCons (eVar 0) aNil))) (sSeq (sIf (tVal (eDIn (eVar 2) (eVar 1) false)) (sRet (eDGet (eVar 1) (eVar 2))) sNx) (sSeq (sSet 3 (eC .non)) (sSeq (sFor (eCall 2 F_first_items (aCons (eVar 0) (aCons (eVar 1) aNil))) (gTup' 3 (gsCons (gName' 4) (gsCons (gName' 5) (gsCons (gName' 6) gsNil)))) (sSeq (sIf (tVal (e2 kEq (eVar 6) (eL kLen (oCons (eVar 0) aNil)))) (sSet 7 (eTup (aCons (eVar 5) (aCons (eVar 4) aNil)))) (sSeq (sSet 8 (eCall 2 F_best_text (aCons (eSl (eVar 0) (oSome (eVar 6)) oNone) (aCons (eVar 1) aNil)))) (sSet 7 (eTup (aCons (e2 kPlus (eVar 5) (e2 kIx (eVar 8) (eC (.int 0)))) (aCons (e2 kPlus (e2 kPlus (eVar 4) (eC (.str " "))) (e2 kIx (eVar 8) (eC (.int 1)))) aNil)))))) (sIf (tOrF (tVal (e2 kIsN (eVar 3) (eC .non))) (tVal (e2 kLtU (eVar 7) (eVar 3)))) (sSet 3 (eVar 7)) sNx))) (sSeq (sDPutF (eVar 1) (eVar 2) (eVar 3)) (sRet (eVar 3)))))))
def b_first_items (F_best_text : List D → Sto → Out D) : FS := (sSeq (sOwn 2 (eLst (aCons (eTup (aCons (e2 kIx (eVar 0) (eC (.int 0))) (aCons (eC (.int 1)) (aCons (eC (.int 1)) aNil)))) aNil))) (sSeq (sSet 3 (eC (.int 1))) (sSeq (sWhile 1000 (tAndF (tVal (e2 kLt (eVar 3) (eL kLen (oCons (eVar 0) aNil)))) (tVal (e2 kEq (e2 kIx (eVar 0) (eVar 3)) (e2 kIx (eVar 0) (eC (.int 0)))))) (sSeq (sSet 3 (e2 kPlus (eVar 3) (eC (.int 1)))) (sLm kApp (eVar 2) (aCons (eTup (aCons (e2 kPlus (e2 kPlus (e2 kIx (eVar 0) (eC (.int 0))) (eC (.str " "))) (eL kStr (oCons (eVar 3) aNil))) (aCons (eC (.int 2)) (aCons (eVar 3) aNil)))) aNil)))) (sSeq (sForR2 (oCons (eC (.int 1)) (oCons (e2 kPlus (e2 kFdiv (eL kLen (oCons (eVar 0) aNil)) (eC (.int 2))) (eC (.int 1))) aNil)) (gName' 4) (sSeq (sSet 5 (eC (.int 1))) (sWhile 1000 (tVal (e2 kEq (eSl (eVar 0) (oSome (e2 kTimes (eVar 5) (eVar 4))) (oSome (e2 kTimes (e2 kPlus (eVar 5) (eC (.int 1))) (eVar 4)))) (eSl (eVar 0) oNone (oSome (eVar 4))))) (sSeq (sSet 5 (e2 kPlus (eVar 5) (eC (.int 1)))) (sSeq (sSet 6 (eCall 2 F_best_text (aCons (eSl (eVar 0) oNone (oSome (eVar 4))) (aCons (eVar 1) aNil)))) (sLm kApp (eVar 2) (aCons (eTup (aCons (e2 kPlus (e2 kPlus (e2 kPlus (eC (.str "( ")) (e2 kIx (eVar 6) (eC (.int 1)))) (eC (.str " ) "))) (eL kStr (oCons (eVar 5) aNil))) (aCons (e2 kPlus (e2 kIx (eVar 6) (eC (.int 0))) (eC (.int 3))) (aCons (e2 kTimes (eVar 5) (eVar 4)) aNil)))) aNil))))))) (sRet (eVar 2))))))
mutual
def F_best_text : Nat → List D → Sto → Out D
  | 0 => noF
  | n + 1 => fnV 7 (b_best_text (F_first_items n) (F_best_text n))
def F_first_items : Nat → List D → Sto → Out D
  | 0 => noF
  | n + 1 => fnV 5 (b_first_items (F_best_text n))
end
theorem okR_best_text (T : Txt P w K mg ca) (n : Nat) : DefOk P w K mg base "best_text" (0 + n) ["stitches", "known"] (SpF ⟨K, ca⟩ 2 (F_best_text n)) ∧ DefOk P w K mg base "first_items" (0 + n) ["stitches", "known"] (SpF ⟨K, ca⟩ 2 (F_first_items n)) := by
  induction n with
  | zero => exact ⟨T.f_best_text.no, T.f_first_items.no⟩
  | succ n ih =>
    obtain ⟨ok_best_text, ok_first_items⟩ := ih
    have r_best_text : DefOk P w K mg base "best_text" (0 + n + 1) ["stitches", "known"] (SpF ⟨K, ca⟩ 2 (F_best_text (n + 1))) := T.f_best_text.ok sc_best_text rfl fun f cdv A outer s H vs Q E hr hsp => ⟨_, (pss_cons (ps_set (i := 2) sc_best_text.nd rfl (by first | exact Or.inl rfl | exact Or.inr rfl) (pe_callTy call_tuple_of rfl T.n_tuple PyProof.Rows.boot_tuple (pa_cons (pv 0) pa_nil))) (pss_cons (ps_if (pt_cmp (pc_din (Nat.lt_of_le_of_lt (Nat.add_le_add_left (by decide) _) hr.units) (pv 2) (pv 1))) (pss_one (ps_ret (pe_dget (Nat.lt_of_le_of_lt (Nat.add_le_add_left (by decide) _) hr.units) (pv 1) (pv 2) (fun _ _ => rfl)))) pss_nil) (pss_cons (ps_set (i := 3) sc_best_text.nd rfl (by first | exact Or.inl rfl | exact Or.inr rfl) pe_non) (pss_cons (ps_for (passes_of rfl) (by rfl) (pi_list (pe_def ok_first_items hr rfl (takes_of rfl rfl rfl rfl) (pa_cons (pv 0) (pa_cons (pv 1) pa_nil)))) (pg_tup (by rfl) (pgs_cons (pg_name (i := 4) sc_best_text.nd rfl (by first | exact Or.inl rfl | exact Or.inr rfl)) (pgs_cons (pg_name (i := 5) sc_best_text.nd rfl (by first | exact Or.inl rfl | exact Or.inr rfl)) (pgs_cons (pg_name (i := 6) sc_best_text.nd rfl (by first | exact Or.inl rfl | exact Or.inr rfl)) pgs_nil)))) (pss_cons (ps_if (pt_cmpR (op_eqU hr.units) (pv 6) (pe_callB call_lenU rfl T.n_len boot_len (pa_cons (pv 0) pa_nil)) (nomark _)) (pss_one (ps_set (i := 7) sc_best_text.nd rfl (by first | exact Or.inl rfl | exact Or.inr rfl) (pe_tup (pa_cons (pv 5) (pa_cons (pv 4) pa_nil))))) (pss_cons (ps_set (i := 8) sc_best_text.nd rfl (by first | exact Or.inl rfl | exact Or.inr rfl) (pe_def ok_best_text hr rfl (takes_of rfl rfl rfl rfl) (pa_cons (pe_slice sl_u (pv 0) (po_some (pv 6)) po_none) (pa_cons (pv 1) pa_nil)))) (pss_one (ps_set (i := 7) sc_best_text.nd rfl (by first | exact Or.inl rfl | exact Or.inr rfl) (pe_tup (pa_cons (pe_op op_plus (pv 5) (pe_ix ix_seq (pv 8) pe_int (fun _ _ => rfl))) (pa_cons (pe_op op_plus (pe_op op_plus (pv 4) pe_str) (pe_ix ix_seq (pv 8) pe_int (fun _ _ => rfl))) pa_nil))))))) (pss_one (ps_if (PW.pt (pw_or (pt_cmpR op_isN (pv 3) pe_non (nomark _)) (pw_or1 (pt_cmpR (op_ltU hr.units) (pv 7) (pv 3) (nomark _))))) (pss_one (ps_set (i := 3) sc_best_text.nd rfl (by first | exact Or.inl rfl | exact Or.inr rfl) (pv 7))) pss_nil)))) (pss_cons (ps_dput (Nat.lt_of_le_of_lt (Nat.add_le_add_left (by decide) _) hr.units) (pv 1) (pv 2) (pv 3) (by rfl)) (pss_one (ps_ret (pv 3)))))))), fn_end rfl (sim_seq (sim_set (sim_L ops_tupOf (sim_ocons (sim_var 0) sim_onil))) (sim_seq (sim_ifs (sim_tval (sim_din (sim_var 1) (sim_var 2))) (sim_ret (sim_dget (sim_var 1) (sim_var 2))) sim_nx) (sim_seq (sim_set sim_non) (sim_seq (sim_for (sim_call (sim_cons (sim_var 0) (sim_cons (sim_var 1) sim_nil))) (simg_tup (simg_cons simg_name (simg_cons simg_name (simg_cons simg_name simg_nil)))) (sim_seq (sim_ifs (sim_ttest (sim_2 ops_eq (sim_var 6) (sim_L ops_len (sim_ocons (sim_var 0) sim_onil)))) (sim_set (sim_tup (sim_cons (sim_var 5) (sim_cons (sim_var 4) sim_nil)))) (sim_seq (sim_set (sim_call (sim_cons (sim_sl (sim_var 0) (simo_some (sim_var 6)) simo_none) (sim_cons (sim_var 1) sim_nil)))) (sim_set (sim_tup (sim_cons (sim_2 ops_plus (sim_var 5) (sim_2 ops_ix (sim_var 8) (sim_int 0))) (sim_cons (sim_2 ops_plus (sim_2 ops_plus (sim_var 4) (sim_str " ")) (sim_2 ops_ix (sim_var 8) (sim_int 1))) sim_nil)))))) (sim_ifs (sim_tor (sim_ttest (sim_2 ops_isN (sim_var 3) sim_non)) (sim_ttest (sim_2 ops_ltU (sim_var 7) (sim_var 3)))) (sim_set (sim_var 7)) sim_nx))) (sim_seq (sim_dput (sim_var 1) (sim_var 2) (sim_var 3)) (sim_ret (sim_var 3))))))) hsp⟩
    have r_first_items : DefOk P w K mg base "first_items" (0 + n + 1) ["stitches", "known"] (SpF ⟨K, ca⟩ 2 (F_first_items (n + 1))) := T.f_first_items.ok sc_first_items rfl fun f cdv A outer s H vs Q E hr hsp => ⟨_, (pss_cons (ps_set (i := 2) sc_first_items.nd rfl (by first | exact Or.inl rfl | exact Or.inr rfl) (pe_lst (pa_cons (pe_tup (pa_cons (pe_ix ix_seq (pv 0) pe_int (fun _ _ => rfl)) (pa_cons pe_int (pa_cons pe_int pa_nil)))) pa_nil))) (pss_cons (ps_set (i := 3) sc_first_items.nd rfl (by first | exact Or.inl rfl | exact Or.inr rfl) pe_int) (pss_cons (ps_while (passes_of rfl) (PW.pt (pw_and (pt_cmpR op_lt (pv 3) (pe_callB call_lenU rfl T.n_len boot_len (pa_cons (pv 0) pa_nil)) (nomark _)) (pw_and1 (pt_cmpR (op_eqU hr.units) (pe_ix ix_seq (pv 0) (pv 3) (fun _ _ => rfl)) (pe_ix ix_seq (pv 0) pe_int (fun _ _ => rfl)) (nomark _))))) (pss_cons (ps_set (i := 3) sc_first_items.nd rfl (by first | exact Or.inl rfl | exact Or.inr rfl) (pe_op op_plus (pv 3) pe_int)) (pss_one (ps_expr (pe_bm PySem.F.plainAttrs_list PySem.F.slot_list_append PySem.F.type_list_append mt_append (pv 2) (pa_cons (pe_tup (pa_cons (pe_op op_plus (pe_op op_plus (pe_ix ix_seq (pv 0) pe_int (fun _ _ => rfl)) pe_str) (pe_callTy call_str_int rfl T.n_str PyProof.Rows.boot_str (pa_cons (pv 3) pa_nil))) (pa_cons pe_int (pa_cons (pv 3) pa_nil)))) pa_nil)))))) (pss_cons (ps_for (passes_of rfl) (by rfl) (pi_range2 rfl T.n_range (pa_cons pe_int (pa_cons (pe_op op_plus (pe_op op_fdiv (pe_callB call_lenU rfl T.n_len boot_len (pa_cons (pv 0) pa_nil)) pe_int) pe_int) pa_nil))) (pg_name (i := 4) sc_first_items.nd rfl (by first | exact Or.inl rfl | exact Or.inr rfl)) (pss_cons (ps_set (i := 5) sc_first_items.nd rfl (by first | exact Or.inl rfl | exact Or.inr rfl) pe_int) (pss_one (ps_while (passes_of rfl) (pt_cmpR (op_eqU hr.units) (pe_slice sl_u (pv 0) (po_some (pe_op op_times (pv 5) (pv 4))) (po_some (pe_op op_times (pe_op op_plus (pv 5) pe_int) (pv 4)))) (pe_slice sl_u (pv 0) po_none (po_some (pv 4))) (nomark _)) (pss_cons (ps_set (i := 5) sc_first_items.nd rfl (by first | exact Or.inl rfl | exact Or.inr rfl) (pe_op op_plus (pv 5) pe_int)) (pss_cons (ps_set (i := 6) sc_first_items.nd rfl (by first | exact Or.inl rfl | exact Or.inr rfl) (pe_def ok_best_text hr rfl (takes_of rfl rfl rfl rfl) (pa_cons (pe_slice sl_u (pv 0) po_none (po_some (pv 4))) (pa_cons (pv 1) pa_nil)))) (pss_one (ps_expr (pe_bm PySem.F.plainAttrs_list PySem.F.slot_list_append PySem.F.type_list_append mt_append (pv 2) (pa_cons (pe_tup (pa_cons (pe_op op_plus (pe_op op_plus (pe_op op_plus pe_str (pe_ix ix_seq (pv 6) pe_int (fun _ _ => rfl))) pe_str) (pe_callTy call_str_int rfl T.n_str PyProof.Rows.boot_str (pa_cons (pv 5) pa_nil))) (pa_cons (pe_op op_plus (pe_ix ix_seq (pv 6) pe_int (fun _ _ => rfl)) pe_int) (pa_cons (pe_op op_times (pv 5) (pv 4)) pa_nil)))) pa_nil)))))))))) (pss_one (ps_ret (pv 2))))))), fn_end rfl (sim_seq (sim_own (sim_lst (sim_cons (sim_tup (sim_cons (sim_2 ops_ix (sim_var 0) (sim_int 0)) (sim_cons (sim_int 1) (sim_cons (sim_int 1) sim_nil)))) sim_nil))) (sim_seq (sim_set (sim_int 1)) (sim_seq (sim_while (n := 1000) (sim_tand (sim_ttest (sim_2 ops_lt (sim_var 3) (sim_L ops_len (sim_ocons (sim_var 0) sim_onil)))) (sim_ttest (sim_2 ops_eq (sim_2 ops_ix (sim_var 0) (sim_var 3)) (sim_2 ops_ix (sim_var 0) (sim_int 0))))) (sim_seq (sim_set (sim_2 ops_plus (sim_var 3) (sim_int 1))) (sim_lm lm_append (sim_var 2) (sim_cons (sim_tup (sim_cons (sim_2 ops_plus (sim_2 ops_plus (sim_2 ops_ix (sim_var 0) (sim_int 0)) (sim_str " ")) (sim_L ops_str (sim_ocons (sim_var 3) sim_onil))) (sim_cons (sim_int 2) (sim_cons (sim_var 3) sim_nil)))) sim_nil)))) (sim_seq (sim_forR2 (sim_ocons (sim_int 1) (sim_ocons (sim_2 ops_plus (sim_2 ops_fdiv (sim_L ops_len (sim_ocons (sim_var 0) sim_onil)) (sim_int 2)) (sim_int 1)) sim_onil)) simg_name (sim_seq (sim_set (sim_int 1)) (sim_while (n := 1000) (sim_ttest (sim_2 ops_eq (sim_sl (sim_var 0) (simo_some (sim_2 ops_times (sim_var 5) (sim_var 4))) (simo_some (sim_2 ops_times (sim_2 ops_plus (sim_var 5) (sim_int 1)) (sim_var 4)))) (sim_sl (sim_var 0) simo_none (simo_some (sim_var 4))))) (sim_seq (sim_set (sim_2 ops_plus (sim_var 5) (sim_int 1))) (sim_seq (sim_set (sim_call (sim_cons (sim_sl (sim_var 0) simo_none (simo_some (sim_var 4))) (sim_cons (sim_var 1) sim_nil)))) (sim_lm lm_append (sim_var 2) (sim_cons (sim_tup (sim_cons (sim_2 ops_plus (sim_2 ops_plus (sim_2 ops_plus (sim_str "( ") (sim_2 ops_ix (sim_var 6) (sim_int 1))) (sim_str " ) ")) (sim_L ops_str (sim_ocons (sim_var 5) sim_onil))) (sim_cons (sim_2 ops_plus (sim_2 ops_ix (sim_var 6) (sim_int 0)) (sim_int 3)) (sim_cons (sim_2 ops_times (sim_var 5) (sim_var 4)) sim_nil)))) sim_nil))))))) (sim_ret (sim_var 2)))))) hsp⟩
    exact ⟨r_best_text, r_first_items⟩
theorem ok_best_text (T : Txt P w K mg ca) : DefOk P w K mg base "best_text" 100 ["stitches", "known"] (SpF ⟨K, ca⟩ 2 (F_best_text 100)) := (okR_best_text (base := base) T 100).1
theorem ok_first_items (T : Txt P w K mg ca) : DefOk P w K mg base "first_items" 100 ["stitches", "known"] (SpF ⟨K, ca⟩ 2 (F_first_items 100)) := (okR_best_text (base := base) T 100).2
def b_shortest (F_check_stitch : List D → Sto → Out D) (F_best_text : List D → Sto → Out D) : FS := (sSeq (sIf (tNotF (tTru (eL kIsi (oCons (eVar 0) (oCons (eC (.ty "list")) aNil))))) (sRaise "BadPattern") sNx) (sSeq (sFor (eVar 0) (gName' 1) (sDrop (eCall 1 F_check_stitch (aCons (eVar 1) aNil)))) (sSeq (sIf (tNotF (tVal (eChain kLe kLe (eC (.int 1)) (eL kLen (oCons (eVar 0) aNil)) (eC (.int 60))))) (sRaise "BadArgument") sNx) (sRet (e2 kIx (eCall 2 F_best_text (aCons (eVar 0) (aCons eDNewT aNil))) (eC (.int 1)))))))
def F_shortest : List D → Sto → Out D := fnV 1 (b_shortest F_check_stitch (F_best_text 100))
theorem ok_shortest (T : Txt P w K mg ca) : DefOk P w K mg base "shortest" 101 ["stitches"] (SpF ⟨K, ca⟩ 1 F_shortest) := by
  have ok_check_stitch := (ok_check_stitch (base := base) T).mono (k := 100) (by decide)
  have ok_best_text := (ok_best_text (base := base) T).mono (k := 100) (by decide)
  exact T.f_shortest.ok sc_shortest rfl fun f cdv A outer s H vs Q E hr hsp => ⟨_, (pss_cons (ps_if (pt_not (pt_truth (pe_callB call_isi rfl T.n_isinstance PyProof.Rows.boot_isinstance (pa_cons (pv 0) (pa_cons (pe_bltn (v := .ty "list") rfl T.n_list PyProof.Rows.boot_list rfl) pa_nil))) (by intro _; rfl))) (pss_one (ps_err (by rfl) (takes_of rfl rfl rfl rfl) T.e_BadPattern rfl)) pss_nil) (pss_cons (ps_for (passes_of rfl) (by rfl) (pi_list (pv 0)) (pg_name (i := 1) sc_shortest.nd rfl (by first | exact Or.inl rfl | exact Or.inr rfl)) (pss_one (ps_expr (pe_def ok_check_stitch hr rfl (takes_of rfl rfl rfl rfl) (pa_cons (pv 1) pa_nil))))) (pss_cons (ps_if (pt_not (pt_chain op_le op_le pe_int (pe_callB call_lenU rfl T.n_len boot_len (pa_cons (pv 0) pa_nil)) pe_int)) (pss_one (ps_err (by rfl) (takes_of rfl rfl rfl rfl) T.e_BadArgument rfl)) pss_nil) (pss_one (ps_ret (pe_ix ix_seq (pe_def ok_best_text hr rfl (takes_of rfl rfl rfl rfl) (pa_cons (pv 0) (pa_cons pe_dnewT pa_nil))) pe_int (fun _ _ => rfl))))))), fn_end rfl (sim_seq (sim_ifs (sim_tnot (sim_ttru (sim_L ops_isi (sim_ocons (sim_var 0) (sim_ocons (sim_ty "list") sim_onil))))) (sim_raise (e := "BadPattern")) sim_nx) (sim_seq (sim_for (sim_var 0) simg_name (sim_drop (sim_call (sim_cons (sim_var 1) sim_nil)))) (sim_seq (sim_ifs (sim_tnot (sim_ttest (sim_chain ops_le ops_le (sim_int 1) (sim_L ops_len (sim_ocons (sim_var 0) sim_onil)) (sim_int 60)))) (sim_raise (e := "BadArgument")) sim_nx) (sim_ret (sim_2 ops_ix (sim_call (sim_cons (sim_var 0) (sim_cons sim_dnewT sim_nil))) (sim_int 1)))))) hsp⟩
def b__law_pieces : FS := (sSeq (sSet 4 (eSl (eVar 0) (oSome (eVar 1)) (oSome (eVar 2)))) (sSeq (sOwn 5 (eLst aNil)) (sSeq (sIf (tVal (e2 kEq (eL kLen (oCons (eVar 4) aNil)) (eC (.int 1)))) (sLm kApp (eVar 5) (aCons (eTup (aCons (eC (.int 1)) (aCons (e2 kIx (eVar 4) (eC (.int 0))) aNil))) aNil)) (sIf (tVal (e2 kEq (eVar 4) (e2 kTimes (eLst (aCons (e2 kIx (eVar 4) (eC (.int 0))) aNil)) (eL kLen (oCons (eVar 4) aNil))))) (sLm kApp (eVar 5) (aCons (eTup (aCons (eC (.int 2)) (aCons (e2 kPlus (e2 kPlus (e2 kIx (eVar 4) (eC (.int 0))) (eC (.str " "))) (eL kStr (oCons (eL kLen (oCons (eVar 4) aNil)) aNil))) aNil))) aNil)) sNx)) (sSeq (sForR2 (oCons (eC (.int 1)) (oCons (eL kLen (oCons (eVar 4) aNil)) aNil)) (gName' 6) (sIf (tAndF (tVal (e2 kEq (e2 kMod (eL kLen (oCons (eVar 4) aNil)) (eVar 6)) (eC (.int 0)))) (tVal (e2 kEq (eVar 4) (e2 kTimes (eSl (eVar 4) oNone (oSome (eVar 6))) (e2 kFdiv (eL kLen (oCons (eVar 4) aNil)) (eVar 6)))))) (sSeq (sAsgG (eDGet (eVar 3) (eTup (aCons (eVar 1) (aCons (e2 kPlus (eVar 1) (eVar 6)) aNil)))) (gTup' 2 (gsCons (gName' 7) (gsCons (gName' 8) gsNil)))) (sLm kApp (eVar 5) (aCons (eTup (aCons (e2 kPlus (eVar 7) (eC (.int 3))) (aCons (e2 kPlus (e2 kPlus (e2 kPlus (eC (.str "( ")) (eVar 8)) (eC (.str " ) "))) (eL kStr (oCons (e2 kFdiv (eL kLen (oCons (eVar 4) aNil)) (eVar 6)) aNil))) aNil))) aNil))) sNx)) (sRet (eVar 5))))))
def F__law_pieces : List D → Sto → Out D := fnV 5 (b__law_pieces)
theorem ok__law_pieces (T : Txt P w K mg ca) : DefOk P w K mg base "_law_pieces" 1 ["stitches", "i", "j", "best"] (SpF ⟨K, ca⟩ 4 F__law_pieces) := by
  exact T.f__law_pieces.ok sc__law_pieces rfl fun f cdv A outer s H vs Q E hr hsp => ⟨_, (pss_cons (ps_set (i := 4) sc__law_pieces.nd rfl (by first | exact Or.inl rfl | exact Or.inr rfl) (pe_slice sl_u (pv 0) (po_some (pv 1)) (po_some (pv 2)))) (pss_cons (ps_set (i := 5) sc__law_pieces.nd rfl (by first | exact Or.inl rfl | exact Or.inr rfl) (pe_lst pa_nil)) (pss_cons (ps_if (pt_cmpR (op_eqU hr.units) (pe_callB call_lenU rfl T.n_len boot_len (pa_cons (pv 4) pa_nil)) pe_int (nomark _)) (pss_one (ps_expr (pe_bm PySem.F.plainAttrs_list PySem.F.slot_list_append PySem.F.type_list_append mt_append (pv 5) (pa_cons (pe_tup (pa_cons pe_int (pa_cons (pe_ix ix_seq (pv 4) pe_int (fun _ _ => rfl)) pa_nil))) pa_nil)))) (pss_one (ps_if (pt_cmpR (op_eqU hr.units) (pv 4) (pe_op op_times (pe_lst (pa_cons (pe_ix ix_seq (pv 4) pe_int (fun _ _ => rfl)) pa_nil)) (pe_callB call_lenU rfl T.n_len boot_len (pa_cons (pv 4) pa_nil))) (nomark _)) (pss_one (ps_expr (pe_bm PySem.F.plainAttrs_list PySem.F.slot_list_append PySem.F.type_list_append mt_append (pv 5) (pa_cons (pe_tup (pa_cons pe_int (pa_cons (pe_op op_plus (pe_op op_plus (pe_ix ix_seq (pv 4) pe_int (fun _ _ => rfl)) pe_str) (pe_callTy call_str_int rfl T.n_str PyProof.Rows.boot_str (pa_cons (pe_callB call_lenU rfl T.n_len boot_len (pa_cons (pv 4) pa_nil)) pa_nil))) pa_nil))) pa_nil)))) pss_nil))) (pss_cons (ps_for (passes_of rfl) (by rfl) (pi_range2 rfl T.n_range (pa_cons pe_int (pa_cons (pe_callB call_lenU rfl T.n_len boot_len (pa_cons (pv 4) pa_nil)) pa_nil))) (pg_name (i := 6) sc__law_pieces.nd rfl (by first | exact Or.inl rfl | exact Or.inr rfl)) (pss_one (ps_if (PW.pt (pw_and (pt_cmpR (op_eqU hr.units) (pe_op op_mod (pe_callB call_lenU rfl T.n_len boot_len (pa_cons (pv 4) pa_nil)) (pv 6)) pe_int (nomark _)) (pw_and1 (pt_cmpR (op_eqU hr.units) (pv 4) (pe_op op_times (pe_slice sl_u (pv 4) po_none (po_some (pv 6))) (pe_op op_fdiv (pe_callB call_lenU rfl T.n_len boot_len (pa_cons (pv 4) pa_nil)) (pv 6))) (nomark _))))) (pss_cons (ps_asg (pe_dget (Nat.lt_of_le_of_lt (Nat.add_le_add_left (by decide) _) hr.units) (pv 3) (pe_tup (pa_cons (pv 1) (pa_cons (pe_op op_plus (pv 1) (pv 6)) pa_nil))) (fun _ _ => rfl)) (pg_tup (by rfl) (pgs_cons (pg_name (i := 7) sc__law_pieces.nd rfl (by first | exact Or.inl rfl | exact Or.inr rfl)) (pgs_cons (pg_name (i := 8) sc__law_pieces.nd rfl (by first | exact Or.inl rfl | exact Or.inr rfl)) pgs_nil)))) (pss_one (ps_expr (pe_bm PySem.F.plainAttrs_list PySem.F.slot_list_append PySem.F.type_list_append mt_append (pv 5) (pa_cons (pe_tup (pa_cons (pe_op op_plus (pv 7) pe_int) (pa_cons (pe_op op_plus (pe_op op_plus (pe_op op_plus pe_str (pv 8)) pe_str) (pe_callTy call_str_int rfl T.n_str PyProof.Rows.boot_str (pa_cons (pe_op op_fdiv (pe_callB call_lenU rfl T.n_len boot_len (pa_cons (pv 4) pa_nil)) (pv 6)) pa_nil))) pa_nil))) pa_nil))))) pss_nil))) (pss_one (ps_ret (pv 5))))))), fn_end rfl (sim_seq (sim_set (sim_sl (sim_var 0) (simo_some (sim_var 1)) (simo_some (sim_var 2)))) (sim_seq (sim_own (sim_lst sim_nil)) (sim_seq (sim_ifs (sim_ttest (sim_2 ops_eq (sim_L ops_len (sim_ocons (sim_var 4) sim_onil)) (sim_int 1))) (sim_lm lm_append (sim_var 5) (sim_cons (sim_tup (sim_cons (sim_int 1) (sim_cons (sim_2 ops_ix (sim_var 4) (sim_int 0)) sim_nil))) sim_nil)) (sim_ifs (sim_ttest (sim_2 ops_eq (sim_var 4) (sim_2 ops_times (sim_lst (sim_cons (sim_2 ops_ix (sim_var 4) (sim_int 0)) sim_nil)) (sim_L ops_len (sim_ocons (sim_var 4) sim_onil))))) (sim_lm lm_append (sim_var 5) (sim_cons (sim_tup (sim_cons (sim_int 2) (sim_cons (sim_2 ops_plus (sim_2 ops_plus (sim_2 ops_ix (sim_var 4) (sim_int 0)) (sim_str " ")) (sim_L ops_str (sim_ocons (sim_L ops_len (sim_ocons (sim_var 4) sim_onil)) sim_onil))) sim_nil))) sim_nil)) sim_nx)) (sim_seq (sim_forR2 (sim_ocons (sim_int 1) (sim_ocons (sim_L ops_len (sim_ocons (sim_var 4) sim_onil)) sim_onil)) simg_name (sim_ifs (sim_tand (sim_ttest (sim_2 ops_eq (sim_2 ops_mod (sim_L ops_len (sim_ocons (sim_var 4) sim_onil)) (sim_var 6)) (sim_int 0))) (sim_ttest (sim_2 ops_eq (sim_var 4) (sim_2 ops_times (sim_sl (sim_var 4) simo_none (simo_some (sim_var 6))) (sim_2 ops_fdiv (sim_L ops_len (sim_ocons (sim_var 4) sim_onil)) (sim_var 6)))))) (sim_seq (sim_asgG (sim_dget (sim_var 3) (sim_tup (sim_cons (sim_var 1) (sim_cons (sim_2 ops_plus (sim_var 1) (sim_var 6)) sim_nil)))) (simg_tup (simg_cons simg_name (simg_cons simg_name simg_nil)))) (sim_lm lm_append (sim_var 5) (sim_cons (sim_tup (sim_cons (sim_2 ops_plus (sim_var 7) (sim_int 3)) (sim_cons (sim_2 ops_plus (sim_2 ops_plus (sim_2 ops_plus (sim_str "( ") (sim_var 8)) (sim_str " ) ")) (sim_L ops_str (sim_ocons (sim_2 ops_fdiv (sim_L ops_len (sim_ocons (sim_var 4) sim_onil)) (sim_var 6)) sim_onil))) sim_nil))) sim_nil))) sim_nx)) (sim_ret (sim_var 5)))))) hsp⟩
def b__law_shortest (F__law_pieces : List D → Sto → Out D) : FS := (sSeq (sSet 1 (eL kLen (oCons (eVar 0) aNil))) (sSeq (sSet 2 eDNewT) (sSeq (sForR2 (oCons (eC (.int 1)) (oCons (e2 kPlus (eVar 1) (eC (.int 1))) aNil)) (gName' 3) (sForR1 (oCons (e2 kPlus (e2 kMinus (eVar 1) (eVar 3)) (eC (.int 1))) aNil) (gName' 4) (sSeq (sSet 5 (e2 kPlus (eVar 4) (eVar 3))) (sSeq (sOwn 6 (eCall 4 F__law_pieces (aCons (eVar 0) (aCons (eVar 4) (aCons (eVar 5) (aCons (eVar 2) aNil)))))) (sSeq (sForR2 (oCons (e2 kPlus (eVar 4) (eC (.int 1))) (oCons (eVar 5) aNil)) (gName' 7) (sFor (eCall 4 F__law_pieces (aCons (eVar 0) (aCons (eVar 4) (aCons (eVar 7) (aCons (eVar 2) aNil))))) (gTup' 2 (gsCons (gName' 8) (gsCons (gName' 9) gsNil))) (sSeq (sSet 10 (eDGet (eVar 2) (eTup (aCons (eVar 7) (aCons (eVar 5) aNil))))) (sLm kApp (eVar 6) (aCons (eTup (aCons (e2 kPlus (eVar 8) (e2 kIx (eVar 10) (eC (.int 0)))) (aCons (e2 kPlus (e2 kPlus (eVar 9) (eC (.str " "))) (e2 kIx (eVar 10) (eC (.int 1)))) aNil))) aNil))))) (sDPutF (eVar 2) (eTup (aCons (eVar 4) (aCons (eVar 5) aNil))) (eL kMin (oCons (eVar 6) aNil)))))))) (sRet (e2 kIx (eDGet (eVar 2) (eTup (aCons (eC (.int 0)) (aCons (eVar 1) aNil)))) (eC (.int 1)))))))
def F__law_shortest : List D → Sto → Out D := fnV 10 (b__law_shortest F__law_pieces)
theorem ok__law_shortest (T : Txt P w K mg ca) : DefOk P w K mg base "_law_shortest" 2 ["stitches"] (SpF ⟨K, ca⟩ 1 F__law_shortest) := by
  have ok__law_pieces := (ok__law_pieces (base := base) T).mono (k := 1) (by decide)
  exact T.f__law_shortest.ok sc__law_shortest rfl fun f cdv A outer s H vs Q E hr hsp => ⟨_, (pss_cons (ps_set (i := 1) sc__law_shortest.nd rfl (by first | exact Or.inl rfl | exact Or.inr rfl) (pe_callB call_lenU rfl T.n_len boot_len (pa_cons (pv 0) pa_nil))) (pss_cons (ps_set (i := 2) sc__law_shortest.nd rfl (by first | exact Or.inl rfl | exact Or.inr rfl) pe_dnewT) (pss_cons (ps_for (passes_of rfl) (by rfl) (pi_range2 rfl T.n_range (pa_cons pe_int (pa_cons (pe_op op_plus (pv 1) pe_int) pa_nil))) (pg_name (i := 3) sc__law_shortest.nd rfl (by first | exact Or.inl rfl | exact Or.inr rfl)) (pss_one (ps_for (passes_of rfl) (by rfl) (pi_range1 rfl T.n_range (pa_cons (pe_op op_plus (pe_op op_sub (pv 1) (pv 3)) pe_int) pa_nil)) (pg_name (i := 4) sc__law_shortest.nd rfl (by first | exact Or.inl rfl | exact Or.inr rfl)) (pss_cons (ps_set (i := 5) sc__law_shortest.nd rfl (by first | exact Or.inl rfl | exact Or.inr rfl) (pe_op op_plus (pv 4) (pv 3))) (pss_cons (ps_set (i := 6) sc__law_shortest.nd rfl (by first | exact Or.inl rfl | exact Or.inr rfl) (pe_def ok__law_pieces hr rfl (takes_of rfl rfl rfl rfl) (pa_cons (pv 0) (pa_cons (pv 4) (pa_cons (pv 5) (pa_cons (pv 2) pa_nil)))))) (pss_cons (ps_for (passes_of rfl) (by rfl) (pi_range2 rfl T.n_range (pa_cons (pe_op op_plus (pv 4) pe_int) (pa_cons (pv 5) pa_nil))) (pg_name (i := 7) sc__law_shortest.nd rfl (by first | exact Or.inl rfl | exact Or.inr rfl)) (pss_one (ps_for (passes_of rfl) (by rfl) (pi_list (pe_def ok__law_pieces hr rfl (takes_of rfl rfl rfl rfl) (pa_cons (pv 0) (pa_cons (pv 4) (pa_cons (pv 7) (pa_cons (pv 2) pa_nil)))))) (pg_tup (by rfl) (pgs_cons (pg_name (i := 8) sc__law_shortest.nd rfl (by first | exact Or.inl rfl | exact Or.inr rfl)) (pgs_cons (pg_name (i := 9) sc__law_shortest.nd rfl (by first | exact Or.inl rfl | exact Or.inr rfl)) pgs_nil))) (pss_cons (ps_set (i := 10) sc__law_shortest.nd rfl (by first | exact Or.inl rfl | exact Or.inr rfl) (pe_dget (Nat.lt_of_le_of_lt (Nat.add_le_add_left (by decide) _) hr.units) (pv 2) (pe_tup (pa_cons (pv 7) (pa_cons (pv 5) pa_nil))) (fun _ _ => rfl))) (pss_one (ps_expr (pe_bm PySem.F.plainAttrs_list PySem.F.slot_list_append PySem.F.type_list_append mt_append (pv 6) (pa_cons (pe_tup (pa_cons (pe_op op_plus (pv 8) (pe_ix ix_seq (pv 10) pe_int (fun _ _ => rfl))) (pa_cons (pe_op op_plus (pe_op op_plus (pv 9) pe_str) (pe_ix ix_seq (pv 10) pe_int (fun _ _ => rfl))) pa_nil))) pa_nil)))))))) (pss_one (ps_dput (Nat.lt_of_le_of_lt (Nat.add_le_add_left (by decide) _) hr.units) (pv 2) (pe_tup (pa_cons (pv 4) (pa_cons (pv 5) pa_nil))) (pe_callB (cr_minP (by rfl) hr.units) rfl T.n_min PyProof.Rows.boot_min (pa_cons (pv 6) pa_nil)) (by rfl))))))))) (pss_one (ps_ret (pe_ix ix_seq (pe_dget (Nat.lt_of_le_of_lt (Nat.add_le_add_left (by decide) _) hr.units) (pv 2) (pe_tup (pa_cons pe_int (pa_cons (pv 1) pa_nil))) (fun _ _ => rfl)) pe_int (fun _ _ => rfl))))))), fn_end rfl (sim_seq (sim_set (sim_L ops_len (sim_ocons (sim_var 0) sim_onil))) (sim_seq (sim_set sim_dnewT) (sim_seq (sim_forR2 (sim_ocons (sim_int 1) (sim_ocons (sim_2 ops_plus (sim_var 1) (sim_int 1)) sim_onil)) simg_name (sim_forR1 (sim_ocons (sim_2 ops_plus (sim_2 ops_minus (sim_var 1) (sim_var 3)) (sim_int 1)) sim_onil) simg_name (sim_seq (sim_set (sim_2 ops_plus (sim_var 4) (sim_var 3))) (sim_seq (sim_own (sim_call (sim_cons (sim_var 0) (sim_cons (sim_var 4) (sim_cons (sim_var 5) (sim_cons (sim_var 2) sim_nil)))))) (sim_seq (sim_forR2 (sim_ocons (sim_2 ops_plus (sim_var 4) (sim_int 1)) (sim_ocons (sim_var 5) sim_onil)) simg_name (sim_for (sim_call (sim_cons (sim_var 0) (sim_cons (sim_var 4) (sim_cons (sim_var 7) (sim_cons (sim_var 2) sim_nil))))) (simg_tup (simg_cons simg_name (simg_cons simg_name simg_nil))) (sim_seq (sim_set (sim_dget (sim_var 2) (sim_tup (sim_cons (sim_var 7) (sim_cons (sim_var 5) sim_nil))))) (sim_lm lm_append (sim_var 6) (sim_cons (sim_tup (sim_cons (sim_2 ops_plus (sim_var 8) (sim_2 ops_ix (sim_var 10) (sim_int 0))) (sim_cons (sim_2 ops_plus (sim_2 ops_plus (sim_var 9) (sim_str " ")) (sim_2 ops_ix (sim_var 10) (sim_int 1))) sim_nil))) sim_nil))))) (sim_dput (sim_var 2) (sim_tup (sim_cons (sim_var 4) (sim_cons (sim_var 5) sim_nil))) (sim_L ops_min (sim_ocons (sim_var 6) sim_onil)))))))) (sim_ret (sim_2 ops_ix (sim_dget (sim_var 2) (sim_tup (sim_cons (sim_int 0) (sim_cons (sim_var 1) sim_nil)))) (sim_int 1)))))) hsp⟩
def b_check_chart (F_check_stitch : List D → Sto → Out D) : FS := (sSeq (sIf (tNotF (tTru (eL kIsi (oCons (eVar 0) (oCons (eC (.ty "list")) aNil))))) (sRaise "BadPattern") sNx) (sSeq (sFor (eVar 0) (gName' 3) (sSeq (sIf (tNotF (tTru (eL kIsi (oCons (eVar 3) (oCons (eC (.ty "list")) aNil))))) (sRaise "BadPattern") sNx) (sFor (eVar 3) (gName' 4) (sDrop (eCall 1 F_check_stitch (aCons (eVar 4) aNil)))))) (sIf (tVal (e2 kNotN (eVar 2) (eC .non))) (sIf (tOrF (tNotF (tVal (eChain kLe kLe (eC (.int 1)) (eL kLen (oCons (eVar 0) aNil)) (eC (.int 200))))) (tTru (eLc [3] (eVar 0) (gName' 3) (tNotF (tVal (eChain kLe kLe (eVar 1) (eL kLen (oCons (eVar 3) aNil)) (eVar 2)))) (eVar 3)))) (sRaise "BadArgument") sNx) sNx)))
def F_check_chart : List D → Sto → Out D := fnV 2 (b_check_chart F_check_stitch)
theorem ok_check_chart (T : Txt P w K mg ca) : DefOk P w K mg base "check_chart" 4 ["value", "least", "most"] (SpF ⟨K, ca⟩ 3 F_check_chart) := by
  have ok_check_stitch := (ok_check_stitch (base := base) T).mono (k := 3) (by decide)
  exact T.f_check_chart.ok sc_check_chart rfl fun f cdv A outer s H vs Q E hr hsp => ⟨_, (pss_cons (ps_if (pt_not (pt_truth (pe_callB call_isi rfl T.n_isinstance PyProof.Rows.boot_isinstance (pa_cons (pv 0) (pa_cons (pe_bltn (v := .ty "list") rfl T.n_list PyProof.Rows.boot_list rfl) pa_nil))) (by intro _; rfl))) (pss_one (ps_err (by rfl) (takes_of rfl rfl rfl rfl) T.e_BadPattern rfl)) pss_nil) (pss_cons (ps_for (passes_of rfl) (by rfl) (pi_list (pv 0)) (pg_name (i := 3) sc_check_chart.nd rfl (by first | exact Or.inl rfl | exact Or.inr rfl)) (pss_cons (ps_if (pt_not (pt_truth (pe_callB call_isi rfl T.n_isinstance PyProof.Rows.boot_isinstance (pa_cons (pv 3) (pa_cons (pe_bltn (v := .ty "list") rfl T.n_list PyProof.Rows.boot_list rfl) pa_nil))) (by intro _; rfl))) (pss_one (ps_err (by rfl) (takes_of rfl rfl rfl rfl) T.e_BadPattern rfl)) pss_nil) (pss_one (ps_for (passes_of rfl) (by rfl) (pi_list (pv 3)) (pg_name (i := 4) sc_check_chart.nd rfl (by first | exact Or.inl rfl | exact Or.inr rfl)) (pss_one (ps_expr (pe_def ok_check_stitch hr rfl (takes_of rfl rfl rfl rfl) (pa_cons (pv 4) pa_nil)))))))) (pss_one (ps_if (pt_cmpR op_notN (pv 2) pe_non (nomark _)) (pss_one (ps_if (PW.pt (pw_or (pt_not (pt_chain op_le op_le pe_int (pe_callB call_lenU rfl T.n_len boot_len (pa_cons (pv 0) pa_nil)) pe_int)) (pw_or1 (pt_truth (pe_lc (own := [("row", 3)]) (by rfl) sc_check_chart.nd (pi_list (pv 0)) (blkOk_by (N := ["value", "least", "most", "row", "stitch"]) (sc := defScope s_check_chart) (by decide +kernel)) (fun _ _ _ _ _ => (pg_name (i := 3) sc_check_chart.nd rfl (by first | exact Or.inl rfl | exact Or.inr rfl))) (fun _ _ _ _ _ => (pts_one (pt_not (pt_chain op_le op_le (pv 1) (pe_callB call_lenU rfl T.n_len boot_len (pa_cons (pv 3) pa_nil)) (pv 2))))) (fun _ _ _ _ _ => (pv 3))) (by intro _; rfl))))) (pss_one (ps_err (by rfl) (takes_of rfl rfl rfl rfl) T.e_BadArgument rfl)) pss_nil)) pss_nil)))), fn_end rfl (sim_seq (sim_ifs (sim_tnot (sim_ttru (sim_L ops_isi (sim_ocons (sim_var 0) (sim_ocons (sim_ty "list") sim_onil))))) (sim_raise (e := "BadPattern")) sim_nx) (sim_seq (sim_for (sim_var 0) simg_name (sim_seq (sim_ifs (sim_tnot (sim_ttru (sim_L ops_isi (sim_ocons (sim_var 3) (sim_ocons (sim_ty "list") sim_onil))))) (sim_raise (e := "BadPattern")) sim_nx) (sim_for (sim_var 3) simg_name (sim_drop (sim_call (sim_cons (sim_var 4) sim_nil)))))) (sim_ifs (sim_ttest (sim_2 ops_notN (sim_var 2) sim_non)) (sim_ifs (sim_tor (sim_tnot (sim_ttest (sim_chain ops_le ops_le (sim_int 1) (sim_L ops_len (sim_ocons (sim_var 0) sim_onil)) (sim_int 200)))) (sim_ttru (sim_lc (vs := [3]) (sim_var 0) (simw_name (by decide)) (sim_tnot (sim_ttest (sim_chain ops_le ops_le (sim_var 1) (sim_L ops_len (sim_ocons (sim_var 3) sim_onil)) (sim_var 2)))) (sim_var 3)))) (sim_raise (e := "BadArgument")) sim_nx) sim_nx))) hsp⟩
def b_check_way : FS := (sIf (tAndF (tVal (e2 kNe (eVar 0) (eC (.str "flat")))) (tVal (e2 kNe (eVar 0) (eC (.str "round"))))) (sRaise "BadArgument") sNx)
def F_check_way : List D → Sto → Out D := fnV 0 (b_check_way)
theorem ok_check_way (T : Txt P w K mg ca) : DefOk P w K mg base "check_way" 1 ["way"] (SpF ⟨K, ca⟩ 1 F_check_way) := by
  exact T.f_check_way.ok sc_check_way rfl fun f cdv A outer s H vs Q E hr hsp => ⟨_, (pss_one (ps_if (PW.pt (pw_and (pt_cmpR (op_neU hr.units) (pv 0) pe_str (nomark _)) (pw_and1 (pt_cmpR (op_neU hr.units) (pv 0) pe_str (nomark _))))) (pss_one (ps_err (by rfl) (takes_of rfl rfl rfl rfl) T.e_BadArgument rfl)) pss_nil)), fn_end rfl (sim_ifs (sim_tand (sim_ttest (sim_2 ops_ne (sim_var 0) (sim_str "flat"))) (sim_ttest (sim_2 ops_ne (sim_var 0) (sim_str "round")))) (sim_raise (e := "BadArgument")) sim_nx) hsp⟩
def b_other_side (F_is_cross : List D → Sto → Out D) : FS := (sSeq (sIf (tTru (eCall 1 F_is_cross (aCons (eVar 0) aNil))) (sRet (e2 kPlus (e2 kPlus (e2 kIx (eVar 0) (eC (.int 0))) (e2 kIx (eVar 0) (eC (.int 2)))) (e2 kIx (eVar 0) (eC (.int 1))))) sNx) (sRet (eKGet tbl_KINDS 2 (eVar 0))))
def F_other_side : List D → Sto → Out D := fnV 0 (b_other_side F_is_cross)
theorem ok_other_side (T : Txt P w K mg ca) : DefOk P w K mg base "other_side" 2 ["stitch"] (SpF ⟨K, ca⟩ 1 F_other_side) := by
  have ok_is_cross := (ok_is_cross (base := base) T).mono (k := 1) (by decide)
  exact T.f_other_side.ok sc_other_side rfl fun f cdv A outer s H vs Q E hr hsp => ⟨_, (pss_cons (ps_if (pt_truth (pe_def ok_is_cross hr rfl (takes_of rfl rfl rfl rfl) (pa_cons (pv 0) pa_nil)) (by intro _; rfl)) (pss_one (ps_ret (pe_op op_plus (pe_op op_plus (pe_ix ix_seq (pv 0) pe_int (fun _ _ => rfl)) (pe_ix ix_seq (pv 0) pe_int (fun _ _ => rfl))) (pe_ix ix_seq (pv 0) pe_int (fun _ _ => rfl))))) pss_nil) (pss_one (ps_ret (pe_ix ix_seq (pe_ix ix_kdict (pe_const (v := .ref (ca "KINDS")) ⟨_, T.g_KINDS, rfl⟩ rfl) (pv 0) (fun _ _ => rfl)) pe_int (fun _ _ => rfl))))), fn_end rfl (sim_seq (sim_ifs (sim_ttru (sim_call (sim_cons (sim_var 0) sim_nil))) (sim_ret (sim_2 ops_plus (sim_2 ops_plus (sim_2 ops_ix (sim_var 0) (sim_int 0)) (sim_2 ops_ix (sim_var 0) (sim_int 2))) (sim_2 ops_ix (sim_var 0) (sim_int 1)))) sim_nx) (sim_ret (sim_kget T.k_KINDS (sim_var 0)))) hsp⟩
def b_turned (F_check_stitch : List D → Sto → Out D) (F_other_side : List D → Sto → Out D) : FS := (sSeq (sDrop (eCall 1 F_check_stitch (aCons (eVar 0) aNil))) (sRet (eCall 1 F_other_side (aCons (eVar 0) aNil))))
def F_turned : List D → Sto → Out D := fnV 0 (b_turned F_check_stitch F_other_side)
theorem ok_turned (T : Txt P w K mg ca) : DefOk P w K mg base "turned" 4 ["stitch"] (SpF ⟨K, ca⟩ 1 F_turned) := by
  have ok_check_stitch := (ok_check_stitch (base := base) T).mono (k := 3) (by decide)
  have ok_other_side := (ok_other_side (base := base) T).mono (k := 3) (by decide)
  exact T.f_turned.ok sc_turned rfl fun f cdv A outer s H vs Q E hr hsp => ⟨_, (pss_cons (ps_expr (pe_def ok_check_stitch hr rfl (takes_of rfl rfl rfl rfl) (pa_cons (pv 0) pa_nil))) (pss_one (ps_ret (pe_def ok_other_side hr rfl (takes_of rfl rfl rfl rfl) (pa_cons (pv 0) pa_nil))))), fn_end rfl (sim_seq (sim_drop (sim_call (sim_cons (sim_var 0) sim_nil))) (sim_ret (sim_call (sim_cons (sim_var 0) sim_nil)))) hsp⟩
def b_on_face (F_turned : List D → Sto → Out D) : FS := (sSeq (sIf (tAndF (tVal (e2 kEq (eVar 2) (eC (.str "flat")))) (tVal (e2 kEq (e2 kMod (eVar 1) (eC (.int 2))) (eC (.int 1))))) (sRet (eLc [3] (eRev (eVar 0)) (gName' 3) tYesF (eCall 1 F_turned (aCons (eVar 3) aNil)))) sNx) (sRet (eL kList (oCons (eVar 0) aNil))))
def F_on_face : List D → Sto → Out D := fnV 1 (b_on_face F_turned)
theorem ok_on_face (T : Txt P w K mg ca) : DefOk P w K mg base "on_face" 5 ["row", "i", "way"] (SpF ⟨K, ca⟩ 3 F_on_face) := by
  have ok_turned := (ok_turned (base := base) T).mono (k := 4) (by decide)
  exact T.f_on_face.ok sc_on_face rfl fun f cdv A outer s H vs Q E hr hsp => ⟨_, (pss_cons (ps_if (PW.pt (pw_and (pt_cmpR (op_eqU hr.units) (pv 2) pe_str (nomark _)) (pw_and1 (pt_cmpR (op_eqU hr.units) (pe_op op_mod (pv 1) pe_int) pe_int (nomark _))))) (pss_one (ps_ret (pe_lc (own := [("stitch", 3)]) (by rfl) sc_on_face.nd (pi_list (pe_revL (pv 0))) (blkOk_by (N := ["row", "i", "way", "stitch"]) (sc := defScope s_on_face) (by decide +kernel)) (fun _ _ _ _ _ => (pg_name (i := 3) sc_on_face.nd rfl (by first | exact Or.inl rfl | exact Or.inr rfl))) (fun _ _ _ _ _ => pts_nil) (fun _ _ _ _ _ => (pe_def ok_turned hr rfl takes0 (pa_cons (pv 3) pa_nil)))))) pss_nil) (pss_one (ps_ret (pe_callTy call_list_of rfl T.n_list PyProof.Rows.boot_list (pa_cons (pv 0) pa_nil))))), fn_end rfl (sim_seq (sim_ifs (sim_tand (sim_ttest (sim_2 ops_eq (sim_var 2) (sim_str "flat"))) (sim_ttest (sim_2 ops_eq (sim_2 ops_mod (sim_var 1) (sim_int 2)) (sim_int 1)))) (sim_ret (sim_lc (vs := [3]) (sim_rev (sim_var 0)) (simw_name (by decide)) sim_yes (sim_call (sim_cons (sim_var 3) sim_nil)))) sim_nx) (sim_ret (sim_L ops_list (sim_ocons (sim_var 0) sim_onil)))) hsp⟩
def b_written (F_check_chart : List D → Sto → Out D) (F_check_way : List D → Sto → Out D) (F_shortest : List D → Sto → Out D) (F_on_face : List D → Sto → Out D) : FS := (sSeq (sDrop (eCall 3 F_check_chart (aCons (eVar 0) (aCons (eC (.int 1)) (aCons (eC (.int 60)) aNil))))) (sSeq (sDrop (eCall 1 F_check_way (aCons (eVar 1) aNil))) (sRet (eLcR1 [2] (oCons (eL kLen (oCons (eVar 0) aNil)) aNil) (gName' 2) tYesF (eCall 1 F_shortest (aCons (eCall 3 F_on_face (aCons (e2 kIx (eVar 0) (eVar 2)) (aCons (eVar 2) (aCons (eVar 1) aNil)))) aNil))))))
def F_written : List D → Sto → Out D := fnV 1 (b_written F_check_chart F_check_way F_shortest F_on_face)
theorem ok_written (T : Txt P w K mg ca) : DefOk P w K mg base "written" 102 ["value", "way"] (SpF ⟨K, ca⟩ 2 F_written) := by
  have ok_check_chart := (ok_check_chart (base := base) T).mono (k := 101) (by decide)
  have ok_check_way := (ok_check_way (base := base) T).mono (k := 101) (by decide)
  have ok_shortest := (ok_shortest (base := base) T).mono (k := 101) (by decide)
  have ok_on_face := (ok_on_face (base := base) T).mono (k := 101) (by decide)
  exact T.f_written.ok sc_written rfl fun f cdv A outer s H vs Q E hr hsp => ⟨_, (pss_cons (ps_expr (pe_def ok_check_chart hr rfl (takes_of rfl rfl rfl rfl) (pa_cons (pv 0) (pa_cons pe_int (pa_cons pe_int pa_nil))))) (pss_cons (ps_expr (pe_def ok_check_way hr rfl (takes_of rfl rfl rfl rfl) (pa_cons (pv 1) pa_nil))) (pss_one (ps_ret (pe_lc (own := [("i", 2)]) (by rfl) sc_written.nd (pi_range1 rfl T.n_range (pa_cons (pe_callB call_lenU rfl T.n_len boot_len (pa_cons (pv 0) pa_nil)) pa_nil)) (blkOk_by (N := ["value", "way", "i"]) (sc := defScope s_written) (by decide +kernel)) (fun _ _ _ _ _ => (pg_name (i := 2) sc_written.nd rfl (by first | exact Or.inl rfl | exact Or.inr rfl))) (fun _ _ _ _ _ => pts_nil) (fun _ _ _ _ _ => (pe_def ok_shortest hr rfl takes0 (pa_cons (pe_def ok_on_face hr rfl takes0 (pa_cons (pe_ix ix_seq (pv 0) (pv 2) (fun _ _ => rfl)) (pa_cons (pv 2) (pa_cons (pv 1) pa_nil)))) pa_nil)))))))), fn_end rfl (sim_seq (sim_drop (sim_call (sim_cons (sim_var 0) (sim_cons (sim_int 1) (sim_cons (sim_int 60) sim_nil))))) (sim_seq (sim_drop (sim_call (sim_cons (sim_var 1) sim_nil))) (sim_ret (sim_lcR1 (vs := [2]) (sim_ocons (sim_L ops_len (sim_ocons (sim_var 0) sim_onil)) sim_onil) (simw_name (by decide)) sim_yes (sim_call (sim_cons (sim_call (sim_cons (sim_2 ops_ix (sim_var 0) (sim_var 2)) (sim_cons (sim_var 2) (sim_cons (sim_var 1) sim_nil)))) sim_nil)))))) hsp⟩
def b__law_table : FS := (sRet (eDisp [((.inr "k"), (eTup (aCons (eC (.int 1)) (aCons (eC (.int 1)) (aCons (eC (.str "p")) aNil))))), ((.inr "p"), (eTup (aCons (eC (.int 1)) (aCons (eC (.int 1)) (aCons (eC (.str "k")) aNil))))), ((.inr "s"), (eTup (aCons (eC (.int 1)) (aCons (eC (.int 1)) (aCons (eC (.str "s")) aNil))))), ((.inr "o"), (eTup (aCons (eC (.int 0)) (aCons (eC (.int 1)) (aCons (eC (.str "o")) aNil))))), ((.inr "r"), (eTup (aCons (eC (.int 2)) (aCons (eC (.int 1)) (aCons (eC (.str "R")) aNil))))), ((.inr "R"), (eTup (aCons (eC (.int 2)) (aCons (eC (.int 1)) (aCons (eC (.str "r")) aNil))))), ((.inr "l"), (eTup (aCons (eC (.int 2)) (aCons (eC (.int 1)) (aCons (eC (.str "L")) aNil))))), ((.inr "L"), (eTup (aCons (eC (.int 2)) (aCons (eC (.int 1)) (aCons (eC (.str "l")) aNil))))), ((.inr "d"), (eTup (aCons (eC (.int 3)) (aCons (eC (.int 1)) (aCons (eC (.str "D")) aNil))))), ((.inr "D"), (eTup (aCons (eC (.int 3)) (aCons (eC (.int 1)) (aCons (eC (.str "d")) aNil))))), ((.inr "f"), (eTup (aCons (eC (.int 1)) (aCons (eC (.int 2)) (aCons (eC (.str "F")) aNil))))), ((.inr "F"), (eTup (aCons (eC (.int 1)) (aCons (eC (.int 2)) (aCons (eC (.str "f")) aNil)))))]))
def F__law_table : List D → Sto → Out D := fnV 0 (b__law_table)
theorem ok__law_table (T : Txt P w K mg ca) : DefOk P w K mg base "_law_table" 1 [] (SpF ⟨K, ca⟩ 0 F__law_table) := by
  exact T.f__law_table.ok sc__law_table rfl fun f cdv A outer s H vs Q E hr hsp => ⟨_, (pss_one (ps_ret (pe_disp (pps_cons pe_str (pe_tup (pa_cons pe_int (pa_cons pe_int (pa_cons pe_str pa_nil)))) (pps_cons pe_str (pe_tup (pa_cons pe_int (pa_cons pe_int (pa_cons pe_str pa_nil)))) (pps_cons pe_str (pe_tup (pa_cons pe_int (pa_cons pe_int (pa_cons pe_str pa_nil)))) (pps_cons pe_str (pe_tup (pa_cons pe_int (pa_cons pe_int (pa_cons pe_str pa_nil)))) (pps_cons pe_str (pe_tup (pa_cons pe_int (pa_cons pe_int (pa_cons pe_str pa_nil)))) (pps_cons pe_str (pe_tup (pa_cons pe_int (pa_cons pe_int (pa_cons pe_str pa_nil)))) (pps_cons pe_str (pe_tup (pa_cons pe_int (pa_cons pe_int (pa_cons pe_str pa_nil)))) (pps_cons pe_str (pe_tup (pa_cons pe_int (pa_cons pe_int (pa_cons pe_str pa_nil)))) (pps_cons pe_str (pe_tup (pa_cons pe_int (pa_cons pe_int (pa_cons pe_str pa_nil)))) (pps_cons pe_str (pe_tup (pa_cons pe_int (pa_cons pe_int (pa_cons pe_str pa_nil)))) (pps_cons pe_str (pe_tup (pa_cons pe_int (pa_cons pe_int (pa_cons pe_str pa_nil)))) (pps_cons pe_str (pe_tup (pa_cons pe_int (pa_cons pe_int (pa_cons pe_str pa_nil)))) pps_nil)))))))))))) rfl rfl (by simp) (by decide)))), fn_end rfl (sim_ret (sim_disp (SimPs.cons (k := (.inr "k")) (sim_tup (sim_cons (sim_int 1) (sim_cons (sim_int 1) (sim_cons (sim_str "p") sim_nil)))) (SimPs.cons (k := (.inr "p")) (sim_tup (sim_cons (sim_int 1) (sim_cons (sim_int 1) (sim_cons (sim_str "k") sim_nil)))) (SimPs.cons (k := (.inr "s")) (sim_tup (sim_cons (sim_int 1) (sim_cons (sim_int 1) (sim_cons (sim_str "s") sim_nil)))) (SimPs.cons (k := (.inr "o")) (sim_tup (sim_cons (sim_int 0) (sim_cons (sim_int 1) (sim_cons (sim_str "o") sim_nil)))) (SimPs.cons (k := (.inr "r")) (sim_tup (sim_cons (sim_int 2) (sim_cons (sim_int 1) (sim_cons (sim_str "R") sim_nil)))) (SimPs.cons (k := (.inr "R")) (sim_tup (sim_cons (sim_int 2) (sim_cons (sim_int 1) (sim_cons (sim_str "r") sim_nil)))) (SimPs.cons (k := (.inr "l")) (sim_tup (sim_cons (sim_int 2) (sim_cons (sim_int 1) (sim_cons (sim_str "L") sim_nil)))) (SimPs.cons (k := (.inr "L")) (sim_tup (sim_cons (sim_int 2) (sim_cons (sim_int 1) (sim_cons (sim_str "l") sim_nil)))) (SimPs.cons (k := (.inr "d")) (sim_tup (sim_cons (sim_int 3) (sim_cons (sim_int 1) (sim_cons (sim_str "D") sim_nil)))) (SimPs.cons (k := (.inr "D")) (sim_tup (sim_cons (sim_int 3) (sim_cons (sim_int 1) (sim_cons (sim_str "d") sim_nil)))) (SimPs.cons (k := (.inr "f")) (sim_tup (sim_cons (sim_int 1) (sim_cons (sim_int 2) (sim_cons (sim_str "F") sim_nil)))) (SimPs.cons (k := (.inr "F")) (sim_tup (sim_cons (sim_int 1) (sim_cons (sim_int 2) (sim_cons (sim_str "f") sim_nil)))) SimPs.nil)))))))))))))) hsp⟩
def b__law_turned (F__law_table : List D → Sto → Out D) : FS := (sSeq (sIf (tVal (e2 kEq (eL kLen (oCons (eVar 0) aNil)) (eC (.int 3)))) (sRet (e2 kPlus (e2 kPlus (e2 kIx (eVar 0) (eC (.int 0))) (e2 kIx (eVar 0) (eC (.int 2)))) (e2 kIx (eVar 0) (eC (.int 1))))) sNx) (sRet (e2 kIx (eDGet (eCall 0 F__law_table aNil) (eVar 0)) (eC (.int 2)))))
noncomputable def F__law_turned : List D → Sto → Out D := fnT 0 (b__law_turned F__law_table)
theorem ok__law_turned (T : Txt P w K mg ca) : DefOk P w K mg base "_law_turned" 2 ["stitch"] (SpF ⟨K, ca⟩ 1 F__law_turned) := by
  have ok__law_table := (ok__law_table (base := base) T).mono (k := 1) (by decide)
  exact T.f__law_turned.ok sc__law_turned rfl fun f cdv A outer s H vs Q E hr hsp => ⟨_, (pss_cons (ps_if (pt_cmpR (op_eqU hr.units) (pe_callB call_lenU rfl T.n_len boot_len (pa_cons (pv 0) pa_nil)) pe_int (nomark _)) (pss_one (ps_ret (pe_op op_plus (pe_op op_plus (pe_ix ix_seq (pv 0) pe_int (fun _ _ => rfl)) (pe_ix ix_seq (pv 0) pe_int (fun _ _ => rfl))) (pe_ix ix_seq (pv 0) pe_int (fun _ _ => rfl))))) pss_nil) (pss_one (ps_ret (pe_ix ix_seq (pe_dget (Nat.lt_of_le_of_lt (Nat.add_le_add_left (by decide) _) hr.units) (pe_def0 ok__law_table hr rfl (takes_of rfl rfl rfl rfl)) (pv 0) (fun _ _ => rfl)) pe_int (fun _ _ => rfl))))), fn_endT rfl (sim_seq (sim_ifs (sim_ttest (sim_2 ops_eq (sim_L ops_len (sim_ocons (sim_var 0) sim_onil)) (sim_int 3))) (sim_ret (sim_2 ops_plus (sim_2 ops_plus (sim_2 ops_ix (sim_var 0) (sim_int 0)) (sim_2 ops_ix (sim_var 0) (sim_int 2))) (sim_2 ops_ix (sim_var 0) (sim_int 1)))) sim_nx) (sim_ret (sim_2 ops_ix (sim_dget (sim_call sim_nil) (sim_var 0)) (sim_int 2)))) hsp⟩
def b_law (F__law_numbers : List D → Sto → Out D) (F__law_list : List D → Sto → Out D) (F_shortest : List D → Sto → Out D) (F__law_shortest : List D → Sto → Out D) (F_written : List D → Sto → Out D) (F__law_turned : List D → Sto → Out D) : FS := (sSeq (sSet 1 (eLstH (aCons (eCall 1 F__law_numbers (aCons (eVar 0) aNil)) (aCons (eC (.int 0)) aNil)))) (sSeq (sSet 2 (eCall 1 F__law_list (aCons (eVar 1) aNil))) (sSeq (sIf (tVal (e2 kNe (eCall 1 F_shortest (aCons (eL kList (oCons (eVar 2) aNil)) aNil)) (eCall 1 F__law_shortest (aCons (eVar 2) aNil)))) (sRet (eC (.bl false))) sNx) (sSeq (sSet 3 (eLst (aCons (eVar 2) (aCons (eCall 1 F__law_list (aCons (eVar 1) aNil)) aNil)))) (sSeq (sSet 4 (eLst (aCons (eCall 1 F__law_shortest (aCons (eVar 2) aNil)) (aCons (eCall 1 F__law_shortest (aCons (e2 kIx (eVar 3) (eC (.int 1))) aNil)) aNil)))) (sSeq (sIf (tVal (e2 kNe (eCall 2 F_written (aCons (eVar 3) (aCons (eC (.str "round")) aNil))) (eVar 4))) (sRet (eC (.bl false))) sNx) (sSeq (sSet 5 (eLcRev [6] (e2 kIx (eVar 3) (eC (.int 1))) (gName' 6) tYesF (eCall 1 F__law_turned (aCons (eVar 6) aNil)))) (sSeq (sIf (tVal (e2 kNe (eCall 2 F_written (aCons (eLst (aCons (eVar 2) (aCons (eVar 5) aNil))) (aCons (eC (.str "flat")) aNil))) (eVar 4))) (sRet (eC (.bl false))) sNx) (sSeq (sFor (eLst (aCons (eLst aNil) (aCons (e2 kTimes (eLst (aCons (eC (.str "k")) aNil)) (eC (.int 61))) aNil))) (gName' 7) (sTry subE (sSeq (sDrop (eCall 1 F_shortest (aCons (eVar 7) aNil))) (sRet (eC (.bl false)))) [("BadArgument", sNx)])) (sSeq (sFor (eLst (aCons (eLst (aCons (eC (.str "k")) (aCons (eC (.str "q")) aNil))) (aCons (eLst (aCons (eC .non) aNil)) (aCons (eC .non) (aCons (eTup (aCons (eC (.str "k")) aNil)) aNil))))) (gName' 7) (sTry subE (sSeq (sDrop (eCall 1 F_shortest (aCons (eVar 7) aNil))) (sRet (eC (.bl false)))) [("BadPattern", sNx)])) (sRet (eC (.bl true)))))))))))))
noncomputable def F_law : List D → Sto → Out D := fnV 7 (b_law F__law_numbers F__law_list F_shortest F__law_shortest F_written F__law_turned)
theorem ok_law (T : Txt P w K mg ca) : DefOk P w K mg base "law" 103 ["script"] (SpF ⟨K, ca⟩ 1 F_law) := by
  have ok__law_numbers := (ok__law_numbers (base := base) T).mono (k := 102) (by decide)
  have ok__law_list := (ok__law_list (base := base) T).mono (k := 102) (by decide)
  have ok_shortest := (ok_shortest (base := base) T).mono (k := 102) (by decide)
  have ok__law_shortest := (ok__law_shortest (base := base) T).mono (k := 102) (by decide)
  have ok_written := (ok_written (base := base) T).mono (k := 102) (by decide)
  have ok__law_turned := (ok__law_turned (base := base) T).mono (k := 102) (by decide)
  exact T.f_law.ok sc_law rfl fun f cdv A outer s H vs Q E hr hsp => ⟨_, (pss_cons (ps_set (i := 1) sc_law.nd rfl (by first | exact Or.inl rfl | exact Or.inr rfl) (pe_lst (pa_cons (pe_def ok__law_numbers hr rfl (takes_of rfl rfl rfl rfl) (pa_cons (pv 0) pa_nil)) (pa_cons pe_int pa_nil)))) (pss_cons (ps_set (i := 2) sc_law.nd rfl (by first | exact Or.inl rfl | exact Or.inr rfl) (pe_def ok__law_list hr rfl (takes_of rfl rfl rfl rfl) (pa_cons (pv 1) pa_nil))) (pss_cons (ps_if (pt_cmpR (op_neU hr.units) (pe_def ok_shortest hr rfl (takes_of rfl rfl rfl rfl) (pa_cons (pe_callTy call_list_of rfl T.n_list PyProof.Rows.boot_list (pa_cons (pv 2) pa_nil)) pa_nil)) (pe_def ok__law_shortest hr rfl (takes_of rfl rfl rfl rfl) (pa_cons (pv 2) pa_nil)) (nomark _)) (pss_one (ps_ret pe_bl)) pss_nil) (pss_cons (ps_set (i := 3) sc_law.nd rfl (by first | exact Or.inl rfl | exact Or.inr rfl) (pe_lst (pa_cons (pv 2) (pa_cons (pe_def ok__law_list hr rfl (takes_of rfl rfl rfl rfl) (pa_cons (pv 1) pa_nil)) pa_nil)))) (pss_cons (ps_set (i := 4) sc_law.nd rfl (by first | exact Or.inl rfl | exact Or.inr rfl) (pe_lst (pa_cons (pe_def ok__law_shortest hr rfl (takes_of rfl rfl rfl rfl) (pa_cons (pv 2) pa_nil)) (pa_cons (pe_def ok__law_shortest hr rfl (takes_of rfl rfl rfl rfl) (pa_cons (pe_ix ix_seq (pv 3) pe_int (fun _ _ => rfl)) pa_nil)) pa_nil)))) (pss_cons (ps_if (pt_cmpR (op_neU hr.units) (pe_def ok_written hr rfl (takes_of rfl rfl rfl rfl) (pa_cons (pv 3) (pa_cons pe_str pa_nil))) (pv 4) (nomark _)) (pss_one (ps_ret pe_bl)) pss_nil) (pss_cons (ps_setLc (i := 5) (own := [("stitch", 6)]) (by rfl) sc_law.nd rfl rfl (sw_true rfl rfl rfl rfl) (pi_revA rfl T.n_reversed (pe_ix ix_seq (pv 3) pe_int (fun _ _ => rfl))) (blkOk_by (N := ["script", "draws", "stitches", "rows", "due", "back", "stitch", "bad"]) (sc := defScope s_law) (by decide +kernel)) (fun _ _ _ _ _ => (pg_name (i := 6) sc_law.nd rfl (by first | exact Or.inl rfl | exact Or.inr rfl))) (fun _ _ _ _ _ => pts_nil) (fun _ _ _ _ _ => (pe_def ok__law_turned hr rfl takes0 (pa_cons (pv 6) pa_nil)))) (pss_cons (ps_if (pt_cmpR (op_neU hr.units) (pe_def ok_written hr rfl (takes_of rfl rfl rfl rfl) (pa_cons (pe_lst (pa_cons (pv 2) (pa_cons (pv 5) pa_nil))) (pa_cons pe_str pa_nil))) (pv 4) (nomark _)) (pss_one (ps_ret pe_bl)) pss_nil) (pss_cons (ps_for (passes_of rfl) (by rfl) (pi_list (pe_lst (pa_cons (pe_lst pa_nil) (pa_cons (pe_op op_times (pe_lst (pa_cons pe_str pa_nil)) pe_int) pa_nil)))) (pg_name (i := 7) sc_law.nd rfl (by first | exact Or.inl rfl | exact Or.inr rfl)) (pss_one (ps_try_many rfl rfl (takes_of rfl rfl rfl rfl) (fun W pn xe tk po => (pss_cons (ps_expr (pe_def ok_shortest hr rfl tk (pa_cons (pv 7) pa_nil))) (pss_one (ps_ret pe_bl)))) (HdsOk.cons ⟨rfl, by decide, .inl T.e_BadArgument.g⟩ (fun a oe cls d pn _ _ => (pss_one ps_pass)) HdsOk.nil)))) (pss_cons (ps_for (passes_of rfl) (by rfl) (pi_list (pe_lst (pa_cons (pe_lst (pa_cons pe_str (pa_cons pe_str pa_nil))) (pa_cons (pe_lst (pa_cons pe_non pa_nil)) (pa_cons pe_non (pa_cons (pe_tup (pa_cons pe_str pa_nil)) pa_nil)))))) (pg_name (i := 7) sc_law.nd rfl (by first | exact Or.inl rfl | exact Or.inr rfl)) (pss_one (ps_try_many rfl rfl (takes_of rfl rfl rfl rfl) (fun W pn xe tk po => (pss_cons (ps_expr (pe_def ok_shortest hr rfl tk (pa_cons (pv 7) pa_nil))) (pss_one (ps_ret pe_bl)))) (HdsOk.cons ⟨rfl, by decide, .inl T.e_BadPattern.g⟩ (fun a oe cls d pn _ _ => (pss_one ps_pass)) HdsOk.nil)))) (pss_one (ps_ret pe_bl)))))))))))), fn_end rfl (sim_seq (sim_set (sim_lstH (sim_cons (sim_call (sim_cons (sim_var 0) sim_nil)) (sim_cons (sim_int 0) sim_nil)))) (sim_seq (sim_set (sim_call (sim_cons (sim_var 1) sim_nil))) (sim_seq (sim_ifs (sim_ttest (sim_2 ops_ne (sim_call (sim_cons (sim_L ops_list (sim_ocons (sim_var 2) sim_onil)) sim_nil)) (sim_call (sim_cons (sim_var 2) sim_nil)))) (sim_ret (sim_bl false)) sim_nx) (sim_seq (sim_set (sim_lst (sim_cons (sim_var 2) (sim_cons (sim_call (sim_cons (sim_var 1) sim_nil)) sim_nil)))) (sim_seq (sim_set (sim_lst (sim_cons (sim_call (sim_cons (sim_var 2) sim_nil)) (sim_cons (sim_call (sim_cons (sim_2 ops_ix (sim_var 3) (sim_int 1)) sim_nil)) sim_nil)))) (sim_seq (sim_ifs (sim_ttest (sim_2 ops_ne (sim_call (sim_cons (sim_var 3) (sim_cons (sim_str "round") sim_nil))) (sim_var 4))) (sim_ret (sim_bl false)) sim_nx) (sim_seq (sim_set (sim_lcRev (vs := [6]) (sim_2 ops_ix (sim_var 3) (sim_int 1)) (simw_name (by decide)) sim_yes (sim_call (sim_cons (sim_var 6) sim_nil)))) (sim_seq (sim_ifs (sim_ttest (sim_2 ops_ne (sim_call (sim_cons (sim_lst (sim_cons (sim_var 2) (sim_cons (sim_var 5) sim_nil))) (sim_cons (sim_str "flat") sim_nil))) (sim_var 4))) (sim_ret (sim_bl false)) sim_nx) (sim_seq (sim_for (sim_lst (sim_cons (sim_lst sim_nil) (sim_cons (sim_2 ops_times (sim_lst (sim_cons (sim_str "k") sim_nil)) (sim_int 61)) sim_nil))) simg_name (sim_try T.sub (fun _ => (sim_seq (sim_drop (sim_call (sim_cons (sim_var 7) sim_nil))) (sim_ret (sim_bl false)))) (HdSim.cons (n := "BadArgument") (fun _ _ _ => sim_nx) HdSim.nil))) (sim_seq (sim_for (sim_lst (sim_cons (sim_lst (sim_cons (sim_str "k") (sim_cons (sim_str "q") sim_nil))) (sim_cons (sim_lst (sim_cons sim_non sim_nil)) (sim_cons sim_non (sim_cons (sim_tup (sim_cons (sim_str "k") sim_nil)) sim_nil))))) simg_name (sim_try T.sub (fun _ => (sim_seq (sim_drop (sim_call (sim_cons (sim_var 7) sim_nil))) (sim_ret (sim_bl false)))) (HdSim.cons (n := "BadPattern") (fun _ _ _ => sim_nx) HdSim.nil))) (sim_ret (sim_bl true)))))))))))) hsp⟩
theorem ok_lawF {f0 : Addr} {fd : FuncData} (T : Txt P w K mg ca) (F : Fun K "law" "law" s_law f0 fd) : FnOk P w K mg base (L2.CX P w) 103 f0 fd ["script"] (SpF ⟨K, ca⟩ 1 F_law) := by
  have ok__law_numbers := (ok__law_numbers (base := base) T).mono (k := 102) (by decide)
  have ok__law_list := (ok__law_list (base := base) T).mono (k := 102) (by decide)
  have ok_shortest := (ok_shortest (base := base) T).mono (k := 102) (by decide)
  have ok__law_shortest := (ok__law_shortest (base := base) T).mono (k := 102) (by decide)
  have ok_written := (ok_written (base := base) T).mono (k := 102) (by decide)
  have ok__law_turned := (ok__law_turned (base := base) T).mono (k := 102) (by decide)
  exact F.okX sc_law (fun vs H Q E h => h.len) fun cdv A outer s H vs Q E hr hsp => ⟨_, (pss_cons (ps_set (i := 1) sc_law.nd rfl (by first | exact Or.inl rfl | exact Or.inr rfl) (pe_lst (pa_cons (pe_def ok__law_numbers hr rfl (takes_of rfl rfl rfl rfl) (pa_cons (pv 0) pa_nil)) (pa_cons pe_int pa_nil)))) (pss_cons (ps_set (i := 2) sc_law.nd rfl (by first | exact Or.inl rfl | exact Or.inr rfl) (pe_def ok__law_list hr rfl (takes_of rfl rfl rfl rfl) (pa_cons (pv 1) pa_nil))) (pss_cons (ps_if (pt_cmpR (op_neU hr.units) (pe_def ok_shortest hr rfl (takes_of rfl rfl rfl rfl) (pa_cons (pe_callTy call_list_of rfl T.n_list PyProof.Rows.boot_list (pa_cons (pv 2) pa_nil)) pa_nil)) (pe_def ok__law_shortest hr rfl (takes_of rfl rfl rfl rfl) (pa_cons (pv 2) pa_nil)) (nomark _)) (pss_one (ps_ret pe_bl)) pss_nil) (pss_cons (ps_set (i := 3) sc_law.nd rfl (by first | exact Or.inl rfl | exact Or.inr rfl) (pe_lst (pa_cons (pv 2) (pa_cons (pe_def ok__law_list hr rfl (takes_of rfl rfl rfl rfl) (pa_cons (pv 1) pa_nil)) pa_nil)))) (pss_cons (ps_set (i := 4) sc_law.nd rfl (by first | exact Or.inl rfl | exact Or.inr rfl) (pe_lst (pa_cons (pe_def ok__law_shortest hr rfl (takes_of rfl rfl rfl rfl) (pa_cons (pv 2) pa_nil)) (pa_cons (pe_def ok__law_shortest hr rfl (takes_of rfl rfl rfl rfl) (pa_cons (pe_ix ix_seq (pv 3) pe_int (fun _ _ => rfl)) pa_nil)) pa_nil)))) (pss_cons (ps_if (pt_cmpR (op_neU hr.units) (pe_def ok_written hr rfl (takes_of rfl rfl rfl rfl) (pa_cons (pv 3) (pa_cons pe_str pa_nil))) (pv 4) (nomark _)) (pss_one (ps_ret pe_bl)) pss_nil) (pss_cons (ps_setLc (i := 5) (own := [("stitch", 6)]) (by rfl) sc_law.nd rfl rfl (sw_true rfl rfl rfl rfl) (pi_revA rfl T.n_reversed (pe_ix ix_seq (pv 3) pe_int (fun _ _ => rfl))) (blkOk_by (N := ["script", "draws", "stitches", "rows", "due", "back", "stitch", "bad"]) (sc := defScope s_law) (by decide +kernel)) (fun _ _ _ _ _ => (pg_name (i := 6) sc_law.nd rfl (by first | exact Or.inl rfl | exact Or.inr rfl))) (fun _ _ _ _ _ => pts_nil) (fun _ _ _ _ _ => (pe_def ok__law_turned hr rfl takes0 (pa_cons (pv 6) pa_nil)))) (pss_cons (ps_if (pt_cmpR (op_neU hr.units) (pe_def ok_written hr rfl (takes_of rfl rfl rfl rfl) (pa_cons (pe_lst (pa_cons (pv 2) (pa_cons (pv 5) pa_nil))) (pa_cons pe_str pa_nil))) (pv 4) (nomark _)) (pss_one (ps_ret pe_bl)) pss_nil) (pss_cons (ps_for (passes_of rfl) (by rfl) (pi_list (pe_lst (pa_cons (pe_lst pa_nil) (pa_cons (pe_op op_times (pe_lst (pa_cons pe_str pa_nil)) pe_int) pa_nil)))) (pg_name (i := 7) sc_law.nd rfl (by first | exact Or.inl rfl | exact Or.inr rfl)) (pss_one (ps_try_many rfl rfl (takes_of rfl rfl rfl rfl) (fun W pn xe tk po => (pss_cons (ps_expr (pe_def ok_shortest hr rfl tk (pa_cons (pv 7) pa_nil))) (pss_one (ps_ret pe_bl)))) (HdsOk.cons ⟨rfl, by decide, .inl T.e_BadArgument.g⟩ (fun a oe cls d pn _ _ => (pss_one ps_pass)) HdsOk.nil)))) (pss_cons (ps_for (passes_of rfl) (by rfl) (pi_list (pe_lst (pa_cons (pe_lst (pa_cons pe_str (pa_cons pe_str pa_nil))) (pa_cons (pe_lst (pa_cons pe_non pa_nil)) (pa_cons pe_non (pa_cons (pe_tup (pa_cons pe_str pa_nil)) pa_nil)))))) (pg_name (i := 7) sc_law.nd rfl (by first | exact Or.inl rfl | exact Or.inr rfl)) (pss_one (ps_try_many rfl rfl (takes_of rfl rfl rfl rfl) (fun W pn xe tk po => (pss_cons (ps_expr (pe_def ok_shortest hr rfl tk (pa_cons (pv 7) pa_nil))) (pss_one (ps_ret pe_bl)))) (HdsOk.cons ⟨rfl, by decide, .inl T.e_BadPattern.g⟩ (fun a oe cls d pn _ _ => (pss_one ps_pass)) HdsOk.nil)))) (pss_one (ps_ret pe_bl)))))))))))), fn_end rfl (sim_seq (sim_set (sim_lstH (sim_cons (sim_call (sim_cons (sim_var 0) sim_nil)) (sim_cons (sim_int 0) sim_nil)))) (sim_seq (sim_set (sim_call (sim_cons (sim_var 1) sim_nil))) (sim_seq (sim_ifs (sim_ttest (sim_2 ops_ne (sim_call (sim_cons (sim_L ops_list (sim_ocons (sim_var 2) sim_onil)) sim_nil)) (sim_call (sim_cons (sim_var 2) sim_nil)))) (sim_ret (sim_bl false)) sim_nx) (sim_seq (sim_set (sim_lst (sim_cons (sim_var 2) (sim_cons (sim_call (sim_cons (sim_var 1) sim_nil)) sim_nil)))) (sim_seq (sim_set (sim_lst (sim_cons (sim_call (sim_cons (sim_var 2) sim_nil)) (sim_cons (sim_call (sim_cons (sim_2 ops_ix (sim_var 3) (sim_int 1)) sim_nil)) sim_nil)))) (sim_seq (sim_ifs (sim_ttest (sim_2 ops_ne (sim_call (sim_cons (sim_var 3) (sim_cons (sim_str "round") sim_nil))) (sim_var 4))) (sim_ret (sim_bl false)) sim_nx) (sim_seq (sim_set (sim_lcRev (vs := [6]) (sim_2 ops_ix (sim_var 3) (sim_int 1)) (simw_name (by decide)) sim_yes (sim_call (sim_cons (sim_var 6) sim_nil)))) (sim_seq (sim_ifs (sim_ttest (sim_2 ops_ne (sim_call (sim_cons (sim_lst (sim_cons (sim_var 2) (sim_cons (sim_var 5) sim_nil))) (sim_cons (sim_str "flat") sim_nil))) (sim_var 4))) (sim_ret (sim_bl false)) sim_nx) (sim_seq (sim_for (sim_lst (sim_cons (sim_lst sim_nil) (sim_cons (sim_2 ops_times (sim_lst (sim_cons (sim_str "k") sim_nil)) (sim_int 61)) sim_nil))) simg_name (sim_try T.sub (fun _ => (sim_seq (sim_drop (sim_call (sim_cons (sim_var 7) sim_nil))) (sim_ret (sim_bl false)))) (HdSim.cons (n := "BadArgument") (fun _ _ _ => sim_nx) HdSim.nil))) (sim_seq (sim_for (sim_lst (sim_cons (sim_lst (sim_cons (sim_str "k") (sim_cons (sim_str "q") sim_nil))) (sim_cons (sim_lst (sim_cons sim_non sim_nil)) (sim_cons sim_non (sim_cons (sim_tup (sim_cons (sim_str "k") sim_nil)) sim_nil))))) simg_name (sim_try T.sub (fun _ => (sim_seq (sim_drop (sim_call (sim_cons (sim_var 7) sim_nil))) (sim_ret (sim_bl false)))) (HdSim.cons (n := "BadPattern") (fun _ _ _ => sim_nx) HdSim.nil))) (sim_ret (sim_bl true)))))))))))) hsp⟩
end
end Gk
namespace Gk
open PySem L2 Pi RT
abbrev FF := List D → Sto → Out D
def IsMixed (F : FF) : Prop := ∀ (x k : Int) (δ : Sto), ∃ r, F [.int x, .int k] δ = .ok (.int r) δ ∧ 0 ≤ r ∧ r < 2147483647
theorem mixed_ok : IsMixed (fnV 1 b__law_mixed) := by
  intro x k δ
  have h1 : smallI 48271 = true := by decide
  have h2 : smallI 69621 = true := by decide
  have h3 : smallI ((x * 48271 + k * 69621 + 12345) % 2147483647) = true := smallI_of (by omega) (by omega)
  refine ⟨(((x * 48271 + k * 69621 + 12345) % 2147483647) * (((x * 48271 + k * 69621 + 12345) % 2147483647) / 65536 + 3) + k) % 2147483647, ?_, Int.emod_nonneg _ (by decide), Int.emod_lt_of_pos _ (by decide)⟩
  simp -implicitDefEqProofs [sNx_a, sBk_a, sCt_a, sRetN_a, aNil_a, tYesF_a, fnV, sSeq, sSet, sRet, sIf, sOwn, sDrop, sAsgG, sSetI, sLm, kApp, isLs, getL, putL, e1, e2, eVar, eC, opd, fzd, retd, kPlus, kTimes, kMod_i, kFdiv_i, kMinus_i, kNeg, kPow_i, kLt_i, kLe_i, kGt_i, kGe_i, kIx, asL, asQ, atI, ixN, kLen, aCons, oCons, eL, eCall, eLst, eLstH, eTup, eIf, eAnd, eOr, tVal, tTru, tAndF, tOrF, tNotF, truth, kEq, kNe, eqK, scalE, kIsN, kNotN, isN, kIn, kNotIn, inK, gName', gTup', gsNil, gsCons, sRaise, eChain, kIsi, tyD, kitB, eKIn, eKGet, b__law_mixed, h1, h2, h3]
/-- the draws -/
def dr (ns : List Int) (a : Nat) : Ob := .lst [.lst (ns.map D.int), .int (a : Int)]
def IsDraw (F : FF) : Prop := ∀ (ns : List Int) (a : Nat) (r : Sto) (m : Int), 0 < m → ∃ v, 0 ≤ v ∧ v < m ∧ F [.hnd 0, .int m] (dr ns a :: r) = .ok (.int v) (dr ns (a + 1) :: r)
theorem draw_ok {F : FF} (hF : IsMixed F) : IsDraw (fnV 2 (b__law_draw F)) := by
  intro ns a r m hm
  have h3 : smallI 1009 = true := by decide
  by_cases h : a < ns.length
  · refine ⟨ns[a] % m, Int.emod_nonneg _ (by omega), Int.emod_lt_of_pos _ hm, ?_⟩
    have e : atI (ns.map D.int) (a : Int) = some (D.int ns[a]) := by rw [Pi.atI_nat]; simp [h]
    unfold atI ixN at e
    simp -implicitDefEqProofs [sNx_a, sBk_a, sCt_a, sRetN_a, aNil_a, tYesF_a, fnV, sSeq, sSet, sRet, sIf, sOwn, sDrop, sAsgG, sSetI, sLm, kApp, isLs, getL, putL, e1, e2, eVar, eC, opd, fzd, retd, kPlus, kTimes, kMod_i, kFdiv_i, kMinus_i, kNeg, kPow_i, kLt_i, kLe_i, kGt_i, kGe_i, kIx, asL, asQ, atI, ixN, kLen, aCons, oCons, eL, eCall, eLst, eLstH, eTup, eIf, eAnd, eOr, tVal, tTru, tAndF, tOrF, tNotF, truth, kEq, kNe, eqK, scalE, kIsN, kNotN, isN, kIn, kNotIn, inK, gName', gTup', gsNil, gsCons, sRaise, eChain, kIsi, tyD, kitB, eKIn, eKGet, b__law_draw, dr, h, hm, e]
  · by_cases hl : ns = []
    · subst hl
      obtain ⟨v1, q1, _⟩ := hF (1 + a) a (dr [] (a + 1) :: r)
      obtain ⟨v2, q2, b1, b2⟩ := hF v1 5 (dr [] (a + 1) :: r)
      refine ⟨v2 / 7 % m, Int.emod_nonneg _ (by omega), Int.emod_lt_of_pos _ hm, ?_⟩
      simp [dr] at q1 q2
      simp -implicitDefEqProofs [sNx_a, sBk_a, sCt_a, sRetN_a, aNil_a, tYesF_a, fnV, sSeq, sSet, sRet, sIf, sOwn, sDrop, sAsgG, sSetI, sLm, kApp, isLs, getL, putL, e1, e2, eVar, eC, opd, fzd, retd, kPlus, kTimes, kMod_i, kFdiv_i, kMinus_i, kNeg, kPow_i, kLt_i, kLe_i, kGt_i, kGe_i, kIx, asL, asQ, atI, ixN, kLen, aCons, oCons, eL, eCall, eLst, eLstH, eTup, eIf, eAnd, eOr, tVal, tTru, tAndF, tOrF, tNotF, truth, kEq, kNe, eqK, scalE, kIsN, kNotN, isN, kIn, kNotIn, inK, gName', gTup', gsNil, gsCons, sRaise, eChain, kIsi, tyD, kitB, eKIn, eKGet, b__law_draw, dr, hm, q1, q2, show ¬ (a : Int) < 0 by omega]
    · obtain ⟨x, xs, rfl⟩ := List.exists_cons_of_ne_nil hl
      obtain ⟨v1, q1, _⟩ := hF (1 + a + 1009 * x) a (dr (x :: xs) (a + 1) :: r)
      obtain ⟨v2, q2, b1, b2⟩ := hF v1 5 (dr (x :: xs) (a + 1) :: r)
      refine ⟨v2 / 7 % m, Int.emod_nonneg _ (by omega), Int.emod_lt_of_pos _ hm, ?_⟩
      simp [dr] at q1 q2
      have h4 : ¬ (a : Int) < xs.length + 1 := by simp at h; omega
      have h5 : (0 : Int) < xs.length + 1 := by omega
      simp -implicitDefEqProofs [sNx_a, sBk_a, sCt_a, sRetN_a, aNil_a, tYesF_a, fnV, sSeq, sSet, sRet, sIf, sOwn, sDrop, sAsgG, sSetI, sLm, kApp, isLs, getL, putL, e1, e2, eVar, eC, opd, fzd, retd, kPlus, kTimes, kMod_i, kFdiv_i, kMinus_i, kNeg, kPow_i, kLt_i, kLe_i, kGt_i, kGe_i, kIx, asL, asQ, atI, ixN, kLen, aCons, oCons, eL, eCall, eLst, eLstH, eTup, eIf, eAnd, eOr, tVal, tTru, tAndF, tOrF, tNotF, truth, kEq, kNe, eqK, scalE, kIsN, kNotN, isN, kIn, kNotIn, inK, gName', gTup', gsNil, gsCons, sRaise, eChain, kIsi, tyD, kitB, eKIn, eKGet, b__law_draw, dr, hm, q1, q2, h3, h4, h5]
end Gk
namespace Gk
open PySem L2 Pi RT
def IsNumbers (F : FF) : Prop := ∀ (ns : List Int) (δ : Sto), ns.length ≤ 63 → ∃ ms : List Int, F [.scr ns] δ = .ok (.own (ms.map D.int)) δ
def numI (ns : List Int) (B : Nat) (δ0 : Sto) (c : Nat) (ρ : Pi.Env) (δ : Sto) : Prop := δ = δ0 ∧ ∃ (ms : List Int) (x2 x3 x4 : Option D), ρ = [some (.scr ns), some (.own (ms.map D.int)), x2, x3, x4] ∧ ms.length ≤ B + c
theorem numbers_ok {F : FF} (hF : IsMixed F) : IsNumbers (fnV 4 (b__law_numbers F)) := by
  intro ns δ0 hns
  have main : ∃ ρ' δ', forL (gName' 2) (sIf (tVal (e2 kGe (eVar 2) (e2 kPow (eC (.int 10)) (eC (.int 18))))) (sSeq (sSet 3 (eVar 2)) (sForR1 (oCons (eC (.int 60)) aNil) (gName' 4) (sIf (tVal (e2 kGt (eVar 3) (eC (.int 0)))) (sSeq (sLm kApp (eVar 1) (aCons (e2 kMod (eVar 3) (eC (.int 1000000))) aNil)) (sSet 3 (e2 kFdiv (eVar 3) (eC (.int 1000000))))) sNx))) (sSeq (sLm kApp (eVar 1) (aCons (e2 kMod (eVar 2) (eC (.int 1000000))) aNil)) (sForR1 (oCons (eC (.int 5)) aNil) (gName' 4) (sLm kApp (eVar 1) (aCons (e2 kMod (eCall 2 F (aCons (eCall 2 F (aCons (e2 kMod (eVar 2) (eC (.int 2147483647))) (aCons (eVar 4) aNil))) (aCons (e2 kPlus (eVar 4) (eC (.int 7))) aNil))) (eC (.int 1000000))) aNil)))))
      (ns.map D.int) [some (D.scr ns), some (D.own []), none, none, none] δ0 = .nx ρ' δ' ∧ numI ns 0 δ0 (60 * (ns.map D.int).length) ρ' δ' := by
    have := forL_inv (g := gName' 2) (body := (sIf (tVal (e2 kGe (eVar 2) (e2 kPow (eC (.int 10)) (eC (.int 18))))) (sSeq (sSet 3 (eVar 2)) (sForR1 (oCons (eC (.int 60)) aNil) (gName' 4) (sIf (tVal (e2 kGt (eVar 3) (eC (.int 0)))) (sSeq (sLm kApp (eVar 1) (aCons (e2 kMod (eVar 3) (eC (.int 1000000))) aNil)) (sSet 3 (e2 kFdiv (eVar 3) (eC (.int 1000000))))) sNx))) (sSeq (sLm kApp (eVar 1) (aCons (e2 kMod (eVar 2) (eC (.int 1000000))) aNil)) (sForR1 (oCons (eC (.int 5)) aNil) (gName' 4) (sLm kApp (eVar 1) (aCons (e2 kMod (eCall 2 F (aCons (eCall 2 F (aCons (e2 kMod (eVar 2) (eC (.int 2147483647))) (aCons (eVar 4) aNil))) (aCons (e2 kPlus (eVar 4) (eC (.int 7))) aNil))) (eC (.int 1000000))) aNil))))))
      (fun p ρ δ => numI ns 0 δ0 (60 * p.length) ρ δ) (ns.map D.int) [] [some (D.scr ns), some (D.own []), none, none, none] δ0 ⟨rfl, [], none, none, none, rfl, by simp⟩ ?_
    · simpa using this
    · rintro p d s ρ δ e ⟨rfl, ms, x2, x3, x4, rfl, hm⟩
      have hp : p.length < 63 := by
        have := congrArg List.length e
        simp at this
        omega
      obtain ⟨n, rfl⟩ : ∃ n : Int, d = .int n := by
        have hd : d ∈ ns.map D.int := by
          have : [] ++ ns.map D.int = p ++ d :: s := e
          rw [List.nil_append] at this
          rw [this]; simp
        obtain ⟨n, _, rfl⟩ := List.mem_map.mp hd
        exact ⟨n, rfl⟩
      refine ⟨[some (.scr ns), some (.own (ms.map D.int)), some (.int n), x3, x4], rfl, ?_⟩
      by_cases hn : n ≥ 1000000000000000000
      · obtain ⟨ρ', δ', w1, w2⟩ := forL_inv (g := gName' 4) (body := (sIf (tVal (e2 kGt (eVar 3) (eC (.int 0)))) (sSeq (sLm kApp (eVar 1) (aCons (e2 kMod (eVar 3) (eC (.int 1000000))) aNil)) (sSet 3 (e2 kFdiv (eVar 3) (eC (.int 1000000))))) sNx))
          (fun q ρ δ' => δ' = δ ∧ ∃ (ms : List Int) (r : Int) (x4 : Option D), ρ = [some (.scr ns), some (.own (ms.map D.int)), some (.int n), some (.int r), x4] ∧ ms.length ≤ 60 * p.length + q.length)
          ((List.range 60).map fun i => D.int (i : Nat)) [] [some (.scr ns), some (.own (ms.map D.int)), some (.int n), some (.int n), x4] δ ⟨rfl, ms, n, x4, rfl, by simpa using hm⟩ (by
            rintro q d s ρ δ' e' ⟨rfl, ms, r, x4, rfl, hm⟩
            have hq : q.length < 60 := by
              have := congrArg List.length e'
              simp at this
              omega
            refine ⟨_, rfl, ?_⟩
            by_cases hr : 0 < r
            · refine ⟨[some (.scr ns), some (.own ((ms ++ [r % 1000000]).map D.int)), some (.int n), some (.int (r / 1000000)), some d], δ', ?_, rfl, ms ++ [r % 1000000], _, _, rfl, by simp; omega⟩
              have hb : ms.length < BIG := by simp [BIG]; omega
              simp -implicitDefEqProofs [sNx_a, sBk_a, sCt_a, sRetN_a, aNil_a, tYesF_a, fnV, sSeq, sSet, sRet, sIf, sOwn, sDrop, sAsgG, sSetI, sLm, kApp, isLs, getL, putL, e1, e2, eVar, eC, opd, fzd, retd, kPlus, kTimes, kMod_i, kFdiv_i, kMinus_i, kNeg, kPow_i, kLt_i, kLe_i, kGt_i, kGe_i, kIx, asL, asQ, atI, ixN, kLen, aCons, oCons, eL, eCall, eLst, eLstH, eTup, eIf, eAnd, eOr, tVal, tTru, tAndF, tOrF, tNotF, truth, kEq, kNe, eqK, scalE, kIsN, kNotN, isN, kIn, kNotIn, inK, gName', gTup', gsNil, gsCons, sRaise, eChain, kIsi, tyD, kitB, eKIn, eKGet, hr, hb]
            · refine ⟨[some (.scr ns), some (.own (ms.map D.int)), some (.int n), some (.int r), some d], δ', ?_, rfl, ms, _, _, rfl, by simp; omega⟩
              simp -implicitDefEqProofs [sNx_a, sBk_a, sCt_a, sRetN_a, aNil_a, tYesF_a, fnV, sSeq, sSet, sRet, sIf, sOwn, sDrop, sAsgG, sSetI, sLm, kApp, isLs, getL, putL, e1, e2, eVar, eC, opd, fzd, retd, kPlus, kTimes, kMod_i, kFdiv_i, kMinus_i, kNeg, kPow_i, kLt_i, kLe_i, kGt_i, kGe_i, kIx, asL, asQ, atI, ixN, kLen, aCons, oCons, eL, eCall, eLst, eLstH, eTup, eIf, eAnd, eOr, tVal, tTru, tAndF, tOrF, tNotF, truth, kEq, kNe, eqK, scalE, kIsN, kNotN, isN, kIn, kNotIn, inK, gName', gTup', gsNil, gsCons, sRaise, eChain, kIsi, tyD, kitB, eKIn, eKGet, hr])
        obtain ⟨rfl, ms', r, x4', rfl, hm'⟩ := w2
        refine ⟨_, _, ?_, rfl, ms', some (.int n), some (.int r), x4', rfl, by simp at hm' ⊢; omega⟩
        simp -implicitDefEqProofs [sNx_a, sBk_a, sCt_a, sRetN_a, aNil_a, tYesF_a, fnV, sSeq, sSet, sRet, sIf, sOwn, sDrop, sAsgG, sSetI, sLm, kApp, isLs, getL, putL, e1, e2, eVar, eC, opd, fzd, retd, kPlus, kTimes, kMod_i, kFdiv_i, kMinus_i, kNeg, kPow_i, kLt_i, kLe_i, kGt_i, kGe_i, kIx, asL, asQ, atI, ixN, kLen, aCons, oCons, eL, eCall, eLst, eLstH, eTup, eIf, eAnd, eOr, tVal, tTru, tAndF, tOrF, tNotF, truth, kEq, kNe, eqK, scalE, kIsN, kNotN, isN, kIn, kNotIn, inK, gName', gTup', gsNil, gsCons, sRaise, eChain, kIsi, tyD, kitB, eKIn, eKGet, sForR1, hn]
        exact w1
      · obtain ⟨ρ', δ', w1, w2⟩ := forL_inv (g := gName' 4) (body := (sLm kApp (eVar 1) (aCons (e2 kMod (eCall 2 F (aCons (eCall 2 F (aCons (e2 kMod (eVar 2) (eC (.int 2147483647))) (aCons (eVar 4) aNil))) (aCons (e2 kPlus (eVar 4) (eC (.int 7))) aNil))) (eC (.int 1000000))) aNil)))
          (fun q ρ δ' => δ' = δ ∧ ∃ (ms : List Int) (x4 : Option D), ρ = [some (.scr ns), some (.own (ms.map D.int)), some (.int n), x3, x4] ∧ ms.length ≤ 60 * p.length + 1 + q.length)
          ((List.range 5).map fun i => D.int (i : Nat)) [] [some (.scr ns), some (.own ((ms ++ [n % 1000000]).map D.int)), some (.int n), x3, x4] δ ⟨rfl, ms ++ [n % 1000000], x4, rfl, by simp at hm ⊢; omega⟩ (by
            rintro q d s ρ δ' e' ⟨rfl, ms, x4, rfl, hm⟩
            have hq : q.length < 5 := by
              have := congrArg List.length e'
              simp at this
              omega
            obtain ⟨j, rfl⟩ : ∃ j : Int, d = .int j := by
              have hd : d ∈ (List.range 5).map fun i => D.int (i : Nat) := by
                rw [List.nil_append] at e'
                rw [e']; simp
              obtain ⟨j, _, rfl⟩ := List.mem_map.mp hd
              exact ⟨_, rfl⟩
            refine ⟨_, rfl, ?_⟩
            obtain ⟨v1, q1, _⟩ := hF (n % 2147483647) j δ'
            obtain ⟨v2, q2, _⟩ := hF v1 (j + 7) δ'
            refine ⟨[some (.scr ns), some (.own ((ms ++ [v2 % 1000000]).map D.int)), some (.int n), x3, some (.int j)], δ', ?_, rfl, ms ++ [v2 % 1000000], _, rfl, by simp; omega⟩
            have hb : ms.length < BIG := by simp [BIG]; omega
            simp -implicitDefEqProofs [sNx_a, sBk_a, sCt_a, sRetN_a, aNil_a, tYesF_a, fnV, sSeq, sSet, sRet, sIf, sOwn, sDrop, sAsgG, sSetI, sLm, kApp, isLs, getL, putL, e1, e2, eVar, eC, opd, fzd, retd, kPlus, kTimes, kMod_i, kFdiv_i, kMinus_i, kNeg, kPow_i, kLt_i, kLe_i, kGt_i, kGe_i, kIx, asL, asQ, atI, ixN, kLen, aCons, oCons, eL, eCall, eLst, eLstH, eTup, eIf, eAnd, eOr, tVal, tTru, tAndF, tOrF, tNotF, truth, kEq, kNe, eqK, scalE, kIsN, kNotN, isN, kIn, kNotIn, inK, gName', gTup', gsNil, gsCons, sRaise, eChain, kIsi, tyD, kitB, eKIn, eKGet, hb, q1, q2])
        obtain ⟨rfl, ms', x4', rfl, hm'⟩ := w2
        refine ⟨_, _, ?_, rfl, ms', some (.int n), x3, x4', rfl, by simp at hm' ⊢; omega⟩
        have hb : ms.length < BIG := by simp [BIG]; omega
        have hn' : ¬ 1000000000000000000 ≤ n := hn
        simp -implicitDefEqProofs [sNx_a, sBk_a, sCt_a, sRetN_a, aNil_a, tYesF_a, fnV, sSeq, sSet, sRet, sIf, sOwn, sDrop, sAsgG, sSetI, sLm, kApp, isLs, getL, putL, e1, e2, eVar, eC, opd, fzd, retd, kPlus, kTimes, kMod_i, kFdiv_i, kMinus_i, kNeg, kPow_i, kLt_i, kLe_i, kGt_i, kGe_i, kIx, asL, asQ, atI, ixN, kLen, aCons, oCons, eL, eCall, eLst, eLstH, eTup, eIf, eAnd, eOr, tVal, tTru, tAndF, tOrF, tNotF, truth, kEq, kNe, eqK, scalE, kIsN, kNotN, isN, kIn, kNotIn, inK, gName', gTup', gsNil, gsCons, sRaise, eChain, kIsi, tyD, kitB, eKIn, eKGet, sForR1, hn', hb]
        simpa using w1
  obtain ⟨ρ', δ', w1, rfl, ms, x2, x3, x4, rfl, _⟩ := main
  refine ⟨ms, ?_⟩
  simp -implicitDefEqProofs [sNx_a, sBk_a, sCt_a, sRetN_a, aNil_a, tYesF_a, fnV, sSeq, sSet, sRet, sIf, sOwn, sDrop, sAsgG, sSetI, sLm, kApp, isLs, getL, putL, e1, e2, eVar, eC, opd, fzd, retd, kPlus, kTimes, kMod_i, kFdiv_i, kMinus_i, kNeg, kPow_i, kLt_i, kLe_i, kGt_i, kGe_i, kIx, asL, asQ, atI, ixN, kLen, aCons, oCons, eL, eCall, eLst, eLstH, eTup, eIf, eAnd, eOr, tVal, tTru, tAndF, tOrF, tNotF, truth, kEq, kNe, eqK, scalE, kIsN, kNotN, isN, kIn, kNotIn, inK, gName', gTup', gsNil, gsCons, sRaise, eChain, kIsi, tyD, kitB, eKIn, eKGet, sFor, itemsL, b__law_numbers, w1]
end Gk
set_option maxHeartbeats 4000000
namespace Gk
open PySem L2 Pi RT
def LX : List Str := ["x", "y"]
def LN : List Str := ["1", "2", "3", "4"]
def LS : List Str := ["k", "p", "s", "o", "r", "R", "l", "L", "d", "D", "f", "F"]
def STS : List Str := LS ++ LX.flatMap fun a => LN.flatMap fun b => LN.map fun c => a ++ b ++ c
theorem cross_in : ∀ a ∈ LX, ∀ b ∈ LN, ∀ c ∈ LN, a ++ b ++ c ∈ STS := by decide +kernel
theorem lx_len : ∀ a ∈ LX, a.length = 1 := by decide +kernel
theorem ln_len : ∀ a ∈ LN, a.length = 1 := by decide +kernel
theorem str_len_app (a b : Str) : (a ++ b).length = a.length + b.length := by
  show (a.cps ++ b.cps).size = a.cps.size + b.cps.size
  exact Array.size_append
theorem str_ok (v : Int) (δ : Sto) (h0 : 0 ≤ v) (h1 : v < 4) : ∃ s, s ∈ LN ∧ kStr [.int (1 + v)] δ = .ok (.str s) δ := by
  have : v = 0 ∨ v = 1 ∨ v = 2 ∨ v = 3 := by omega
  rcases this with rfl | rfl | rfl | rfl
  · exact ⟨"1", by decide +kernel, by rfl⟩
  · exact ⟨"2", by decide +kernel, by rfl⟩
  · exact ⟨"3", by decide +kernel, by rfl⟩
  · exact ⟨"4", by decide +kernel, by rfl⟩
def IsStitch (F : FF) : Prop := ∀ (ns : List Int) (a : Nat) (r : Sto), ∃ s a', s ∈ STS ∧ F [.hnd 0] (dr ns a :: r) = .ok (.str s) (dr ns a' :: r)
theorem atI_mem {α : Type} {l : List α} {i : Int} (h0 : 0 ≤ i) (h : i < l.length) : ∃ x, x ∈ l ∧ atI l i = some x := by
  obtain ⟨n, rfl⟩ := Int.eq_ofNat_of_zero_le h0
  have h' : n < l.length := by omega
  exact ⟨l[n], List.getElem_mem h', by rw [Pi.atI_nat]; simp [h']⟩
theorem stitch_ok {F : FF} (hF : IsDraw F) : IsStitch (fnV 1 (b__law_stitch F)) := by
  intro ns a r
  obtain ⟨p, p0, p1, q1⟩ := hF ns a r 16 (by decide)
  by_cases hp : 12 < p
  · obtain ⟨v1, b1, c1, w1⟩ := hF ns (a + 1) r 2 (by decide)
    obtain ⟨v2, b2, c2, w2⟩ := hF ns (a + 1 + 1) r 4 (by decide)
    obtain ⟨v3, b3, c3, w3⟩ := hF ns (a + 1 + 1 + 1) r 4 (by decide)
    obtain ⟨x, hx, ex⟩ := atI_mem (l := LX) b1 (by simpa [LX] using c1)
    have ex' : atI [D.str "x", D.str "y"] v1 = some (.str x) := by
      have : v1 = 0 ∨ v1 = 1 := by omega
      rcases this with rfl | rfl <;> (cases ex; rfl)
    obtain ⟨s2, h2, k2⟩ := str_ok v2 (dr ns (a + 1 + 1 + 1) :: r) b2 c2
    obtain ⟨s3, h3, k3⟩ := str_ok v3 (dr ns (a + 1 + 1 + 1 + 1) :: r) b3 c3
    refine ⟨x ++ s2 ++ s3, a + 1 + 1 + 1 + 1, cross_in x hx s2 h2 s3 h3, ?_⟩
    have l1 := lx_len x hx
    have l2 := ln_len s2 h2
    have l3 := ln_len s3 h3
    unfold atI ixN at ex'
    simp at ex'
    simp -implicitDefEqProofs [sNx_a, sBk_a, sCt_a, sRetN_a, aNil_a, tYesF_a, fnV, sSeq, sSet, sRet, sIf, sOwn, sDrop, sAsgG, sSetI, sLm, kApp, isLs, getL, putL, e1, e2, eVar, eC, opd, fzd, retd, kPlus, kTimes, kMod_i, kFdiv_i, kMinus_i, kNeg, kPow_i, kLt_i, kLe_i, kGt_i, kGe_i, kIx, asL, asQ, atI, ixN, kLen, aCons, oCons, eL, eCall, eLst, eLstH, eTup, eIf, eAnd, eOr, tVal, tTru, tAndF, tOrF, tNotF, truth, kEq, kNe, eqK, scalE, kIsN, kNotN, isN, kIn, kNotIn, inK, gName', gTup', gsNil, gsCons, sRaise, eChain, kIsi, tyD, kitB, eKIn, eKGet, b__law_stitch, q1, hp, w1, w2, w3, k2, k3, ex', l1, l2, l3, str_len_app, BIG]
  · by_cases h12 : p = 12
    · subst h12
      obtain ⟨v1, b1, c1, w1⟩ := hF ns (a + 1) r 2 (by decide)
      by_cases hv : v1 = 0
      · subst hv
        refine ⟨"f", a + 1 + 1, by decide +kernel, ?_⟩
        simp -implicitDefEqProofs [sNx_a, sBk_a, sCt_a, sRetN_a, aNil_a, tYesF_a, fnV, sSeq, sSet, sRet, sIf, sOwn, sDrop, sAsgG, sSetI, sLm, kApp, isLs, getL, putL, e1, e2, eVar, eC, opd, fzd, retd, kPlus, kTimes, kMod_i, kFdiv_i, kMinus_i, kNeg, kPow_i, kLt_i, kLe_i, kGt_i, kGe_i, kIx, asL, asQ, atI, ixN, kLen, aCons, oCons, eL, eCall, eLst, eLstH, eTup, eIf, eAnd, eOr, tVal, tTru, tAndF, tOrF, tNotF, truth, kEq, kNe, eqK, scalE, kIsN, kNotN, isN, kIn, kNotIn, inK, gName', gTup', gsNil, gsCons, sRaise, eChain, kIsi, tyD, kitB, eKIn, eKGet, b__law_stitch, q1, w1]
      · refine ⟨"F", a + 1 + 1, by decide +kernel, ?_⟩
        simp -implicitDefEqProofs [sNx_a, sBk_a, sCt_a, sRetN_a, aNil_a, tYesF_a, fnV, sSeq, sSet, sRet, sIf, sOwn, sDrop, sAsgG, sSetI, sLm, kApp, isLs, getL, putL, e1, e2, eVar, eC, opd, fzd, retd, kPlus, kTimes, kMod_i, kFdiv_i, kMinus_i, kNeg, kPow_i, kLt_i, kLe_i, kGt_i, kGe_i, kIx, asL, asQ, atI, ixN, kLen, aCons, oCons, eL, eCall, eLst, eLstH, eTup, eIf, eAnd, eOr, tVal, tTru, tAndF, tOrF, tNotF, truth, kEq, kNe, eqK, scalE, kIsN, kNotN, isN, kIn, kNotIn, inK, gName', gTup', gsNil, gsCons, sRaise, eChain, kIsi, tyD, kitB, eKIn, eKGet, b__law_stitch, q1, w1, hv]
    · have hp' : p < 12 := by omega
      have : p = 0 ∨ p = 1 ∨ p = 2 ∨ p = 3 ∨ p = 4 ∨ p = 5 ∨ p = 6 ∨ p = 7 ∨ p = 8 ∨ p = 9 ∨ p = 10 ∨ p = 11 := by omega
      rcases this with rfl | rfl | rfl | rfl | rfl | rfl | rfl | rfl | rfl | rfl | rfl | rfl
      · exact ⟨"k", a + 1, by decide +kernel, by simp -implicitDefEqProofs [sNx_a, sBk_a, sCt_a, sRetN_a, aNil_a, tYesF_a, fnV, sSeq, sSet, sRet, sIf, sOwn, sDrop, sAsgG, sSetI, sLm, kApp, isLs, getL, putL, e1, e2, eVar, eC, opd, fzd, retd, kPlus, kTimes, kMod_i, kFdiv_i, kMinus_i, kNeg, kPow_i, kLt_i, kLe_i, kGt_i, kGe_i, kIx, asL, asQ, atI, ixN, kLen, aCons, oCons, eL, eCall, eLst, eLstH, eTup, eIf, eAnd, eOr, tVal, tTru, tAndF, tOrF, tNotF, truth, kEq, kNe, eqK, scalE, kIsN, kNotN, isN, kIn, kNotIn, inK, gName', gTup', gsNil, gsCons, sRaise, eChain, kIsi, tyD, kitB, eKIn, eKGet, b__law_stitch, q1]⟩
      · exact ⟨"p", a + 1, by decide +kernel, by simp -implicitDefEqProofs [sNx_a, sBk_a, sCt_a, sRetN_a, aNil_a, tYesF_a, fnV, sSeq, sSet, sRet, sIf, sOwn, sDrop, sAsgG, sSetI, sLm, kApp, isLs, getL, putL, e1, e2, eVar, eC, opd, fzd, retd, kPlus, kTimes, kMod_i, kFdiv_i, kMinus_i, kNeg, kPow_i, kLt_i, kLe_i, kGt_i, kGe_i, kIx, asL, asQ, atI, ixN, kLen, aCons, oCons, eL, eCall, eLst, eLstH, eTup, eIf, eAnd, eOr, tVal, tTru, tAndF, tOrF, tNotF, truth, kEq, kNe, eqK, scalE, kIsN, kNotN, isN, kIn, kNotIn, inK, gName', gTup', gsNil, gsCons, sRaise, eChain, kIsi, tyD, kitB, eKIn, eKGet, b__law_stitch, q1]⟩
      · exact ⟨"k", a + 1, by decide +kernel, by simp -implicitDefEqProofs [sNx_a, sBk_a, sCt_a, sRetN_a, aNil_a, tYesF_a, fnV, sSeq, sSet, sRet, sIf, sOwn, sDrop, sAsgG, sSetI, sLm, kApp, isLs, getL, putL, e1, e2, eVar, eC, opd, fzd, retd, kPlus, kTimes, kMod_i, kFdiv_i, kMinus_i, kNeg, kPow_i, kLt_i, kLe_i, kGt_i, kGe_i, kIx, asL, asQ, atI, ixN, kLen, aCons, oCons, eL, eCall, eLst, eLstH, eTup, eIf, eAnd, eOr, tVal, tTru, tAndF, tOrF, tNotF, truth, kEq, kNe, eqK, scalE, kIsN, kNotN, isN, kIn, kNotIn, inK, gName', gTup', gsNil, gsCons, sRaise, eChain, kIsi, tyD, kitB, eKIn, eKGet, b__law_stitch, q1]⟩
      · exact ⟨"p", a + 1, by decide +kernel, by simp -implicitDefEqProofs [sNx_a, sBk_a, sCt_a, sRetN_a, aNil_a, tYesF_a, fnV, sSeq, sSet, sRet, sIf, sOwn, sDrop, sAsgG, sSetI, sLm, kApp, isLs, getL, putL, e1, e2, eVar, eC, opd, fzd, retd, kPlus, kTimes, kMod_i, kFdiv_i, kMinus_i, kNeg, kPow_i, kLt_i, kLe_i, kGt_i, kGe_i, kIx, asL, asQ, atI, ixN, kLen, aCons, oCons, eL, eCall, eLst, eLstH, eTup, eIf, eAnd, eOr, tVal, tTru, tAndF, tOrF, tNotF, truth, kEq, kNe, eqK, scalE, kIsN, kNotN, isN, kIn, kNotIn, inK, gName', gTup', gsNil, gsCons, sRaise, eChain, kIsi, tyD, kitB, eKIn, eKGet, b__law_stitch, q1]⟩
      · exact ⟨"s", a + 1, by decide +kernel, by simp -implicitDefEqProofs [sNx_a, sBk_a, sCt_a, sRetN_a, aNil_a, tYesF_a, fnV, sSeq, sSet, sRet, sIf, sOwn, sDrop, sAsgG, sSetI, sLm, kApp, isLs, getL, putL, e1, e2, eVar, eC, opd, fzd, retd, kPlus, kTimes, kMod_i, kFdiv_i, kMinus_i, kNeg, kPow_i, kLt_i, kLe_i, kGt_i, kGe_i, kIx, asL, asQ, atI, ixN, kLen, aCons, oCons, eL, eCall, eLst, eLstH, eTup, eIf, eAnd, eOr, tVal, tTru, tAndF, tOrF, tNotF, truth, kEq, kNe, eqK, scalE, kIsN, kNotN, isN, kIn, kNotIn, inK, gName', gTup', gsNil, gsCons, sRaise, eChain, kIsi, tyD, kitB, eKIn, eKGet, b__law_stitch, q1]⟩
      · exact ⟨"o", a + 1, by decide +kernel, by simp -implicitDefEqProofs [sNx_a, sBk_a, sCt_a, sRetN_a, aNil_a, tYesF_a, fnV, sSeq, sSet, sRet, sIf, sOwn, sDrop, sAsgG, sSetI, sLm, kApp, isLs, getL, putL, e1, e2, eVar, eC, opd, fzd, retd, kPlus, kTimes, kMod_i, kFdiv_i, kMinus_i, kNeg, kPow_i, kLt_i, kLe_i, kGt_i, kGe_i, kIx, asL, asQ, atI, ixN, kLen, aCons, oCons, eL, eCall, eLst, eLstH, eTup, eIf, eAnd, eOr, tVal, tTru, tAndF, tOrF, tNotF, truth, kEq, kNe, eqK, scalE, kIsN, kNotN, isN, kIn, kNotIn, inK, gName', gTup', gsNil, gsCons, sRaise, eChain, kIsi, tyD, kitB, eKIn, eKGet, b__law_stitch, q1]⟩
      · exact ⟨"r", a + 1, by decide +kernel, by simp -implicitDefEqProofs [sNx_a, sBk_a, sCt_a, sRetN_a, aNil_a, tYesF_a, fnV, sSeq, sSet, sRet, sIf, sOwn, sDrop, sAsgG, sSetI, sLm, kApp, isLs, getL, putL, e1, e2, eVar, eC, opd, fzd, retd, kPlus, kTimes, kMod_i, kFdiv_i, kMinus_i, kNeg, kPow_i, kLt_i, kLe_i, kGt_i, kGe_i, kIx, asL, asQ, atI, ixN, kLen, aCons, oCons, eL, eCall, eLst, eLstH, eTup, eIf, eAnd, eOr, tVal, tTru, tAndF, tOrF, tNotF, truth, kEq, kNe, eqK, scalE, kIsN, kNotN, isN, kIn, kNotIn, inK, gName', gTup', gsNil, gsCons, sRaise, eChain, kIsi, tyD, kitB, eKIn, eKGet, b__law_stitch, q1]⟩
      · exact ⟨"R", a + 1, by decide +kernel, by simp -implicitDefEqProofs [sNx_a, sBk_a, sCt_a, sRetN_a, aNil_a, tYesF_a, fnV, sSeq, sSet, sRet, sIf, sOwn, sDrop, sAsgG, sSetI, sLm, kApp, isLs, getL, putL, e1, e2, eVar, eC, opd, fzd, retd, kPlus, kTimes, kMod_i, kFdiv_i, kMinus_i, kNeg, kPow_i, kLt_i, kLe_i, kGt_i, kGe_i, kIx, asL, asQ, atI, ixN, kLen, aCons, oCons, eL, eCall, eLst, eLstH, eTup, eIf, eAnd, eOr, tVal, tTru, tAndF, tOrF, tNotF, truth, kEq, kNe, eqK, scalE, kIsN, kNotN, isN, kIn, kNotIn, inK, gName', gTup', gsNil, gsCons, sRaise, eChain, kIsi, tyD, kitB, eKIn, eKGet, b__law_stitch, q1]⟩
      · exact ⟨"l", a + 1, by decide +kernel, by simp -implicitDefEqProofs [sNx_a, sBk_a, sCt_a, sRetN_a, aNil_a, tYesF_a, fnV, sSeq, sSet, sRet, sIf, sOwn, sDrop, sAsgG, sSetI, sLm, kApp, isLs, getL, putL, e1, e2, eVar, eC, opd, fzd, retd, kPlus, kTimes, kMod_i, kFdiv_i, kMinus_i, kNeg, kPow_i, kLt_i, kLe_i, kGt_i, kGe_i, kIx, asL, asQ, atI, ixN, kLen, aCons, oCons, eL, eCall, eLst, eLstH, eTup, eIf, eAnd, eOr, tVal, tTru, tAndF, tOrF, tNotF, truth, kEq, kNe, eqK, scalE, kIsN, kNotN, isN, kIn, kNotIn, inK, gName', gTup', gsNil, gsCons, sRaise, eChain, kIsi, tyD, kitB, eKIn, eKGet, b__law_stitch, q1]⟩
      · exact ⟨"L", a + 1, by decide +kernel, by simp -implicitDefEqProofs [sNx_a, sBk_a, sCt_a, sRetN_a, aNil_a, tYesF_a, fnV, sSeq, sSet, sRet, sIf, sOwn, sDrop, sAsgG, sSetI, sLm, kApp, isLs, getL, putL, e1, e2, eVar, eC, opd, fzd, retd, kPlus, kTimes, kMod_i, kFdiv_i, kMinus_i, kNeg, kPow_i, kLt_i, kLe_i, kGt_i, kGe_i, kIx, asL, asQ, atI, ixN, kLen, aCons, oCons, eL, eCall, eLst, eLstH, eTup, eIf, eAnd, eOr, tVal, tTru, tAndF, tOrF, tNotF, truth, kEq, kNe, eqK, scalE, kIsN, kNotN, isN, kIn, kNotIn, inK, gName', gTup', gsNil, gsCons, sRaise, eChain, kIsi, tyD, kitB, eKIn, eKGet, b__law_stitch, q1]⟩
      · exact ⟨"d", a + 1, by decide +kernel, by simp -implicitDefEqProofs [sNx_a, sBk_a, sCt_a, sRetN_a, aNil_a, tYesF_a, fnV, sSeq, sSet, sRet, sIf, sOwn, sDrop, sAsgG, sSetI, sLm, kApp, isLs, getL, putL, e1, e2, eVar, eC, opd, fzd, retd, kPlus, kTimes, kMod_i, kFdiv_i, kMinus_i, kNeg, kPow_i, kLt_i, kLe_i, kGt_i, kGe_i, kIx, asL, asQ, atI, ixN, kLen, aCons, oCons, eL, eCall, eLst, eLstH, eTup, eIf, eAnd, eOr, tVal, tTru, tAndF, tOrF, tNotF, truth, kEq, kNe, eqK, scalE, kIsN, kNotN, isN, kIn, kNotIn, inK, gName', gTup', gsNil, gsCons, sRaise, eChain, kIsi, tyD, kitB, eKIn, eKGet, b__law_stitch, q1]⟩
      · exact ⟨"D", a + 1, by decide +kernel, by simp -implicitDefEqProofs [sNx_a, sBk_a, sCt_a, sRetN_a, aNil_a, tYesF_a, fnV, sSeq, sSet, sRet, sIf, sOwn, sDrop, sAsgG, sSetI, sLm, kApp, isLs, getL, putL, e1, e2, eVar, eC, opd, fzd, retd, kPlus, kTimes, kMod_i, kFdiv_i, kMinus_i, kNeg, kPow_i, kLt_i, kLe_i, kGt_i, kGe_i, kIx, asL, asQ, atI, ixN, kLen, aCons, oCons, eL, eCall, eLst, eLstH, eTup, eIf, eAnd, eOr, tVal, tTru, tAndF, tOrF, tNotF, truth, kEq, kNe, eqK, scalE, kIsN, kNotN, isN, kIn, kNotIn, inK, gName', gTup', gsNil, gsCons, sRaise, eChain, kIsi, tyD, kitB, eKIn, eKGet, b__law_stitch, q1]⟩
end Gk
set_option maxHeartbeats 4000000
namespace Gk
open PySem L2 Pi RT
abbrev P2 := Int × Str
theorem ltP_def (p q : P2) : ltP p q = if p.1 = q.1 then decide (p.2.cps.toList < q.2.cps.toList) else decide (p.1 < q.1) := rfl
theorem ltP_trans {a b c : P2} (h1 : ltP a b = true) (h2 : ltP b c = true) : ltP a c = true := by
  rw [ltP_def] at *
  split at h1
  · rename_i e1
    split at h2
    · rename_i e2
      rw [if_pos (e1.trans e2)]
      exact decide_eq_true (List.lt_trans (of_decide_eq_true h1) (of_decide_eq_true h2))
    · rename_i e2
      have := of_decide_eq_true h2
      rw [if_neg (by omega)]
      exact decide_eq_true (by omega)
  · rename_i e1
    have z1 := of_decide_eq_true h1
    split at h2
    · rename_i e2
      rw [if_neg (by omega)]
      exact decide_eq_true (by omega)
    · rename_i e2
      have z2 := of_decide_eq_true h2
      rw [if_neg (by omega)]
      exact decide_eq_true (by omega)
theorem ltP_irrefl (a : P2) : ltP a a = false := by
  rw [ltP_def, if_pos rfl]
  exact decide_eq_false (List.lt_irrefl _)
theorem str_ext {a b : Str} (h : a.cps.toList = b.cps.toList) : a = b := by
  cases a; cases b
  simp at h
  rw [h]
theorem ltP_conn {a b : P2} (h1 : ltP a b = false) (h2 : ltP b a = false) : a = b := by
  rw [ltP_def] at *
  split at h1
  · rename_i e1
    rw [if_pos e1.symm] at h2
    have z1 := of_decide_eq_false h1
    have z2 := of_decide_eq_false h2
    refine Prod.ext e1 (str_ext ?_)
    exact List.le_antisymm (List.not_lt.mp z2) (List.not_lt.mp z1)
  · rename_i e1
    rw [if_neg (fun z => e1 z.symm)] at h2
    have z1 := of_decide_eq_false h1
    have z2 := of_decide_eq_false h2
    omega
def Least (C : P2 → Prop) (m : P2) : Prop := C m ∧ ∀ y, C y → ltP y m = false
theorem Least.uniq {C : P2 → Prop} {m n : P2} (h : Least C m) (k : Least C n) : m = n := ltP_conn (k.2 m h.1) (h.2 n k.1)
theorem minP_least (p : P2) (ps : List P2) : Least (fun y => y ∈ p :: ps) (minP p ps) := by
  refine ⟨minP_mem p ps, ?_⟩
  unfold minP PySem.W.minOf
  induction ps generalizing p with
  | nil =>
    intro y hy
    rw [List.mem_singleton.mp hy]
    exact ltP_irrefl p
  | cons q qs ih =>
    intro y hy
    rw [List.foldl_cons]
    by_cases h : PySem.W.DatumOrd.lt q p = true
    · rw [if_pos h]
      rcases List.mem_cons.mp hy with rfl | hy
      · have h' : ltP q y = true := h
        have := ih q q List.mem_cons_self
        cases e : ltP y (List.foldl (fun a y => if PySem.W.DatumOrd.lt y a = true then y else a) q qs) with
        | false => rfl
        | true => rw [ltP_trans h' e] at this; cases this
      · exact ih q y hy
    · rw [if_neg h]
      rcases List.mem_cons.mp hy with rfl | hy
      · exact ih y y List.mem_cons_self
      · rcases List.mem_cons.mp hy with rfl | hy
        · have h' : ltP y p = false := by
            cases e : ltP y p with
            | false => rfl
            | true => exact absurd e h
          have := ih p p List.mem_cons_self
          cases e : ltP y (List.foldl (fun a y => if PySem.W.DatumOrd.lt y a = true then y else a) p qs) with
          | false => rfl
          | true =>
            by_cases e2 : ltP (List.foldl (fun a y => if PySem.W.DatumOrd.lt y a = true then y else a) p qs) p = true
            · rw [ltP_trans e e2] at h'; cases h'
            · have e3 : ltP (List.foldl (fun a y => if PySem.W.DatumOrd.lt y a = true then y else a) p qs) p = false := by simpa using e2
              have := ltP_conn this e3
              rw [← this] at e
              rw [h'] at e
              cases e
        · exact ih p y (List.mem_cons_of_mem _ hy)
/-! ### the best text -/
def hd (x : List Str) : Str := x.headD default
def blank : Str := " "
def opB : Str := "( "
def clB : Str := " ) "
def it (n : Nat) : Str := toString (n : Int)
/-- a piece: the first s stitches -/
def Piece (b : List Str → P2) (l : List Str) (s : Nat) (p : P2) : Prop :=
  (s = 1 ∧ p = (1, hd l)) ∨ (2 ≤ s ∧ l.take s = List.replicate s (hd l) ∧ p = (2, hd l ++ blank ++ it s)) ∨
  ∃ z k, 1 ≤ z ∧ 2 ≤ k ∧ s = k * z ∧ l.take s = (List.replicate k (l.take z)).flatten ∧ p = ((b (l.take z)).1 + 3, opB ++ (b (l.take z)).2 ++ clB ++ it k)
def Cand (b : List Str → P2) (l : List Str) (y : P2) : Prop :=
  ∃ s p, 1 ≤ s ∧ s ≤ l.length ∧ Piece b l s p ∧ y = if s = l.length then p else (p.1 + (b (l.drop s)).1, p.2 ++ blank ++ (b (l.drop s)).2)
theorem Piece.congr {b b' : List Str → P2} {l : List Str} {s : Nat} {p : P2} (hs : s ≤ l.length) (h : ∀ x, x ≠ [] → x.length < l.length → b x = b' x) (k : Piece b l s p) : Piece b' l s p := by
  rcases k with k | k | ⟨z, n, h1, h2, h3, h4, h5⟩
  · exact .inl k
  · exact .inr (.inl k)
  · have hz : (l.take z).length < l.length := by
      have : 2 * z ≤ n * z := Nat.mul_le_mul_right z h2
      simp; omega
    have hz2 : l.take z ≠ [] := by
      intro e
      have : 2 * z ≤ n * z := Nat.mul_le_mul_right z h2
      rcases List.take_eq_nil_iff.mp e with e | e
      · omega
      · rw [e] at hs
        have : s ≤ 0 := hs
        omega
    refine .inr (.inr ⟨z, n, h1, h2, h3, h4, ?_⟩)
    rw [← h _ hz2 hz]
    exact h5
theorem Cand.congr {b b' : List Str → P2} {l : List Str} {y : P2} (h : ∀ x, x ≠ [] → x.length < l.length → b x = b' x) (k : Cand b l y) : Cand b' l y := by
  obtain ⟨s, p, h1, h2, h3, h4⟩ := k
  refine ⟨s, p, h1, h2, h3.congr h2 h, ?_⟩
  rw [h4]
  split
  · rfl
  · rename_i hs
    have hd : (l.drop s).length < l.length := by rw [List.length_drop]; omega
    have hd2 : l.drop s ≠ [] := by
      intro e
      have := congrArg List.length e
      rw [List.length_drop] at this
      simp at this
      omega
    rw [h _ hd2 hd]
noncomputable def Bn : Nat → List Str → P2
  | 0, _ => (0, default)
  | n + 1, l => Classical.epsilon (Least (Cand (Bn n) l))
theorem Bn_stable : ∀ (n m : Nat) (l : List Str), l ≠ [] → l.length ≤ n → l.length ≤ m → Bn n l = Bn m l
  | 0, _, l, h, h1, _ => absurd (List.eq_nil_of_length_eq_zero (by omega)) h
  | _ + 1, 0, l, h, _, h1 => absurd (List.eq_nil_of_length_eq_zero (by omega)) h
  | n + 1, m + 1, l, h, h1, h2 => by
    have e : ∀ x, x ≠ [] → x.length < l.length → Bn n x = Bn m x := fun x hx hl => Bn_stable n m x hx (by omega) (by omega)
    have : Cand (Bn n) l = Cand (Bn m) l := by
      funext y
      exact propext ⟨Cand.congr e, Cand.congr fun x hx hl => (e x hx hl).symm⟩
    show Classical.epsilon _ = Classical.epsilon _
    rw [this]
noncomputable def B (l : List Str) : P2 := Bn l.length l
theorem B_unique {l : List Str} (h : l ≠ []) {m : P2} (k : Least (Cand B l) m) : B l = m := by
  have e : Bn l.length l = Bn (l.length + 1) l := Bn_stable _ _ l h (Nat.le_refl _) (by omega)
  have c : Cand (Bn l.length) l = Cand B l := by
    funext y
    have e : ∀ x, x ≠ [] → x.length < l.length → Bn l.length x = B x := fun x hx hl => Bn_stable _ _ x hx (by omega) (Nat.le_refl _)
    exact propext ⟨Cand.congr e, Cand.congr fun x hx hl => (e x hx hl).symm⟩
  unfold B
  rw [e]
  show Classical.epsilon _ = m
  rw [c]
  exact (Classical.epsilon_spec ⟨m, k⟩).uniq k
end Gk
set_option maxHeartbeats 4000000
namespace Gk
open PySem L2 Pi RT
def fd (q : P2 × Nat) : D := .tup [.str q.1.2, .int q.1.1, .int (q.2 : Nat)]
def pd (p : P2) : D := .tup [.int p.1, .str p.2]
def Good (x : List Str) : Prop := (B x).2.length + 1 ≤ 20 * x.length ∧ PyData.strOk (B x).2 = true
def Sub (l0 x : List Str) : Prop := ∃ i j, i ≤ l0.length ∧ j ≤ l0.length ∧ x = (l0.drop i).take j
def KS (l0 : List Str) : List (List Key) := (List.range (l0.length + 1)).flatMap fun i => (List.range (l0.length + 1)).map fun j => ((l0.drop i).take j).map Sum.inr
structure Con (l0 : List Str) (tbl : List (List Key × D)) : Prop where
  ok : ∀ (x : List Str) (d : D), valD tbl (x.map Sum.inr) = some d → d = pd (B x) ∧ Good x
  nd : (tbl.map (·.1)).Nodup
  inn : ∀ k ∈ tbl.map (·.1), k ∈ KS l0
/-- stitches and few of them -/
structure Few (l0 : List Str) : Prop where
  len : l0.length ≤ 9
  st : ∀ s ∈ l0, s ∈ STS
theorem sts_len : ∀ s ∈ STS, s.length ≤ 3 := by decide +kernel
theorem sts_ok : ∀ s ∈ STS, PyData.strOk s = true := by decide +kernel
theorem it_len : ∀ n : Nat, n < 10 → (it n).length = 1 := by
  intro n h
  match n, h with
  | 0, _ | 1, _ | 2, _ | 3, _ | 4, _ | 5, _ | 6, _ | 7, _ | 8, _ | 9, _ => decide +kernel
theorem it_ok : ∀ n : Nat, n < 10 → PyData.strOk (it n) = true := by
  intro n h
  match n, h with
  | 0, _ | 1, _ | 2, _ | 3, _ | 4, _ | 5, _ | 6, _ | 7, _ | 8, _ | 9, _ => decide +kernel
theorem kStr_it (n : Nat) (h : n < 10) (δ : Sto) : kStr [.int (n : Int)] δ = .ok (.str (it n)) δ := by
  show (if ((n : Int)).natAbs < 2 ^ 64 then _ else _) = _
  rw [if_pos (by omega)]
  rfl
theorem ok_app {a b : Str} (h1 : PyData.strOk a = true) (h2 : PyData.strOk b = true) : PyData.strOk (a ++ b) = true := by
  show (a.cps ++ b.cps).all _ = true
  rw [Array.all_append]
  exact Bool.and_eq_true_iff.mpr ⟨h1, h2⟩
theorem Sub.mem {l0 x : List Str} (h : Sub l0 x) : ∀ s ∈ x, s ∈ l0 := by
  obtain ⟨i, j, _, _, rfl⟩ := h
  exact fun s m => List.mem_of_mem_drop (List.mem_of_mem_take m)
theorem Sub.le {l0 x : List Str} (h : Sub l0 x) : x.length ≤ l0.length := by
  obtain ⟨i, j, _, _, rfl⟩ := h
  simp
  omega
theorem Sub.take {l0 x : List Str} (h : Sub l0 x) (s : Nat) : Sub l0 (x.take s) := by
  obtain ⟨i, j, h1, h2, rfl⟩ := h
  exact ⟨i, min s j, h1, by omega, by rw [List.take_take]⟩
theorem Sub.drop {l0 x : List Str} (h : Sub l0 x) (s : Nat) : Sub l0 (x.drop s) := by
  obtain ⟨i, j, h1, h2, rfl⟩ := h
  by_cases hs : i + s ≤ l0.length
  · exact ⟨i + s, j - s, hs, by omega, by rw [List.drop_take, List.drop_drop]⟩
  · refine ⟨0, 0, by omega, by omega, ?_⟩
    rw [List.drop_take, List.drop_drop, List.drop_eq_nil_of_le (by omega)]
    simp
theorem Sub.self (l0 : List Str) : Sub l0 l0 := ⟨0, l0.length, by omega, by omega, by simp⟩
theorem Sub.key {l0 x : List Str} (h : Sub l0 x) : x.map Sum.inr ∈ KS l0 := by
  obtain ⟨i, j, h1, h2, rfl⟩ := h
  unfold KS
  rw [List.mem_flatMap]
  exact ⟨i, List.mem_range.mpr (by omega), List.mem_map.mpr ⟨j, List.mem_range.mpr (by omega), rfl⟩⟩
theorem nodup_le {α : Type} [DecidableEq α] : ∀ {l m : List α}, l.Nodup → (∀ x ∈ l, x ∈ m) → l.length ≤ m.length
  | [], _, _, _ => Nat.zero_le _
  | x :: l, m, h, k => by
    have h' := List.nodup_cons.mp h
    have hx := k x List.mem_cons_self
    have := nodup_le (l := l) (m := m.erase x) h'.2 fun y hy => (List.mem_erase_of_ne fun e => h'.1 (by rw [← e]; exact hy)).mpr (k y (List.mem_cons_of_mem _ hy))
    rw [List.length_erase_of_mem hx] at this
    have := List.length_pos_of_mem hx
    rw [List.length_cons]
    omega
theorem ks_len (l0 : List Str) : (KS l0).length = (l0.length + 1) * (l0.length + 1) := by
  unfold KS
  rw [List.length_flatMap]
  simp only [List.length_map, List.length_range]
  rw [List.map_const', List.sum_replicate_nat, List.length_range]
theorem Con.small {l0 : List Str} {tbl : List (List Key × D)} (h : Con l0 tbl) (f : Few l0) : tbl.length < BIG := by
  have := nodup_le h.nd h.inn
  rw [ks_len, List.length_map] at this
  have h2 : (l0.length + 1) * (l0.length + 1) ≤ 10 * 10 := Nat.mul_le_mul (by have := f.len; omega) (by have := f.len; omega)
  show _ < 1000000
  omega
theorem valD_put {κ : Type} [DecidableEq κ] (l : List (κ × D)) (k j : κ) (d : D) : valD (putKD l k d) j = if j = k then some d else valD l j := by
  unfold putKD
  split
  · rename_i h
    induction l with
    | nil => simp at h
    | cons p l ih =>
      unfold valD at *
      rw [List.map_cons, List.find?_cons]
      by_cases e : p.1 = k
      · rw [if_pos e]
        by_cases e2 : j = k
        · rw [if_pos e2]
          simp [e, e2]
        · rw [if_neg e2]
          have : ¬ p.1 = j := fun z => e2 (by rw [← z]; exact e)
          rw [decide_eq_false this, List.find?_cons, decide_eq_false this]
          by_cases h' : (l.any fun p => decide (p.1 = k)) = true
          · have := ih h'
            rw [if_neg e2] at this
            exact this
          · have : l.map (fun p => if p.1 = k then (p.1, d) else p) = l := by
              rw [List.map_congr_left (g := id)]
              · simp
              · intro q hq
                have : ¬ q.1 = k := fun z => h' (List.any_eq_true.mpr ⟨q, hq, decide_eq_true z⟩)
                rw [if_neg this]
                rfl
            rw [this]
      · rw [if_neg e]
        rw [List.any_cons, decide_eq_false e, Bool.false_or] at h
        have := ih h
        by_cases e3 : p.1 = j
        · have hj : ¬ j = k := fun z => e (e3.trans z)
          rw [decide_eq_true e3, if_neg hj, List.find?_cons, decide_eq_true e3]
        · rw [decide_eq_false e3, List.find?_cons, decide_eq_false e3]
          exact this
  · rename_i h
    have hk : ∀ q ∈ l, ¬ q.1 = k := fun q hq z => h (List.any_eq_true.mpr ⟨q, hq, decide_eq_true z⟩)
    unfold valD
    rw [List.find?_append]
    by_cases e : j = k
    · subst e
      rw [if_pos rfl]
      have : l.find? (fun p => decide (p.1 = j)) = none := List.find?_eq_none.mpr fun q hq => by simpa using hk q hq
      rw [this]
      simp
    · rw [if_neg e]
      cases q : l.find? (fun p => decide (p.1 = j)) with
      | some z => simp
      | none =>
        simp
        exact fun z => e z.symm
theorem put_keys {κ : Type} [DecidableEq κ] (l : List (κ × D)) (k : κ) (d : D) : (putKD l k d).map (·.1) = if k ∈ l.map (·.1) then l.map (·.1) else l.map (·.1) ++ [k] := by
  unfold putKD
  have e : ((l.any fun p => decide (p.1 = k)) = true) ↔ k ∈ l.map (·.1) := by
    rw [List.any_eq_true]
    simp
  by_cases h : k ∈ l.map (·.1)
  · rw [if_pos (e.mpr h), if_pos h, List.map_map]
    refine List.map_congr_left fun q _ => ?_
    show (if q.1 = k then (q.1, d) else q).1 = q.1
    split <;> rfl
  · rw [if_neg fun z => h (e.mp z), if_neg h, List.map_append]
    rfl
theorem Con.put {l0 x : List Str} {tbl : List (List Key × D)} (h : Con l0 tbl) (hx : Sub l0 x) (g : Good x) : Con l0 (putKD tbl (x.map Sum.inr) (pd (B x))) := by
  refine ⟨fun y d e => ?_, ?_, ?_⟩
  · rw [valD_put] at e
    split at e
    · rename_i q
      cases e
      have : y = x := by
        have inj : Function.Injective (fun s : Str => (Sum.inr s : Key)) := fun a b z => by injection z
        exact (List.map_inj_right (fun a b z => by injection z)).mp q
      subst this
      exact ⟨rfl, g⟩
    · exact h.ok y d e
  · rw [put_keys]
    split
    · exact h.nd
    · rename_i q
      exact List.nodup_append.mpr ⟨h.nd, by simp, fun a ha b hb z => q (by rw [List.mem_singleton.mp hb] at z; rw [← z]; exact ha)⟩
  · rw [put_keys]
    split
    · exact h.inn
    · intro k hk
      rcases List.mem_append.mp hk with hk | hk
      · exact h.inn k hk
      · rw [List.mem_singleton.mp hk]; exact hx.key
theorem Con.nil (l0 : List Str) : Con l0 [] := ⟨fun x d e => (nomatch e), List.nodup_nil, fun k hk => (nomatch hk)⟩
end Gk
set_option maxHeartbeats 4000000
namespace Gk
open PySem L2 Pi RT
def w1T : FT := (tAndF (tVal (e2 kLt (eVar 3) (eL kLen (oCons (eVar 0) aNil)))) (tVal (e2 kEq (e2 kIx (eVar 0) (eVar 3)) (e2 kIx (eVar 0) (eC (.int 0))))))
def w1B : FS := (sSeq (sSet 3 (e2 kPlus (eVar 3) (eC (.int 1)))) (sLm kApp (eVar 2) (aCons (eTup (aCons (e2 kPlus (e2 kPlus (e2 kIx (eVar 0) (eC (.int 0))) (eC (.str " "))) (eL kStr (oCons (eVar 3) aNil))) (aCons (eC (.int 2)) (aCons (eVar 3) aNil)))) aNil)))
def E1 (x : List Str) (k : Nat) (fs : List (P2 × Nat)) (r : Nat) (e4 e5 e6 : Option D) : Pi.Env := [some (.lst (x.map D.str)), some (.hnd k), some (.own (fs.map fd)), some (.int (r : Int)), e4, e5, e6]
def RI (x : List Str) (fs : List (P2 × Nat)) (r : Nat) : Prop :=
  (∀ p s, (p, s) ∈ fs ↔ (s = 1 ∧ p = (1, hd x)) ∨ (2 ≤ s ∧ s ≤ r ∧ p = (2, hd x ++ blank ++ it s))) ∧ fs.length ≤ r
theorem blank_len : (Str.ofString " ").length = 1 := by decide +kernel
theorem run_ok {l0 x : List Str} (f : Few l0) (hs : Sub l0 x) (hx : x ≠ []) (k : Nat) (δ : Sto) (e4 e5 e6 : Option D) : ∀ (m r : Nat) (fs : List (P2 × Nat)) (fuel : Nat), m + r = x.length → 1 ≤ r → x.take r = List.replicate r (hd x) → m < fuel → RI x fs r →
    ∃ fs' r', whileF w1T w1B fuel (E1 x k fs r e4 e5 e6) δ = .nx (E1 x k fs' r' e4 e5 e6) δ ∧ 1 ≤ r' ∧ r' ≤ x.length ∧ x.take r' = List.replicate r' (hd x) ∧ RI x fs' r' ∧ (r' = x.length ∨ x[r']? ≠ some (hd x)) := by
  have hpos : 0 < x.length := List.length_pos_iff.mpr hx
  have h9 : x.length ≤ 9 := Nat.le_trans hs.le f.len
  have h0 : x[0]? = some (hd x) := by
    cases x with
    | nil => exact absurd rfl hx
    | cons a b => rfl
  have i0 : kIx (.lst (x.map D.str)) (.int 0) δ = .ok (.str (hd x)) δ := kIx_l (i := 0) (by rw [List.getElem?_map, h0]; rfl) δ
  have hm0 : hd x ∈ STS := f.st _ (hs.mem _ (List.mem_of_getElem? h0))
  have hl0 := sts_len _ hm0
  intro m
  induction m with
  | zero =>
    intro r fs fuel hm hr ht hf ri
    obtain ⟨n, rfl⟩ : ∃ n, fuel = n + 1 := ⟨fuel - 1, by omega⟩
    have t1 : w1T (E1 x k fs r e4 e5 e6) δ = .ok false δ := by
      have : ¬ r < x.length := by omega
      simp -implicitDefEqProofs [sNx_a, sBk_a, sCt_a, sRetN_a, aNil_a, tYesF_a, fnV, sSeq, sSet, sRet, sIf, sOwn, sDrop, sAsgG, sSetI, sLm, kApp, isLs, getL, putL, e1, e2, eVar, eC, opd, fzd, retd, kMod_i, kFdiv_i, kMinus_i, kNeg, kPow_i, kLt_i, kLe_i, kGt_i, kGe_i, aCons, oCons, eL, eCall, eLst, eLstH, eTup, eIf, eAnd, eOr, tVal, tTru, tAndF, tOrF, tNotF, truth, kIsN, kNotN, isN, gName', gTup', gsNil, gsCons, sRaise, eChain, kPlus_ii, kTimes_ii, kLen_l, kLen_o, kIx_t0, kIx_t1, kEq_ii, kIx_t2, -List.map_take, -List.map_drop, w1T, E1, this]
    refine ⟨fs, r, ?_, hr, by omega, ht, ri, .inl (by omega)⟩
    rw [whileF, t1]
    rfl
  | succ m ih =>
    intro r fs fuel hm hr ht hf ri
    obtain ⟨n, rfl⟩ : ∃ n, fuel = n + 1 := ⟨fuel - 1, by omega⟩
    have hlt : r < x.length := by omega
    have hy : x[r]? = some x[r] := List.getElem?_eq_getElem hlt
    have ir : kIx (.lst (x.map D.str)) (.int (r : Int)) δ = .ok (.str x[r]) δ := kIx_l (by rw [List.getElem?_map, hy]; rfl) δ
    by_cases he : x[r] = hd x
    · have t1 : w1T (E1 x k fs r e4 e5 e6) δ = .ok true δ := by
        simp -implicitDefEqProofs [sNx_a, sBk_a, sCt_a, sRetN_a, aNil_a, tYesF_a, fnV, sSeq, sSet, sRet, sIf, sOwn, sDrop, sAsgG, sSetI, sLm, kApp, isLs, getL, putL, e1, e2, eVar, eC, opd, fzd, retd, kMod_i, kFdiv_i, kMinus_i, kNeg, kPow_i, kLt_i, kLe_i, kGt_i, kGe_i, aCons, oCons, eL, eCall, eLst, eLstH, eTup, eIf, eAnd, eOr, tVal, tTru, tAndF, tOrF, tNotF, truth, kIsN, kNotN, isN, gName', gTup', gsNil, gsCons, sRaise, eChain, kPlus_ii, kTimes_ii, kLen_l, kLen_o, kIx_t0, kIx_t1, kEq_ii, kIx_t2, -List.map_take, -List.map_drop, w1T, E1, hlt, ir, i0, kEq_ss, he]
      have p1 := kPlus_ss (a := hd x) (b := Str.ofString " ") (by rw [blank_len]; omega) δ
      have il := it_len (r + 1) (by omega)
      have p2 := kPlus_ss (a := hd x ++ Str.ofString " ") (b := it (r + 1)) (by rw [str_len_app, blank_len, il]; omega) δ
      have ks := kStr_it (r + 1) (by omega) δ
      have ks' : kStr [.int ((r : Int) + 1)] δ = .ok (.str (it (r + 1))) δ := ks
      have hb : fs.length < BIG := by have := ri.2; show _ < 1000000; omega
      have b1 : w1B (E1 x k fs r e4 e5 e6) δ = .nx (E1 x k (fs ++ [((2, hd x ++ blank ++ it (r + 1)), r + 1)]) (r + 1) e4 e5 e6) δ := by
        simp -implicitDefEqProofs [sNx_a, sBk_a, sCt_a, sRetN_a, aNil_a, tYesF_a, fnV, sSeq, sSet, sRet, sIf, sOwn, sDrop, sAsgG, sSetI, sLm, kApp, isLs, getL, putL, e1, e2, eVar, eC, opd, fzd, retd, kMod_i, kFdiv_i, kMinus_i, kNeg, kPow_i, kLt_i, kLe_i, kGt_i, kGe_i, aCons, oCons, eL, eCall, eLst, eLstH, eTup, eIf, eAnd, eOr, tVal, tTru, tAndF, tOrF, tNotF, truth, kIsN, kNotN, isN, gName', gTup', gsNil, gsCons, sRaise, eChain, kPlus_ii, kTimes_ii, kLen_l, kLen_o, kIx_t0, kIx_t1, kEq_ii, kIx_t2, -List.map_take, -List.map_drop, w1B, E1, i0, p1, p2, ks', hb, fd, blank]
      obtain ⟨fs', r', w1, w2, w3, w4, w5, w6⟩ := ih (r + 1) (fs ++ [((2, hd x ++ blank ++ it (r + 1)), r + 1)]) n (by omega) (by omega) (by
          rw [List.take_add_one, ht, hy, List.replicate_succ', he]; rfl) (by omega) ⟨fun p s => by
            rw [List.mem_append, ri.1 p s, List.mem_singleton]
            constructor
            · rintro ((h | ⟨h1, h2, h3⟩) | h)
              · exact .inl h
              · exact .inr ⟨h1, by omega, h3⟩
              · cases h; exact .inr ⟨by omega, by omega, rfl⟩
            · rintro (h | ⟨h1, h2, h3⟩)
              · exact .inl (.inl h)
              · by_cases hs : s = r + 1
                · subst hs; rw [h3]; exact .inr rfl
                · exact .inl (.inr ⟨h1, by omega, h3⟩), by have := ri.2; simp; omega⟩
      refine ⟨fs', r', ?_, w2, w3, w4, w5, w6⟩
      rw [whileF, t1]
      simp only [bindS_ok, if_true]
      rw [b1]
      exact w1
    · have t1 : w1T (E1 x k fs r e4 e5 e6) δ = .ok false δ := by
        simp -implicitDefEqProofs [sNx_a, sBk_a, sCt_a, sRetN_a, aNil_a, tYesF_a, fnV, sSeq, sSet, sRet, sIf, sOwn, sDrop, sAsgG, sSetI, sLm, kApp, isLs, getL, putL, e1, e2, eVar, eC, opd, fzd, retd, kMod_i, kFdiv_i, kMinus_i, kNeg, kPow_i, kLt_i, kLe_i, kGt_i, kGe_i, aCons, oCons, eL, eCall, eLst, eLstH, eTup, eIf, eAnd, eOr, tVal, tTru, tAndF, tOrF, tNotF, truth, kIsN, kNotN, isN, gName', gTup', gsNil, gsCons, sRaise, eChain, kPlus_ii, kTimes_ii, kLen_l, kLen_o, kIx_t0, kIx_t1, kEq_ii, kIx_t2, -List.map_take, -List.map_drop, w1T, E1, hlt, ir, i0, kEq_ss, he]
      refine ⟨fs, r, ?_, hr, by omega, ht, ri, .inr (by rw [hy]; exact fun z => he (by injection z))⟩
      rw [whileF, t1]
      rfl
end Gk
set_option maxHeartbeats 4000000
namespace Gk
open PySem L2 Pi RT
/-- best_text for parts of l0 shorter than n -/
def BTs (F : FF) (l0 : List Str) (n : Nat) : Prop := ∀ (x : List Str) (δ0 : Sto) (tbl : List (List Key × D)), Sub l0 x → x ≠ [] → x.length < n → Con l0 tbl →
  ∃ tbl', Con l0 tbl' ∧ Good x ∧ F [.lst (x.map D.str), .hnd δ0.length] (δ0 ++ [.dT tbl]) = .ok (pd (B x)) (δ0 ++ [.dT tbl'])
def w2T : FT := (tVal (e2 kEq (eSl (eVar 0) (oSome (e2 kTimes (eVar 5) (eVar 4))) (oSome (e2 kTimes (e2 kPlus (eVar 5) (eC (.int 1))) (eVar 4)))) (eSl (eVar 0) oNone (oSome (eVar 4)))))
def w2B (F_best_text : FF) : FS := (sSeq (sSet 5 (e2 kPlus (eVar 5) (eC (.int 1)))) (sSeq (sSet 6 (eCall 2 F_best_text (aCons (eSl (eVar 0) oNone (oSome (eVar 4))) (aCons (eVar 1) aNil)))) (sLm kApp (eVar 2) (aCons (eTup (aCons (e2 kPlus (e2 kPlus (e2 kPlus (eC (.str "( ")) (e2 kIx (eVar 6) (eC (.int 1)))) (eC (.str " ) "))) (eL kStr (oCons (eVar 5) aNil))) (aCons (e2 kPlus (e2 kIx (eVar 6) (eC (.int 0))) (eC (.int 3))) (aCons (e2 kTimes (eVar 5) (eVar 4)) aNil)))) aNil))))
def E2 (x : List Str) (k : Nat) (fs : List (P2 × Nat)) (r : Nat) (z : Nat) (t : Nat) (e6 : Option D) : Pi.Env := [some (.lst (x.map D.str)), some (.hnd k), some (.own (fs.map fd)), some (.int (r : Int)), some (.int (z : Int)), some (.int (t : Int)), e6]
theorem kSl_nat (l : List D) (i j : Nat) (δ : Sto) : kSl (.lst l) (some (i : Int)) (some (j : Int)) δ = .ok (.own ((l.drop (min i l.length)).take (min j l.length - min i l.length))) δ := by
  unfold kSl
  simp only [asL, cutL, HT.sIx_nat]
theorem kSl_to (l : List D) (j : Nat) (δ : Sto) : kSl (.lst l) none (some (j : Int)) δ = .ok (.own (l.take j)) δ := by
  unfold kSl
  simp only [asL, cutL, HT.sIx_nat, HT.sIx_none, List.drop_zero, Nat.sub_zero]
  rw [← List.take_eq_take_min]
theorem kSl_from (l : List D) (i : Nat) (δ : Sto) : kSl (.lst l) (some (i : Int)) none δ = .ok (.own (l.drop i)) δ := by
  unfold kSl
  simp only [asL, cutL, HT.sIx_nat, HT.sIx_none]
  by_cases h : i ≤ l.length
  · rw [Nat.min_eq_left h, List.take_of_length_le (by rw [List.length_drop]; omega)]
  · rw [List.drop_eq_nil_of_le (by omega : l.length ≤ i), List.drop_eq_nil_of_le (by omega)]
    simp
/-- slices as lists -/
theorem cut_nat (x : List Str) (i j : Nat) : ((x.map D.str).drop (min i (x.map D.str).length)).take (min j (x.map D.str).length - min i (x.map D.str).length) = ((x.take j).drop i).map D.str := by
  rw [List.length_map, ← List.map_drop, ← List.map_take]
  congr 1
  rw [List.drop_take]
  by_cases h : i ≤ x.length
  · rw [Nat.min_eq_left h]
    rw [List.take_eq_take_iff, List.length_drop]
    omega
  · rw [List.drop_eq_nil_of_le (by omega : x.length ≤ min i x.length), List.drop_eq_nil_of_le (by omega : x.length ≤ i)]
    simp
def Rp2 (x : List Str) (z t : Nat) : Prop := t * z ≤ x.length ∧ x.take (t * z) = (List.replicate t (x.take z)).flatten
theorem rep_one {x : List Str} {z : Nat} (h : z ≤ x.length) : Rp2 x z 1 := ⟨by omega, by simp⟩
theorem rep_step {x : List Str} {z t : Nat} (hz : z ≤ x.length) (h : Rp2 x z t) : Rp2 x z (t + 1) ↔ (x.take ((t + 1) * z)).drop (t * z) = x.take z := by
  obtain ⟨h1, h2⟩ := h
  have e : (t + 1) * z = t * z + z := by rw [Nat.add_mul, Nat.one_mul]
  have e2 : x.take ((t + 1) * z) = x.take (t * z) ++ (x.drop (t * z)).take z := by rw [e, List.take_add]
  have e3 : (x.take ((t + 1) * z)).drop (t * z) = (x.drop (t * z)).take z := by
    rw [e2, List.drop_append_of_le_length (by rw [List.length_take]; omega), List.drop_eq_nil_of_le (by rw [List.length_take]; omega), List.nil_append]
  rw [e3]
  constructor
  · rintro ⟨k1, k2⟩
    rw [List.replicate_succ', List.flatten_append, ← h2, e2] at k2
    simpa using List.append_cancel_left k2
  · intro k
    refine ⟨?_, ?_⟩
    · have := congrArg List.length k
      simp at this
      rw [e]
      omega
    · rw [List.replicate_succ', List.flatten_append, ← h2, e2, k]
      simp
theorem rep_down {x : List Str} {z s t : Nat} (hz : z ≤ x.length) (h : Rp2 x z t) (hs : s ≤ t) : Rp2 x z s := by
  obtain ⟨h1, h2⟩ := h
  have hst : s * z ≤ t * z := Nat.mul_le_mul_right z hs
  refine ⟨by omega, ?_⟩
  have e : x.take (s * z) = (x.take (t * z)).take (s * z) := by rw [List.take_take, Nat.min_eq_left hst]
  obtain ⟨d, rfl⟩ := Nat.exists_eq_add_of_le hs
  rw [e, h2, ← List.replicate_append_replicate, List.flatten_append, List.take_append_of_le_length (by simp [Nat.min_eq_left hz])]
  rw [List.take_of_length_le (by simp [Nat.min_eq_left hz])]
/-- what was found for loops of length z: k in 2 .. t -/
def LI (x : List Str) (z t : Nat) (fs0 fs : List (P2 × Nat)) : Prop :=
  (∀ p s, (p, s) ∈ fs ↔ (p, s) ∈ fs0 ∨ ∃ k, 2 ≤ k ∧ k ≤ t ∧ s = k * z ∧ p = ((B (x.take z)).1 + 3, opB ++ (B (x.take z)).2 ++ clB ++ it k)) ∧ fs.length + 1 ≤ fs0.length + t
/-- no text is long -/
def TB (fs : List (P2 × Nat)) : Prop := ∀ q ∈ fs, q.1.2.length + 1 ≤ 20 * q.2 ∧ PyData.strOk q.1.2 = true
theorem op_ok : PyData.strOk (Str.ofString "( ") = true := by decide +kernel
theorem cl_ok : PyData.strOk (Str.ofString " ) ") = true := by decide +kernel
theorem op_len : (Str.ofString "( ").length = 2 := by decide +kernel
theorem cl_len : (Str.ofString " ) ").length = 3 := by decide +kernel
theorem loop_ok {l0 x : List Str} {F : FF} (f : Few l0) (hF : BTs F l0 x.length) (hs : Sub l0 x) (δ0 : Sto) (r z : Nat) (hz : 1 ≤ z) (hz2 : 2 * z ≤ x.length) (fs0 : List (P2 × Nat)) (hfs : fs0.length ≤ 1000) :
    ∀ (m t : Nat) (fs : List (P2 × Nat)) (fuel : Nat) (tbl : List (List Key × D)) (e6 : Option D), m + t = 10 → 1 ≤ t → Rp2 x z t → m < fuel → LI x z t fs0 fs → Con l0 tbl → TB fs →
    ∃ fs' t' tbl' e6', whileF w2T (w2B F) fuel (E2 x δ0.length fs r z t e6) (δ0 ++ [.dT tbl]) = .nx (E2 x δ0.length fs' r z t' e6') (δ0 ++ [.dT tbl']) ∧ 1 ≤ t' ∧ Rp2 x z t' ∧ ¬ Rp2 x z (t' + 1) ∧ LI x z t' fs0 fs' ∧ t' ≤ 9 ∧ Con l0 tbl' ∧ TB fs' := by
  have h9 : x.length ≤ 9 := Nat.le_trans hs.le f.len
  have hzx : z ≤ x.length := by omega
  intro m
  induction m with
  | zero =>
    intro t fs fuel tbl e6 hm ht hr hf li hc tb
    exfalso
    have : t * 1 ≤ t * z := Nat.mul_le_mul_left t hz
    have := hr.1
    omega
  | succ m ih =>
    intro t fs fuel tbl e6 hm ht hr hf li hc tb
    obtain ⟨n, rfl⟩ : ∃ n, fuel = n + 1 := ⟨fuel - 1, by omega⟩
    have htz : t * 1 ≤ t * z := Nat.mul_le_mul_left t hz
    have ht9 : t ≤ 9 := by have := hr.1; omega
    have sm : smallI (t : Int) = true := smallI_of (by omega) (by omega)
    have sm1 : smallI ((t : Int) + 1) = true := smallI_of (by omega) (by omega)
    have s1 := kSl_nat (x.map D.str) (t * z) ((t + 1) * z) (δ0 ++ [.dT tbl])
    rw [cut_nat] at s1
    have s1' : kSl (.lst (x.map D.str)) (some ((t : Int) * (z : Int))) (some (((t : Int) + 1) * (z : Int))) (δ0 ++ [.dT tbl]) = .ok (.own (((x.take ((t + 1) * z)).drop (t * z)).map D.str)) (δ0 ++ [.dT tbl]) := by
      rw [← s1]
      push_cast
      rfl
    have s2 : kSl (.lst (x.map D.str)) none (some (z : Int)) (δ0 ++ [.dT tbl]) = .ok (.own ((x.take z).map D.str)) (δ0 ++ [.dT tbl]) := by
      rw [kSl_to, List.map_take]
    have okx : ∀ s ∈ x, PyData.strOk s = true := fun s m => sts_ok s (f.st s (hs.mem s m))
    have q := kEq_strs (d := .own (((x.take ((t + 1) * z)).drop (t * z)).map D.str)) (e := .own ((x.take z).map D.str)) (δ := δ0 ++ [.dT tbl]) rfl (fun s m => okx s (List.mem_of_mem_take (List.mem_of_mem_drop m))) (fun s m => okx s (List.mem_of_mem_take m)) rfl rfl
    have t1 : w2T (E2 x δ0.length fs r z t e6) (δ0 ++ [.dT tbl]) = .ok (decide ((x.take ((t + 1) * z)).drop (t * z) = x.take z)) (δ0 ++ [.dT tbl]) := by
      simp -implicitDefEqProofs [sNx_a, sBk_a, sCt_a, sRetN_a, aNil_a, tYesF_a, fnV, sSeq, sSet, sRet, sIf, sOwn, sDrop, sAsgG, sSetI, sLm, kApp, isLs, getL, putL, e1, e2, eVar, eC, opd, fzd, retd, kMod_i, kFdiv_i, kMinus_i, kNeg, kPow_i, kLt_i, kLe_i, kGt_i, kGe_i, aCons, oCons, eL, eCall, eLst, eLstH, eTup, eIf, eAnd, eOr, tVal, tTru, tAndF, tOrF, tNotF, truth, kIsN, kNotN, isN, gName', gTup', gsNil, gsCons, sRaise, eChain, kPlus_ii, kTimes_ii, kLen_l, kLen_o, kIx_t0, kIx_t1, kEq_ii, kIx_t2, -List.map_take, -List.map_drop, w2T, E2, eSl, oSome, oNone, sm, sm1, s1', s2, q]
    by_cases he : (x.take ((t + 1) * z)).drop (t * z) = x.take z
    · rw [decide_eq_true he] at t1
      have hne : x.take z ≠ [] := fun z' => by
        rcases List.take_eq_nil_iff.mp z' with h | h
        · omega
        · rw [h] at hz2; simp at hz2; omega
      obtain ⟨tbl', hc', hg, hb⟩ := hF (x.take z) δ0 tbl (hs.take z) hne (by rw [List.length_take]; omega) hc
      have hgl : (B (x.take z)).2.length + 1 ≤ 20 * 9 := by
        have := hg.1
        rw [List.length_take] at this
        omega
      have il := it_len (t + 1) (by
        have := ((rep_step hzx hr).mpr he).1
        have : (t + 1) * 1 ≤ (t + 1) * z := Nat.mul_le_mul_left (t + 1) hz
        omega)
      have p1 := kPlus_ss (a := Str.ofString "( ") (b := (B (x.take z)).2) (by rw [op_len]; omega) (δ0 ++ [.dT tbl'])
      have p2 := kPlus_ss (a := Str.ofString "( " ++ (B (x.take z)).2) (b := Str.ofString " ) ") (by rw [str_len_app, op_len, cl_len]; omega) (δ0 ++ [.dT tbl'])
      have p3 := kPlus_ss (a := Str.ofString "( " ++ (B (x.take z)).2 ++ Str.ofString " ) ") (b := it (t + 1)) (by rw [str_len_app, str_len_app, op_len, cl_len, il]; omega) (δ0 ++ [.dT tbl'])
      have ks : kStr [.int ((t : Int) + 1)] (δ0 ++ [.dT tbl']) = .ok (.str (it (t + 1))) (δ0 ++ [.dT tbl']) := kStr_it (t + 1) (by
        have := ((rep_step hzx hr).mpr he).1
        have : (t + 1) * 1 ≤ (t + 1) * z := Nat.mul_le_mul_left (t + 1) hz
        omega) _
      have hbig : fs.length < BIG := by have := li.2; show _ < 1000000; omega
      rw [pd] at hb
      have b1 : w2B F (E2 x δ0.length fs r z t e6) (δ0 ++ [.dT tbl]) = .nx (E2 x δ0.length (fs ++ [(((B (x.take z)).1 + 3, opB ++ (B (x.take z)).2 ++ clB ++ it (t + 1)), (t + 1) * z)]) r z (t + 1) (some (pd (B (x.take z))))) (δ0 ++ [.dT tbl']) := by
        simp -implicitDefEqProofs [sNx_a, sBk_a, sCt_a, sRetN_a, aNil_a, tYesF_a, fnV, sSeq, sSet, sRet, sIf, sOwn, sDrop, sAsgG, sSetI, sLm, kApp, isLs, getL, putL, e1, e2, eVar, eC, opd, fzd, retd, kMod_i, kFdiv_i, kMinus_i, kNeg, kPow_i, kLt_i, kLe_i, kGt_i, kGe_i, aCons, oCons, eL, eCall, eLst, eLstH, eTup, eIf, eAnd, eOr, tVal, tTru, tAndF, tOrF, tNotF, truth, kIsN, kNotN, isN, gName', gTup', gsNil, gsCons, sRaise, eChain, kPlus_ii, kTimes_ii, kLen_l, kLen_o, kIx_t0, kIx_t1, kEq_ii, kIx_t2, -List.map_take, -List.map_drop, w2B, E2, eSl, oSome, oNone, s2, hb, sm1, p1, p2, p3, ks, hbig, fd, pd, opB, clB]
      obtain ⟨fs', t', tbl2, e6', w1, w2, w3, w4, w5, w6, w7, w8⟩ := ih (t + 1) (fs ++ [(((B (x.take z)).1 + 3, opB ++ (B (x.take z)).2 ++ clB ++ it (t + 1)), (t + 1) * z)]) n tbl' (some (pd (B (x.take z)))) (by omega) (by omega) ((rep_step hzx hr).mpr he) (by omega) ⟨fun p s => by
          rw [List.mem_append, li.1 p s, List.mem_singleton]
          constructor
          · rintro ((h | ⟨k, h1, h2, h3, h4⟩) | h)
            · exact .inl h
            · exact .inr ⟨k, h1, by omega, h3, h4⟩
            · cases h; exact .inr ⟨t + 1, by omega, by omega, rfl, rfl⟩
          · rintro (h | ⟨k, h1, h2, h3, h4⟩)
            · exact .inl (.inl h)
            · by_cases hs : k = t + 1
              · subst hs; rw [h3, h4]; exact .inr rfl
              · exact .inl (.inr ⟨k, h1, by omega, h3, h4⟩), by have := li.2; simp; omega⟩ hc' (by
            intro q hq
            rcases List.mem_append.mp hq with hq | hq
            · exact tb q hq
            · rw [List.mem_singleton.mp hq]
              have h1 := hg.1
              have hl : (x.take z).length = z := by rw [List.length_take]; omega
              rw [hl] at h1
              have h2 : 2 * z ≤ (t + 1) * z := Nat.mul_le_mul_right z (by omega)
              refine ⟨?_, ok_app (ok_app (ok_app op_ok hg.2) cl_ok) (it_ok (t + 1) ?_)⟩
              · show (Str.ofString "( " ++ (B (x.take z)).2 ++ Str.ofString " ) " ++ it (t + 1)).length + 1 ≤ 20 * ((t + 1) * z)
                rw [str_len_app, str_len_app, str_len_app, op_len, cl_len, il]
                omega
              · have := ((rep_step hzx hr).mpr he).1
                have : (t + 1) * 1 ≤ (t + 1) * z := Nat.mul_le_mul_left (t + 1) hz
                omega)
      refine ⟨fs', t', tbl2, e6', ?_, w2, w3, w4, w5, w6, w7, w8⟩
      rw [whileF, t1]
      simp only [bindS_ok, if_true]
      rw [b1]
      exact w1
    · rw [decide_eq_false he] at t1
      refine ⟨fs, t, tbl, e6, ?_, ht, hr, fun k => he ((rep_step hzx hr).mp k), li, ht9, hc, tb⟩
      rw [whileF, t1]
      rfl
end Gk
set_option maxHeartbeats 4000000
namespace Gk
open PySem L2 Pi RT
def FIs (F : FF) (l0 : List Str) (n : Nat) : Prop := ∀ (x : List Str) (δ0 : Sto) (tbl : List (List Key × D)), Sub l0 x → x ≠ [] → x.length < n → Con l0 tbl →
  ∃ tbl' fs, Con l0 tbl' ∧ TB fs ∧ fs ≠ [] ∧ (∀ p s, (p, s) ∈ fs ↔ 1 ≤ s ∧ s ≤ x.length ∧ Piece B x s p) ∧ F [.lst (x.map D.str), .hnd δ0.length] (δ0 ++ [.dT tbl]) = .ok (.own (fs.map fd)) (δ0 ++ [.dT tbl'])
def fIB (F : FF) : FS := sSeq (sSet 5 (eC (.int 1))) (sWhile 1000 w2T (w2B F))
def FIm (x : List Str) (fs1 : List (P2 × Nat)) (zs : Nat) (fs : List (P2 × Nat)) : Prop :=
  (∀ p s, (p, s) ∈ fs ↔ (p, s) ∈ fs1 ∨ ∃ z k, 1 ≤ z ∧ z ≤ zs ∧ 2 ≤ k ∧ Rp2 x z k ∧ s = k * z ∧ p = ((B (x.take z)).1 + 3, opB ++ (B (x.take z)).2 ++ clB ++ it k)) ∧ fs.length ≤ fs1.length + 10 * zs
theorem sizes_ok {l0 x : List Str} {F : FF} (f : Few l0) (hF : BTs F l0 x.length) (hs : Sub l0 x) (δ0 : Sto) (r : Nat) (fs1 : List (P2 × Nat)) (tb1 : TB fs1) (h1 : fs1.length ≤ 9) (tbl : List (List Key × D)) (hc : Con l0 tbl) (e4 e5 e6 : Option D) :
    ∃ ρ' fs tbl' g4 g5 g6, forL (gName' 4) (fIB F) ((List.range (x.length / 2)).map fun k => .int (1 + (k : Nat))) [some (.lst (x.map D.str)), some (.hnd δ0.length), some (.own (fs1.map fd)), some (.int (r : Int)), e4, e5, e6] (δ0 ++ [.dT tbl]) = .nx ρ' (δ0 ++ [.dT tbl']) ∧
      ρ' = [some (.lst (x.map D.str)), some (.hnd δ0.length), some (.own (fs.map fd)), some (.int (r : Int)), g4, g5, g6] ∧ TB fs ∧ FIm x fs1 (x.length / 2) fs ∧ Con l0 tbl' := by
  have h9 : x.length ≤ 9 := Nat.le_trans hs.le f.len
  obtain ⟨ρ', δ', w, fs, tbl', e4', e5', e6', rfl, rfl, k1, k2, k3⟩ := forL_inv (g := gName' 4) (body := fIB F)
    (fun p ρ δ => ∃ fs tbl e4 e5 e6, ρ = [some (.lst (x.map D.str)), some (.hnd δ0.length), some (.own (fs.map fd)), some (.int (r : Int)), e4, e5, e6] ∧ δ = δ0 ++ [.dT tbl] ∧ TB fs ∧ FIm x fs1 p.length fs ∧ Con l0 tbl)
    ((List.range (x.length / 2)).map fun k => .int (1 + (k : Nat))) [] [some (.lst (x.map D.str)), some (.hnd δ0.length), some (.own (fs1.map fd)), some (.int (r : Int)), e4, e5, e6] (δ0 ++ [.dT tbl])
    ⟨fs1, tbl, e4, e5, e6, rfl, rfl, tb1, ⟨fun p s => ⟨fun h => .inl h, fun h => h.elim id fun ⟨z, k, a, b, _⟩ => by simp at b; omega⟩, by simp⟩, hc⟩ (by
      rintro p d s ρ δ e ⟨fs, tbl, e4, e5, e6, rfl, rfl, tb, fm, hc⟩
      rw [List.nil_append] at e
      have hd : d = .int (1 + (p.length : Nat)) ∧ p.length < x.length / 2 := by
        have h := congrArg (fun l => l[p.length]?) e
        simp at h
        have hl := congrArg List.length e
        simp at hl
        refine ⟨?_, by omega⟩
        rw [List.getElem?_eq_getElem (by rw [List.length_range]; omega)] at h
        simp at h
        exact h.symm
      obtain ⟨rfl, hp⟩ := hd
      refine ⟨_, rfl, ?_⟩
      have hz2 : 2 * (p.length + 1) ≤ x.length := by omega
      have hfs : fs.length ≤ 1000 := by have := fm.2; omega
      obtain ⟨fs', t', tbl', e6', w1, w2, w3, w4, w5, w6, w7, w8⟩ := loop_ok f hF hs δ0 r (p.length + 1) (by omega) hz2 fs hfs 9 1 fs 1000 tbl e6 rfl (by omega) (rep_one (by omega)) (by omega) ⟨fun p s => ⟨fun h => .inl h, fun h => h.elim id fun ⟨k, a, b, _⟩ => by omega⟩, by omega⟩ hc tb
      refine ⟨E2 x δ0.length fs' r (p.length + 1) t' e6', δ0 ++ [.dT tbl'], ?_, fs', tbl', _, _, _, rfl, rfl, w8, ⟨fun q s => ?_, ?_⟩, w7⟩
      · have e1 : (1 + (p.length : Int)) = ((p.length + 1 : Nat) : Int) := by omega
        rw [e1]
        have ww := w1
        unfold E2 at ww ⊢
        simp -implicitDefEqProofs [sNx_a, sBk_a, sCt_a, sRetN_a, aNil_a, tYesF_a, fnV, sSeq, sSet, sRet, sIf, sOwn, sDrop, sAsgG, sSetI, sLm, kApp, isLs, getL, putL, e1, e2, eVar, eC, opd, fzd, retd, kMod_i, kFdiv_i, kMinus_i, kNeg, kPow_i, kLt_i, kLe_i, kGt_i, kGe_i, aCons, oCons, eL, eCall, eLst, eLstH, eTup, eIf, eAnd, eOr, tVal, tTru, tAndF, tOrF, tNotF, truth, kIsN, kNotN, isN, gName', gTup', gsNil, gsCons, sRaise, eChain, kPlus_ii, kTimes_ii, kLen_l, kLen_o, kIx_t0, kIx_t1, kEq_ii, kIx_t2, -List.map_take, -List.map_drop, fIB, sWhile]
        simpa using ww
      · rw [w5.1 q s, fm.1 q s, List.length_append]
        constructor
        · rintro ((h | ⟨z, k, a1, a2, a3⟩) | ⟨k, a1, a2, a3, a4⟩)
          · exact .inl h
          · exact .inr ⟨z, k, a1, by omega, a3⟩
          · exact .inr ⟨p.length + 1, k, by omega, by simp, a1, rep_down (by omega) w3 a2, a3, a4⟩
        · rintro (h | ⟨z, k, a1, a2, a3, a4, a5, a6⟩)
          · exact .inl (.inl h)
          · by_cases hz : z = p.length + 1
            · subst hz
              refine .inr ⟨k, a3, ?_, a5, a6⟩
              by_cases hk : k ≤ t'
              · exact hk
              · exact absurd (rep_down (by omega) a4 (by omega)) w4
            · exact .inl (.inr ⟨z, k, a1, by simp at a2; omega, a3, a4, a5, a6⟩)
      · have := w5.2
        have := fm.2
        rw [List.length_append]
        simp
        omega)
  exact ⟨_, fs, tbl', e4', e5', e6', w, rfl, k1, by simpa using k2, k3⟩
theorem blank_ok : PyData.strOk blank = true := by decide +kernel
theorem first_eval (x : List Str) (k r : Nat) (h9 : x.length ≤ 9) (fs1 fs : List (P2 × Nat)) (sW fB : FS) (δ δ' : Sto) (e4 e5 e6 : Option D) (i0 : ∀ δ, kIx (.lst (x.map D.str)) (.int 0) δ = .ok (.str (hd x)) δ)
    (ww : sW [some (.lst (x.map D.str)), some (.hnd k), some (.own [.tup [.str (hd x), .int 1, .int 1]]), some (.int 1), none, none, none] δ = .nx [some (.lst (x.map D.str)), some (.hnd k), some (.own (fs1.map fd)), some (.int (r : Int)), none, none, none] δ)
    (vv : forL (gName' 4) fB ((List.range (x.length / 2)).map fun k => .int (1 + (k : Nat))) [some (.lst (x.map D.str)), some (.hnd k), some (.own (fs1.map fd)), some (.int (r : Int)), none, none, none] δ = .nx [some (.lst (x.map D.str)), some (.hnd k), some (.own (fs.map fd)), some (.int (r : Int)), e4, e5, e6] δ') :
    fnV 5 (sSeq (sOwn 2 (eLst (aCons (eTup (aCons (e2 kIx (eVar 0) (eC (.int 0))) (aCons (eC (.int 1)) (aCons (eC (.int 1)) aNil)))) aNil))) (sSeq (sSet 3 (eC (.int 1))) (sSeq sW (sSeq (sForR2 (oCons (eC (.int 1)) (oCons (e2 kPlus (e2 kFdiv (eL kLen (oCons (eVar 0) aNil)) (eC (.int 2))) (eC (.int 1))) aNil)) (gName' 4) fB) (sRet (eVar 2))))))
      [.lst (x.map D.str), .hnd k] δ = .ok (.own (fs.map fd)) δ' := by
  have hdiv : ((x.length : Int) / 2 + 1 - 1).toNat = x.length / 2 := by omega
  have hdiv2 : ((x.length : Int) / 2).toNat = x.length / 2 := by omega
  have hb2 : -4611686018427387904 ≤ (x.length : Int) / 2 + 1 := by omega
  have hb3 : (x.length : Int) / 2 + 1 < 4611686018427387904 := by omega
  simp -implicitDefEqProofs [sNx_a, sBk_a, sCt_a, sRetN_a, aNil_a, tYesF_a, fnV, sSeq, sSet, sRet, sIf, sOwn, sDrop, sAsgG, sSetI, sLm, kApp, isLs, getL, putL, e1, e2, eVar, eC, opd, fzd, retd, kMod_i, kFdiv_i, kMinus_i, kNeg, kPow_i, kLt_i, kLe_i, kGt_i, kGe_i, aCons, oCons, eL, eCall, eLst, eLstH, eTup, eIf, eAnd, eOr, tVal, tTru, tAndF, tOrF, tNotF, truth, kIsN, kNotN, isN, gName', gTup', gsNil, gsCons, sRaise, eChain, kPlus_ii, kTimes_ii, kLen_l, kLen_o, kIx_t0, kIx_t1, kEq_ii, kIx_t2, -List.map_take, -List.map_drop, i0, sForR2, hdiv, hdiv2, hb2, hb3, ww, vv]
theorem firsts_ok {l0 : List Str} {F : FF} (f : Few l0) (n : Nat) (hF : BTs F l0 n) : FIs (fnV 5 (b_first_items F)) l0 (n + 1) := by
  intro x δ0 tbl hs hx hn hc
  have hpos : 0 < x.length := List.length_pos_iff.mpr hx
  have h9 : x.length ≤ 9 := Nat.le_trans hs.le f.len
  have h0 : x[0]? = some (hd x) := by
    cases x with
    | nil => exact absurd rfl hx
    | cons a b => rfl
  have i0 : ∀ δ, kIx (.lst (x.map D.str)) (.int 0) δ = .ok (.str (hd x)) δ := kIx_l (i := 0) (by rw [List.getElem?_map, h0]; rfl)
  have hm0 : hd x ∈ STS := f.st _ (hs.mem _ (List.mem_of_getElem? h0))
  have hF' : BTs F l0 x.length := fun y δ t a b c d => hF y δ t a b (by omega) d
  obtain ⟨fs1, r, w1, w2, w3, w4, w5, w6⟩ := run_ok f hs hx δ0.length (δ0 ++ [.dT tbl]) none none none (x.length - 1) 1 [((1, hd x), 1)] 1000 (by omega) (by omega) (by
      rw [List.take_one, List.head?_eq_getElem?, h0]; rfl) (by omega) ⟨fun p s => by
        rw [List.mem_singleton]
        constructor
        · intro h; cases h; exact .inl ⟨rfl, rfl⟩
        · rintro (⟨rfl, rfl⟩ | ⟨h1, h2, _⟩)
          · rfl
          · omega, by simp⟩
  have tb1 : TB fs1 := by
    rintro ⟨p, s⟩ hq
    rcases (w5.1 p s).mp hq with ⟨rfl, rfl⟩ | ⟨h1, h2, rfl⟩
    · exact ⟨by have := sts_len _ hm0; show (hd x).length + 1 ≤ 20 * 1; omega, sts_ok _ hm0⟩
    · refine ⟨?_, ok_app (ok_app (sts_ok _ hm0) blank_ok) (it_ok s (by omega))⟩
      show (hd x ++ blank ++ it s).length + 1 ≤ 20 * s
      have a1 := sts_len _ hm0
      have a2 := it_len s (by omega)
      have a3 : blank.length = 1 := blank_len
      rw [str_len_app, str_len_app, a2, a3]
      omega
  obtain ⟨ρ', fs, tbl', e4, e5, e6, v1, rfl, v3, v4, v5⟩ := sizes_ok f hF' hs δ0 r fs1 tb1 (Nat.le_trans w5.2 (by omega)) tbl hc none none none
  refine ⟨tbl', fs, v5, v3, ?_, fun p s => ?_, ?_⟩
  · intro e
    have := (v4.1 (1, hd x) 1).mpr (.inl ((w5.1 _ _).mpr (.inl ⟨rfl, rfl⟩)))
    rw [e] at this
    cases this
  · rw [v4.1 p s, w5.1 p s]
    constructor
    · rintro ((⟨rfl, rfl⟩ | ⟨h1, h2, rfl⟩) | ⟨z, k, h1, h2, h3, h4, rfl, rfl⟩)
      · exact ⟨by omega, by omega, .inl ⟨rfl, rfl⟩⟩
      · refine ⟨by omega, by omega, .inr (.inl ⟨h1, ?_, rfl⟩)⟩
        have : x.take s = (x.take r).take s := by rw [List.take_take, Nat.min_eq_left h2]
        rw [this, w4, List.take_replicate, Nat.min_eq_left h2]
      · have : 1 * 1 ≤ k * z := Nat.mul_le_mul (by omega) h1
        exact ⟨by omega, h4.1, .inr (.inr ⟨z, k, h1, h3, rfl, h4.2, rfl⟩)⟩
    · rintro ⟨h1, h2, (⟨rfl, rfl⟩ | ⟨a1, a2, rfl⟩ | ⟨z, k, a1, a2, rfl, a4, rfl⟩)⟩
      · exact .inl (.inl ⟨rfl, rfl⟩)
      · refine .inl (.inr ⟨a1, ?_, rfl⟩)
        by_cases hsr : s ≤ r
        · exact hsr
        · exfalso
          rcases w6 with w6 | w6
          · omega
          · refine w6 ?_
            have e1 : (x.take s)[r]? = x[r]? := List.getElem?_take_of_lt (by omega)
            rw [← e1, a2, List.getElem?_replicate, if_pos (by omega)]
      · have : 2 * z ≤ k * z := Nat.mul_le_mul_right z a2
        exact .inr ⟨z, k, a1, by omega, a2, ⟨h2, a4⟩, rfl, rfl⟩
  · exact first_eval x δ0.length r h9 fs1 fs (sWhile 1000 w1T w1B) (fIB F) _ _ e4 e5 e6 i0 w1 v1
end Gk
set_option maxHeartbeats 4000000
namespace Gk
open PySem L2 Pi RT
theorem keysD_strs : ∀ x : List Str, keysD (x.map D.str) = some (x.map Sum.inr)
  | [] => rfl
  | s :: x => by
    rw [List.map_cons, List.map_cons]
    unfold keysD
    rw [keysD_strs x]
    rfl
theorem at_last (δ0 : Sto) (o : Ob) : (δ0 ++ [o])[δ0.length]? = some o := by simp
theorem dg_ok (δ0 : Sto) (tbl : List (List Key × D)) (x : List Str) : dgD (.hnd δ0.length) (.tup (x.map D.str)) (δ0 ++ [.dT tbl]) = some (valD tbl (x.map Sum.inr)) := by
  unfold dgD
  simp only [at_last, keysD_strs]
theorem dp_ok (δ0 : Sto) (tbl : List (List Key × D)) (x : List Str) (d : D) (h : tbl.length < BIG) : dpD (.hnd δ0.length) (.tup (x.map D.str)) d (δ0 ++ [.dT tbl]) = some (δ0 ++ [.dT (putKD tbl (x.map Sum.inr) d)]) := by
  unfold dpD
  simp only [at_last, keysD_strs, if_pos h]
  congr 1
  rw [List.set_append_right _ _ (Nat.le_refl _)]
  simp
noncomputable def cnd (x : List Str) (q : P2 × Nat) : P2 := if q.2 = x.length then q.1 else (q.1.1 + (B (x.drop q.2)).1, q.1.2 ++ blank ++ (B (x.drop q.2)).2)
def bestD : List P2 → D
  | [] => .non
  | p :: ps => pd (minP p ps)
def bBody (Fb : FF) : FS := (sSeq (sIf (tVal (e2 kEq (eVar 6) (eL kLen (oCons (eVar 0) aNil)))) (sSet 7 (eTup (aCons (eVar 5) (aCons (eVar 4) aNil)))) (sSeq (sSet 8 (eCall 2 Fb (aCons (eSl (eVar 0) (oSome (eVar 6)) oNone) (aCons (eVar 1) aNil)))) (sSet 7 (eTup (aCons (e2 kPlus (eVar 5) (e2 kIx (eVar 8) (eC (.int 0)))) (aCons (e2 kPlus (e2 kPlus (eVar 4) (eC (.str " "))) (e2 kIx (eVar 8) (eC (.int 1)))) aNil)))))) (sIf (tOrF (tVal (e2 kIsN (eVar 3) (eC .non))) (tVal (e2 kLtU (eVar 7) (eVar 3)))) (sSet 3 (eVar 7)) sNx))
def bTgt : FG := (gTup' 3 (gsCons (gName' 4) (gsCons (gName' 5) (gsCons (gName' 6) gsNil))))
def E3 (x : List Str) (k : Nat) (best : D) (e4 e5 e6 e7 e8 : Option D) : Pi.Env := [some (.lst (x.map D.str)), some (.hnd k), some (.tup (x.map D.str)), some best, e4, e5, e6, e7, e8]
theorem kLtU_p (p q : P2) (δ : Sto) : kLtU (.tup [.int p.1, .str p.2]) (.tup [.int q.1, .str q.2]) δ = .ok (.bl (ltP p q)) δ := rfl
theorem minP_snoc (p : P2) (ps : List P2) (q : P2) : minP p (ps ++ [q]) = if ltP q (minP p ps) = true then q else minP p ps := by
  unfold minP PySem.W.minOf
  rw [List.foldl_append]
  rfl
/-- the second half of a turn -/
def bHalf : FS := (sIf (tOrF (tVal (e2 kIsN (eVar 3) (eC .non))) (tVal (e2 kLtU (eVar 7) (eVar 3)))) (sSet 3 (eVar 7)) sNx)
theorem half_ok (x : List Str) (k : Nat) (cs : List P2) (q : P2) (e4 e5 e6 e8 : Option D) (δ : Sto) :
    bHalf (E3 x k (bestD cs) e4 e5 e6 (some (pd q)) e8) δ = .nx (E3 x k (bestD (cs ++ [q])) e4 e5 e6 (some (pd q)) e8) δ := by
  cases cs with
  | nil => simp -implicitDefEqProofs [sNx_a, sBk_a, sCt_a, sRetN_a, aNil_a, tYesF_a, fnV, sSeq, sSet, sRet, sIf, sOwn, sDrop, sAsgG, sSetI, sLm, kApp, isLs, getL, putL, e1, e2, eVar, eC, opd, fzd, retd, kMod_i, kFdiv_i, kMinus_i, kNeg, kPow_i, kLt_i, kLe_i, kGt_i, kGe_i, aCons, oCons, eL, eCall, eLst, eLstH, eTup, eIf, eAnd, eOr, tVal, tTru, tAndF, tOrF, tNotF, truth, kIsN, kNotN, isN, gName', gTup', gsNil, gsCons, sRaise, eChain, kPlus_ii, kTimes_ii, kLen_l, kLen_o, kIx_t0, kIx_t1, kEq_ii, kIx_t2, -List.map_take, -List.map_drop, bHalf, E3, bestD, pd, kIsN, minP, PySem.W.minOf]
  | cons p ps =>
    have h := kLtU_p q (minP p ps) δ
    rw [List.cons_append]
    show _ = OutS.nx (E3 x k (pd (minP p (ps ++ [q]))) e4 e5 e6 (some (pd q)) e8) δ
    rw [minP_snoc]
    cases e : ltP q (minP p ps) with
    | true =>
      rw [e] at h
      simp -implicitDefEqProofs [sNx_a, sBk_a, sCt_a, sRetN_a, aNil_a, tYesF_a, fnV, sSeq, sSet, sRet, sIf, sOwn, sDrop, sAsgG, sSetI, sLm, kApp, isLs, getL, putL, e1, e2, eVar, eC, opd, fzd, retd, kMod_i, kFdiv_i, kMinus_i, kNeg, kPow_i, kLt_i, kLe_i, kGt_i, kGe_i, aCons, oCons, eL, eCall, eLst, eLstH, eTup, eIf, eAnd, eOr, tVal, tTru, tAndF, tOrF, tNotF, truth, kIsN, kNotN, isN, gName', gTup', gsNil, gsCons, sRaise, eChain, kPlus_ii, kTimes_ii, kLen_l, kLen_o, kIx_t0, kIx_t1, kEq_ii, kIx_t2, -List.map_take, -List.map_drop, bHalf, E3, bestD, pd, h]
    | false =>
      rw [e] at h
      simp -implicitDefEqProofs [sNx_a, sBk_a, sCt_a, sRetN_a, aNil_a, tYesF_a, fnV, sSeq, sSet, sRet, sIf, sOwn, sDrop, sAsgG, sSetI, sLm, kApp, isLs, getL, putL, e1, e2, eVar, eC, opd, fzd, retd, kMod_i, kFdiv_i, kMinus_i, kNeg, kPow_i, kLt_i, kLe_i, kGt_i, kGe_i, aCons, oCons, eL, eCall, eLst, eLstH, eTup, eIf, eAnd, eOr, tVal, tTru, tAndF, tOrF, tNotF, truth, kIsN, kNotN, isN, gName', gTup', gsNil, gsCons, sRaise, eChain, kPlus_ii, kTimes_ii, kLen_l, kLen_o, kIx_t0, kIx_t1, kEq_ii, kIx_t2, -List.map_take, -List.map_drop, bHalf, E3, bestD, pd, h]
theorem turn_ok {l0 x : List Str} {F : FF} (f : Few l0) (hF : BTs F l0 x.length) (hs : Sub l0 x) (δ0 : Sto) (tbl : List (List Key × D)) (hc : Con l0 tbl) (cs : List P2) (p : P2) (s : Nat) (h1 : 1 ≤ s) (h2 : s ≤ x.length)
    (hl : p.2.length + 1 ≤ 20 * s) (hk : PyData.strOk p.2 = true) (e7 e8 : Option D) :
    ∃ tbl' e8', bBody F (E3 x δ0.length (bestD cs) (some (.str p.2)) (some (.int p.1)) (some (.int (s : Int))) e7 e8) (δ0 ++ [.dT tbl]) =
      .nx (E3 x δ0.length (bestD (cs ++ [cnd x (p, s)])) (some (.str p.2)) (some (.int p.1)) (some (.int (s : Int))) (some (pd (cnd x (p, s)))) e8') (δ0 ++ [.dT tbl']) ∧ Con l0 tbl' ∧ (cnd x (p, s)).2.length + 1 ≤ 20 * x.length ∧ PyData.strOk (cnd x (p, s)).2 = true := by
  have h9 : x.length ≤ 9 := Nat.le_trans hs.le f.len
  by_cases e : s = x.length
  · have ec : cnd x (p, s) = p := if_pos e
    rw [ec]
    have hh := half_ok x δ0.length cs p (some (.str p.2)) (some (.int p.1)) (some (.int (s : Int))) e8 (δ0 ++ [.dT tbl])
    refine ⟨tbl, e8, ?_, hc, by omega, hk⟩
    show (sSeq (sIf _ _ _) bHalf) _ _ = _
    unfold E3 at hh ⊢
    rw [pd] at hh ⊢
    simp -implicitDefEqProofs [sNx_a, sBk_a, sCt_a, sRetN_a, aNil_a, tYesF_a, fnV, sSeq, sSet, sRet, sIf, sOwn, sDrop, sAsgG, sSetI, sLm, kApp, isLs, getL, putL, e1, e2, eVar, eC, opd, fzd, retd, kMod_i, kFdiv_i, kMinus_i, kNeg, kPow_i, kLt_i, kLe_i, kGt_i, kGe_i, aCons, oCons, eL, eCall, eLst, eLstH, eTup, eIf, eAnd, eOr, tVal, tTru, tAndF, tOrF, tNotF, truth, kIsN, kNotN, isN, gName', gTup', gsNil, gsCons, sRaise, eChain, kPlus_ii, kTimes_ii, kLen_l, kLen_o, kIx_t0, kIx_t1, kEq_ii, kIx_t2, -List.map_take, -List.map_drop, e]
    rw [e] at hh
    exact hh
  · have ec : cnd x (p, s) = (p.1 + (B (x.drop s)).1, p.2 ++ blank ++ (B (x.drop s)).2) := if_neg e
    rw [ec]
    have hd : x.drop s ≠ [] := by
      intro z
      have := congrArg List.length z
      rw [List.length_drop] at this
      simp at this
      omega
    obtain ⟨tbl', hc', hg, hb⟩ := hF (x.drop s) δ0 tbl (hs.drop s) hd (by rw [List.length_drop]; omega) hc
    have hgl := hg.1
    rw [List.length_drop] at hgl
    have hbl : blank.length = 1 := blank_len
    have hh := half_ok x δ0.length cs (p.1 + (B (x.drop s)).1, p.2 ++ blank ++ (B (x.drop s)).2) (some (.str p.2)) (some (.int p.1)) (some (.int (s : Int))) (some (pd (B (x.drop s)))) (δ0 ++ [.dT tbl'])
    refine ⟨tbl', some (pd (B (x.drop s))), ?_, hc', ?_, ok_app (ok_app hk blank_ok) hg.2⟩
    · show (sSeq (sIf _ _ _) bHalf) _ _ = _
      have s1 : kSl (.lst (x.map D.str)) (some (s : Int)) none (δ0 ++ [.dT tbl]) = .ok (.own ((x.drop s).map D.str)) (δ0 ++ [.dT tbl]) := by rw [kSl_from, List.map_drop]
      have p1 := kPlus_ss (a := p.2) (b := Str.ofString " ") (by rw [blank_len]; omega) (δ0 ++ [.dT tbl'])
      have p2 := kPlus_ss (a := p.2 ++ Str.ofString " ") (b := (B (x.drop s)).2) (by rw [str_len_app, blank_len]; omega) (δ0 ++ [.dT tbl'])
      unfold E3 at hh ⊢
      simp only [pd, blank] at hb hh ⊢
      have ei : ¬ (s : Int) = x.length := by omega
      simp -implicitDefEqProofs [sNx_a, sBk_a, sCt_a, sRetN_a, aNil_a, tYesF_a, fnV, sSeq, sSet, sRet, sIf, sOwn, sDrop, sAsgG, sSetI, sLm, kApp, isLs, getL, putL, e1, e2, eVar, eC, opd, fzd, retd, kMod_i, kFdiv_i, kMinus_i, kNeg, kPow_i, kLt_i, kLe_i, kGt_i, kGe_i, aCons, oCons, eL, eCall, eLst, eLstH, eTup, eIf, eAnd, eOr, tVal, tTru, tAndF, tOrF, tNotF, truth, kIsN, kNotN, isN, gName', gTup', gsNil, gsCons, sRaise, eChain, kPlus_ii, kTimes_ii, kLen_l, kLen_o, kIx_t0, kIx_t1, kEq_ii, kIx_t2, -List.map_take, -List.map_drop, ei, e, eSl, oSome, oNone, s1, hb, p1, p2]
      exact hh
    · show (p.2 ++ blank ++ (B (x.drop s)).2).length + 1 ≤ 20 * x.length
      rw [str_len_app, str_len_app, hbl]
      omega
end Gk
set_option maxHeartbeats 4000000
namespace Gk
open PySem L2 Pi RT
theorem best_eval (x : List Str) (δ0 : Sto) (tbl : List (List Key × D)) (Ff : FF) (body : FS) (fs : List (P2 × Nat)) (tbl1 tbl2 : List (List Key × D)) (m : P2) (e4 e5 e6 e7 e8 : Option D) (hn : valD tbl (x.map Sum.inr) = none) (hb : tbl2.length < BIG)
    (hF : Ff [.lst (x.map D.str), .hnd δ0.length] (δ0 ++ [.dT tbl]) = .ok (.own (fs.map fd)) (δ0 ++ [.dT tbl1]))
    (hl : forL bTgt body (fs.map fd) (E3 x δ0.length .non none none none none none) (δ0 ++ [.dT tbl1]) = .nx (E3 x δ0.length (pd m) e4 e5 e6 e7 e8) (δ0 ++ [.dT tbl2])) :
    fnV 7 (sSeq (sSet 2 (eL kTupOf (oCons (eVar 0) aNil))) (sSeq (sIf (tVal (eDIn (eVar 2) (eVar 1) false)) (sRet (eDGet (eVar 1) (eVar 2))) sNx) (sSeq (sSet 3 (eC .non)) (sSeq (sFor (eCall 2 Ff (aCons (eVar 0) (aCons (eVar 1) aNil))) bTgt body) (sSeq (sDPutF (eVar 1) (eVar 2) (eVar 3)) (sRet (eVar 3)))))))
      [.lst (x.map D.str), .hnd δ0.length] (δ0 ++ [.dT tbl]) = .ok (pd m) (δ0 ++ [.dT (putKD tbl2 (x.map Sum.inr) (pd m))]) := by
  have d1 := dg_ok δ0 tbl x
  rw [hn] at d1
  have d2 := dp_ok δ0 tbl2 x (pd m) hb
  unfold E3 at hl
  simp only [pd] at hl d2 ⊢
  simp -implicitDefEqProofs [sNx_a, sBk_a, sCt_a, sRetN_a, aNil_a, tYesF_a, fnV, sSeq, sSet, sRet, sIf, sOwn, sDrop, sAsgG, sSetI, sLm, kApp, isLs, getL, putL, e1, e2, eVar, eC, opd, fzd, retd, kMod_i, kFdiv_i, kMinus_i, kNeg, kPow_i, kLt_i, kLe_i, kGt_i, kGe_i, aCons, oCons, eL, eCall, eLst, eLstH, eTup, eIf, eAnd, eOr, tVal, tTru, tAndF, tOrF, tNotF, truth, kIsN, kNotN, isN, gName', gTup', gsNil, gsCons, sRaise, eChain, kPlus_ii, kTimes_ii, kLen_l, kLen_o, kIx_t0, kIx_t1, kEq_ii, kIx_t2, -List.map_take, -List.map_drop, kTupOf, asL, eDIn, d1, sFor, hF, itemsL, hl, sDPutF, d2]
theorem best_eval_old (x : List Str) (δ0 : Sto) (tbl : List (List Key × D)) (Ff : FF) (body : FS) (m : P2) (hn : valD tbl (x.map Sum.inr) = some (pd m)) :
    fnV 7 (sSeq (sSet 2 (eL kTupOf (oCons (eVar 0) aNil))) (sSeq (sIf (tVal (eDIn (eVar 2) (eVar 1) false)) (sRet (eDGet (eVar 1) (eVar 2))) sNx) (sSeq (sSet 3 (eC .non)) (sSeq (sFor (eCall 2 Ff (aCons (eVar 0) (aCons (eVar 1) aNil))) bTgt body) (sSeq (sDPutF (eVar 1) (eVar 2) (eVar 3)) (sRet (eVar 3)))))))
      [.lst (x.map D.str), .hnd δ0.length] (δ0 ++ [.dT tbl]) = .ok (pd m) (δ0 ++ [.dT tbl]) := by
  have d1 := dg_ok δ0 tbl x
  rw [hn] at d1
  simp only [pd] at d1 ⊢
  simp -implicitDefEqProofs [sNx_a, sBk_a, sCt_a, sRetN_a, aNil_a, tYesF_a, fnV, sSeq, sSet, sRet, sIf, sOwn, sDrop, sAsgG, sSetI, sLm, kApp, isLs, getL, putL, e1, e2, eVar, eC, opd, fzd, retd, kMod_i, kFdiv_i, kMinus_i, kNeg, kPow_i, kLt_i, kLe_i, kGt_i, kGe_i, aCons, oCons, eL, eCall, eLst, eLstH, eTup, eIf, eAnd, eOr, tVal, tTru, tAndF, tOrF, tNotF, truth, kIsN, kNotN, isN, gName', gTup', gsNil, gsCons, sRaise, eChain, kPlus_ii, kTimes_ii, kLen_l, kLen_o, kIx_t0, kIx_t1, kEq_ii, kIx_t2, -List.map_take, -List.map_drop, kTupOf, asL, eDIn, eDGet, d1]
theorem best_ok {l0 : List Str} {Ff Fb : FF} (f : Few l0) (n : Nat) (hf : FIs Ff l0 (n + 1)) (hb : BTs Fb l0 n) : BTs (fnV 7 (b_best_text Ff Fb)) l0 (n + 1) := by
  intro x δ0 tbl hs hx hn hc
  cases hv : valD tbl (x.map Sum.inr) with
  | some d =>
    obtain ⟨rfl, hg⟩ := hc.ok x d hv
    exact ⟨tbl, hc, hg, best_eval_old x δ0 tbl Ff (bBody Fb) (B x) hv⟩
  | none =>
    obtain ⟨tbl1, fs, hc1, tb, hne, hm, hF⟩ := hf x δ0 tbl hs hx hn hc
    have hb' : BTs Fb l0 x.length := fun y δ t a b c d => hb y δ t a b (by omega) d
    obtain ⟨ρ', δ', hl, qs, tbl2, e4, e5, e6, e7, e8, rfl, rfl, k1, k2, k3⟩ := forL_inv (g := bTgt) (body := bBody Fb)
      (fun p ρ δ => ∃ qs tbl e4 e5 e6 e7 e8, ρ = E3 x δ0.length (bestD (qs.map (cnd x))) e4 e5 e6 e7 e8 ∧ δ = δ0 ++ [.dT tbl] ∧ p = qs.map fd ∧ Con l0 tbl ∧ ∀ q ∈ qs, (cnd x q).2.length + 1 ≤ 20 * x.length ∧ PyData.strOk (cnd x q).2 = true)
      (fs.map fd) [] (E3 x δ0.length .non none none none none none) (δ0 ++ [.dT tbl1]) ⟨[], tbl1, none, none, none, none, none, rfl, rfl, rfl, hc1, by simp⟩ (by
        rintro p d s ρ δ e ⟨qs, tb2, e4, e5, e6, e7, e8, rfl, rfl, rfl, hc2, hq⟩
        rw [List.nil_append] at e
        obtain ⟨q, hq1, rfl⟩ : ∃ q, q ∈ fs ∧ d = fd q := by
          have : d ∈ fs.map fd := by rw [e]; simp
          obtain ⟨q, a, b⟩ := List.mem_map.mp this
          exact ⟨q, a, b.symm⟩
        obtain ⟨p, s⟩ := q
        obtain ⟨a1, a2, _⟩ := (hm p s).mp hq1
        obtain ⟨b1, b2⟩ := tb _ hq1
        obtain ⟨tb3, e8', w1, w2, w3, w4⟩ := turn_ok f hb' hs δ0 tb2 hc2 (qs.map (cnd x)) p s a1 a2 b1 b2 e7 e8
        refine ⟨E3 x δ0.length (bestD (qs.map (cnd x))) (some (.str p.2)) (some (.int p.1)) (some (.int (s : Int))) e7 e8, rfl, _, _, w1, qs ++ [(p, s)], tb3, some (.str p.2), some (.int p.1), some (.int (s : Int)), some (pd (cnd x (p, s))), e8', ?_, rfl, by rw [List.map_append]; rfl, w2, fun q hq' => ?_⟩
        · rw [List.map_append]
          rfl
        · rcases List.mem_append.mp hq' with h | h
          · exact hq q h
          · rw [List.mem_singleton.mp h]; exact ⟨w3, w4⟩)
    rw [List.nil_append] at k1
    have inj : ∀ a b : P2 × Nat, fd a = fd b → a = b := by
      rintro ⟨⟨a1, a2⟩, a3⟩ ⟨⟨b1, b2⟩, b3⟩ h
      simp only [fd] at h
      injection h with h
      injection h with h1 h
      injection h with h2 h
      injection h with h3 h
      injection h1 with h1
      injection h2 with h2
      injection h3 with h3
      have : a3 = b3 := by omega
      rw [h1, h2, this]
    have eq : qs = fs := by
      have := (List.map_inj_right inj).mp k1
      exact this.symm
    subst eq
    obtain ⟨q0, qt, rfl⟩ := List.exists_cons_of_ne_nil hne
    have least : Least (Cand B x) (minP (cnd x q0) (qt.map (cnd x))) := by
      obtain ⟨l1, l2⟩ := minP_least (cnd x q0) (qt.map (cnd x))
      have conv : ∀ y, Cand B x y ↔ y ∈ (q0 :: qt).map (cnd x) := by
        intro y
        constructor
        · rintro ⟨s, p, a1, a2, a3, a4⟩
          refine List.mem_map.mpr ⟨(p, s), (hm p s).mpr ⟨a1, a2, a3⟩, ?_⟩
          rw [a4]
          rfl
        · intro h
          obtain ⟨⟨p, s⟩, a, b⟩ := List.mem_map.mp h
          obtain ⟨a1, a2, a3⟩ := (hm p s).mp a
          exact ⟨s, p, a1, a2, a3, b.symm⟩
      refine ⟨(conv _).mpr (by rw [List.map_cons]; exact l1), fun y hy => l2 y ?_⟩
      have := (conv y).mp hy
      rw [List.map_cons] at this
      exact this
    have hB : B x = minP (cnd x q0) (qt.map (cnd x)) := B_unique hx least
    have hg : Good x := by
      have : minP (cnd x q0) (qt.map (cnd x)) ∈ (q0 :: qt).map (cnd x) := by rw [List.map_cons]; exact minP_mem _ _
      obtain ⟨q, a, b⟩ := List.mem_map.mp this
      have := k3 q a
      rw [b, ← hB] at this
      exact this
    rw [List.map_cons] at hl
    have hl' : forL bTgt (bBody Fb) ((q0 :: qt).map fd) (E3 x δ0.length .non none none none none none) (δ0 ++ [.dT tbl1]) = .nx (E3 x δ0.length (pd (B x)) e4 e5 e6 e7 e8) (δ0 ++ [.dT tbl2]) := by
      rw [List.map_cons, hl, hB]
      rfl
    refine ⟨_, k2.put hs hg, hg, ?_⟩
    exact best_eval x δ0 tbl Ff (bBody Fb) (q0 :: qt) tbl1 tbl2 (B x) e4 e5 e6 e7 e8 hv (k2.small f) hF hl'
end Gk
set_option maxHeartbeats 4000000
namespace Gk
open PySem L2 Pi RT
theorem rec_ok {l0 : List Str} (f : Few l0) : ∀ (k n : Nat), 2 * k ≤ n → BTs (F_best_text n) l0 k
  | 0, n, _ => fun x δ0 tbl hs hx hn hc => absurd hn (Nat.not_lt_zero _)
  | k + 1, n, h => by
    obtain ⟨m, rfl⟩ : ∃ m, n = m + 1 + 1 := ⟨n - 2, by omega⟩
    have h1 := rec_ok f k (m + 1) (by omega)
    have h2 := rec_ok f k m (by omega)
    have h3 := firsts_ok f k h2
    have h4 := best_ok f k h3 h1
    have e1 : F_first_items (m + 1) = fnV 5 (b_first_items (F_best_text m)) := by rw [F_first_items]
    have e2 : F_best_text (m + 1 + 1) = fnV 7 (b_best_text (F_first_items (m + 1)) (F_best_text (m + 1))) := by rw [F_best_text]
    rw [e2, e1]
    exact h4
theorem kTimes_l (l : List D) (k : Nat) (δ : Sto) (h : l.length * k ≤ 1000000) (hk : k ≤ 1000) : kTimes (.own l) (.int (k : Int)) δ = .ok (.own (List.replicate k l).flatten) δ := by
  unfold kTimes
  simp only [asL]
  rw [if_pos ⟨by omega, by omega, by rw [Int.toNat_natCast]; exact h⟩, Int.toNat_natCast]
theorem flat_one {α : Type} (a : α) (k : Nat) : (List.replicate k [a]).flatten = List.replicate k a := by
  induction k with
  | zero => rfl
  | succ n ih => rw [List.replicate_succ, List.flatten_cons, ih, List.replicate_succ]; rfl
theorem flat_map {α β : Type} (f : α → β) (l : List α) (k : Nat) : (List.replicate k (l.map f)).flatten = ((List.replicate k l).flatten).map f := by
  induction k with
  | zero => rfl
  | succ n ih => rw [List.replicate_succ, List.flatten_cons, ih, List.replicate_succ, List.flatten_cons, List.map_append]
theorem dg2_ok (δ0 : Sto) (tbl : List (List Key × D)) (a b : Int) : dgD (.hnd δ0.length) (.tup [.int a, .int b]) (δ0 ++ [.dT tbl]) = some (valD tbl [.inl a, .inl b]) := by
  unfold dgD
  simp only [at_last]
  rfl
theorem dp2_ok (δ0 : Sto) (tbl : List (List Key × D)) (a b : Int) (d : D) (h : tbl.length < BIG) : dpD (.hnd δ0.length) (.tup [.int a, .int b]) d (δ0 ++ [.dT tbl]) = some (δ0 ++ [.dT (putKD tbl [.inl a, .inl b] d)]) := by
  unfold dpD
  simp only [at_last]
  show (if tbl.length < BIG then _ else _) = _
  rw [if_pos h]
  congr 1
  rw [List.set_append_right _ _ (Nat.le_refl _)]
  simp
def pBody : FS := (sIf (tAndF (tVal (e2 kEq (e2 kMod (eL kLen (oCons (eVar 4) aNil)) (eVar 6)) (eC (.int 0)))) (tVal (e2 kEq (eVar 4) (e2 kTimes (eSl (eVar 4) oNone (oSome (eVar 6))) (e2 kFdiv (eL kLen (oCons (eVar 4) aNil)) (eVar 6)))))) (sSeq (sAsgG (e2 kIx (eVar 3) (eTup (aCons (eVar 1) (aCons (e2 kPlus (eVar 1) (eVar 6)) aNil)))) (gTup' 2 (gsCons (gName' 7) (gsCons (gName' 8) gsNil)))) (sLm kApp (eVar 5) (aCons (eTup (aCons (e2 kPlus (eVar 7) (eC (.int 3))) (aCons (e2 kPlus (e2 kPlus (e2 kPlus (eC (.str "( ")) (eVar 8)) (eC (.str " ) "))) (eL kStr (oCons (e2 kFdiv (eL kLen (oCons (eVar 4) aNil)) (eVar 6)) aNil))) aNil))) aNil))) sNx)
end Gk
set_option maxHeartbeats 4000000
namespace Gk
open PySem L2 Pi RT
def pBody' : FS := (sIf (tAndF (tVal (e2 kEq (e2 kMod (eL kLen (oCons (eVar 4) aNil)) (eVar 6)) (eC (.int 0)))) (tVal (e2 kEq (eVar 4) (e2 kTimes (eSl (eVar 4) oNone (oSome (eVar 6))) (e2 kFdiv (eL kLen (oCons (eVar 4) aNil)) (eVar 6)))))) (sSeq (sAsgG (eDGet (eVar 3) (eTup (aCons (eVar 1) (aCons (e2 kPlus (eVar 1) (eVar 6)) aNil)))) (gTup' 2 (gsCons (gName' 7) (gsCons (gName' 8) gsNil)))) (sLm kApp (eVar 5) (aCons (eTup (aCons (e2 kPlus (eVar 7) (eC (.int 3))) (aCons (e2 kPlus (e2 kPlus (e2 kPlus (eC (.str "( ")) (eVar 8)) (eC (.str " ) "))) (eL kStr (oCons (e2 kFdiv (eL kLen (oCons (eVar 4) aNil)) (eVar 6)) aNil))) aNil))) aNil))) sNx)
def P1 (l0 y : List Str) (i j k : Nat) (ps : List P2) (e6 e7 e8 : Option D) : Pi.Env := [some (.lst (l0.map D.str)), some (.int (i : Int)), some (.int (j : Int)), some (.hnd k), some (.lst (y.map D.str)), some (.own (ps.map pd)), e6, e7, e8]
/-- the table of the law's own: what it holds for parts from i of less than s -/
def Row (l0 : List Str) (tbl : List (List Key × D)) (i s : Nat) : Prop := ∀ z, 1 ≤ z → z < s → i + z ≤ l0.length → valD tbl [.inl (i : Int), .inl ((i + z : Nat) : Int)] = some (pd (B ((l0.drop i).take z))) ∧ Good ((l0.drop i).take z)
def PB (ps : List P2) (s : Nat) : Prop := ∀ p ∈ ps, p.2.length + 1 ≤ 20 * s ∧ PyData.strOk p.2 = true
/-- a turn of the sizes -/
theorem pturn_ok {l0 y : List Str} (f : Few l0) (i j : Nat) (hij : i < j) (hj : j ≤ l0.length) (hy : y = (l0.drop i).take (j - i)) (δ0 : Sto) (tbl : List (List Key × D)) (hr : Row l0 tbl i (j - i)) (ps : List P2) (hps : ps.length ≤ 1000) (hpb : PB ps (j - i)) (z : Nat) (hz : 1 ≤ z) (hzs : z < j - i) (e7 e8 : Option D) :
    ∃ ps' e7' e8', pBody' (P1 l0 y i j δ0.length ps (some (.int (z : Int))) e7 e8) (δ0 ++ [.dT tbl]) = .nx (P1 l0 y i j δ0.length ps' (some (.int (z : Int))) e7' e8') (δ0 ++ [.dT tbl]) ∧
      (∀ p, p ∈ ps' ↔ p ∈ ps ∨ ∃ k, 2 ≤ k ∧ j - i = k * z ∧ y = (List.replicate k (y.take z)).flatten ∧ p = ((B (y.take z)).1 + 3, opB ++ (B (y.take z)).2 ++ clB ++ it k)) ∧ ps'.length ≤ ps.length + 1 ∧ PB ps' (j - i) := by
  have hyl : y.length = j - i := by rw [hy]; simp; omega
  have h9 := f.len
  have okx : ∀ s ∈ y, PyData.strOk s = true := fun s m => sts_ok s (f.st s (by rw [hy] at m; exact List.mem_of_mem_drop (List.mem_of_mem_take m)))
  have hyt : y.take z = (l0.drop i).take z := by rw [hy, List.take_take, Nat.min_eq_left (by omega)]
  have kz := kIx_l (l := []) (i := 0) (d := D.non)
  have m1 : kMod (.int (y.length : Int)) (.int (z : Int)) (δ0 ++ [.dT tbl]) = .ok (.int ((y.length % z : Nat) : Int)) (δ0 ++ [.dT tbl]) := by
    rw [kMod_i, if_pos (by omega)]
    push_cast
    rfl
  have hz0 : 0 < z := by omega
  have hzb : (z : Int) < 1073741824 := by omega
  by_cases hd : y.length % z = 0
  · obtain ⟨k, hk⟩ : ∃ k, y.length = k * z := ⟨y.length / z, by rw [Nat.div_mul_cancel (Nat.dvd_of_mod_eq_zero hd)]⟩
    have hkd : y.length / z = k := by rw [hk, Nat.mul_div_cancel _ (by omega)]
    have hk9 : k ≤ 9 := by
      have : k * 1 ≤ k * z := Nat.mul_le_mul_left k hz
      omega
    have hk2 : 2 ≤ k := by
      by_cases h : 2 ≤ k
      · exact h
      · have : k = 0 ∨ k = 1 := by omega
        rcases this with rfl | rfl <;> omega
    have hmod0 : (y.length : Int) % (z : Int) = 0 := by rw [← Int.natCast_emod, hd]; rfl
    have hdivk : (y.length : Int) / (z : Int) = (k : Int) := by rw [← Int.natCast_ediv, hkd]
    have m2 : kFdiv (.int (y.length : Int)) (.int (z : Int)) (δ0 ++ [.dT tbl]) = .ok (.int (k : Int)) (δ0 ++ [.dT tbl]) := by
      rw [kFdiv_i, if_pos ⟨by omega, by omega⟩]
      have : (y.length : Int) / (z : Int) = ((y.length / z : Nat) : Int) := by push_cast; rfl
      rw [this, hkd]
    have s1 : kSl (.lst (y.map D.str)) none (some (z : Int)) (δ0 ++ [.dT tbl]) = .ok (.own ((y.take z).map D.str)) (δ0 ++ [.dT tbl]) := by rw [kSl_to, List.map_take]
    have t1 : kTimes (.own ((y.take z).map D.str)) (.int (k : Int)) (δ0 ++ [.dT tbl]) = .ok (.own (((List.replicate k (y.take z)).flatten).map D.str)) (δ0 ++ [.dT tbl]) := by
      rw [kTimes_l _ _ _ (by
        rw [List.length_map, List.length_take]
        have : min z y.length * k ≤ 9 * 9 := Nat.mul_le_mul (by omega) hk9
        omega) (by omega), flat_map]
    have okf : ∀ s ∈ (List.replicate k (y.take z)).flatten, PyData.strOk s = true := by
      intro s hs
      obtain ⟨l, hl, hs'⟩ := List.mem_flatten.mp hs
      rw [(List.mem_replicate.mp hl).2] at hs'
      exact okx s (List.mem_of_mem_take hs')
    have q := kEq_strs (d := .lst (y.map D.str)) (e := .own (((List.replicate k (y.take z)).flatten).map D.str)) (δ := δ0 ++ [.dT tbl]) rfl okx okf rfl rfl
    by_cases he : y = (List.replicate k (y.take z)).flatten
    · rw [decide_eq_true he] at q
      obtain ⟨g1, g2⟩ := hr z hz hzs (by omega)
      rw [← hyt] at g1 g2
      have d1 := dg2_ok δ0 tbl (i : Int) ((i : Int) + (z : Int))
      have ez : ((i + z : Nat) : Int) = (i : Int) + (z : Int) := by omega
      rw [ez] at g1
      rw [g1] at d1
      have hgl := g2.1
      have hlz : (y.take z).length = z := by rw [List.length_take]; omega
      rw [hlz] at hgl
      have il := it_len k (by omega)
      have p1 := kPlus_ss (a := Str.ofString "( ") (b := (B (y.take z)).2) (by rw [op_len]; omega) (δ0 ++ [.dT tbl])
      have p2 := kPlus_ss (a := Str.ofString "( " ++ (B (y.take z)).2) (b := Str.ofString " ) ") (by rw [str_len_app, op_len, cl_len]; omega) (δ0 ++ [.dT tbl])
      have p3 := kPlus_ss (a := Str.ofString "( " ++ (B (y.take z)).2 ++ Str.ofString " ) ") (b := it k) (by rw [str_len_app, str_len_app, op_len, cl_len, il]; omega) (δ0 ++ [.dT tbl])
      have ks := kStr_it k (by omega) (δ0 ++ [.dT tbl])
      have hbig : ps.length < BIG := by show _ < 1000000; omega
      refine ⟨ps ++ [((B (y.take z)).1 + 3, opB ++ (B (y.take z)).2 ++ clB ++ it k)], some (.int (B (y.take z)).1), some (.str (B (y.take z)).2), ?_, fun p => ?_, by simp, ?_⟩
      · simp only [pd] at d1
        simp -implicitDefEqProofs [sNx_a, sBk_a, sCt_a, sRetN_a, aNil_a, tYesF_a, fnV, sSeq, sSet, sRet, sIf, sOwn, sDrop, sAsgG, sSetI, sLm, kApp, isLs, getL, putL, e1, e2, eVar, eC, opd, fzd, retd, kMod_i, kFdiv_i, kMinus_i, kNeg, kPow_i, kLt_i, kLe_i, kGt_i, kGe_i, aCons, oCons, eL, eCall, eLst, eLstH, eTup, eIf, eAnd, eOr, tVal, tTru, tAndF, tOrF, tNotF, truth, kIsN, kNotN, isN, gName', gTup', gsNil, gsCons, sRaise, eChain, kPlus_ii, kTimes_ii, kLen_l, kLen_o, kIx_t0, kIx_t1, kEq_ii, kIx_t2, -List.map_take, -List.map_drop, -List.map_flatten, -List.map_replicate, pBody', P1, hz0, hzb, hmod0, hdivk, eSl, oSome, oNone, s1, t1, q, eDGet, d1, p1, p2, p3, ks, hbig, pd, opB, clB]
      · rw [List.mem_append, List.mem_singleton]
        constructor
        · rintro (h | h)
          · exact .inl h
          · exact .inr ⟨k, hk2, by omega, he, h⟩
        · rintro (h | ⟨k', a1, a2, a3, a4⟩)
          · exact .inl h
          · have : k' = k := by
              have : k' * z = k * z := by omega
              exact Nat.eq_of_mul_eq_mul_right (by omega) this
            subst this
            exact .inr a4
      · intro p hp
        rcases List.mem_append.mp hp with hp | hp
        · exact hpb p hp
        · rw [List.mem_singleton.mp hp]
          refine ⟨?_, ok_app (ok_app (ok_app op_ok g2.2) cl_ok) (it_ok k (by omega))⟩
          show (Str.ofString "( " ++ (B (y.take z)).2 ++ Str.ofString " ) " ++ it k).length + 1 ≤ 20 * (j - i)
          rw [str_len_app, str_len_app, str_len_app, op_len, cl_len, il]
          have : 2 * z ≤ k * z := Nat.mul_le_mul_right z hk2
          omega
    · rw [decide_eq_false he] at q
      refine ⟨ps, e7, e8, ?_, fun p => ⟨fun h => .inl h, fun h => h.elim id fun ⟨k', a1, a2, a3, a4⟩ => ?_⟩, by omega, hpb⟩
      · simp -implicitDefEqProofs [sNx_a, sBk_a, sCt_a, sRetN_a, aNil_a, tYesF_a, fnV, sSeq, sSet, sRet, sIf, sOwn, sDrop, sAsgG, sSetI, sLm, kApp, isLs, getL, putL, e1, e2, eVar, eC, opd, fzd, retd, kMod_i, kFdiv_i, kMinus_i, kNeg, kPow_i, kLt_i, kLe_i, kGt_i, kGe_i, aCons, oCons, eL, eCall, eLst, eLstH, eTup, eIf, eAnd, eOr, tVal, tTru, tAndF, tOrF, tNotF, truth, kIsN, kNotN, isN, gName', gTup', gsNil, gsCons, sRaise, eChain, kPlus_ii, kTimes_ii, kLen_l, kLen_o, kIx_t0, kIx_t1, kEq_ii, kIx_t2, -List.map_take, -List.map_drop, -List.map_flatten, -List.map_replicate, pBody', P1, hz0, hzb, hmod0, hdivk, eSl, oSome, oNone, s1, t1, q]
      · have : k' = k := by
          have : k' * z = k * z := by omega
          exact Nat.eq_of_mul_eq_mul_right (by omega) this
        subst this
        exact absurd a3 he
  · refine ⟨ps, e7, e8, ?_, fun p => ⟨fun h => .inl h, fun h => h.elim id fun ⟨k', a1, a2, a3, a4⟩ => ?_⟩, by omega, hpb⟩
    · have hdi : ¬ ((y.length % z : Nat) : Int) = 0 := by omega
      have hdi2 : ¬ ((y.length : Int) % (z : Int)) = 0 := by
        intro h
        apply hdi
        push_cast
        exact h
      simp -implicitDefEqProofs [sNx_a, sBk_a, sCt_a, sRetN_a, aNil_a, tYesF_a, fnV, sSeq, sSet, sRet, sIf, sOwn, sDrop, sAsgG, sSetI, sLm, kApp, isLs, getL, putL, e1, e2, eVar, eC, opd, fzd, retd, kMod_i, kFdiv_i, kMinus_i, kNeg, kPow_i, kLt_i, kLe_i, kGt_i, kGe_i, aCons, oCons, eL, eCall, eLst, eLstH, eTup, eIf, eAnd, eOr, tVal, tTru, tAndF, tOrF, tNotF, truth, kIsN, kNotN, isN, gName', gTup', gsNil, gsCons, sRaise, eChain, kPlus_ii, kTimes_ii, kLen_l, kLen_o, kIx_t0, kIx_t1, kEq_ii, kIx_t2, -List.map_take, -List.map_drop, -List.map_flatten, -List.map_replicate, pBody', P1, hz0, hzb, hdi2]
    · rw [← hyl] at a2
      rw [a2, Nat.mul_mod_left] at hd
      exact absurd rfl hd
end Gk
set_option maxHeartbeats 4000000
namespace Gk
open PySem L2 Pi RT
def IsPieces (F : FF) (l0 : List Str) : Prop := ∀ (i j : Nat) (δ0 : Sto) (tbl : List (List Key × D)), i < j → j ≤ l0.length → Row l0 tbl i (j - i) →
  ∃ ps, F [.lst (l0.map D.str), .int (i : Int), .int (j : Int), .hnd δ0.length] (δ0 ++ [.dT tbl]) = .ok (.own (ps.map pd)) (δ0 ++ [.dT tbl]) ∧ (∀ p, p ∈ ps ↔ Piece B (l0.drop i) (j - i) p) ∧ PB ps (j - i) ∧ ps.length ≤ 20
/-- ahead of the loop -/
theorem phead_eval (l0 y : List Str) (i j k : Nat) (h9 : y.length ≤ 9) (hy : y ≠ []) (fB : FS) (δ : Sto) (ps0 ps : List P2) (e6 e7 e8 : Option D) (s1 : kSl (.lst (l0.map D.str)) (some (i : Int)) (some (j : Int)) δ = .ok (.own (y.map D.str)) δ)
    (i0 : kIx (.lst (y.map D.str)) (.int 0) δ = .ok (.str (hd y)) δ)
    (h0 : (sIf (tVal (e2 kEq (eL kLen (oCons (eVar 4) aNil)) (eC (.int 1)))) (sLm kApp (eVar 5) (aCons (eTup (aCons (eC (.int 1)) (aCons (e2 kIx (eVar 4) (eC (.int 0))) aNil))) aNil)) (sIf (tVal (e2 kEq (eVar 4) (e2 kTimes (eLst (aCons (e2 kIx (eVar 4) (eC (.int 0))) aNil)) (eL kLen (oCons (eVar 4) aNil))))) (sLm kApp (eVar 5) (aCons (eTup (aCons (eC (.int 2)) (aCons (e2 kPlus (e2 kPlus (e2 kIx (eVar 4) (eC (.int 0))) (eC (.str " "))) (eL kStr (oCons (eL kLen (oCons (eVar 4) aNil)) aNil))) aNil))) aNil)) sNx)) (P1 l0 y i j k [] none none none) δ = .nx (P1 l0 y i j k ps0 none none none) δ)
    (hl : forL (gName' 6) fB ((List.range (y.length - 1)).map fun k => .int (1 + (k : Nat))) (P1 l0 y i j k ps0 none none none) δ = .nx (P1 l0 y i j k ps e6 e7 e8) δ) :
    fnV 5 (sSeq (sSet 4 (eSl (eVar 0) (oSome (eVar 1)) (oSome (eVar 2)))) (sSeq (sOwn 5 (eLst aNil)) (sSeq (sIf (tVal (e2 kEq (eL kLen (oCons (eVar 4) aNil)) (eC (.int 1)))) (sLm kApp (eVar 5) (aCons (eTup (aCons (eC (.int 1)) (aCons (e2 kIx (eVar 4) (eC (.int 0))) aNil))) aNil)) (sIf (tVal (e2 kEq (eVar 4) (e2 kTimes (eLst (aCons (e2 kIx (eVar 4) (eC (.int 0))) aNil)) (eL kLen (oCons (eVar 4) aNil))))) (sLm kApp (eVar 5) (aCons (eTup (aCons (eC (.int 2)) (aCons (e2 kPlus (e2 kPlus (e2 kIx (eVar 4) (eC (.int 0))) (eC (.str " "))) (eL kStr (oCons (eL kLen (oCons (eVar 4) aNil)) aNil))) aNil))) aNil)) sNx)) (sSeq (sForR2 (oCons (eC (.int 1)) (oCons (eL kLen (oCons (eVar 4) aNil)) aNil)) (gName' 6) fB) (sRet (eVar 5))))))
      [.lst (l0.map D.str), .int (i : Int), .int (j : Int), .hnd k] δ = .ok (.own (ps.map pd)) δ := by
  revert h0
  generalize (sIf (tVal (e2 kEq (eL kLen (oCons (eVar 4) aNil)) (eC (.int 1)))) _ _ : FS) = sH
  intro h0
  have hdiv : ((y.length : Int) - 1).toNat = y.length - 1 := by omega
  have hb2 : -4611686018427387904 ≤ (y.length : Int) := by omega
  have hb3 : (y.length : Int) < 4611686018427387904 := by omega
  unfold P1 at h0 hl
  simp only [List.map_nil] at h0
  simp -implicitDefEqProofs [sNx_a, sBk_a, sCt_a, sRetN_a, aNil_a, tYesF_a, fnV, sSeq, sSet, sRet, sIf, sOwn, sDrop, sAsgG, sSetI, sLm, kApp, isLs, getL, putL, e1, e2, eVar, eC, opd, fzd, retd, kMod_i, kFdiv_i, kMinus_i, kNeg, kPow_i, kLt_i, kLe_i, kGt_i, kGe_i, aCons, oCons, eL, eCall, eLst, eLstH, eTup, eIf, eAnd, eOr, tVal, tTru, tAndF, tOrF, tNotF, truth, kIsN, kNotN, isN, gName', gTup', gsNil, gsCons, sRaise, eChain, kPlus_ii, kTimes_ii, kLen_l, kLen_o, kIx_t0, kIx_t1, kEq_ii, kIx_t2, -List.map_take, -List.map_drop, eSl, oSome, oNone, s1, h0, sForR2, hdiv, hb2, hb3, hl]
theorem pieces_ok {l0 : List Str} (f : Few l0) : IsPieces (fnV 5 b__law_pieces) l0 := by
  intro i j δ0 tbl hij hj hr
  have h9 := f.len
  have hyl : ((l0.drop i).take (j - i)).length = j - i := by simp; omega
  generalize hy : (l0.drop i).take (j - i) = y at hyl
  have hy0 : y ≠ [] := by intro e; rw [e] at hyl; simp at hyl; omega
  have h0 : y[0]? = some (hd y) := by
    cases y with
    | nil => exact absurd rfl hy0
    | cons a b => rfl
  have hmem : ∀ s ∈ y, s ∈ STS := fun s m => f.st s (by rw [← hy] at m; exact List.mem_of_mem_drop (List.mem_of_mem_take m))
  have okx : ∀ s ∈ y, PyData.strOk s = true := fun s m => sts_ok s (hmem s m)
  have hm0 : hd y ∈ STS := hmem _ (List.mem_of_getElem? h0)
  have hl0 := sts_len _ hm0
  have hhd : hd (l0.drop i) = hd y := by
    have : (l0.drop i)[0]? = some (hd y) := by rw [← h0, ← hy, List.getElem?_take_of_lt (by omega)]
    cases e : l0.drop i with
    | nil => rw [e] at this; cases this
    | cons a b => rw [e] at this; injection this
  have i0 : kIx (.lst (y.map D.str)) (.int 0) (δ0 ++ [.dT tbl]) = .ok (.str (hd y)) (δ0 ++ [.dT tbl]) := kIx_l (i := 0) (by rw [List.getElem?_map, h0]; rfl) _
  have s1 : kSl (.lst (l0.map D.str)) (some (i : Int)) (some (j : Int)) (δ0 ++ [.dT tbl]) = .ok (.own (y.map D.str)) (δ0 ++ [.dT tbl]) := by
    rw [kSl_nat, cut_nat, List.drop_take, hy]
  obtain ⟨ps0, a1, a2, a3, a4⟩ : ∃ ps0 : List P2, (sIf (tVal (e2 kEq (eL kLen (oCons (eVar 4) aNil)) (eC (.int 1)))) (sLm kApp (eVar 5) (aCons (eTup (aCons (eC (.int 1)) (aCons (e2 kIx (eVar 4) (eC (.int 0))) aNil))) aNil)) (sIf (tVal (e2 kEq (eVar 4) (e2 kTimes (eLst (aCons (e2 kIx (eVar 4) (eC (.int 0))) aNil)) (eL kLen (oCons (eVar 4) aNil))))) (sLm kApp (eVar 5) (aCons (eTup (aCons (eC (.int 2)) (aCons (e2 kPlus (e2 kPlus (e2 kIx (eVar 4) (eC (.int 0))) (eC (.str " "))) (eL kStr (oCons (eL kLen (oCons (eVar 4) aNil)) aNil))) aNil))) aNil)) sNx)) (P1 l0 y i j δ0.length [] none none none) (δ0 ++ [.dT tbl]) = .nx (P1 l0 y i j δ0.length ps0 none none none) (δ0 ++ [.dT tbl]) ∧
      (∀ p, p ∈ ps0 ↔ (j - i = 1 ∧ p = (1, hd y)) ∨ (2 ≤ j - i ∧ y = List.replicate (j - i) (hd y) ∧ p = (2, hd y ++ blank ++ it (j - i)))) ∧ ps0.length ≤ 1 ∧ PB ps0 (j - i) := by
    have hB0 : (0 : Nat) < BIG := by decide
    by_cases e1 : j - i = 1
    · refine ⟨[(1, hd y)], ?_, fun p => ?_, by simp, ?_⟩
      · have : y.length = 1 := by omega
        simp -implicitDefEqProofs [sNx_a, sBk_a, sCt_a, sRetN_a, aNil_a, tYesF_a, fnV, sSeq, sSet, sRet, sIf, sOwn, sDrop, sAsgG, sSetI, sLm, kApp, isLs, getL, putL, e1, e2, eVar, eC, opd, fzd, retd, kMod_i, kFdiv_i, kMinus_i, kNeg, kPow_i, kLt_i, kLe_i, kGt_i, kGe_i, aCons, oCons, eL, eCall, eLst, eLstH, eTup, eIf, eAnd, eOr, tVal, tTru, tAndF, tOrF, tNotF, truth, kIsN, kNotN, isN, gName', gTup', gsNil, gsCons, sRaise, eChain, kPlus_ii, kTimes_ii, kLen_l, kLen_o, kIx_t0, kIx_t1, kEq_ii, kIx_t2, -List.map_take, -List.map_drop, P1, this, i0, hB0, pd]
      · rw [List.mem_singleton]
        constructor
        · exact fun h => .inl ⟨e1, h⟩
        · rintro (⟨_, h⟩ | ⟨h, _⟩)
          · exact h
          · omega
      · intro p hp
        rw [List.mem_singleton.mp hp]
        exact ⟨by show (hd y).length + 1 ≤ _; omega, sts_ok _ hm0⟩
    · have ny : ¬ (y.length : Int) = 1 := by omega
      have ny' : ¬ y.length = 1 := by omega
      have t1 : kTimes (.own [.str (hd y)]) (.int (y.length : Int)) (δ0 ++ [.dT tbl]) = .ok (.own ((List.replicate y.length (hd y)).map D.str)) (δ0 ++ [.dT tbl]) := by
        rw [kTimes_l _ _ _ (by simp; omega) (by omega), flat_one, List.map_replicate]
      have q := kEq_strs (d := .lst (y.map D.str)) (e := .own ((List.replicate y.length (hd y)).map D.str)) (δ := δ0 ++ [.dT tbl]) rfl okx (fun s m => by rw [(List.mem_replicate.mp m).2]; exact sts_ok _ hm0) rfl rfl
      by_cases he : y = List.replicate y.length (hd y)
      · rw [decide_eq_true he] at q
        have il := it_len y.length (by omega)
        have p1 := kPlus_ss (a := hd y) (b := Str.ofString " ") (by rw [blank_len]; omega) (δ0 ++ [.dT tbl])
        have p2 := kPlus_ss (a := hd y ++ Str.ofString " ") (b := it y.length) (by rw [str_len_app, blank_len, il]; omega) (δ0 ++ [.dT tbl])
        have ks := kStr_it y.length (by omega) (δ0 ++ [.dT tbl])
        refine ⟨[(2, hd y ++ blank ++ it (j - i))], ?_, fun p => ?_, by simp, ?_⟩
        · rw [← hyl]
          simp -implicitDefEqProofs [sNx_a, sBk_a, sCt_a, sRetN_a, aNil_a, tYesF_a, fnV, sSeq, sSet, sRet, sIf, sOwn, sDrop, sAsgG, sSetI, sLm, kApp, isLs, getL, putL, e1, e2, eVar, eC, opd, fzd, retd, kMod_i, kFdiv_i, kMinus_i, kNeg, kPow_i, kLt_i, kLe_i, kGt_i, kGe_i, aCons, oCons, eL, eCall, eLst, eLstH, eTup, eIf, eAnd, eOr, tVal, tTru, tAndF, tOrF, tNotF, truth, kIsN, kNotN, isN, gName', gTup', gsNil, gsCons, sRaise, eChain, kPlus_ii, kTimes_ii, kLen_l, kLen_o, kIx_t0, kIx_t1, kEq_ii, kIx_t2, -List.map_take, -List.map_drop, -List.map_replicate, P1, ny, ny', i0, t1, q, hB0, p1, p2, ks, pd, blank]
        · rw [List.mem_singleton]
          constructor
          · exact fun h => .inr ⟨by omega, by rw [← hyl]; exact he, h⟩
          · rintro (⟨h, _⟩ | ⟨_, _, h⟩)
            · exact absurd h e1
            · exact h
        · intro p hp
          rw [List.mem_singleton.mp hp]
          refine ⟨?_, ok_app (ok_app (sts_ok _ hm0) blank_ok) (it_ok _ (by omega))⟩
          show (hd y ++ blank ++ it (j - i)).length + 1 ≤ _
          have a2 := it_len (j - i) (by omega)
          have a3 : blank.length = 1 := blank_len
          rw [str_len_app, str_len_app, a2, a3]
          omega
      · rw [decide_eq_false he] at q
        refine ⟨[], ?_, fun p => ?_, by simp, by intro p hp; cases hp⟩
        · simp -implicitDefEqProofs [sNx_a, sBk_a, sCt_a, sRetN_a, aNil_a, tYesF_a, fnV, sSeq, sSet, sRet, sIf, sOwn, sDrop, sAsgG, sSetI, sLm, kApp, isLs, getL, putL, e1, e2, eVar, eC, opd, fzd, retd, kMod_i, kFdiv_i, kMinus_i, kNeg, kPow_i, kLt_i, kLe_i, kGt_i, kGe_i, aCons, oCons, eL, eCall, eLst, eLstH, eTup, eIf, eAnd, eOr, tVal, tTru, tAndF, tOrF, tNotF, truth, kIsN, kNotN, isN, gName', gTup', gsNil, gsCons, sRaise, eChain, kPlus_ii, kTimes_ii, kLen_l, kLen_o, kIx_t0, kIx_t1, kEq_ii, kIx_t2, -List.map_take, -List.map_drop, -List.map_replicate, P1, ny, ny', i0, t1, q]
        · constructor
          · exact fun h => nomatch h
          · rintro (⟨h, _⟩ | ⟨_, h, _⟩)
            · exact absurd h e1
            · exact absurd h (by rw [← hyl]; exact he)
  obtain ⟨ρ', δ', hl, ps, e6, e7, e8, rfl, rfl, k1, k2, k3⟩ := forL_inv (g := gName' 6) (body := pBody')
    (fun p ρ δ => ∃ ps e6 e7 e8, ρ = P1 l0 y i j δ0.length ps e6 e7 e8 ∧ δ = δ0 ++ [.dT tbl] ∧
      (∀ q, q ∈ ps ↔ q ∈ ps0 ∨ ∃ z k, 1 ≤ z ∧ z ≤ p.length ∧ 2 ≤ k ∧ j - i = k * z ∧ y = (List.replicate k (y.take z)).flatten ∧ q = ((B (y.take z)).1 + 3, opB ++ (B (y.take z)).2 ++ clB ++ it k)) ∧ ps.length ≤ 1 + p.length ∧ PB ps (j - i))
    ((List.range (y.length - 1)).map fun k => .int (1 + (k : Nat))) [] (P1 l0 y i j δ0.length ps0 none none none) (δ0 ++ [.dT tbl])
    ⟨ps0, none, none, none, rfl, rfl, fun q => ⟨fun h => .inl h, by
      rintro (h | ⟨z, k, a, b, _⟩)
      · exact h
      · simp at b; omega⟩, by simpa using a3, a4⟩ (by
      rintro p d s ρ δ e ⟨ps, e6, e7, e8, rfl, rfl, k1, k2, k3⟩
      rw [List.nil_append] at e
      have hd' : d = .int (1 + (p.length : Nat)) ∧ p.length < y.length - 1 := by
        have h := congrArg (fun l => l[p.length]?) e
        simp at h
        have hl := congrArg List.length e
        simp at hl
        refine ⟨?_, by omega⟩
        rw [List.getElem?_eq_getElem (by rw [List.length_range]; omega)] at h
        simp at h
        exact h.symm
      obtain ⟨rfl, hp⟩ := hd'
      have e1 : (1 + (p.length : Int)) = ((p.length + 1 : Nat) : Int) := by omega
      obtain ⟨ps', e7', e8', w1, w2, w3, w4⟩ := pturn_ok f i j hij hj hy.symm δ0 tbl hr ps (by omega) k3 (p.length + 1) (by omega) (by omega) e7 e8
      refine ⟨P1 l0 y i j δ0.length ps (some (.int ((p.length + 1 : Nat) : Int))) e7 e8, by rw [← e1]; rfl, _, _, w1, ps', some (.int ((p.length + 1 : Nat) : Int)), e7', e8', rfl, rfl, fun q => ?_, by simp; omega, w4⟩
      rw [w2 q, k1 q, List.length_append]
      constructor
      · rintro ((h | ⟨z, k, b1, b2, b3⟩) | ⟨k, b1, b2, b3, b4⟩)
        · exact .inl h
        · exact .inr ⟨z, k, b1, by simp; omega, b3⟩
        · exact .inr ⟨p.length + 1, k, by omega, by simp, b1, b2, b3, b4⟩
      · rintro (h | ⟨z, k, b1, b2, b3, b4, b5, b6⟩)
        · exact .inl (.inl h)
        · by_cases hz : z = p.length + 1
          · subst hz; exact .inr ⟨k, b3, b4, b5, b6⟩
          · exact .inl (.inr ⟨z, k, b1, by simp at b2; omega, b3, b4, b5, b6⟩))
  refine ⟨ps, phead_eval l0 y i j δ0.length (by omega) hy0 pBody' _ ps0 ps e6 e7 e8 s1 i0 a1 hl, fun p => ?_, k3, ?_⟩
  · rw [k1 p, a2 p]
    unfold Piece
    rw [hhd, hy]
    constructor
    · rintro ((⟨h1, h2⟩ | ⟨h1, h2, h3⟩) | ⟨z, k, b1, b2, b3, b4, b5, b6⟩)
      · exact .inl ⟨h1, h2⟩
      · exact .inr (.inl ⟨h1, h2, h3⟩)
      · have hyt : y.take z = (l0.drop i).take z := by
          have : 2 * z ≤ k * z := Nat.mul_le_mul_right z b3
          rw [← hy, List.take_take, Nat.min_eq_left (by omega)]
        rw [hyt] at b5 b6
        exact .inr (.inr ⟨z, k, b1, b3, b4, b5, b6⟩)
    · rintro (⟨h1, h2⟩ | ⟨h1, h2, h3⟩ | ⟨z, k, b1, b3, b4, b5, b6⟩)
      · exact .inl (.inl ⟨h1, h2⟩)
      · exact .inl (.inr ⟨h1, h2, h3⟩)
      · have h2z : 2 * z ≤ k * z := Nat.mul_le_mul_right z b3
        have hyt : y.take z = (l0.drop i).take z := by rw [← hy, List.take_take, Nat.min_eq_left (by omega)]
        rw [← hyt] at b5 b6
        exact .inr ⟨z, k, b1, by simp; omega, b3, b4, b5, b6⟩
  · simp at k2
    omega
end Gk
set_option maxHeartbeats 4000000
namespace Gk
open PySem L2 Pi RT
def part (l0 : List Str) (a b : Nat) : List Str := (l0.drop a).take (b - a)
def key2 (a b : Nat) : List Key := [.inl (a : Int), .inl (b : Int)]
/-- the law's table: parts of less than s are there, and those of s from less than i -/
structure Tab (l0 : List Str) (tbl : List (List Key × D)) (s i : Nat) : Prop where
  ok : ∀ a b, a < b → b ≤ l0.length → (b - a < s ∨ (b - a = s ∧ a < i)) → valD tbl (key2 a b) = some (pd (B (part l0 a b))) ∧ Good (part l0 a b)
  len : tbl.length ≤ 10 * (s - 1) + i
def bP : FS := (sSeq (sSet 10 (eDGet (eVar 2) (eTup (aCons (eVar 7) (aCons (eVar 5) aNil))))) (sLm kApp (eVar 6) (aCons (eTup (aCons (e2 kPlus (eVar 8) (e2 kIx (eVar 10) (eC (.int 0)))) (aCons (e2 kPlus (e2 kPlus (eVar 9) (eC (.str " "))) (e2 kIx (eVar 10) (eC (.int 1)))) aNil))) aNil)))
def bTgt2 : FG := (gTup' 2 (gsCons (gName' 8) (gsCons (gName' 9) gsNil)))
def bK (F : FF) : FS := (sFor (eCall 4 F (aCons (eVar 0) (aCons (eVar 4) (aCons (eVar 7) (aCons (eVar 2) aNil))))) bTgt2 bP)
def G1 (l0 : List Str) (k s i j : Nat) (fs : List P2) (e7 e8 e9 e10 : Option D) : Pi.Env := [some (.lst (l0.map D.str)), some (.int (l0.length : Int)), some (.hnd k), some (.int (s : Int)), some (.int (i : Int)), some (.int (j : Int)), some (.own (fs.map pd)), e7, e8, e9, e10]
noncomputable def jn (l0 : List Str) (k j : Nat) (p : P2) : P2 := (p.1 + (B (part l0 k j)).1, p.2 ++ blank ++ (B (part l0 k j)).2)
theorem bP_ok {l0 : List Str} (f : Few l0) (δ0 : Sto) (tbl : List (List Key × D)) (s i j k : Nat) (hkj : k < j) (hj : j ≤ l0.length) (hv : valD tbl (key2 k j) = some (pd (B (part l0 k j)))) (hg : Good (part l0 k j)) (fs : List P2) (hfs : fs.length ≤ 10000) (p : P2) (hp : p.2.length ≤ 1000) (e10 : Option D) :
    bP (G1 l0 δ0.length s i j fs (some (.int (k : Int))) (some (.int p.1)) (some (.str p.2)) e10) (δ0 ++ [.dT tbl]) = .nx (G1 l0 δ0.length s i j (fs ++ [jn l0 k j p]) (some (.int (k : Int))) (some (.int p.1)) (some (.str p.2)) (some (pd (B (part l0 k j))))) (δ0 ++ [.dT tbl]) := by
  have h9 := f.len
  have d1 := dg2_ok δ0 tbl (k : Int) (j : Int)
  have hv' : valD tbl [.inl (k : Int), .inl (j : Int)] = some (pd (B (part l0 k j))) := hv
  rw [hv'] at d1
  have hgl := hg.1
  have hpl : (part l0 k j).length ≤ 9 := by unfold part; simp; omega
  have p1 := kPlus_ss (a := p.2) (b := Str.ofString " ") (by rw [blank_len]; omega) (δ0 ++ [.dT tbl])
  have p2 := kPlus_ss (a := p.2 ++ Str.ofString " ") (b := (B (part l0 k j)).2) (by rw [str_len_app, blank_len]; omega) (δ0 ++ [.dT tbl])
  have hb : fs.length < BIG := by show _ < 1000000; omega
  simp only [pd] at d1
  simp -implicitDefEqProofs [sNx_a, sBk_a, sCt_a, sRetN_a, aNil_a, tYesF_a, fnV, sSeq, sSet, sRet, sIf, sOwn, sDrop, sAsgG, sSetI, sLm, kApp, isLs, getL, putL, e1, e2, eVar, eC, opd, fzd, retd, kMod_i, kFdiv_i, kMinus_i, kNeg, kPow_i, kLt_i, kLe_i, kGt_i, kGe_i, aCons, oCons, eL, eCall, eLst, eLstH, eTup, eIf, eAnd, eOr, tVal, tTru, tAndF, tOrF, tNotF, truth, kIsN, kNotN, isN, gName', gTup', gsNil, gsCons, sRaise, eChain, kPlus_ii, kTimes_ii, kLen_l, kLen_o, kIx_t0, kIx_t1, kEq_ii, kIx_t2, -List.map_take, -List.map_drop, bP, G1, eDGet, d1, p1, p2, hb, jn, pd, blank]
theorem bK_ok {l0 : List Str} {F : FF} (f : Few l0) (hF : IsPieces F l0) (δ0 : Sto) (tbl : List (List Key × D)) (s i j k : Nat) (hik : i < k) (hkj : k < j) (hj : j ≤ l0.length) (hs : j - i = s) (ht : Tab l0 tbl s i) (fs : List P2) (hfs : fs.length ≤ 200) (e8 e9 e10 : Option D) :
    ∃ fs' e8' e9' e10', bK F (G1 l0 δ0.length s i j fs (some (.int (k : Int))) e8 e9 e10) (δ0 ++ [.dT tbl]) = .nx (G1 l0 δ0.length s i j fs' (some (.int (k : Int))) e8' e9' e10') (δ0 ++ [.dT tbl]) ∧
      (∀ q, q ∈ fs' ↔ q ∈ fs ∨ ∃ p, Piece B (l0.drop i) (k - i) p ∧ q = jn l0 k j p) ∧ fs'.length ≤ fs.length + 20 ∧ ∀ q ∈ fs', q ∈ fs ∨ (q.2.length + 1 ≤ 20 * (j - i) ∧ PyData.strOk q.2 = true) := by
  have h9 := f.len
  obtain ⟨g1, g2⟩ := ht.ok k j hkj hj (.inl (by omega))
  obtain ⟨ps, a1, a2, a3, a4⟩ := hF i k δ0 tbl hik (by omega) (fun z hz hzs hle => by
    have := ht.ok i (i + z) (by omega) hle (.inl (by omega))
    unfold part key2 at this
    rw [Nat.add_sub_cancel_left] at this
    exact this)
  obtain ⟨ρ', δ', hl, qs, e8', e9', e10', rfl, rfl, k1⟩ := forL_inv (g := bTgt2) (body := bP)
    (fun p ρ δ => ∃ qs e8 e9 e10, ρ = G1 l0 δ0.length s i j (fs ++ qs.map (jn l0 k j)) (some (.int (k : Int))) e8 e9 e10 ∧ δ = δ0 ++ [.dT tbl] ∧ p = qs.map pd)
    (ps.map pd) [] (G1 l0 δ0.length s i j fs (some (.int (k : Int))) e8 e9 e10) (δ0 ++ [.dT tbl]) ⟨[], e8, e9, e10, by simp, rfl, rfl⟩ (by
      rintro p d s' ρ δ e ⟨qs, e8, e9, e10, rfl, rfl, rfl⟩
      rw [List.nil_append] at e
      obtain ⟨q, hq1, rfl⟩ : ∃ q, q ∈ ps ∧ d = pd q := by
        have : d ∈ ps.map pd := by rw [e]; simp
        obtain ⟨q, a, b⟩ := List.mem_map.mp this
        exact ⟨q, a, b.symm⟩
      have hql : qs.length ≤ ps.length := by
        have := congrArg List.length e
        simp at this
        omega
      have hb := a3 q hq1
      have w := bP_ok f δ0 tbl s i j k hkj hj g1 g2 (fs ++ qs.map (jn l0 k j)) (by simp; omega) q (by omega) e10
      refine ⟨G1 l0 δ0.length s i j (fs ++ qs.map (jn l0 k j)) (some (.int (k : Int))) (some (.int q.1)) (some (.str q.2)) e10, rfl, _, _, w, qs ++ [q], some (.int q.1), some (.str q.2), some (pd (B (part l0 k j))), ?_, rfl, by rw [List.map_append]; rfl⟩
      rw [List.map_append, ← List.append_assoc]
      rfl)
  rw [List.nil_append] at k1
  have inj : ∀ a b : P2, pd a = pd b → a = b := by
    rintro ⟨a1, a2⟩ ⟨b1, b2⟩ h
    simp only [pd] at h
    injection h with h
    injection h with h1 h
    injection h with h2 h
    injection h1 with h1
    injection h2 with h2
    rw [h1, h2]
  have eq : qs = ps := ((List.map_inj_right inj).mp k1).symm
  subst eq
  refine ⟨fs ++ qs.map (jn l0 k j), e8', e9', e10', ?_, fun q => ?_, by simp; omega, fun q hq => ?_⟩
  · unfold G1 at hl ⊢
    simp -implicitDefEqProofs [sNx_a, sBk_a, sCt_a, sRetN_a, aNil_a, tYesF_a, fnV, sSeq, sSet, sRet, sIf, sOwn, sDrop, sAsgG, sSetI, sLm, kApp, isLs, getL, putL, e1, e2, eVar, eC, opd, fzd, retd, kMod_i, kFdiv_i, kMinus_i, kNeg, kPow_i, kLt_i, kLe_i, kGt_i, kGe_i, aCons, oCons, eL, eCall, eLst, eLstH, eTup, eIf, eAnd, eOr, tVal, tTru, tAndF, tOrF, tNotF, truth, kIsN, kNotN, isN, gName', gTup', gsNil, gsCons, sRaise, eChain, kPlus_ii, kTimes_ii, kLen_l, kLen_o, kIx_t0, kIx_t1, kEq_ii, kIx_t2, -List.map_take, -List.map_drop, bK, sFor, a1, itemsL, hl]
  · rw [List.mem_append, List.mem_map]
    constructor
    · rintro (h | ⟨p, h1, h2⟩)
      · exact .inl h
      · exact .inr ⟨p, (a2 p).mp h1, h2.symm⟩
    · rintro (h | ⟨p, h1, h2⟩)
      · exact .inl h
      · exact .inr ⟨p, (a2 p).mpr h1, h2.symm⟩
  · rcases List.mem_append.mp hq with h | h
    · exact .inl h
    · obtain ⟨p, h1, rfl⟩ := List.mem_map.mp h
      obtain ⟨b1, b2⟩ := a3 p h1
      have c1 := g2.1
      have c2 : (part l0 k j).length = j - k := by unfold part; simp; omega
      rw [c2] at c1
      refine .inr ⟨?_, ok_app (ok_app b2 blank_ok) g2.2⟩
      show (p.2 ++ blank ++ (B (part l0 k j)).2).length + 1 ≤ _
      have a3 : blank.length = 1 := blank_len
      rw [str_len_app, str_len_app, a3]
      omega
end Gk
set_option maxHeartbeats 4000000
namespace Gk
open PySem L2 Pi RT
theorem pairsD_map : ∀ fs : List P2, pairsD (fs.map pd) = some fs
  | [] => rfl
  | p :: fs => by
    rw [List.map_cons]
    unfold pairsD
    rw [pairsD_map fs]
    rfl
theorem kMin_ok (p : P2) (fs : List P2) (δ : Sto) : kMin [.own ((p :: fs).map pd)] δ = .ok (pd (minP p fs)) δ := by
  unfold kMin
  simp only [asL, pairsD_map]
  rfl
def bI (F : FF) (sK : FS) : FS := sSeq (sSet 5 (e2 kPlus (eVar 4) (eVar 3))) (sSeq (sOwn 6 (eCall 4 F (aCons (eVar 0) (aCons (eVar 4) (aCons (eVar 5) (aCons (eVar 2) aNil)))))) (sSeq (sForR2 (oCons (e2 kPlus (eVar 4) (eC (.int 1))) (oCons (eVar 5) aNil)) (gName' 7) sK) (sDPutF (eVar 2) (eTup (aCons (eVar 4) (aCons (eVar 5) aNil))) (eL kMin (oCons (eVar 6) aNil)))))
def G0 (l0 : List Str) (k s i : Nat) (e5 e6 e7 e8 e9 e10 : Option D) : Pi.Env := [some (.lst (l0.map D.str)), some (.int (l0.length : Int)), some (.hnd k), some (.int (s : Int)), some (.int (i : Int)), e5, e6, e7, e8, e9, e10]
theorem bI_eval (l0 : List Str) (F : FF) (sK : FS) (δ0 : Sto) (tbl : List (List Key × D)) (s i : Nat) (hs : 1 ≤ s) (hb : tbl.length < BIG) (hi : i + s ≤ 1000) (ps fs : List P2) (m : P2) (e5 e6 e7 e8 e9 e10 f7 f8 f9 f10 : Option D)
    (a1 : F [.lst (l0.map D.str), .int (i : Int), .int ((i + s : Nat) : Int), .hnd δ0.length] (δ0 ++ [.dT tbl]) = .ok (.own (ps.map pd)) (δ0 ++ [.dT tbl]))
    (hl : forL (gName' 7) sK ((List.range (s - 1)).map fun k => .int ((i : Int) + 1 + (k : Nat))) (G1 l0 δ0.length s i (i + s) ps e7 e8 e9 e10) (δ0 ++ [.dT tbl]) = .nx (G1 l0 δ0.length s i (i + s) fs f7 f8 f9 f10) (δ0 ++ [.dT tbl]))
    (hm : kMin [.own (fs.map pd)] (δ0 ++ [.dT tbl]) = .ok (pd m) (δ0 ++ [.dT tbl])) :
    bI F sK (G0 l0 δ0.length s i e5 e6 e7 e8 e9 e10) (δ0 ++ [.dT tbl]) = .nx (G1 l0 δ0.length s i (i + s) fs f7 f8 f9 f10) (δ0 ++ [.dT (putKD tbl (key2 i (i + s)) (pd m))]) := by
  have d2 := dp2_ok δ0 tbl (i : Int) ((i : Int) + (s : Int)) (pd m) hb
  have e1 : ((i + s : Nat) : Int) = (i : Int) + (s : Int) := by omega
  have hk : key2 i (i + s) = [.inl (i : Int), .inl ((i : Int) + (s : Int))] := by unfold key2; rw [e1]
  rw [hk]
  rw [e1] at a1
  have hdiv : ((i : Int) + (s : Int) - ((i : Int) + 1)).toNat = s - 1 := by omega
  have hb1 : -4611686018427387904 ≤ (i : Int) + 1 := by omega
  have hb2 : (i : Int) + 1 < 4611686018427387904 := by omega
  have hb3 : -4611686018427387904 ≤ (i : Int) + (s : Int) := by omega
  have hb4 : (i : Int) + (s : Int) < 4611686018427387904 := by omega
  unfold G1 at hl ⊢
  rw [e1] at hl ⊢
  simp only [pd] at hm d2 ⊢
  simp -implicitDefEqProofs [sNx_a, sBk_a, sCt_a, sRetN_a, aNil_a, tYesF_a, fnV, sSeq, sSet, sRet, sIf, sOwn, sDrop, sAsgG, sSetI, sLm, kApp, isLs, getL, putL, e1, e2, eVar, eC, opd, fzd, retd, kMod_i, kFdiv_i, kMinus_i, kNeg, kPow_i, kLt_i, kLe_i, kGt_i, kGe_i, aCons, oCons, eL, eCall, eLst, eLstH, eTup, eIf, eAnd, eOr, tVal, tTru, tAndF, tOrF, tNotF, truth, kIsN, kNotN, isN, gName', gTup', gsNil, gsCons, sRaise, eChain, kPlus_ii, kTimes_ii, kLen_l, kLen_o, kIx_t0, kIx_t1, kEq_ii, kIx_t2, -List.map_take, -List.map_drop, bI, G0, a1, sForR2, hdiv, hb1, hb2, hb3, hb4, hl, sDPutF, hm, d2]
theorem piece_part {l0 : List Str} {i j s : Nat} {p : P2} (hs : s ≤ j - i) : Piece B (l0.drop i) s p ↔ (Piece B (part l0 i j) s p) := by
  have ht : ∀ z, z ≤ j - i → (part l0 i j).take z = (l0.drop i).take z := fun z hz => by unfold part; rw [List.take_take, Nat.min_eq_left hz]
  have hh : 1 ≤ s → hd (part l0 i j) = hd (l0.drop i) := fun h1 => by
    unfold part
    cases e : l0.drop i with
    | nil => simp
    | cons a b =>
      obtain ⟨n, hn⟩ : ∃ n, j - i = n + 1 := ⟨j - i - 1, by omega⟩
      rw [hn]
      rfl
  unfold Piece
  rw [ht s hs]
  constructor
  · rintro (⟨h1, h2⟩ | ⟨h1, h2, h3⟩ | ⟨z, k, b1, b2, b3, b4, b5⟩)
    · exact .inl ⟨h1, by rw [hh (by omega)]; exact h2⟩
    · exact .inr (.inl ⟨h1, by rw [hh (by omega)]; exact h2, by rw [hh (by omega)]; exact h3⟩)
    · have : 2 * z ≤ k * z := Nat.mul_le_mul_right z b2
      exact .inr (.inr ⟨z, k, b1, b2, b3, by rw [ht z (by omega)]; exact b4, by rw [ht z (by omega)]; exact b5⟩)
  · rintro (⟨h1, h2⟩ | ⟨h1, h2, h3⟩ | ⟨z, k, b1, b2, b3, b4, b5⟩)
    · exact .inl ⟨h1, by rw [← hh (by omega)]; exact h2⟩
    · exact .inr (.inl ⟨h1, by rw [← hh (by omega)]; exact h2, by rw [← hh (by omega)]; exact h3⟩)
    · have : 2 * z ≤ k * z := Nat.mul_le_mul_right z b2
      rw [ht z (by omega)] at b4 b5
      exact .inr (.inr ⟨z, k, b1, b2, b3, b4, b5⟩)
theorem part_drop (l0 : List Str) (i j s : Nat) : (part l0 i j).drop s = part l0 (i + s) j := by
  unfold part
  rw [List.drop_take, List.drop_drop]
  congr 1
  omega
theorem part_len {l0 : List Str} {i j : Nat} (h : i ≤ j) (hj : j ≤ l0.length) : (part l0 i j).length = j - i := by unfold part; simp; omega
theorem iturn_ok {l0 : List Str} {F : FF} (f : Few l0) (hF : IsPieces F l0) (δ0 : Sto) (tbl : List (List Key × D)) (s i : Nat) (hs : 1 ≤ s) (hi : i + s ≤ l0.length) (ht : Tab l0 tbl s i) (e5 e6 e7 e8 e9 e10 : Option D) :
    ∃ fs tbl' f7 f8 f9 f10, bI F (bK F) (G0 l0 δ0.length s i e5 e6 e7 e8 e9 e10) (δ0 ++ [.dT tbl]) = .nx (G1 l0 δ0.length s i (i + s) fs f7 f8 f9 f10) (δ0 ++ [.dT tbl']) ∧ Tab l0 tbl' s (i + 1) := by
  have h9 := f.len
  obtain ⟨ps, a1, a2, a3, a4⟩ := hF i (i + s) δ0 tbl (by omega) hi (fun z hz hzs hle => by
    have := ht.ok i (i + z) (by omega) hle (.inl (by omega))
    unfold part key2 at this
    rw [Nat.add_sub_cancel_left] at this
    exact this)
  rw [Nat.add_sub_cancel_left] at a2 a3
  obtain ⟨ρ', δ', hl, fs, f7, f8, f9, f10, rfl, rfl, k1, k2, k3⟩ := forL_inv (g := gName' 7) (body := bK F)
    (fun p ρ δ => ∃ fs f7 f8 f9 f10, ρ = G1 l0 δ0.length s i (i + s) fs f7 f8 f9 f10 ∧ δ = δ0 ++ [.dT tbl] ∧
      (∀ q, q ∈ fs ↔ q ∈ ps ∨ ∃ k p', i < k ∧ k ≤ i + p.length ∧ Piece B (l0.drop i) (k - i) p' ∧ q = jn l0 k (i + s) p') ∧ fs.length ≤ 20 + 20 * p.length ∧ PB fs s)
    ((List.range (s - 1)).map fun k => .int ((i : Int) + 1 + (k : Nat))) [] (G1 l0 δ0.length s i (i + s) ps e7 e8 e9 e10) (δ0 ++ [.dT tbl])
    ⟨ps, e7, e8, e9, e10, rfl, rfl, fun q => ⟨fun h => .inl h, by
      rintro (h | ⟨k, p', a, b, _⟩)
      · exact h
      · simp at b; omega⟩, by simpa using a4, a3⟩ (by
      rintro p d s' ρ δ e ⟨fs, f7, f8, f9, f10, rfl, rfl, k1, k2, k3⟩
      rw [List.nil_append] at e
      have hd' : d = .int ((i : Int) + 1 + (p.length : Nat)) ∧ p.length < s - 1 := by
        have h := congrArg (fun l => l[p.length]?) e
        simp at h
        have hl := congrArg List.length e
        simp at hl
        refine ⟨?_, by omega⟩
        rw [List.getElem?_eq_getElem (by rw [List.length_range]; omega)] at h
        simp at h
        exact h.symm
      obtain ⟨rfl, hp⟩ := hd'
      have e1 : ((i : Int) + 1 + (p.length : Int)) = ((i + 1 + p.length : Nat) : Int) := by omega
      obtain ⟨fs', e8', e9', e10', w1, w2, w3, w4⟩ := bK_ok f hF δ0 tbl s i (i + s) (i + 1 + p.length) (by omega) (by omega) hi (by omega) ht fs (by omega) f8 f9 f10
      refine ⟨G1 l0 δ0.length s i (i + s) fs (some (.int ((i + 1 + p.length : Nat) : Int))) f8 f9 f10, by rw [← e1]; rfl, _, _, w1, fs', _, e8', e9', e10', rfl, rfl, fun q => ?_, by simp; omega, ?_⟩
      · rw [w2 q, k1 q, List.length_append]
        constructor
        · rintro ((h | ⟨k, p', b1, b2, b3⟩) | ⟨p', b1, b2⟩)
          · exact .inl h
          · exact .inr ⟨k, p', b1, by simp; omega, b3⟩
          · exact .inr ⟨i + 1 + p.length, p', by omega, by simp; omega, b1, b2⟩
        · rintro (h | ⟨k, p', b1, b2, b3, b4⟩)
          · exact .inl (.inl h)
          · by_cases hk : k = i + 1 + p.length
            · subst hk; exact .inr ⟨p', b3, b4⟩
            · exact .inl (.inr ⟨k, p', b1, by simp at b2; omega, b3, b4⟩)
      · intro q hq
        rcases w4 q hq with h | h
        · exact k3 q h
        · rw [Nat.add_sub_cancel_left] at h
          exact h)
  rw [List.nil_append, List.length_map, List.length_range] at k1
  have hpl : (part l0 i (i + s)).length = s := by rw [part_len (by omega) hi]; omega
  have hne : part l0 i (i + s) ≠ [] := by intro e; rw [e] at hpl; simp at hpl; omega
  have conv : ∀ y, Cand B (part l0 i (i + s)) y ↔ y ∈ fs := by
    intro y
    rw [k1 y]
    constructor
    · rintro ⟨s', p, b1, b2, b3, b4⟩
      rw [hpl] at b2 b4
      have b3' := (piece_part (by omega)).mpr b3
      by_cases hs' : s' = s
      · rw [if_pos hs'] at b4
        subst hs'
        exact .inl ((a2 y).mpr (by rw [b4]; exact b3'))
      · rw [if_neg hs', part_drop] at b4
        refine .inr ⟨i + s', p, by omega, by omega, by rw [Nat.add_sub_cancel_left]; exact b3', b4⟩
    · rintro (h | ⟨k, p', b1, b2, b3, b4⟩)
      · exact ⟨s, y, hs, by rw [hpl]; omega, (piece_part (by omega)).mp ((a2 y).mp h), by rw [if_pos hpl.symm]⟩
      · refine ⟨k - i, p', by omega, by rw [hpl]; omega, (piece_part (by omega)).mp b3, ?_⟩
        rw [hpl, if_neg (by omega), part_drop, show i + (k - i) = k by omega]
        exact b4
  obtain ⟨q0, qt, rfl⟩ : ∃ q0 qt, fs = q0 :: qt := by
    cases fs with
    | nil =>
      exfalso
      have h1 : Piece B (l0.drop i) s (if s = 1 then (1, hd (l0.drop i)) else (1, hd (l0.drop i))) ∨ True := .inr True.intro
      have hc : Cand B (part l0 i (i + s)) (if 1 = s then (1, hd (part l0 i (i + s))) else (1 + (B ((part l0 i (i + s)).drop 1)).1, hd (part l0 i (i + s)) ++ blank ++ (B ((part l0 i (i + s)).drop 1)).2)) :=
        ⟨1, (1, hd (part l0 i (i + s))), by omega, by rw [hpl]; omega, .inl ⟨rfl, rfl⟩, by rw [hpl]⟩
      have := (conv _).mp hc
      cases this
    | cons a b => exact ⟨a, b, rfl⟩
  have least : Least (Cand B (part l0 i (i + s))) (minP q0 qt) := by
    obtain ⟨l1, l2⟩ := minP_least q0 qt
    exact ⟨(conv _).mpr l1, fun y hy => l2 y ((conv y).mp hy)⟩
  have hB : B (part l0 i (i + s)) = minP q0 qt := B_unique hne least
  have hg : Good (part l0 i (i + s)) := by
    have := k3 _ (minP_mem q0 qt)
    rw [← hB] at this
    exact ⟨by rw [hpl]; exact this.1, this.2⟩
  have hsm : tbl.length < BIG := by have := ht.len; show _ < 1000000; omega
  refine ⟨q0 :: qt, putKD tbl (key2 i (i + s)) (pd (B (part l0 i (i + s)))), f7, f8, f9, f10, bI_eval l0 F (bK F) δ0 tbl s i hs hsm (by omega) ps (q0 :: qt) (B (part l0 i (i + s))) e5 e6 e7 e8 e9 e10 f7 f8 f9 f10 a1 hl (by rw [kMin_ok, hB]), ⟨fun a b h1 h2 h3 => ?_, ?_⟩⟩
  · rw [valD_put]
    by_cases hk : key2 a b = key2 i (i + s)
    · unfold key2 at hk
      injection hk with hk1 hk2
      injection hk1 with hk1
      injection hk2 with hk2 _
      injection hk2 with hk2
      have : a = i := by omega
      have : b = i + s := by omega
      subst a b
      exact ⟨if_pos rfl, hg⟩
    · rw [if_neg hk]
      refine ht.ok a b h1 h2 ?_
      rcases h3 with h3 | ⟨h3, h4⟩
      · exact .inl h3
      · by_cases ha : a = i
        · exfalso
          apply hk
          have : b = i + s := by omega
          rw [ha, this]
        · exact .inr ⟨h3, by omega⟩
  · have h1 : (putKD tbl (key2 i (i + s)) (pd (B (part l0 i (i + s))))).length ≤ tbl.length + 1 := by
      have := congrArg List.length (put_keys tbl (key2 i (i + s)) (pd (B (part l0 i (i + s)))))
      rw [List.length_map] at this
      rw [this]
      split <;> simp
    have := ht.len
    omega
end Gk
set_option maxHeartbeats 4000000
namespace Gk
open PySem L2 Pi RT
def bS (sI : FS) : FS := sForR1 (oCons (e2 kPlus (e2 kMinus (eVar 1) (eVar 3)) (eC (.int 1))) aNil) (gName' 4) sI
def Gs (l0 : List Str) (k : Nat) (e3 e4 e5 e6 e7 e8 e9 e10 : Option D) : Pi.Env := [some (.lst (l0.map D.str)), some (.int (l0.length : Int)), some (.hnd k), e3, e4, e5, e6, e7, e8, e9, e10]
theorem range_at {m : Nat} {g : Nat → D} {p : List D} {d : D} {s : List D} (e : (List.range m).map g = p ++ d :: s) : d = g p.length ∧ p.length < m := by
  have h := congrArg (fun l => l[p.length]?) e
  have hl := congrArg List.length e
  simp at h hl
  refine ⟨?_, by omega⟩
  rw [List.getElem?_eq_getElem (by rw [List.length_range]; omega)] at h
  simp at h
  exact h.symm
theorem bS_ok {l0 : List Str} {F : FF} (f : Few l0) (hF : IsPieces F l0) (δ0 : Sto) (tbl : List (List Key × D)) (s : Nat) (hs : 1 ≤ s) (hn : s ≤ l0.length) (ht : Tab l0 tbl s 0) (e4 e5 e6 e7 e8 e9 e10 : Option D) :
    ∃ tbl' f4 f5 f6 f7 f8 f9 f10, bS (bI F (bK F)) (Gs l0 δ0.length (some (.int (s : Int))) e4 e5 e6 e7 e8 e9 e10) (δ0 ++ [.dT tbl]) = .nx (Gs l0 δ0.length (some (.int (s : Int))) f4 f5 f6 f7 f8 f9 f10) (δ0 ++ [.dT tbl']) ∧ Tab l0 tbl' (s + 1) 0 := by
  have h9 := f.len
  obtain ⟨ρ', δ', hl, tbl', f4, f5, f6, f7, f8, f9, f10, rfl, rfl, k1⟩ := forL_inv (g := gName' 4) (body := bI F (bK F))
    (fun p ρ δ => ∃ tbl f4 f5 f6 f7 f8 f9 f10, ρ = Gs l0 δ0.length (some (.int (s : Int))) f4 f5 f6 f7 f8 f9 f10 ∧ δ = δ0 ++ [.dT tbl] ∧ Tab l0 tbl s p.length)
    ((List.range (l0.length - s + 1)).map fun k => .int (k : Nat)) [] (Gs l0 δ0.length (some (.int (s : Int))) e4 e5 e6 e7 e8 e9 e10) (δ0 ++ [.dT tbl]) ⟨tbl, e4, e5, e6, e7, e8, e9, e10, rfl, rfl, ht⟩ (by
      rintro p d s' ρ δ e ⟨tbl, f4, f5, f6, f7, f8, f9, f10, rfl, rfl, k1⟩
      rw [List.nil_append] at e
      obtain ⟨rfl, hp⟩ := range_at e
      obtain ⟨fs, tbl', g7, g8, g9, g10, w1, w2⟩ := iturn_ok f hF δ0 tbl s p.length hs (by omega) k1 f5 f6 f7 f8 f9 f10
      exact ⟨G0 l0 δ0.length s p.length f5 f6 f7 f8 f9 f10, rfl, _, _, w1, tbl', _, _, _, _, _, _, _, rfl, rfl, by simpa using w2⟩)
  rw [List.nil_append, List.length_map, List.length_range] at k1
  refine ⟨tbl', f4, f5, f6, f7, f8, f9, f10, ?_, ⟨fun a b h1 h2 h3 => k1.ok a b h1 h2 ?_, ?_⟩⟩
  · have hd : ((l0.length : Int) - (s : Int) + 1).toNat = l0.length - s + 1 := by omega
    have hb1 : -4611686018427387904 ≤ (l0.length : Int) - (s : Int) + 1 := by omega
    have hb2 : (l0.length : Int) - (s : Int) + 1 < 4611686018427387904 := by omega
    unfold Gs at hl ⊢
    simp -implicitDefEqProofs [sNx_a, sBk_a, sCt_a, sRetN_a, aNil_a, tYesF_a, fnV, sSeq, sSet, sRet, sIf, sOwn, sDrop, sAsgG, sSetI, sLm, kApp, isLs, getL, putL, e1, e2, eVar, eC, opd, fzd, retd, kMod_i, kFdiv_i, kMinus_i, kNeg, kPow_i, kLt_i, kLe_i, kGt_i, kGe_i, aCons, oCons, eL, eCall, eLst, eLstH, eTup, eIf, eAnd, eOr, tVal, tTru, tAndF, tOrF, tNotF, truth, kIsN, kNotN, isN, gName', gTup', gsNil, gsCons, sRaise, eChain, kPlus_ii, kTimes_ii, kLen_l, kLen_o, kIx_t0, kIx_t1, kEq_ii, kIx_t2, -List.map_take, -List.map_drop, bS, sForR1, hd, hb1, hb2, hl]
  · rcases h3 with h3 | ⟨_, h4⟩
    · by_cases hba : b - a < s
      · exact .inl hba
      · exact .inr ⟨by omega, by omega⟩
    · omega
  · have := k1.len
    omega
def IsLS (F : FF) : Prop := ∀ (x : List Str) (δ0 : Sto), Few x → x ≠ [] → ∃ o, F [.lst (x.map D.str)] δ0 = .ok (.str (B x).2) (δ0 ++ [o])
theorem forR2_eval {fa : FA} {g : FG} {body : FS} {ρ : Pi.Env} {δ : Sto} {i j : Int} (h : fa ρ δ = .ok [.int i, .int j] δ) (b1 : -1000 ≤ i) (b2 : i ≤ 1000) (b3 : -1000 ≤ j) (b4 : j ≤ 1000) :
    sForR2 fa g body ρ δ = forL g body ((List.range (j - i).toNat).map fun k => .int (i + (k : Nat))) ρ δ := by
  unfold sForR2
  rw [h]
  simp only [bindS_ok]
  rw [if_pos ⟨by omega, by omega, by omega, by omega⟩]
theorem ls_eval1 (x : List Str) (δ0 : Sto) (sF : FS) (tbl : List (List Key × D)) (m : P2) (f3 f4 f5 f6 f7 f8 f9 f10 : Option D)
    (hl : sF (Gs x δ0.length none none none none none none none none) (δ0 ++ [.dT []]) = .nx (Gs x δ0.length f3 f4 f5 f6 f7 f8 f9 f10) (δ0 ++ [.dT tbl]))
    (d1 : dgD (.hnd δ0.length) (.tup [.int 0, .int (x.length : Int)]) (δ0 ++ [.dT tbl]) = some (some (.tup [.int m.1, .str m.2]))) :
    fnV 10 (sSeq (sSet 1 (eL kLen (oCons (eVar 0) aNil))) (sSeq (sSet 2 eDNewT) (sSeq sF (sRet (e2 kIx (eDGet (eVar 2) (eTup (aCons (eC (.int 0)) (aCons (eVar 1) aNil)))) (eC (.int 1)))))))
      [.lst (x.map D.str)] δ0 = .ok (.str m.2) (δ0 ++ [.dT tbl]) := by
  unfold Gs at hl
  simp -implicitDefEqProofs [sNx_a, sBk_a, sCt_a, sRetN_a, aNil_a, tYesF_a, fnV, sSeq, sSet, sRet, sIf, sOwn, sDrop, sAsgG, sSetI, sLm, kApp, isLs, getL, putL, e1, e2, eVar, eC, opd, fzd, retd, kMod_i, kFdiv_i, kMinus_i, kNeg, kPow_i, kLt_i, kLe_i, kGt_i, kGe_i, aCons, oCons, eL, eCall, eLst, eLstH, eTup, eIf, eAnd, eOr, tVal, tTru, tAndF, tOrF, tNotF, truth, kIsN, kNotN, isN, gName', gTup', gsNil, gsCons, sRaise, eChain, kPlus_ii, kTimes_ii, kLen_l, kLen_o, kIx_t0, kIx_t1, kEq_ii, kIx_t2, -List.map_take, -List.map_drop, eDNewT, hl, eDGet, d1]
theorem ls_eval (x : List Str) (δ0 : Sto) (h9 : x.length ≤ 9) (sS : FS) (tbl : List (List Key × D)) (m : P2) (f3 f4 f5 f6 f7 f8 f9 f10 : Option D)
    (hl : forL (gName' 3) sS ((List.range x.length).map fun k => .int (1 + (k : Nat))) (Gs x δ0.length none none none none none none none none) (δ0 ++ [.dT []]) = .nx (Gs x δ0.length f3 f4 f5 f6 f7 f8 f9 f10) (δ0 ++ [.dT tbl]))
    (hv : valD tbl (key2 0 x.length) = some (pd m)) :
    fnV 10 (sSeq (sSet 1 (eL kLen (oCons (eVar 0) aNil))) (sSeq (sSet 2 eDNewT) (sSeq (sForR2 (oCons (eC (.int 1)) (oCons (e2 kPlus (eVar 1) (eC (.int 1))) aNil)) (gName' 3) sS) (sRet (e2 kIx (eDGet (eVar 2) (eTup (aCons (eC (.int 0)) (aCons (eVar 1) aNil)))) (eC (.int 1)))))))
      [.lst (x.map D.str)] δ0 = .ok (.str m.2) (δ0 ++ [.dT tbl]) := by
  have d1 := dg2_ok δ0 tbl ((0 : Nat) : Int) (x.length : Int)
  unfold key2 at hv
  rw [hv] at d1
  refine ls_eval1 x δ0 _ tbl m f3 f4 f5 f6 f7 f8 f9 f10 ?_ d1
  rw [forR2_eval (i := 1) (j := (x.length : Int) + 1) (by unfold Gs; simp -implicitDefEqProofs [sNx_a, sBk_a, sCt_a, sRetN_a, aNil_a, tYesF_a, fnV, sSeq, sSet, sRet, sIf, sOwn, sDrop, sAsgG, sSetI, sLm, kApp, isLs, getL, putL, e1, e2, eVar, eC, opd, fzd, retd, kMod_i, kFdiv_i, kMinus_i, kNeg, kPow_i, kLt_i, kLe_i, kGt_i, kGe_i, aCons, oCons, eL, eCall, eLst, eLstH, eTup, eIf, eAnd, eOr, tVal, tTru, tAndF, tOrF, tNotF, truth, kIsN, kNotN, isN, gName', gTup', gsNil, gsCons, sRaise, eChain, kPlus_ii, kTimes_ii, kLen_l, kLen_o, kIx_t0, kIx_t1, kEq_ii, kIx_t2, -List.map_take, -List.map_drop]) (by omega) (by omega) (by omega) (by omega)]
  have hd : ((x.length : Int) + 1 - 1).toNat = x.length := by omega
  rw [hd]
  exact hl
theorem ls_ok {F : FF} (hF : ∀ x, Few x → IsPieces F x) : IsLS (fnV 10 (b__law_shortest F)) := by
  intro x δ0 f hx
  have h9 := f.len
  have hpos : 0 < x.length := List.length_pos_iff.mpr hx
  obtain ⟨ρ', δ', hl, tbl', f3, f4, f5, f6, f7, f8, f9, f10, rfl, rfl, k1⟩ := forL_inv (g := gName' 3) (body := bS (bI F (bK F)))
    (fun p ρ δ => ∃ tbl f3 f4 f5 f6 f7 f8 f9 f10, ρ = Gs x δ0.length f3 f4 f5 f6 f7 f8 f9 f10 ∧ δ = δ0 ++ [.dT tbl] ∧ Tab x tbl (p.length + 1) 0)
    ((List.range x.length).map fun k => .int (1 + (k : Nat))) [] (Gs x δ0.length none none none none none none none none) (δ0 ++ [.dT []])
    ⟨[], none, none, none, none, none, none, none, none, rfl, rfl, ⟨fun a b h1 h2 h3 => by simp at h3; omega, by simp⟩⟩ (by
      rintro p d s' ρ δ e ⟨tbl, f3, f4, f5, f6, f7, f8, f9, f10, rfl, rfl, k1⟩
      rw [List.nil_append] at e
      obtain ⟨rfl, hp⟩ := range_at e
      have e1 : (1 + (p.length : Int)) = ((p.length + 1 : Nat) : Int) := by omega
      obtain ⟨tbl', g4, g5, g6, g7, g8, g9, g10, w1, w2⟩ := bS_ok f (hF x f) δ0 tbl (p.length + 1) (by omega) (by omega) k1 f4 f5 f6 f7 f8 f9 f10
      exact ⟨Gs x δ0.length (some (.int ((p.length + 1 : Nat) : Int))) f4 f5 f6 f7 f8 f9 f10, by rw [← e1]; rfl, _, _, w1, tbl', _, _, _, _, _, _, _, _, rfl, rfl, by simpa using w2⟩)
  rw [List.nil_append, List.length_map, List.length_range] at k1
  have hv := (k1.ok 0 x.length hpos (Nat.le_refl _) (.inl (by omega))).1
  have hp : part x 0 x.length = x := by unfold part; simp
  rw [hp] at hv
  exact ⟨_, ls_eval x δ0 h9 (bS (bI F (bK F))) tbl' (B x) f3 f4 f5 f6 f7 f8 f9 f10 hl hv⟩
/-! ### shortest -/
def IsSh (F : FF) : Prop := ∀ (x : List Str) (δ0 : Sto), Few x → x ≠ [] → ∃ o, F [.lst (x.map D.str)] δ0 = .ok (.str (B x).2) (δ0 ++ [o])
def IsCheck (F : FF) : Prop := (∀ s δ, s ∈ STS → F [.str s] δ = .ok .non δ) ∧ (∀ δ, F [.str "q"] δ = .err "BadPattern" δ) ∧ ∀ δ, F [.non] δ = .err "BadPattern" δ
theorem sh_eval (x : List Str) (δ0 : Sto) (h1 : 1 ≤ x.length) (h9 : x.length ≤ 9) (Fc Fb : FF) (tbl : List (List Key × D)) (m : P2) (e1' : Option D)
    (hl : forL (gName' 1) (sDrop (eCall 1 Fc (aCons (eVar 1) aNil))) (x.map D.str) [some (.lst (x.map D.str)), none] δ0 = .nx [some (.lst (x.map D.str)), e1'] δ0)
    (hb : Fb [.lst (x.map D.str), .hnd δ0.length] (δ0 ++ [.dT []]) = .ok (pd m) (δ0 ++ [.dT tbl])) : fnV 1 (b_shortest Fc Fb) [.lst (x.map D.str)] δ0 = .ok (.str m.2) (δ0 ++ [.dT tbl]) := by
  have c1 : (1 : Int) ≤ x.length := by omega
  have c2 : (x.length : Int) ≤ 60 := by omega
  have c3 : x.length ≤ 60 := by omega
  simp only [pd] at hb
  simp -implicitDefEqProofs [sNx_a, sBk_a, sCt_a, sRetN_a, aNil_a, tYesF_a, fnV, sSeq, sSet, sRet, sIf, sOwn, sDrop, sAsgG, sSetI, sLm, kApp, isLs, getL, putL, e1, e2, eVar, eC, opd, fzd, retd, kMod_i, kFdiv_i, kMinus_i, kNeg, kPow_i, kLt_i, kLe_i, kGt_i, kGe_i, aCons, oCons, eL, eCall, eLst, eLstH, eTup, eIf, eAnd, eOr, tVal, tTru, tAndF, tOrF, tNotF, truth, kIsN, kNotN, isN, gName', gTup', gsNil, gsCons, sRaise, eChain, kPlus_ii, kTimes_ii, kLen_l, kLen_o, kIx_t0, kIx_t1, kEq_ii, kIx_t2, -List.map_take, -List.map_drop, b_shortest, kIsi, tyD, kitB, sFor, itemsL, hl, c1, c2, c3, h1, eDNewT, hb]
theorem sh_ok {Fc : FF} (hc : IsCheck Fc) : IsSh (fnV 1 (b_shortest Fc (F_best_text 100))) := by
  intro x δ0 f hx
  have hpos : 0 < x.length := List.length_pos_iff.mpr hx
  have h9 := f.len
  obtain ⟨tbl', c1, c2, c3⟩ := rec_ok f 10 100 (by omega) x δ0 [] (Sub.self x) hx (by omega) (Con.nil x)
  obtain ⟨ρ', δ', hl, e1', rfl, rfl⟩ := forL_inv (g := gName' 1) (body := sDrop (eCall 1 Fc (aCons (eVar 1) aNil)))
    (fun p ρ δ => ∃ e, ρ = [some (.lst (x.map D.str)), e] ∧ δ = δ0) (x.map D.str) [] [some (.lst (x.map D.str)), none] δ0 ⟨none, rfl, rfl⟩ (by
      rintro p d s' ρ δ e ⟨g1, rfl, rfl⟩
      rw [List.nil_append] at e
      obtain ⟨q, hq, rfl⟩ : ∃ q, q ∈ x ∧ d = .str q := by
        have : d ∈ x.map D.str := by rw [e]; simp
        obtain ⟨q, a, b⟩ := List.mem_map.mp this
        exact ⟨q, a, b.symm⟩
      have hq1 := hc.1 q δ (f.st q hq)
      refine ⟨_, rfl, [some (.lst (x.map D.str)), some (.str q)], δ, ?_, _, rfl, rfl⟩
      simp -implicitDefEqProofs [sNx_a, sBk_a, sCt_a, sRetN_a, aNil_a, tYesF_a, fnV, sSeq, sSet, sRet, sIf, sOwn, sDrop, sAsgG, sSetI, sLm, kApp, isLs, getL, putL, e1, e2, eVar, eC, opd, fzd, retd, kMod_i, kFdiv_i, kMinus_i, kNeg, kPow_i, kLt_i, kLe_i, kGt_i, kGe_i, aCons, oCons, eL, eCall, eLst, eLstH, eTup, eIf, eAnd, eOr, tVal, tTru, tAndF, tOrF, tNotF, truth, kIsN, kNotN, isN, gName', gTup', gsNil, gsCons, sRaise, eChain, kPlus_ii, kTimes_ii, kLen_l, kLen_o, kIx_t0, kIx_t1, kEq_ii, kIx_t2, -List.map_take, -List.map_drop, hq1])
  exact ⟨_, sh_eval x δ' hpos h9 Fc (F_best_text 100) tbl' (B x) e1' hl c3⟩
end Gk
set_option maxHeartbeats 4000000
namespace Gk
open PySem L2 Pi RT
def IsList (F : FF) : Prop := ∀ (ns : List Int) (a : Nat) (r : Sto), ∃ l a', Few l ∧ l ≠ [] ∧ F [.hnd 0] (dr ns a :: r) = .ok (.own (l.map D.str)) (dr ns a' :: r)
theorem lcR1_eval {fa : FA} {g : FG} {t : FT} {e : FE} {ρ : Pi.Env} {δ δ1 δ2 : Sto} {j : Int} {ys : List D} (h : fa ρ δ = .ok [.int j] δ1) (b1 : 0 ≤ j) (b2 : j ≤ 1000) (hn : noOwnB ρ [2] = true)
    (hl : lcL g t e (ρ.set 2 none) ((List.range j.toNat).map fun i => .int (i : Nat)) [] δ1 = .ok ys δ2) : eLcR1 [2] fa g t e ρ δ = .ok (.own ys) δ2 := by
  unfold eLcR1 eLcL
  rw [h]
  simp only [Out.bind_ok]
  rw [if_pos ⟨by omega, by omega⟩, if_pos hn]
  show Out.bind (lcL g t e (ρ.set 2 none) _ [] δ1) _ = _
  rw [hl]
  rfl
theorem forR1_eval {fa : FA} {g : FG} {body : FS} {ρ : Pi.Env} {δ δ1 : Sto} {j : Int} (h : fa ρ δ = .ok [.int j] δ1) (b1 : 0 ≤ j) (b2 : j ≤ 1000) :
    sForR1 fa g body ρ δ = forL g body ((List.range j.toNat).map fun k => .int (k : Nat)) ρ δ1 := by
  unfold sForR1
  rw [h]
  simp only [bindS_ok]
  rw [if_pos ⟨by omega, by omega⟩]
theorem strs_of {ys : List D} (h : ∀ y ∈ ys, ∃ s, s ∈ STS ∧ y = .str s) : ∃ l : List Str, ys = l.map D.str ∧ ∀ s ∈ l, s ∈ STS := by
  induction ys with
  | nil => exact ⟨[], rfl, by simp⟩
  | cons y ys ih =>
    obtain ⟨s, h1, rfl⟩ := h y List.mem_cons_self
    obtain ⟨l, rfl, h2⟩ := ih fun y hy => h y (List.mem_cons_of_mem _ hy)
    exact ⟨s :: l, rfl, fun t ht => by
      rcases List.mem_cons.mp ht with e | e
      · rw [e]; exact h1
      · exact h2 t e⟩
def oDraw (Fd : FF) (m : Int) : FA := (oCons (e2 kPlus (eC (.int 1)) (eCall 2 Fd (aCons (eVar 0) (aCons (eC (.int m)) aNil)))) aNil)
theorem oDraw_ok {Fd : FF} (hd : IsDraw Fd) (ns : List Int) (a : Nat) (r : Sto) (ρ : List (Option D)) : ∃ v, 0 ≤ v ∧ v < 3 ∧ oDraw Fd 3 (some (.hnd 0) :: ρ) (dr ns a :: r) = .ok [.int (1 + v)] (dr ns (a + 1) :: r) := by
  obtain ⟨v, h1, h2, h3⟩ := hd ns a r 3 (by decide)
  refine ⟨v, h1, h2, ?_⟩
  simp -implicitDefEqProofs [sNx_a, sBk_a, sCt_a, sRetN_a, aNil_a, tYesF_a, fnV, sSeq, sSet, sRet, sIf, sOwn, sDrop, sAsgG, sSetI, sLm, kApp, isLs, getL, putL, e1, e2, eVar, eC, opd, fzd, retd, kMod_i, kFdiv_i, kMinus_i, kNeg, kPow_i, kLt_i, kLe_i, kGt_i, kGe_i, aCons, oCons, eL, eCall, eLst, eLstH, eTup, eIf, eAnd, eOr, tVal, tTru, tAndF, tOrF, tNotF, truth, kIsN, kNotN, isN, gName', gTup', gsNil, gsCons, sRaise, eChain, kPlus_ii, kTimes_ii, kLen_l, kLen_o, kIx_t0, kIx_t1, kEq_ii, kIx_t2, -List.map_take, -List.map_drop, oDraw, h3]
def lBody (Fd : FF) : FS := (sSeq (sSet 5 (eLcR1 [2] (oDraw Fd 3) (gName' 2) tYesF (e2 kIx (eVar 1) (eCall 2 Fd (aCons (eVar 0) (aCons (eL kLen (oCons (eVar 1) aNil)) aNil)))))) (sSet 3 (e2 kPlus (eVar 3) (e2 kTimes (eVar 5) (e2 kPlus (eC (.int 1)) (eCall 2 Fd (aCons (eVar 0) (aCons (eC (.int 3)) aNil))))))))
theorem kTimes_ll (l : List D) (k : Nat) (δ : Sto) (h : l.length * k ≤ 1000000) (hk : k ≤ 1000) : kTimes (.lst l) (.int (k : Int)) δ = .ok (.own (List.replicate k l).flatten) δ := by
  unfold kTimes
  simp only [asL]
  rw [if_pos ⟨by omega, by omega, by rw [Int.toNat_natCast]; exact h⟩, Int.toNat_natCast]
theorem kPlus_lo (l m : List D) (δ : Sto) (h : l.length + m.length ≤ 1000000) : kPlus (.lst l) (.own m) δ = .ok (.own (l ++ m)) δ := if_pos h
theorem lturn_ok {Fd : FF} (hd : IsDraw Fd) (ns : List Int) (a : Nat) (r : Sto) (fw fo : List Str) (hfw : fw ≠ []) (hfl : fw.length ≤ 100) (hf : ∀ s ∈ fw, s ∈ STS) (ho : ∀ s ∈ fo, s ∈ STS) (hol : fo.length ≤ 1000) (e2' e4 e5 : Option D) (hno : noOwnB [some (.hnd 0), some (.lst (fw.map D.str)), e2', some (.lst (fo.map D.str)), e4, e5] [2] = true) :
    ∃ fo' a' e5', lBody Fd [some (.hnd 0), some (.lst (fw.map D.str)), e2', some (.lst (fo.map D.str)), e4, e5] (dr ns a :: r) = .nx [some (.hnd 0), some (.lst (fw.map D.str)), e2', some (.lst (fo'.map D.str)), e4, e5'] (dr ns a' :: r) ∧ (∀ s ∈ fo', s ∈ STS) ∧ fo' ≠ [] ∧ fo'.length ≤ fo.length + 9 := by
  obtain ⟨v, v0, v1, hv⟩ := oDraw_ok hd ns a r [some (.lst (fw.map D.str)), e2', some (.lst (fo.map D.str)), e4, e5]
  have hpos : 0 < fw.length := List.length_pos_iff.mpr hfw
  obtain ⟨ys, δ', w1, ⟨a1, rfl⟩, w3, w4⟩ := lcL_inv (i := 2) (e := e2 kIx (eVar 1) (eCall 2 Fd (aCons (eVar 0) (aCons (eL kLen (oCons (eVar 1) aNil)) aNil)))) (ρ := [some (.hnd 0), some (.lst (fw.map D.str)), none, some (.lst (fo.map D.str)), e4, e5])
    (fun δ => ∃ a, δ = dr ns a :: r) (fun y => ∃ s, s ∈ STS ∧ y = .str s) ((List.range (1 + v).toNat).map fun i => .int (i : Nat)) [] (dr ns (a + 1) :: r) ⟨_, rfl⟩ (by simp; omega) (by
      rintro d _ δ ⟨b, rfl⟩
      obtain ⟨u, u0, u1, hu⟩ := hd ns b r (fw.length : Int) (by omega)
      obtain ⟨n, rfl⟩ := Int.eq_ofNat_of_zero_le u0
      have hn : n < fw.length := by omega
      have hk : kIx (.lst (fw.map D.str)) (.int (n : Int)) (dr ns (b + 1) :: r) = .ok (.str fw[n]) (dr ns (b + 1) :: r) := kIx_l (by rw [List.getElem?_map, List.getElem?_eq_getElem hn]; rfl) _
      have hk' : kIx (.lst (fw.map D.str)) (.int (Int.ofNat n)) (dr ns (b + 1) :: r) = .ok (.str fw[n]) (dr ns (b + 1) :: r) := hk
      refine ⟨.str fw[n], .str fw[n], dr ns (b + 1) :: r, ?_, rfl, ⟨_, rfl⟩, fw[n], hf _ (List.getElem_mem hn), rfl⟩
      simp -implicitDefEqProofs [sNx_a, sBk_a, sCt_a, sRetN_a, aNil_a, tYesF_a, fnV, sSeq, sSet, sRet, sIf, sOwn, sDrop, sAsgG, sSetI, sLm, kApp, isLs, getL, putL, e1, e2, eVar, eC, opd, fzd, retd, kMod_i, kFdiv_i, kMinus_i, kNeg, kPow_i, kLt_i, kLe_i, kGt_i, kGe_i, aCons, oCons, eL, eCall, eLst, eLstH, eTup, eIf, eAnd, eOr, tVal, tTru, tAndF, tOrF, tNotF, truth, kIsN, kNotN, isN, gName', gTup', gsNil, gsCons, sRaise, eChain, kPlus_ii, kTimes_ii, kLen_l, kLen_o, kIx_t0, kIx_t1, kEq_ii, kIx_t2, -List.map_take, -List.map_drop, hu, hk, hk'])
  rw [List.nil_append] at w1
  obtain ⟨pt, rfl, hpt⟩ := strs_of w4
  have hc := lcR1_eval (t := tYesF) hv (by omega) (by omega) hno w1
  have hpl : pt.length = (1 + v).toNat := by simpa using w3
  obtain ⟨u, u0, u1, hu⟩ := hd ns a1 r 3 (by decide)
  obtain ⟨n, rfl⟩ := Int.eq_ofNat_of_zero_le u0
  have hm : pt.length * (1 + n) ≤ 3 * 3 := Nat.mul_le_mul (by omega) (by omega)
  have t1 := kTimes_ll (pt.map D.str) (1 + n) (dr ns (a1 + 1) :: r) (by rw [List.length_map]; omega) (by omega)
  rw [flat_map] at t1
  have t1' : kTimes (.lst (pt.map D.str)) (.int (1 + (n : Int))) (dr ns (a1 + 1) :: r) = .ok (.own (((List.replicate (1 + n) pt).flatten).map D.str)) (dr ns (a1 + 1) :: r) := by
    rw [← t1]; push_cast; rfl
  have hfl2 : ((List.replicate (1 + n) pt).flatten).length = (1 + n) * pt.length := by simp
  have hm2 : (1 + n) * pt.length ≤ 3 * 3 := Nat.mul_le_mul (by omega) (by omega)
  have hgm : ∀ s ∈ (List.replicate (1 + n) pt).flatten, s ∈ STS := by
    intro s hs
    obtain ⟨l, hl, hs'⟩ := List.mem_flatten.mp hs
    rw [(List.mem_replicate.mp hl).2] at hs'
    exact hpt s hs'
  generalize (List.replicate (1 + n) pt).flatten = gt at t1' hfl2 hgm
  have hgl : 1 * 1 ≤ (1 + n) * pt.length := Nat.mul_le_mul (by omega) (by omega)
  refine ⟨fo ++ gt, a1 + 1, some (.lst (pt.map D.str)), ?_, ?_, ?_, by rw [List.length_append]; omega⟩
  · have st1 : sSet 5 (eLcR1 [2] (oDraw Fd 3) (gName' 2) tYesF (e2 kIx (eVar 1) (eCall 2 Fd (aCons (eVar 0) (aCons (eL kLen (oCons (eVar 1) aNil)) aNil))))) [some (.hnd 0), some (.lst (fw.map D.str)), e2', some (.lst (fo.map D.str)), e4, e5] (dr ns a :: r) = .nx [some (.hnd 0), some (.lst (fw.map D.str)), e2', some (.lst (fo.map D.str)), e4, some (.lst (pt.map D.str))] (dr ns a1 :: r) := by
      unfold sSet
      rw [hc]
      rfl
    show OutS.seq (sSet 5 _ _ _) _ = _
    rw [st1]
    have p := kPlus_lo (fo.map D.str) (gt.map D.str) (dr ns (a1 + 1) :: r) (by rw [List.length_map, List.length_map]; omega)
    have hu' : Fd [.hnd 0, .int 3] (dr ns a1 :: r) = .ok (.int (n : Int)) (dr ns (a1 + 1) :: r) := hu
    rw [List.map_append]
    simp -implicitDefEqProofs [sNx_a, sBk_a, sCt_a, sRetN_a, aNil_a, tYesF_a, fnV, sSeq, sSet, sRet, sIf, sOwn, sDrop, sAsgG, sSetI, sLm, kApp, isLs, getL, putL, e1, e2, eVar, eC, opd, fzd, retd, kMod_i, kFdiv_i, kMinus_i, kNeg, kPow_i, kLt_i, kLe_i, kGt_i, kGe_i, aCons, oCons, eL, eCall, eLst, eLstH, eTup, eIf, eAnd, eOr, tVal, tTru, tAndF, tOrF, tNotF, truth, kIsN, kNotN, isN, gName', gTup', gsNil, gsCons, sRaise, eChain, kPlus_ii, kTimes_ii, kLen_l, kLen_o, kIx_t0, kIx_t1, kEq_ii, kIx_t2, -List.map_take, -List.map_drop, hu', t1', p]
  · intro s hs
    rcases List.mem_append.mp hs with h | h
    · exact ho s h
    · exact hgm s h
  · intro e
    have h0 : (fo ++ gt).length = 0 := by rw [e]; rfl
    rw [List.length_append] at h0
    omega
theorem list_ok {Fd Fs : FF} (hd : IsDraw Fd) (hs : IsStitch Fs) : IsList (fnV 5 (b__law_list Fd Fs)) := by
  intro ns a r
  obtain ⟨v, v0, v1, hv⟩ := oDraw_ok hd ns a r [none, none, none, none, none]
  obtain ⟨ys, δ', w1, ⟨a1, rfl⟩, w3, w4⟩ := lcL_inv (i := 2) (e := eCall 1 Fs (aCons (eVar 0) aNil)) (ρ := [some (.hnd 0), none, none, none, none, none])
    (fun δ => ∃ a, δ = dr ns a :: r) (fun y => ∃ s, s ∈ STS ∧ y = .str s) ((List.range (1 + v).toNat).map fun i => .int (i : Nat)) [] (dr ns (a + 1) :: r) ⟨_, rfl⟩ (by simp; omega) (by
      rintro d _ δ ⟨b, rfl⟩
      obtain ⟨s, b', h1, h2⟩ := hs ns b r
      refine ⟨.str s, .str s, dr ns b' :: r, ?_, rfl, ⟨_, rfl⟩, s, h1, rfl⟩
      simp -implicitDefEqProofs [sNx_a, sBk_a, sCt_a, sRetN_a, aNil_a, tYesF_a, fnV, sSeq, sSet, sRet, sIf, sOwn, sDrop, sAsgG, sSetI, sLm, kApp, isLs, getL, putL, e1, e2, eVar, eC, opd, fzd, retd, kMod_i, kFdiv_i, kMinus_i, kNeg, kPow_i, kLt_i, kLe_i, kGt_i, kGe_i, aCons, oCons, eL, eCall, eLst, eLstH, eTup, eIf, eAnd, eOr, tVal, tTru, tAndF, tOrF, tNotF, truth, kIsN, kNotN, isN, gName', gTup', gsNil, gsCons, sRaise, eChain, kPlus_ii, kTimes_ii, kLen_l, kLen_o, kIx_t0, kIx_t1, kEq_ii, kIx_t2, -List.map_take, -List.map_drop, h2])
  rw [List.nil_append] at w1
  obtain ⟨fw, rfl, hfw⟩ := strs_of w4
  have hc := lcR1_eval (ρ := [some (.hnd 0), none, none, none, none, none]) (t := tYesF) hv (by omega) (by omega) rfl w1
  have hfl : fw.length = (1 + v).toNat := by simpa using w3
  have hne : fw ≠ [] := by intro e; rw [e] at hfl; simp at hfl; omega
  obtain ⟨u, u0, u1, hu⟩ := oDraw_ok hd ns a1 r [some (.lst (fw.map D.str)), none, some (.lst ([] : List D)), none, none]
  obtain ⟨ρ', δ', hl, fo, a2, e4, e5, rfl, rfl, k1, k2, k3⟩ := forL_inv (g := gName' 4) (body := lBody Fd)
    (fun p ρ δ => ∃ fo a e4 e5, ρ = [some (.hnd 0), some (.lst (fw.map D.str)), none, some (.lst (fo.map D.str)), e4, e5] ∧ δ = dr ns a :: r ∧ (∀ s ∈ fo, s ∈ STS) ∧ (p ≠ [] → fo ≠ []) ∧ fo.length ≤ 9 * p.length)
    ((List.range (1 + u).toNat).map fun k => .int (k : Nat)) [] [some (.hnd 0), some (.lst (fw.map D.str)), none, some (.lst (([] : List Str).map D.str)), none, none] (dr ns (a1 + 1) :: r) ⟨[], a1 + 1, none, none, rfl, rfl, by simp, fun h => absurd rfl h, by simp⟩ (by
      rintro p d s' ρ δ e ⟨fo, b, e4, e5, rfl, rfl, k1, k2, k3⟩
      rw [List.nil_append] at e
      obtain ⟨_, hp⟩ := range_at e
      obtain ⟨fo', b', e5', z1, z2, z3, z4⟩ := lturn_ok hd ns b r fw fo hne (by omega) hfw k1 (by omega) none (some d) e5 rfl
      exact ⟨_, rfl, _, _, z1, fo', b', some d, e5', rfl, rfl, z2, fun _ => z3, by simp; omega⟩)
  rw [List.nil_append] at k2 k3
  have hfo : fo ≠ [] := k2 (by intro e; have := congrArg List.length e; simp at this; omega)
  have hfpos : 0 < fo.length := List.length_pos_iff.mpr hfo
  have hfr := forR1_eval (g := gName' 4) (body := lBody Fd) hu (by omega) (by omega)
  have st1 : sSet 1 (eLcR1 [2] (oDraw Fd 3) (gName' 2) tYesF (eCall 1 Fs (aCons (eVar 0) aNil))) [some (.hnd 0), none, none, none, none, none] (dr ns a :: r) = .nx [some (.hnd 0), some (.lst (fw.map D.str)), none, none, none, none] (dr ns a1 :: r) := by
    unfold sSet
    rw [hc]
    rfl
  have st2 : sForR1 (oDraw Fd 3) (gName' 4) (lBody Fd) [some (.hnd 0), some (.lst (fw.map D.str)), none, some (.lst []), none, none] (dr ns a1 :: r) = .nx [some (.hnd 0), some (.lst (fw.map D.str)), none, some (.lst (fo.map D.str)), e4, e5] (dr ns a2 :: r) := by
    rw [hfr]
    exact hl
  refine ⟨fo.take 9, a2, ⟨by rw [List.length_take]; omega, fun s hs => k1 s (List.mem_of_mem_take hs)⟩, ?_, ?_⟩
  · intro e
    have h0 : (fo.take 9).length = 0 := by rw [e]; rfl
    rw [List.length_take] at h0
    omega
  · have s1 : kSl (.lst (fo.map D.str)) none (some ((9 : Nat) : Int)) (dr ns a2 :: r) = .ok (.own ((fo.take 9).map D.str)) (dr ns a2 :: r) := by rw [kSl_to, List.map_take]
    have s1' : kSl (.lst (fo.map D.str)) none (some 9) (dr ns a2 :: r) = .ok (.own ((fo.take 9).map D.str)) (dr ns a2 :: r) := s1
    show fnV 5 (sSeq (sSet 1 (eLcR1 [2] (oDraw Fd 3) (gName' 2) tYesF (eCall 1 Fs (aCons (eVar 0) aNil)))) (sSeq (sSet 3 _) (sSeq (sForR1 (oDraw Fd 3) (gName' 4) (lBody Fd)) _))) _ _ = _
    revert st1 st2
    generalize sSet 1 (eLcR1 [2] (oDraw Fd 3) (gName' 2) tYesF (eCall 1 Fs (aCons (eVar 0) aNil))) = sA
    generalize sForR1 (oDraw Fd 3) (gName' 4) (lBody Fd) = sB
    intro st1 st2
    simp -implicitDefEqProofs [sNx_a, sBk_a, sCt_a, sRetN_a, aNil_a, tYesF_a, fnV, sSeq, sSet, sRet, sIf, sOwn, sDrop, sAsgG, sSetI, sLm, kApp, isLs, getL, putL, e1, e2, eVar, eC, opd, fzd, retd, kMod_i, kFdiv_i, kMinus_i, kNeg, kPow_i, kLt_i, kLe_i, kGt_i, kGe_i, aCons, oCons, eL, eCall, eLst, eLstH, eTup, eIf, eAnd, eOr, tVal, tTru, tAndF, tOrF, tNotF, truth, kIsN, kNotN, isN, gName', gTup', gsNil, gsCons, sRaise, eChain, kPlus_ii, kTimes_ii, kLen_l, kLen_o, kIx_t0, kIx_t1, kEq_ii, kIx_t2, -List.map_take, -List.map_drop, st1, st2, eSl, oSome, oNone, s1']
end Gk
set_option maxHeartbeats 8000000
namespace Gk
open PySem L2 Pi RT
/-! ### is_cross, is_stitch, check_stitch: over the 44 stitches -/
def isCr (s : Str) : Bool := s.length == 3
def turnS (s : Str) : Str := if s.length = 3 then ⟨#[s.cps.toList.getD 0 0, s.cps.toList.getD 2 0, s.cps.toList.getD 1 0]⟩ else
  match (valT tbl_KINDS s).bind fun l => l[2]? with
  | some (D.str t) => t
  | _ => s
def IsCross (F : FF) : Prop := (∀ s δ, s ∈ STS → F [.str s] δ = .ok (.bl (isCr s)) δ) ∧ (∀ δ, F [.str "q"] δ = .ok (.bl false) δ) ∧ ∀ δ, F [.non] δ = .ok (.bl false) δ
theorem all_sts {P : Str → Prop} (h1 : ∀ s ∈ LS, P s) (h2 : ∀ a ∈ LX, ∀ b ∈ LN, ∀ c ∈ LN, P (a ++ b ++ c)) : ∀ s ∈ STS, P s := by
  intro s hs
  rcases List.mem_append.mp hs with h | h
  · exact h1 s h
  · obtain ⟨a, ha, h⟩ := List.mem_flatMap.mp h
    obtain ⟨b, hb, h⟩ := List.mem_flatMap.mp h
    obtain ⟨c, hc, rfl⟩ := List.mem_map.mp h
    exact h2 a ha b hb c hc
theorem cross_ok : IsCross (fnV 0 b_is_cross) := by
  refine ⟨?_, ?_, ?_⟩
  · intro s δ hs
    revert s
    refine all_sts ?_ ?_
    · intro s hs
      simp only [LS, List.mem_cons, List.not_mem_nil, or_false] at hs
      rcases hs with rfl | rfl | rfl | rfl | rfl | rfl | rfl | rfl | rfl | rfl | rfl | rfl <;> rfl
    · intro a ha b hb c hc
      simp only [LX, LN, List.mem_cons, List.not_mem_nil, or_false] at ha hb hc
      rcases ha with rfl | rfl <;> rcases hb with rfl | rfl | rfl | rfl <;> rcases hc with rfl | rfl | rfl | rfl <;> rfl
  · intro δ; rfl
  · intro δ; rfl
def IsSt (F : FF) : Prop := (∀ s δ, s ∈ STS → F [.str s] δ = .ok (.bl true) δ) ∧ (∀ δ, F [.str "q"] δ = .ok (.bl false) δ) ∧ ∀ δ, F [.non] δ = .ok (.bl false) δ
theorem kinds_some : ∀ s ∈ LS, (valT tbl_KINDS s).isSome = true := by decide +kernel
theorem kinds_none : ∀ a ∈ LX, ∀ b ∈ LN, ∀ c ∈ LN, (valT tbl_KINDS (a ++ b ++ c)).isSome = false ∧ isCr (a ++ b ++ c) = true := by decide +kernel
theorem kinds_q : (valT tbl_KINDS "q").isSome = false := by decide +kernel
theorem stitchq_ok {F : FF} (hF : IsCross F) : IsSt (fnV 0 (b_is_stitch F)) := by
  obtain ⟨f1, f2, f3⟩ := hF
  refine ⟨?_, ?_, ?_⟩
  · intro s δ hs
    have h0 := f1 s δ hs
    have h : (valT tbl_KINDS s).isSome = true ∨ ((valT tbl_KINDS s).isSome = false ∧ isCr s = true) := by
      revert s
      exact fun s => all_sts (P := fun s => ∀ h0, (valT tbl_KINDS s).isSome = true ∨ ((valT tbl_KINDS s).isSome = false ∧ isCr s = true)) (fun s hs _ => .inl (kinds_some s hs)) (fun a ha b hb c hc _ => .inr (kinds_none a ha b hb c hc)) s
    rcases h with h | ⟨h, h'⟩
    · simp -implicitDefEqProofs [sNx_a, sBk_a, sCt_a, sRetN_a, aNil_a, tYesF_a, fnV, sSeq, sSet, sRet, sIf, sOwn, sDrop, sAsgG, sSetI, sLm, kApp, isLs, getL, putL, e1, e2, eVar, eC, opd, fzd, retd, kMod_i, kFdiv_i, kMinus_i, kNeg, kPow_i, kLt_i, kLe_i, kGt_i, kGe_i, aCons, oCons, eL, eCall, eLst, eLstH, eTup, eIf, eAnd, eOr, tVal, tTru, tAndF, tOrF, tNotF, truth, kIsN, kNotN, isN, gName', gTup', gsNil, gsCons, sRaise, eChain, kPlus_ii, kTimes_ii, kLen_l, kLen_o, kIx_t0, kIx_t1, kEq_ii, kIx_t2, -List.map_take, -List.map_drop, b_is_stitch, kIsi, tyD, kitB, eKIn, h]
    · rw [h'] at h0
      simp -implicitDefEqProofs [sNx_a, sBk_a, sCt_a, sRetN_a, aNil_a, tYesF_a, fnV, sSeq, sSet, sRet, sIf, sOwn, sDrop, sAsgG, sSetI, sLm, kApp, isLs, getL, putL, e1, e2, eVar, eC, opd, fzd, retd, kMod_i, kFdiv_i, kMinus_i, kNeg, kPow_i, kLt_i, kLe_i, kGt_i, kGe_i, aCons, oCons, eL, eCall, eLst, eLstH, eTup, eIf, eAnd, eOr, tVal, tTru, tAndF, tOrF, tNotF, truth, kIsN, kNotN, isN, gName', gTup', gsNil, gsCons, sRaise, eChain, kPlus_ii, kTimes_ii, kLen_l, kLen_o, kIx_t0, kIx_t1, kEq_ii, kIx_t2, -List.map_take, -List.map_drop, b_is_stitch, kIsi, tyD, kitB, eKIn, h, h0]
  · intro δ
    have h := kinds_q
    have h0 := f2 δ
    simp -implicitDefEqProofs [sNx_a, sBk_a, sCt_a, sRetN_a, aNil_a, tYesF_a, fnV, sSeq, sSet, sRet, sIf, sOwn, sDrop, sAsgG, sSetI, sLm, kApp, isLs, getL, putL, e1, e2, eVar, eC, opd, fzd, retd, kMod_i, kFdiv_i, kMinus_i, kNeg, kPow_i, kLt_i, kLe_i, kGt_i, kGe_i, aCons, oCons, eL, eCall, eLst, eLstH, eTup, eIf, eAnd, eOr, tVal, tTru, tAndF, tOrF, tNotF, truth, kIsN, kNotN, isN, gName', gTup', gsNil, gsCons, sRaise, eChain, kPlus_ii, kTimes_ii, kLen_l, kLen_o, kIx_t0, kIx_t1, kEq_ii, kIx_t2, -List.map_take, -List.map_drop, b_is_stitch, kIsi, tyD, kitB, eKIn, h, h0]
  · intro δ
    rfl
theorem check_ok {F : FF} (hF : IsSt F) : IsCheck (fnV 0 (b_check_stitch F)) := by
  obtain ⟨f1, f2, f3⟩ := hF
  refine ⟨fun s δ hs => ?_, fun δ => ?_, fun δ => ?_⟩
  · have := f1 s δ hs
    simp -implicitDefEqProofs [sNx_a, sBk_a, sCt_a, sRetN_a, aNil_a, tYesF_a, fnV, sSeq, sSet, sRet, sIf, sOwn, sDrop, sAsgG, sSetI, sLm, kApp, isLs, getL, putL, e1, e2, eVar, eC, opd, fzd, retd, kMod_i, kFdiv_i, kMinus_i, kNeg, kPow_i, kLt_i, kLe_i, kGt_i, kGe_i, aCons, oCons, eL, eCall, eLst, eLstH, eTup, eIf, eAnd, eOr, tVal, tTru, tAndF, tOrF, tNotF, truth, kIsN, kNotN, isN, gName', gTup', gsNil, gsCons, sRaise, eChain, kPlus_ii, kTimes_ii, kLen_l, kLen_o, kIx_t0, kIx_t1, kEq_ii, kIx_t2, -List.map_take, -List.map_drop, b_check_stitch, this]
  · have := f2 δ
    simp -implicitDefEqProofs [sNx_a, sBk_a, sCt_a, sRetN_a, aNil_a, tYesF_a, fnV, sSeq, sSet, sRet, sIf, sOwn, sDrop, sAsgG, sSetI, sLm, kApp, isLs, getL, putL, e1, e2, eVar, eC, opd, fzd, retd, kMod_i, kFdiv_i, kMinus_i, kNeg, kPow_i, kLt_i, kLe_i, kGt_i, kGe_i, aCons, oCons, eL, eCall, eLst, eLstH, eTup, eIf, eAnd, eOr, tVal, tTru, tAndF, tOrF, tNotF, truth, kIsN, kNotN, isN, gName', gTup', gsNil, gsCons, sRaise, eChain, kPlus_ii, kTimes_ii, kLen_l, kLen_o, kIx_t0, kIx_t1, kEq_ii, kIx_t2, -List.map_take, -List.map_drop, b_check_stitch, this]
  · have := f3 δ
    simp -implicitDefEqProofs [sNx_a, sBk_a, sCt_a, sRetN_a, aNil_a, tYesF_a, fnV, sSeq, sSet, sRet, sIf, sOwn, sDrop, sAsgG, sSetI, sLm, kApp, isLs, getL, putL, e1, e2, eVar, eC, opd, fzd, retd, kMod_i, kFdiv_i, kMinus_i, kNeg, kPow_i, kLt_i, kLe_i, kGt_i, kGe_i, aCons, oCons, eL, eCall, eLst, eLstH, eTup, eIf, eAnd, eOr, tVal, tTru, tAndF, tOrF, tNotF, truth, kIsN, kNotN, isN, gName', gTup', gsNil, gsCons, sRaise, eChain, kPlus_ii, kTimes_ii, kLen_l, kLen_o, kIx_t0, kIx_t1, kEq_ii, kIx_t2, -List.map_take, -List.map_drop, b_check_stitch, this]
/-! ### turned -/
theorem other_ok : ∀ s ∈ STS, ∀ δ, F_other_side [.str s] δ = .ok (.str (turnS s)) δ := by
  refine all_sts ?_ ?_
  · intro s hs
    simp only [LS, List.mem_cons, List.not_mem_nil, or_false] at hs
    rcases hs with rfl | rfl | rfl | rfl | rfl | rfl | rfl | rfl | rfl | rfl | rfl | rfl <;> exact fun δ => rfl
  · intro a ha b hb c hc
    simp only [LX, LN, List.mem_cons, List.not_mem_nil, or_false] at ha hb hc
    rcases ha with rfl | rfl <;> rcases hb with rfl | rfl | rfl | rfl <;> rcases hc with rfl | rfl | rfl | rfl <;> exact fun δ => rfl
theorem turn_turn : ∀ s ∈ STS, turnS s ∈ STS ∧ turnS (turnS s) = s := by decide +kernel
theorem turned_ok {Fc Fo : FF} (hc : IsCheck Fc) (ho : ∀ s ∈ STS, ∀ δ, Fo [.str s] δ = .ok (.str (turnS s)) δ) : ∀ s ∈ STS, ∀ δ, fnV 0 (b_turned Fc Fo) [.str s] δ = .ok (.str (turnS s)) δ := by
  intro s hs δ
  have h1 := hc.1 s δ hs
  have h2 := ho s hs δ
  simp -implicitDefEqProofs [sNx_a, sBk_a, sCt_a, sRetN_a, aNil_a, tYesF_a, fnV, sSeq, sSet, sRet, sIf, sOwn, sDrop, sAsgG, sSetI, sLm, kApp, isLs, getL, putL, e1, e2, eVar, eC, opd, fzd, retd, kMod_i, kFdiv_i, kMinus_i, kNeg, kPow_i, kLt_i, kLe_i, kGt_i, kGe_i, aCons, oCons, eL, eCall, eLst, eLstH, eTup, eIf, eAnd, eOr, tVal, tTru, tAndF, tOrF, tNotF, truth, kIsN, kNotN, isN, gName', gTup', gsNil, gsCons, sRaise, eChain, kPlus_ii, kTimes_ii, kLen_l, kLen_o, kIx_t0, kIx_t1, kEq_ii, kIx_t2, -List.map_take, -List.map_drop, b_turned, h1, h2]
def lawTab : List (Key × D) := tbl_KINDS.map fun p => (Sum.inr p.1, D.tup p.2)
theorem table_ok (δ : Sto) : F__law_table [] δ = .ok (.hnd δ.length) (δ ++ [.dK lawTab]) := by
  have h : (δ ++ [Ob.dK []])[δ.length]? = some (.dK []) := by simp
  have h2 : ∀ x : Ob, (δ ++ [Ob.dK []]).set δ.length x = δ ++ [x] := by
    intro x
    rw [List.set_append_right _ _ (Nat.le_refl _)]
    simp
  show fnV 0 b__law_table [] δ = _
  simp -implicitDefEqProofs [sNx_a, sBk_a, sCt_a, sRetN_a, aNil_a, tYesF_a, fnV, sSeq, sSet, sRet, sIf, sOwn, sDrop, sAsgG, sSetI, sLm, kApp, isLs, getL, putL, e1, e2, eVar, eC, opd, fzd, retd, kMod_i, kFdiv_i, kMinus_i, kNeg, kPow_i, kLt_i, kLe_i, kGt_i, kGe_i, aCons, oCons, eL, eCall, eLst, eLstH, eTup, eIf, eAnd, eOr, tVal, tTru, tAndF, tOrF, tNotF, truth, kIsN, kNotN, isN, gName', gTup', gsNil, gsCons, sRaise, eChain, kPlus_ii, kTimes_ii, kLen_l, kLen_o, kIx_t0, kIx_t1, kEq_ii, kIx_t2, -List.map_take, -List.map_drop, b__law_table, eDisp, pairsE, isDK0, h, h2]
  rfl
theorem fnT_ret {n : Nat} {body : FS} {ds : List D} {δ δ' : Sto} {d : D} (h : body (ds.map some ++ List.replicate n none) δ = .rt d δ') (h1 : δ'.take δ.length = δ) (h2 : lowD δ.length d) : fnT n body ds δ = .ok d δ := by
  unfold fnT
  rw [h]
  exact if_pos ⟨h1, h2⟩
theorem lturned_ok : ∀ s ∈ STS, ∀ δ, F__law_turned [.str s] δ = .ok (.str (turnS s)) δ := by
  have key : ∀ s ∈ STS, (isCr s = true ∧ ∀ (T : FF) δ, b__law_turned T [some (.str s)] δ = .rt (.str (turnS s)) δ) ∨ (isCr s = false ∧ ∃ l, valD lawTab (.inr s) = some (.tup l) ∧ l[2]? = some (.str (turnS s))) := by
    refine all_sts ?_ ?_
    · intro s hs
      simp only [LS, List.mem_cons, List.not_mem_nil, or_false] at hs
      rcases hs with rfl | rfl | rfl | rfl | rfl | rfl | rfl | rfl | rfl | rfl | rfl | rfl <;> exact .inr ⟨rfl, _, rfl, rfl⟩
    · intro a ha b hb c hc
      simp only [LX, LN, List.mem_cons, List.not_mem_nil, or_false] at ha hb hc
      rcases ha with rfl | rfl <;> rcases hb with rfl | rfl | rfl | rfl <;> rcases hc with rfl | rfl | rfl | rfl <;> exact .inl ⟨rfl, fun T δ => rfl⟩
  intro s hs δ
  rcases key s hs with ⟨_, h⟩ | ⟨h0, l, h1, h2⟩
  · exact fnT_ret (h _ δ) (List.take_length) True.intro
  · have h3 : ¬ s.length = 3 := by
      intro e
      unfold isCr at h0
      rw [e] at h0
      cases h0
    have h3' : ¬ (s.length : Int) = 3 := by omega
    have hl3 : s.length ≤ BIG := by have := sts_len s hs; show _ ≤ 1000000; omega
    have hT := table_ok δ
    have hat : (δ ++ [Ob.dK lawTab])[δ.length]? = some (.dK lawTab) := by simp
    have hd : dgD (.hnd δ.length) (.str s) (δ ++ [.dK lawTab]) = some (some (.tup l)) := by
      unfold dgD
      simp only [hat, keyD, h1]
    have hx : kIx (.tup l) (.int 2) (δ ++ [.dK lawTab]) = .ok (.str (turnS s)) (δ ++ [.dK lawTab]) := by
      unfold kIx
      simp only []
      have : atI l ((2 : Nat) : Int) = some (.str (turnS s)) := by rw [Pi.atI_nat]; exact h2
      have this' : atI l 2 = some (.str (turnS s)) := this
      rw [this']
    refine fnT_ret (d := .str (turnS s)) (δ' := δ ++ [.dK lawTab]) ?_ (by simp) True.intro
    revert hT
    generalize F__law_table = T
    intro hT
    simp -implicitDefEqProofs [sNx_a, sBk_a, sCt_a, sRetN_a, aNil_a, tYesF_a, fnV, sSeq, sSet, sRet, sIf, sOwn, sDrop, sAsgG, sSetI, sLm, kApp, isLs, getL, putL, e1, e2, eVar, eC, opd, fzd, retd, kMod_i, kFdiv_i, kMinus_i, kNeg, kPow_i, kLt_i, kLe_i, kGt_i, kGe_i, aCons, oCons, eL, eCall, eLst, eLstH, eTup, eIf, eAnd, eOr, tVal, tTru, tAndF, tOrF, tNotF, truth, kIsN, kNotN, isN, gName', gTup', gsNil, gsCons, sRaise, eChain, kPlus_ii, kTimes_ii, kLen_l, kLen_o, kIx_t0, kIx_t1, kEq_ii, kIx_t2, -List.map_take, -List.map_drop, b__law_turned, kLen, hl3, h3, h3', hT, eDGet, hd, hx]
end Gk
set_option maxHeartbeats 8000000
namespace Gk
open PySem L2 Pi RT
def IsTurned (F : FF) : Prop := ∀ s ∈ STS, ∀ δ, F [.str s] δ = .ok (.str (turnS s)) δ
theorem good_of {x : List Str} (f : Few x) (hx : x ≠ []) : Good x := by
  obtain ⟨_, _, g, _⟩ := rec_ok f 10 100 (by omega) x [] [] (Sub.self x) hx (by have := f.len; omega) (Con.nil x)
  exact g
theorem lc_turned {F : FF} (hF : IsTurned F) (i : Nat) (ρ : Pi.Env) (hρ : i < ρ.length) (y : List Str) (hy : ∀ s ∈ y, s ∈ STS) (hl : y.length ≤ 1000) (δ : Sto) : lcL (gName' i) tYesF (eCall 1 F (aCons (eVar i) aNil)) ρ (y.map D.str) [] δ = .ok ((y.map turnS).map D.str) δ := by
  have h := lcL_map (i := i) (e := eCall 1 F (aCons (eVar i) aNil)) (ρ := ρ) (δ := δ) (fun d => match d with | .str s => .str (turnS s) | d => d) (y.map D.str) [] (by simp; omega) (by
    intro d hd
    obtain ⟨s, hs, rfl⟩ := List.mem_map.mp hd
    have := hF s (hy s hs) δ
    refine ⟨.str (turnS s), ?_, rfl⟩
    have h1 : (ρ.set i (some (.str s)))[i]? = some (some (.str s)) := List.getElem?_set_self hρ
    simp only [eCall, aCons, eVar, h1, aNil_a, Out.bind_ok, fzd, List.length_cons, List.length_nil, if_true, this])
  rw [h, List.nil_append, List.map_map, List.map_map]
  rfl
def IsFace (F : FF) : Prop := (∀ (x : List Str) (w : Str) (δ : Sto), F [.lst (x.map D.str), .int 0, .str w] δ = .ok (.own (x.map D.str)) δ) ∧ (∀ (x : List Str) (δ : Sto), F [.lst (x.map D.str), .int 1, .str "round"] δ = .ok (.own (x.map D.str)) δ) ∧
  ∀ (x : List Str) (δ : Sto), (∀ s ∈ x, s ∈ STS) → x.length ≤ 1000 → F [.lst (x.map D.str), .int 1, .str "flat"] δ = .ok (.own ((x.reverse.map turnS).map D.str)) δ
theorem face_ok {F : FF} (hF : IsTurned F) : IsFace (fnV 1 (b_on_face F)) := by
  refine ⟨fun x w δ => ?_, fun x δ => ?_, fun x δ hx hl => ?_⟩
  · by_cases h : w = "flat"
    · simp -implicitDefEqProofs [sNx_a, sBk_a, sCt_a, sRetN_a, aNil_a, tYesF_a, fnV, sSeq, sSet, sRet, sIf, sOwn, sDrop, sAsgG, sSetI, sLm, kApp, isLs, getL, putL, e1, e2, eVar, eC, opd, fzd, retd, kMod_i, kFdiv_i, kMinus_i, kNeg, kPow_i, kLt_i, kLe_i, kGt_i, kGe_i, aCons, oCons, eL, eCall, eLst, eLstH, eTup, eIf, eAnd, eOr, tVal, tTru, tAndF, tOrF, tNotF, truth, kIsN, kNotN, isN, gName', gTup', gsNil, gsCons, sRaise, eChain, kPlus_ii, kTimes_ii, kLen_l, kLen_o, kIx_t0, kIx_t1, kEq_ii, kIx_t2, -List.map_take, -List.map_drop, b_on_face, kEq_ss, h, kList, asQ, asL]
    · simp -implicitDefEqProofs [sNx_a, sBk_a, sCt_a, sRetN_a, aNil_a, tYesF_a, fnV, sSeq, sSet, sRet, sIf, sOwn, sDrop, sAsgG, sSetI, sLm, kApp, isLs, getL, putL, e1, e2, eVar, eC, opd, fzd, retd, kMod_i, kFdiv_i, kMinus_i, kNeg, kPow_i, kLt_i, kLe_i, kGt_i, kGe_i, aCons, oCons, eL, eCall, eLst, eLstH, eTup, eIf, eAnd, eOr, tVal, tTru, tAndF, tOrF, tNotF, truth, kIsN, kNotN, isN, gName', gTup', gsNil, gsCons, sRaise, eChain, kPlus_ii, kTimes_ii, kLen_l, kLen_o, kIx_t0, kIx_t1, kEq_ii, kIx_t2, -List.map_take, -List.map_drop, b_on_face, kEq_ss, h, kList, asQ, asL]
  · have h : ¬ ("round" : Str) = "flat" := by decide +kernel
    simp -implicitDefEqProofs [sNx_a, sBk_a, sCt_a, sRetN_a, aNil_a, tYesF_a, fnV, sSeq, sSet, sRet, sIf, sOwn, sDrop, sAsgG, sSetI, sLm, kApp, isLs, getL, putL, e1, e2, eVar, eC, opd, fzd, retd, kMod_i, kFdiv_i, kMinus_i, kNeg, kPow_i, kLt_i, kLe_i, kGt_i, kGe_i, aCons, oCons, eL, eCall, eLst, eLstH, eTup, eIf, eAnd, eOr, tVal, tTru, tAndF, tOrF, tNotF, truth, kIsN, kNotN, isN, gName', gTup', gsNil, gsCons, sRaise, eChain, kPlus_ii, kTimes_ii, kLen_l, kLen_o, kIx_t0, kIx_t1, kEq_ii, kIx_t2, -List.map_take, -List.map_drop, b_on_face, kEq_ss, h, kList, asQ, asL]
  · have h := lc_turned hF 3 [some (.lst (x.map D.str)), some (.int 1), some (.str "flat"), none] (by simp) x.reverse (fun s hs => hx s (List.mem_reverse.mp hs)) (by simpa using hl) δ
    rw [List.map_reverse] at h
    simp -implicitDefEqProofs [sNx_a, sBk_a, sCt_a, sRetN_a, aNil_a, tYesF_a, fnV, sSeq, sSet, sRet, sIf, sOwn, sDrop, sAsgG, sSetI, sLm, kApp, isLs, getL, putL, e1, e2, eVar, eC, opd, fzd, retd, kMod_i, kFdiv_i, kMinus_i, kNeg, kPow_i, kLt_i, kLe_i, kGt_i, kGe_i, aCons, oCons, eL, eCall, eLst, eLstH, eTup, eIf, eAnd, eOr, tVal, tTru, tAndF, tOrF, tNotF, truth, kIsN, kNotN, isN, gName', gTup', gsNil, gsCons, sRaise, eChain, kPlus_ii, kTimes_ii, kLen_l, kLen_o, kIx_t0, kIx_t1, kEq_ii, kIx_t2, -List.map_take, -List.map_drop, -List.map_reverse, b_on_face, kEq_ss, eLc, eRev, asL, itemsC, eLcL, noOwnB, wipeE, h]
def IsChart (F : FF) : Prop := ∀ (x y : List Str) (δ : Sto), Few x → x ≠ [] → Few y → y ≠ [] → F [.lst [.lst (x.map D.str), .lst (y.map D.str)], .int 1, .int 60] δ = .ok .non δ
theorem chk_loop {F : FF} (hF : IsCheck F) (x : List Str) (hx : ∀ s ∈ x, s ∈ STS) (a b c d e : Option D) (δ : Sto) : ∃ e', forL (gName' 4) (sDrop (eCall 1 F (aCons (eVar 4) aNil))) (x.map D.str) [a, b, c, d, e] δ = .nx [a, b, c, d, e'] δ := by
  obtain ⟨ρ', δ', hl, e1', rfl, rfl⟩ := forL_inv (g := gName' 4) (body := sDrop (eCall 1 F (aCons (eVar 4) aNil)))
    (fun p ρ δ' => ∃ e, ρ = [a, b, c, d, e] ∧ δ' = δ) (x.map D.str) [] [a, b, c, d, e] δ ⟨e, rfl, rfl⟩ (by
      rintro p d' s' ρ δ eq ⟨g1, rfl, rfl⟩
      rw [List.nil_append] at eq
      obtain ⟨q, hq, rfl⟩ : ∃ q, q ∈ x ∧ d' = .str q := by
        have : d' ∈ x.map D.str := by rw [eq]; simp
        obtain ⟨q, a, b⟩ := List.mem_map.mp this
        exact ⟨q, a, b.symm⟩
      have hq1 := hF.1 q δ (hx q hq)
      refine ⟨_, rfl, [a, b, c, d, some (.str q)], δ, ?_, _, rfl, rfl⟩
      simp -implicitDefEqProofs [sNx_a, sBk_a, sCt_a, sRetN_a, aNil_a, tYesF_a, fnV, sSeq, sSet, sRet, sIf, sOwn, sDrop, sAsgG, sSetI, sLm, kApp, isLs, getL, putL, e1, e2, eVar, eC, opd, fzd, retd, kMod_i, kFdiv_i, kMinus_i, kNeg, kPow_i, kLt_i, kLe_i, kGt_i, kGe_i, aCons, oCons, eL, eCall, eLst, eLstH, eTup, eIf, eAnd, eOr, tVal, tTru, tAndF, tOrF, tNotF, truth, kIsN, kNotN, isN, gName', gTup', gsNil, gsCons, sRaise, eChain, kPlus_ii, kTimes_ii, kLen_l, kLen_o, kIx_t0, kIx_t1, kEq_ii, kIx_t2, -List.map_take, -List.map_drop, hq1])
  exact ⟨e1', hl⟩
theorem chart_ok {F : FF} (hF : IsCheck F) : IsChart (fnV 2 (b_check_chart F)) := by
  intro x y δ fx hx fy hy
  have hxp : 0 < x.length := List.length_pos_iff.mpr hx
  have hyp : 0 < y.length := List.length_pos_iff.mpr hy
  have hx9 := fx.len
  have hy9 := fy.len
  obtain ⟨g1, l1⟩ := chk_loop hF x fx.st (some (.lst [.lst (x.map D.str), .lst (y.map D.str)])) (some (.int 1)) (some (.int 60)) (some (.lst (x.map D.str))) none δ
  obtain ⟨g2, l2⟩ := chk_loop hF y fy.st (some (.lst [.lst (x.map D.str), .lst (y.map D.str)])) (some (.int 1)) (some (.int 60)) (some (.lst (y.map D.str))) g1 δ
  have c1 : (1 : Int) ≤ x.length := by omega
  have c2 : (x.length : Int) ≤ 60 := by omega
  have c3 : (1 : Int) ≤ y.length := by omega
  have c4 : (y.length : Int) ≤ 60 := by omega
  have d1 : 1 ≤ x.length := hxp
  have d2 : x.length ≤ 60 := by omega
  have d3 : 1 ≤ y.length := hyp
  have d4 : y.length ≤ 60 := by omega
  simp -implicitDefEqProofs [sNx_a, sBk_a, sCt_a, sRetN_a, aNil_a, tYesF_a, fnV, sSeq, sSet, sRet, sIf, sOwn, sDrop, sAsgG, sSetI, sLm, kApp, isLs, getL, putL, e1, e2, eVar, eC, opd, fzd, retd, kMod_i, kFdiv_i, kMinus_i, kNeg, kPow_i, kLt_i, kLe_i, kGt_i, kGe_i, aCons, oCons, eL, eCall, eLst, eLstH, eTup, eIf, eAnd, eOr, tVal, tTru, tAndF, tOrF, tNotF, truth, kIsN, kNotN, isN, gName', gTup', gsNil, gsCons, sRaise, eChain, kPlus_ii, kTimes_ii, kLen_l, kLen_o, kIx_t0, kIx_t1, kEq_ii, kIx_t2, -List.map_take, -List.map_drop, b_check_chart, kIsi, tyD, kitB, sFor, itemsL, forL, l1, l2, eLc, itemsC, eLcL, noOwnB, wipeE, lcL, c1, c2, c3, c4, d1, d2, d3, d4]
def IsWay (F : FF) : Prop := ∀ δ, F [.str "flat"] δ = .ok .non δ ∧ F [.str "round"] δ = .ok .non δ
theorem way_ok : IsWay (fnV 0 b_check_way) := fun δ => ⟨rfl, rfl⟩
def IsWr (F : FF) : Prop := ∀ (x y : List Str) (δ : Sto), Few x → x ≠ [] → Few y → y ≠ [] →
  (∃ o o', F [.lst [.lst (x.map D.str), .lst (y.map D.str)], .str "round"] δ = .ok (.own [.str (B x).2, .str (B y).2]) (δ ++ [o] ++ [o'])) ∧
  ∃ o o', F [.lst [.lst (x.map D.str), .lst ((y.reverse.map turnS).map D.str)], .str "flat"] δ = .ok (.own [.str (B x).2, .str (B y).2]) (δ ++ [o] ++ [o'])
theorem few_turn {y : List Str} (f : Few y) : Few (y.reverse.map turnS) := ⟨by have := f.len; simpa using this, fun s hs => by
  obtain ⟨t, h1, rfl⟩ := List.mem_map.mp hs
  exact (turn_turn t (f.st t (List.mem_reverse.mp h1))).1⟩
theorem turn_back {y : List Str} (f : Few y) : (y.reverse.map turnS).reverse.map turnS = y := by
  rw [← List.map_reverse, List.reverse_reverse, List.map_map]
  conv => rhs; rw [← List.map_id y]
  refine List.map_congr_left fun s hs => ?_
  exact (turn_turn s (f.st s hs)).2
theorem wr_ok {Fc Fw Fs Ff : FF} (hc : IsChart Fc) (hw : IsWay Fw) (hs : IsSh Fs) (hf : IsFace Ff) : IsWr (fnV 1 (b_written Fc Fw Fs Ff)) := by
  intro x y δ fx hx fy hy
  obtain ⟨f1, f2, f3⟩ := hf
  obtain ⟨o1, s1⟩ := hs x δ fx hx
  obtain ⟨o2, s2⟩ := hs y (δ ++ [o1]) fy hy
  refine ⟨⟨o1, o2, ?_⟩, o1, o2, ?_⟩
  · have a1 := hc x y δ fx hx fy hy
    have a2 := (hw δ).2
    have a3 := f1 x "round" δ
    have a4 := f2 y (δ ++ [o1])
    have hr : List.range 2 = [0, 1] := rfl
    have i0 : kIx (.lst [.lst (x.map D.str), .lst (y.map D.str)]) (.int 0) δ = .ok (.lst (x.map D.str)) δ := rfl
    have i1 : kIx (.lst [.lst (x.map D.str), .lst (y.map D.str)]) (.int 1) (δ ++ [o1]) = .ok (.lst (y.map D.str)) (δ ++ [o1]) := rfl
    have hb : (0 : Nat) < BIG := by decide
    have hb1 : (1 : Nat) < BIG := by decide
    simp -implicitDefEqProofs [sNx_a, sBk_a, sCt_a, sRetN_a, aNil_a, tYesF_a, fnV, sSeq, sSet, sRet, sIf, sOwn, sDrop, sAsgG, sSetI, sLm, kApp, isLs, getL, putL, e1, e2, eVar, eC, opd, fzd, retd, kMod_i, kFdiv_i, kMinus_i, kNeg, kPow_i, kLt_i, kLe_i, kGt_i, kGe_i, aCons, oCons, eL, eCall, eLst, eLstH, eTup, eIf, eAnd, eOr, tVal, tTru, tAndF, tOrF, tNotF, truth, kIsN, kNotN, isN, gName', gTup', gsNil, gsCons, sRaise, eChain, kPlus_ii, kTimes_ii, kLen_l, kLen_o, kIx_t0, kIx_t1, kEq_ii, kIx_t2, -List.map_take, -List.map_drop, b_written, a1, a2, eLcR1, eLcL, noOwnB, wipeE, hr, lcL, i0, a3, s1, i1, a4, s2, hb, hb1]
  · have fy' := few_turn fy
    have hy' : y.reverse.map turnS ≠ [] := by
      intro e
      have := congrArg List.length e
      simp at this
      exact hy this
    have a1 := hc x (y.reverse.map turnS) δ fx hx fy' hy'
    have a2 := (hw δ).1
    have a3 := f1 x "flat" δ
    have a4 := f3 (y.reverse.map turnS) (δ ++ [o1]) fy'.st (by have := fy'.len; omega)
    rw [turn_back fy] at a4
    generalize y.reverse.map turnS = z at a1 a4
    have hr : List.range 2 = [0, 1] := rfl
    have i0 : kIx (.lst [.lst (x.map D.str), .lst (z.map D.str)]) (.int 0) δ = .ok (.lst (x.map D.str)) δ := rfl
    have i1 : kIx (.lst [.lst (x.map D.str), .lst (z.map D.str)]) (.int 1) (δ ++ [o1]) = .ok (.lst (z.map D.str)) (δ ++ [o1]) := rfl
    have hb : (0 : Nat) < BIG := by decide
    have hb1 : (1 : Nat) < BIG := by decide
    simp -implicitDefEqProofs [sNx_a, sBk_a, sCt_a, sRetN_a, aNil_a, tYesF_a, fnV, sSeq, sSet, sRet, sIf, sOwn, sDrop, sAsgG, sSetI, sLm, kApp, isLs, getL, putL, e1, e2, eVar, eC, opd, fzd, retd, kMod_i, kFdiv_i, kMinus_i, kNeg, kPow_i, kLt_i, kLe_i, kGt_i, kGe_i, aCons, oCons, eL, eCall, eLst, eLstH, eTup, eIf, eAnd, eOr, tVal, tTru, tAndF, tOrF, tNotF, truth, kIsN, kNotN, isN, gName', gTup', gsNil, gsCons, sRaise, eChain, kPlus_ii, kTimes_ii, kLen_l, kLen_o, kIx_t0, kIx_t1, kEq_ii, kIx_t2, -List.map_take, -List.map_drop, b_written, a1, a2, eLcR1, eLcL, noOwnB, wipeE, hr, lcL, i0, a3, s1, i1, a4, s2, hb, hb1]
end Gk
set_option maxHeartbeats 8000000
namespace Gk
open PySem L2 Pi RT
structure IsBad (F : FF) (kk : List D) : Prop where
  b1 : ∀ δ, F [.lst []] δ = .err "BadArgument" δ
  b2 : ∀ δ, F [.lst kk] δ = .err "BadArgument" δ
  b3 : ∀ δ, F [.lst [.str "k", .str "q"]] δ = .err "BadPattern" δ
  b4 : ∀ δ, F [.lst [.non]] δ = .err "BadPattern" δ
  b5 : ∀ δ, F [.non] δ = .err "BadPattern" δ
  b6 : ∀ δ, F [.tup [.str "k"]] δ = .err "BadPattern" δ
theorem bad_ok {Fc Fb : FF} (hc : IsCheck Fc) {kk : List D} (hk : ∀ d ∈ kk, d = .str "k") (hl : kk.length = 61) : IsBad (fnV 1 (b_shortest Fc Fb)) kk := by
  have hK : ∀ δ, Fc [.str "k"] δ = .ok .non δ := fun δ => hc.1 "k" δ (by decide +kernel)
  refine ⟨fun δ => ?_, fun δ => ?_, fun δ => ?_, fun δ => ?_, fun δ => rfl, fun δ => rfl⟩
  · simp -implicitDefEqProofs [sNx_a, sBk_a, sCt_a, sRetN_a, aNil_a, tYesF_a, fnV, sSeq, sSet, sRet, sIf, sOwn, sDrop, sAsgG, sSetI, sLm, kApp, isLs, getL, putL, e1, e2, eVar, eC, opd, fzd, retd, kMod_i, kFdiv_i, kMinus_i, kNeg, kPow_i, kLt_i, kLe_i, kGt_i, kGe_i, aCons, oCons, eL, eCall, eLst, eLstH, eTup, eIf, eAnd, eOr, tVal, tTru, tAndF, tOrF, tNotF, truth, kIsN, kNotN, isN, gName', gTup', gsNil, gsCons, sRaise, eChain, kPlus_ii, kTimes_ii, kLen_l, kLen_o, kIx_t0, kIx_t1, kEq_ii, kIx_t2, -List.map_take, -List.map_drop, b_shortest, kIsi, tyD, kitB, sFor, itemsL, forL]
  · obtain ⟨ρ', δ', hf, e1', rfl, rfl⟩ := forL_inv (g := gName' 1) (body := sDrop (eCall 1 Fc (aCons (eVar 1) aNil)))
      (fun p ρ δ' => ∃ e, ρ = [some (.lst kk), e] ∧ δ' = δ) kk [] [some (.lst kk), none] δ ⟨none, rfl, rfl⟩ (by
        rintro p d s' ρ δ e ⟨g1, rfl, rfl⟩
        rw [List.nil_append] at e
        have hd : d = .str "k" := hk d (by rw [e]; simp)
        subst hd
        have h1 := hK δ
        refine ⟨_, rfl, [some (.lst kk), some (.str "k")], δ, ?_, _, rfl, rfl⟩
        simp -implicitDefEqProofs [sNx_a, sBk_a, sCt_a, sRetN_a, aNil_a, tYesF_a, fnV, sSeq, sSet, sRet, sIf, sOwn, sDrop, sAsgG, sSetI, sLm, kApp, isLs, getL, putL, e1, e2, eVar, eC, opd, fzd, retd, kMod_i, kFdiv_i, kMinus_i, kNeg, kPow_i, kLt_i, kLe_i, kGt_i, kGe_i, aCons, oCons, eL, eCall, eLst, eLstH, eTup, eIf, eAnd, eOr, tVal, tTru, tAndF, tOrF, tNotF, truth, kIsN, kNotN, isN, gName', gTup', gsNil, gsCons, sRaise, eChain, kPlus_ii, kTimes_ii, kLen_l, kLen_o, kIx_t0, kIx_t1, kEq_ii, kIx_t2, -List.map_take, -List.map_drop, h1])
    simp -implicitDefEqProofs [sNx_a, sBk_a, sCt_a, sRetN_a, aNil_a, tYesF_a, fnV, sSeq, sSet, sRet, sIf, sOwn, sDrop, sAsgG, sSetI, sLm, kApp, isLs, getL, putL, e1, e2, eVar, eC, opd, fzd, retd, kMod_i, kFdiv_i, kMinus_i, kNeg, kPow_i, kLt_i, kLe_i, kGt_i, kGe_i, aCons, oCons, eL, eCall, eLst, eLstH, eTup, eIf, eAnd, eOr, tVal, tTru, tAndF, tOrF, tNotF, truth, kIsN, kNotN, isN, gName', gTup', gsNil, gsCons, sRaise, eChain, kPlus_ii, kTimes_ii, kLen_l, kLen_o, kIx_t0, kIx_t1, kEq_ii, kIx_t2, -List.map_take, -List.map_drop, b_shortest, kIsi, tyD, kitB, sFor, itemsL, hf, hl]
  · have h1 := hK δ
    have h2 := hc.2.1 δ
    simp -implicitDefEqProofs [sNx_a, sBk_a, sCt_a, sRetN_a, aNil_a, tYesF_a, fnV, sSeq, sSet, sRet, sIf, sOwn, sDrop, sAsgG, sSetI, sLm, kApp, isLs, getL, putL, e1, e2, eVar, eC, opd, fzd, retd, kMod_i, kFdiv_i, kMinus_i, kNeg, kPow_i, kLt_i, kLe_i, kGt_i, kGe_i, aCons, oCons, eL, eCall, eLst, eLstH, eTup, eIf, eAnd, eOr, tVal, tTru, tAndF, tOrF, tNotF, truth, kIsN, kNotN, isN, gName', gTup', gsNil, gsCons, sRaise, eChain, kPlus_ii, kTimes_ii, kLen_l, kLen_o, kIx_t0, kIx_t1, kEq_ii, kIx_t2, -List.map_take, -List.map_drop, b_shortest, kIsi, tyD, kitB, sFor, itemsL, forL, h1, h2]
  · have h2 := hc.2.2 δ
    simp -implicitDefEqProofs [sNx_a, sBk_a, sCt_a, sRetN_a, aNil_a, tYesF_a, fnV, sSeq, sSet, sRet, sIf, sOwn, sDrop, sAsgG, sSetI, sLm, kApp, isLs, getL, putL, e1, e2, eVar, eC, opd, fzd, retd, kMod_i, kFdiv_i, kMinus_i, kNeg, kPow_i, kLt_i, kLe_i, kGt_i, kGe_i, aCons, oCons, eL, eCall, eLst, eLstH, eTup, eIf, eAnd, eOr, tVal, tTru, tAndF, tOrF, tNotF, truth, kIsN, kNotN, isN, gName', gTup', gsNil, gsCons, sRaise, eChain, kPlus_ii, kTimes_ii, kLen_l, kLen_o, kIx_t0, kIx_t1, kEq_ii, kIx_t2, -List.map_take, -List.map_drop, b_shortest, kIsi, tyD, kitB, sFor, itemsL, forL, h2]
theorem bk_eval {F : FF} (hF : IsTurned F) (y : List Str) (hy : ∀ s ∈ y, s ∈ STS) (hl : y.length ≤ 1000) (ρ : Pi.Env) (hρ : 6 < ρ.length) (hn : noOwnB ρ [6] = true) (f : FE) (δ : Sto) (h : f ρ δ = .ok (.lst (y.map D.str)) δ) :
    eLcRev [6] f (gName' 6) tYesF (eCall 1 F (aCons (eVar 6) aNil)) ρ δ = .ok (.own ((y.reverse.map turnS).map D.str)) δ := by
  have q := lc_turned hF 6 (wipeE ρ [6]) (by rw [wipeE_len]; exact hρ) y.reverse (fun s hs => hy s (List.mem_reverse.mp hs)) (by simpa using hl) δ
  rw [List.map_reverse] at q
  unfold eLcRev
  rw [h]
  simp only [Out.bind_ok, opd]
  unfold eLcL
  rw [if_pos hn, q]
  rfl
theorem law_eval (ns : List Int) (Fn Fl Fsh Fls Fw Ft : FF) (dr0 dr1 dr2 o1 o2 o3 o4 o5 o6 o7 o8 : Ob) (nums : List D) (x y z : List D) (tx ty : Str) (kk : List D)
    (e0 : dr0 = .lst [.lst nums, .int 0])
    (hn : Fn [.scr ns] [] = .ok (.own nums) [])
    (l1 : Fl [.hnd 0] [dr0] = .ok (.own x) [dr1])
    (s1 : Fsh [.lst x] [dr1] = .ok (.str tx) [dr1, o1])
    (ls1 : Fls [.lst x] [dr1, o1] = .ok (.str tx) [dr1, o1, o2])
    (l2 : Fl [.hnd 0] [dr1, o1, o2] = .ok (.own y) [dr2, o1, o2])
    (ls2 : Fls [.lst x] [dr2, o1, o2] = .ok (.str tx) [dr2, o1, o2, o3])
    (ls3 : Fls [.lst y] [dr2, o1, o2, o3] = .ok (.str ty) [dr2, o1, o2, o3, o4])
    (w1 : Fw [.lst [.lst x, .lst y], .str "round"] [dr2, o1, o2, o3, o4] = .ok (.own [.str tx, .str ty]) [dr2, o1, o2, o3, o4, o5, o6])
    (bk : ∀ ρ : Pi.Env, 6 < ρ.length → noOwnB ρ [6] = true → ∀ (f : FE) δ, f ρ δ = .ok (.lst y) δ → eLcRev [6] f (gName' 6) tYesF (eCall 1 Ft (aCons (eVar 6) aNil)) ρ δ = .ok (.own z) δ)
    (w2 : Fw [.lst [.lst x, .lst z], .str "flat"] [dr2, o1, o2, o3, o4, o5, o6] = .ok (.own [.str tx, .str ty]) [dr2, o1, o2, o3, o4, o5, o6, o7, o8])
    (ne : ∀ δ, kNe (.own [.str tx, .str ty]) (.lst [.str tx, .str ty]) δ = .ok (.bl false) δ)
    (k61 : ∀ δ, kTimes (.own [.str "k"]) (.int 61) δ = .ok (.own kk) δ) (hb : IsBad Fsh kk) :
    fnV 7 (b_law Fn Fl Fsh Fls Fw Ft) [.scr ns] [] = .ok (.bl true) [dr2, o1, o2, o3, o4, o5, o6, o7, o8] := by
  obtain ⟨b1, b2, b3, b4, b5, b6⟩ := hb
  have sa : subE "BadArgument" "BadArgument" = some true := by decide +kernel
  have sb : subE "BadPattern" "BadPattern" = some true := by decide +kernel
  have i1 : ∀ δ, kIx (.lst [.lst x, .lst y]) (.int 1) δ = .ok (.lst y) δ := fun δ => rfl
  have kl : ∀ δ, kList [.lst x] δ = .ok (.own x) δ := fun δ => rfl
  have hbk := bk [some (.scr ns), some (.hnd 0), some (.lst x), some (.lst [.lst x, .lst y]), some (.lst [.str tx, .str ty]), none, none, none] (by simp) rfl (e2 kIx (eVar 3) (eC (.int 1))) [dr2, o1, o2, o3, o4, o5, o6] rfl
  rw [e0] at l1
  simp -implicitDefEqProofs [sNx_a, sBk_a, sCt_a, sRetN_a, aNil_a, tYesF_a, fnV, sSeq, sSet, sRet, sIf, sOwn, sDrop, sAsgG, sSetI, sLm, kApp, isLs, getL, putL, e1, e2, eVar, eC, opd, fzd, retd, kMod_i, kFdiv_i, kMinus_i, kNeg, kPow_i, kLt_i, kLe_i, kGt_i, kGe_i, aCons, oCons, eL, eCall, eLst, eLstH, eTup, eIf, eAnd, eOr, tVal, tTru, tAndF, tOrF, tNotF, truth, kIsN, kNotN, isN, gName', gTup', gsNil, gsCons, sRaise, eChain, kPlus_ii, kTimes_ii, kLen_l, kLen_o, kIx_t0, kIx_t1, kEq_ii, kIx_t2, -List.map_take, -List.map_drop, b_law, hn, l1, kl, s1, ls1, kNe_ss, l2, i1, ls2, ls3, w1, ne, hbk, w2, sFor, itemsL, forL, sTry, handle, k61, b1, b2, b3, b4, b5, b6, sa, sb]
theorem law_plain : ∀ ns : List Int, ns.length ≤ 63 → ∃ δ, F_law [.scr ns] [] = .ok (.bl true) δ := by
  intro ns hns
  have hmx : IsMixed F__law_mixed := mixed_ok
  have hnum : IsNumbers F__law_numbers := numbers_ok hmx
  have hdr : IsDraw F__law_draw := draw_ok hmx
  have hst : IsStitch F__law_stitch := stitch_ok hdr
  have hli : IsList F__law_list := list_ok hdr hst
  have hcr : IsCross F_is_cross := cross_ok
  have hss : IsSt F_is_stitch := stitchq_ok hcr
  have hck : IsCheck F_check_stitch := check_ok hss
  have hsh : IsSh F_shortest := sh_ok hck
  have hls : IsLS F__law_shortest := ls_ok fun x f => pieces_ok f
  have htu : IsTurned F_turned := turned_ok hck other_ok
  have hlt : IsTurned F__law_turned := lturned_ok
  have hwr : IsWr F_written := wr_ok (chart_ok hck) way_ok hsh (face_ok htu)
  have hbad : IsBad F_shortest (List.replicate 61 (.str "k")) := bad_ok hck (fun d hd => (List.mem_replicate.mp hd).2) (List.length_replicate ..)
  obtain ⟨ms, hn⟩ := hnum ns [] hns
  obtain ⟨x, a1, fx, hx, l1⟩ := hli ms 0 []
  obtain ⟨o1, s1⟩ := hsh x [dr ms a1] fx hx
  obtain ⟨o2, ls1⟩ := hls x [dr ms a1, o1] fx hx
  obtain ⟨y, a2, fy, hy, l2⟩ := hli ms a1 [o1, o2]
  obtain ⟨o3, ls2⟩ := hls x [dr ms a2, o1, o2] fx hx
  obtain ⟨o4, ls3⟩ := hls y [dr ms a2, o1, o2, o3] fy hy
  obtain ⟨⟨o5, o6, w1⟩, _⟩ := hwr x y [dr ms a2, o1, o2, o3, o4] fx hx fy hy
  obtain ⟨_, ⟨o7, o8, w2⟩⟩ := hwr x y [dr ms a2, o1, o2, o3, o4, o5, o6] fx hx fy hy
  have gx := good_of fx hx
  have gy := good_of fy hy
  have okt : ∀ t ∈ [(B x).2, (B y).2], PyData.strOk t = true := by
    intro t ht
    rcases List.mem_cons.mp ht with e | ht
    · rw [e]; exact gx.2
    · rw [List.mem_singleton.mp ht]; exact gy.2
  exact ⟨_, law_eval ns F__law_numbers F__law_list F_shortest F__law_shortest F_written F__law_turned (dr ms 0) (dr ms a1) (dr ms a2) o1 o2 o3 o4 o5 o6 o7 o8 (ms.map D.int) (x.map D.str) (y.map D.str) ((y.reverse.map turnS).map D.str) (B x).2 (B y).2 (List.replicate 61 (.str "k"))
    rfl hn l1 s1 ls1 l2 ls2 ls3 w1 (fun ρ h1 h2 f δ h => bk_eval hlt y fy.st (by have := fy.len; omega) ρ h1 h2 f δ h) w2
    (fun δ => by
      have q := kNe_strs (d := .own ([(B x).2, (B y).2].map D.str)) (e := .lst ([(B x).2, (B y).2].map D.str)) (δ := δ) rfl okt okt rfl rfl
      rw [decide_eq_true rfl] at q
      exact q)
    (fun δ => by
      have q := kTimes_l [.str "k"] 61 δ (by decide) (by decide)
      rw [flat_one] at q
      exact q) hbad⟩
end Gk
namespace Gk
open PySem L2 Pi RT
def caF (C0 C1 A0 : Addr) (n : Str) : Addr := if n = "BadArgument" then C0 else if n = "BadPattern" then C1 else if n = "KINDS" then A0 else 0
theorem ca_C0 (C0 C1 A0 : Addr) : caF C0 C1 A0 "BadArgument" = C0 := if_pos rfl
theorem ca_C1 (C0 C1 A0 : Addr) : caF C0 C1 A0 "BadPattern" = C1 := (if_neg (by decide +kernel)).trans (if_pos rfl)
theorem ca_A0 (C0 C1 A0 : Addr) : caF C0 C1 A0 "KINDS" = A0 := (if_neg (by decide +kernel)).trans ((if_neg (by decide +kernel)).trans (if_pos rfl))
theorem kit_own {K : PySem.W.Frag} {C D : Addr} {k : Bool} (h1 : PySem.W.subIn K (.ref C) (.type "BaseException") = some true) (h2 : PySem.W.isClsIn K D = true) (h3 : PySem.W.typeIn K (.ref D) = some (.type "type")) (h4 : PySem.W.subIn K (.ref C) (.ref D) = some k) (h6 : PySem.W.subIn K (.ref D) (.type "BaseException") = some true) :
    PySem.W.exmOne K (.ref C) (.ref D) = some k := by
  have h5 : (PySem.W.clsIn K D).isSome = true := h2
  unfold PySem.W.exmOne PySem.W.kitCls
  simp [h1, h3, h4, h5, h6]
theorem all_mk {P : Program} {w : World} {K : PySem.W.Frag} {h : Heap} {mg : Str → Option Value} {fa : Addr} {C0 C1 A0 f0 f1 f2 f3 f4 f5 f6 f7 f8 f9 f10 f11 f12 f13 f14 f15 f16 f17 f18 f19 f20 f21 : Addr} {od0 an0 od1 an1 od2 an2 od3 an3 od4 an4 od5 an5 od6 an6 od7 an7 od8 an8 od9 an9 od10 an10 od11 an11 od12 an12 od13 an13 od14 an14 od15 an15 od16 an16 od17 an17 od18 an18 od19 an19 od20 an20 od21 an21 : Option Addr} {sl0 sl1 sl2 sl3 sl4 sl5 sl6 sl7 sl8 sl9 sl10 sl11 sl12 sl13 sl14 sl15 sl16 sl17 sl18 sl19 sl20 sl21 : Array (Option Value)} {oc0 kV0 dc0 pm0 cd0 ct0 oc1 kV1 dc1 pm1 cd1 ct1 oc2 kV2 dc2 pm2 cd2 ct2 oc3 kV3 dc3 pm3 cd3 ct3 oc4 kV4 dc4 pm4 cd4 ct4 oc5 kV5 dc5 pm5 cd5 ct5 oc6 kV6 dc6 pm6 cd6 ct6 oc7 kV7 dc7 pm7 cd7 ct7 oc8 kV8 dc8 pm8 cd8 ct8 oc9 kV9 dc9 pm9 cd9 ct9 oc10 kV10 dc10 pm10 cd10 ct10 oc11 kV11 dc11 pm11 cd11 ct11 oc12 kV12 dc12 pm12 cd12 ct12 oc13 kV13 dc13 pm13 cd13 ct13 oc14 kV14 dc14 pm14 cd14 ct14 oc15 kV15 dc15 pm15 cd15 ct15 oc16 kV16 dc16 pm16 cd16 ct16 oc17 kV17 dc17 pm17 cd17 ct17 oc18 kV18 dc18 pm18 cd18 ct18 oc19 kV19 dc19 pm19 cd19 ct19 oc20 kV20 dc20 pm20 cd20 ct20 oc21 kV21 dc21 pm21 cd21 ct21 : Value} (X : K.In h) (G : h.Ns mainGlobals mg) (hfa : mg "law" = some (.ref fa))
    (n_int : PySem.W.nsIn K mainGlobals "int" = some none)
    (n_isinstance : PySem.W.nsIn K mainGlobals "isinstance" = some none)
    (n_len : PySem.W.nsIn K mainGlobals "len" = some none)
    (n_list : PySem.W.nsIn K mainGlobals "list" = some none)
    (n_min : PySem.W.nsIn K mainGlobals "min" = some none)
    (n_range : PySem.W.nsIn K mainGlobals "range" = some none)
    (n_reversed : PySem.W.nsIn K mainGlobals "reversed" = some none)
    (n_str : PySem.W.nsIn K mainGlobals "str" = some none)
    (n_tuple : PySem.W.nsIn K mainGlobals "tuple" = some none)
    (aC0 : PySem.W.nsIn K mainGlobals "BadArgument" = some (some (.ref C0)))
    (xC0 : PySem.W.excIn K C0 [.type "ValueError", .type "Exception", .type "BaseException", .type "object"] "ValueError.__new__" = true)
    (kC0 : PySem.W.keepIn K (.ref C0) = true)
    (bC0 : PySem.W.subIn K (.ref C0) (.type "BaseException") = some true)
    (tC0 : PySem.W.typeIn K (.ref C0) = some (.type "type"))
    (iC0 : PySem.W.isClsIn K C0 = true)
    (aC1 : PySem.W.nsIn K mainGlobals "BadPattern" = some (some (.ref C1)))
    (xC1 : PySem.W.excIn K C1 [.type "ValueError", .type "Exception", .type "BaseException", .type "object"] "ValueError.__new__" = true)
    (kC1 : PySem.W.keepIn K (.ref C1) = true)
    (bC1 : PySem.W.subIn K (.ref C1) (.type "BaseException") = some true)
    (tC1 : PySem.W.typeIn K (.ref C1) = some (.type "type"))
    (iC1 : PySem.W.isClsIn K C1 = true)
    (sC0_0 : PySem.W.subIn K (.ref C0) (.ref C0) = some true)
    (sC0_1 : PySem.W.subIn K (.ref C0) (.ref C1) = some false)
    (sC1_0 : PySem.W.subIn K (.ref C1) (.ref C0) = some false)
    (sC1_1 : PySem.W.subIn K (.ref C1) (.ref C1) = some true)
    (aA0 : PySem.W.nsIn K mainGlobals "KINDS" = some (some (.ref A0)))
    (kA0 : KTab ⟨K, caF C0 C1 A0⟩ w A0 tbl_KINDS)
    (a0 : PySem.W.nsIn K mainGlobals "_law_mixed" = some (some (.ref f0)))
    (l0 : K.lookup f0 = some ⟨oc0, od0, .func (PySem.W.fnOf "_law_mixed" "_law_mixed" (defArgs s__law_mixed) (defBody s__law_mixed) (defScope s__law_mixed) .none kV0 dc0 pm0 an0 cd0 ct0), sl0⟩)
    (c0 : PySem.W.codeIn K cd0 "_law_mixed" = true)
    (k0 : PySem.W.keepIn K (.ref f0) = true)
    (a1 : PySem.W.nsIn K mainGlobals "_law_numbers" = some (some (.ref f1)))
    (l1 : K.lookup f1 = some ⟨oc1, od1, .func (PySem.W.fnOf "_law_numbers" "_law_numbers" (defArgs s__law_numbers) (defBody s__law_numbers) (defScope s__law_numbers) .none kV1 dc1 pm1 an1 cd1 ct1), sl1⟩)
    (c1 : PySem.W.codeIn K cd1 "_law_numbers" = true)
    (k1 : PySem.W.keepIn K (.ref f1) = true)
    (a2 : PySem.W.nsIn K mainGlobals "_law_draw" = some (some (.ref f2)))
    (l2 : K.lookup f2 = some ⟨oc2, od2, .func (PySem.W.fnOf "_law_draw" "_law_draw" (defArgs s__law_draw) (defBody s__law_draw) (defScope s__law_draw) .none kV2 dc2 pm2 an2 cd2 ct2), sl2⟩)
    (c2 : PySem.W.codeIn K cd2 "_law_draw" = true)
    (k2 : PySem.W.keepIn K (.ref f2) = true)
    (a3 : PySem.W.nsIn K mainGlobals "_law_stitch" = some (some (.ref f3)))
    (l3 : K.lookup f3 = some ⟨oc3, od3, .func (PySem.W.fnOf "_law_stitch" "_law_stitch" (defArgs s__law_stitch) (defBody s__law_stitch) (defScope s__law_stitch) .none kV3 dc3 pm3 an3 cd3 ct3), sl3⟩)
    (c3 : PySem.W.codeIn K cd3 "_law_stitch" = true)
    (k3 : PySem.W.keepIn K (.ref f3) = true)
    (a4 : PySem.W.nsIn K mainGlobals "_law_list" = some (some (.ref f4)))
    (l4 : K.lookup f4 = some ⟨oc4, od4, .func (PySem.W.fnOf "_law_list" "_law_list" (defArgs s__law_list) (defBody s__law_list) (defScope s__law_list) .none kV4 dc4 pm4 an4 cd4 ct4), sl4⟩)
    (c4 : PySem.W.codeIn K cd4 "_law_list" = true)
    (k4 : PySem.W.keepIn K (.ref f4) = true)
    (a5 : PySem.W.nsIn K mainGlobals "is_cross" = some (some (.ref f5)))
    (l5 : K.lookup f5 = some ⟨oc5, od5, .func (PySem.W.fnOf "is_cross" "is_cross" (defArgs s_is_cross) (defBody s_is_cross) (defScope s_is_cross) .none kV5 dc5 pm5 an5 cd5 ct5), sl5⟩)
    (c5 : PySem.W.codeIn K cd5 "is_cross" = true)
    (k5 : PySem.W.keepIn K (.ref f5) = true)
    (a6 : PySem.W.nsIn K mainGlobals "is_stitch" = some (some (.ref f6)))
    (l6 : K.lookup f6 = some ⟨oc6, od6, .func (PySem.W.fnOf "is_stitch" "is_stitch" (defArgs s_is_stitch) (defBody s_is_stitch) (defScope s_is_stitch) .none kV6 dc6 pm6 an6 cd6 ct6), sl6⟩)
    (c6 : PySem.W.codeIn K cd6 "is_stitch" = true)
    (k6 : PySem.W.keepIn K (.ref f6) = true)
    (a7 : PySem.W.nsIn K mainGlobals "check_stitch" = some (some (.ref f7)))
    (l7 : K.lookup f7 = some ⟨oc7, od7, .func (PySem.W.fnOf "check_stitch" "check_stitch" (defArgs s_check_stitch) (defBody s_check_stitch) (defScope s_check_stitch) .none kV7 dc7 pm7 an7 cd7 ct7), sl7⟩)
    (c7 : PySem.W.codeIn K cd7 "check_stitch" = true)
    (k7 : PySem.W.keepIn K (.ref f7) = true)
    (a8 : PySem.W.nsIn K mainGlobals "best_text" = some (some (.ref f8)))
    (l8 : K.lookup f8 = some ⟨oc8, od8, .func (PySem.W.fnOf "best_text" "best_text" (defArgs s_best_text) (defBody s_best_text) (defScope s_best_text) .none kV8 dc8 pm8 an8 cd8 ct8), sl8⟩)
    (c8 : PySem.W.codeIn K cd8 "best_text" = true)
    (k8 : PySem.W.keepIn K (.ref f8) = true)
    (a9 : PySem.W.nsIn K mainGlobals "first_items" = some (some (.ref f9)))
    (l9 : K.lookup f9 = some ⟨oc9, od9, .func (PySem.W.fnOf "first_items" "first_items" (defArgs s_first_items) (defBody s_first_items) (defScope s_first_items) .none kV9 dc9 pm9 an9 cd9 ct9), sl9⟩)
    (c9 : PySem.W.codeIn K cd9 "first_items" = true)
    (k9 : PySem.W.keepIn K (.ref f9) = true)
    (a10 : PySem.W.nsIn K mainGlobals "shortest" = some (some (.ref f10)))
    (l10 : K.lookup f10 = some ⟨oc10, od10, .func (PySem.W.fnOf "shortest" "shortest" (defArgs s_shortest) (defBody s_shortest) (defScope s_shortest) .none kV10 dc10 pm10 an10 cd10 ct10), sl10⟩)
    (c10 : PySem.W.codeIn K cd10 "shortest" = true)
    (k10 : PySem.W.keepIn K (.ref f10) = true)
    (a11 : PySem.W.nsIn K mainGlobals "_law_pieces" = some (some (.ref f11)))
    (l11 : K.lookup f11 = some ⟨oc11, od11, .func (PySem.W.fnOf "_law_pieces" "_law_pieces" (defArgs s__law_pieces) (defBody s__law_pieces) (defScope s__law_pieces) .none kV11 dc11 pm11 an11 cd11 ct11), sl11⟩)
    (c11 : PySem.W.codeIn K cd11 "_law_pieces" = true)
    (k11 : PySem.W.keepIn K (.ref f11) = true)
    (a12 : PySem.W.nsIn K mainGlobals "_law_shortest" = some (some (.ref f12)))
    (l12 : K.lookup f12 = some ⟨oc12, od12, .func (PySem.W.fnOf "_law_shortest" "_law_shortest" (defArgs s__law_shortest) (defBody s__law_shortest) (defScope s__law_shortest) .none kV12 dc12 pm12 an12 cd12 ct12), sl12⟩)
    (c12 : PySem.W.codeIn K cd12 "_law_shortest" = true)
    (k12 : PySem.W.keepIn K (.ref f12) = true)
    (a13 : PySem.W.nsIn K mainGlobals "check_chart" = some (some (.ref f13)))
    (l13 : K.lookup f13 = some ⟨oc13, od13, .func (PySem.W.fnOf "check_chart" "check_chart" (defArgs s_check_chart) (defBody s_check_chart) (defScope s_check_chart) .none kV13 dc13 pm13 an13 cd13 ct13), sl13⟩)
    (c13 : PySem.W.codeIn K cd13 "check_chart" = true)
    (k13 : PySem.W.keepIn K (.ref f13) = true)
    (a14 : PySem.W.nsIn K mainGlobals "check_way" = some (some (.ref f14)))
    (l14 : K.lookup f14 = some ⟨oc14, od14, .func (PySem.W.fnOf "check_way" "check_way" (defArgs s_check_way) (defBody s_check_way) (defScope s_check_way) .none kV14 dc14 pm14 an14 cd14 ct14), sl14⟩)
    (c14 : PySem.W.codeIn K cd14 "check_way" = true)
    (k14 : PySem.W.keepIn K (.ref f14) = true)
    (a15 : PySem.W.nsIn K mainGlobals "other_side" = some (some (.ref f15)))
    (l15 : K.lookup f15 = some ⟨oc15, od15, .func (PySem.W.fnOf "other_side" "other_side" (defArgs s_other_side) (defBody s_other_side) (defScope s_other_side) .none kV15 dc15 pm15 an15 cd15 ct15), sl15⟩)
    (c15 : PySem.W.codeIn K cd15 "other_side" = true)
    (k15 : PySem.W.keepIn K (.ref f15) = true)
    (a16 : PySem.W.nsIn K mainGlobals "turned" = some (some (.ref f16)))
    (l16 : K.lookup f16 = some ⟨oc16, od16, .func (PySem.W.fnOf "turned" "turned" (defArgs s_turned) (defBody s_turned) (defScope s_turned) .none kV16 dc16 pm16 an16 cd16 ct16), sl16⟩)
    (c16 : PySem.W.codeIn K cd16 "turned" = true)
    (k16 : PySem.W.keepIn K (.ref f16) = true)
    (a17 : PySem.W.nsIn K mainGlobals "on_face" = some (some (.ref f17)))
    (l17 : K.lookup f17 = some ⟨oc17, od17, .func (PySem.W.fnOf "on_face" "on_face" (defArgs s_on_face) (defBody s_on_face) (defScope s_on_face) .none kV17 dc17 pm17 an17 cd17 ct17), sl17⟩)
    (c17 : PySem.W.codeIn K cd17 "on_face" = true)
    (k17 : PySem.W.keepIn K (.ref f17) = true)
    (a18 : PySem.W.nsIn K mainGlobals "written" = some (some (.ref f18)))
    (l18 : K.lookup f18 = some ⟨oc18, od18, .func (PySem.W.fnOf "written" "written" (defArgs s_written) (defBody s_written) (defScope s_written) .none kV18 dc18 pm18 an18 cd18 ct18), sl18⟩)
    (c18 : PySem.W.codeIn K cd18 "written" = true)
    (k18 : PySem.W.keepIn K (.ref f18) = true)
    (a19 : PySem.W.nsIn K mainGlobals "_law_table" = some (some (.ref f19)))
    (l19 : K.lookup f19 = some ⟨oc19, od19, .func (PySem.W.fnOf "_law_table" "_law_table" (defArgs s__law_table) (defBody s__law_table) (defScope s__law_table) .none kV19 dc19 pm19 an19 cd19 ct19), sl19⟩)
    (c19 : PySem.W.codeIn K cd19 "_law_table" = true)
    (k19 : PySem.W.keepIn K (.ref f19) = true)
    (a20 : PySem.W.nsIn K mainGlobals "_law_turned" = some (some (.ref f20)))
    (l20 : K.lookup f20 = some ⟨oc20, od20, .func (PySem.W.fnOf "_law_turned" "_law_turned" (defArgs s__law_turned) (defBody s__law_turned) (defScope s__law_turned) .none kV20 dc20 pm20 an20 cd20 ct20), sl20⟩)
    (c20 : PySem.W.codeIn K cd20 "_law_turned" = true)
    (k20 : PySem.W.keepIn K (.ref f20) = true)
    (a21 : PySem.W.nsIn K mainGlobals "law" = some (some (.ref f21)))
    (l21 : K.lookup f21 = some ⟨oc21, od21, .func (PySem.W.fnOf "law" "law" (defArgs s_law) (defBody s_law) (defScope s_law) .none kV21 dc21 pm21 an21 cd21 ct21), sl21⟩)
    (c21 : PySem.W.codeIn K cd21 "law" = true)
    (k21 : PySem.W.keepIn K (.ref f21) = true)
    (pl : ∀ ns : List Int, ns.length ≤ 63 → ∃ δ, F_law [.scr ns] [] = .ok (.bl true) δ) :
    ∃ fd : FuncData, (∀ (s : Shared) (u : Value), BindsTo s fd ⟨[u], []⟩ [("script", u)]) ∧ ∀ base : Heap, K.In base → base.Ns mainGlobals mg → FnOk P w K mg base (L2.CX P w) 103 fa fd ["script"] (spLaw K) := by
  have e := hfa.symm.trans (PySem.W.mg_of X G a21)
  cases e
  have F0 := fun_mk (st := s__law_mixed) l0 c0 k0
  have b0 := F0.binds (ps := ["number", "k"]) fun _ _ _ _ _ _ us hl => match us, hl with | [_, _], _ => rfl
  have F1 := fun_mk (st := s__law_numbers) l1 c1 k1
  have b1 := F1.binds (ps := ["script"]) fun _ _ _ _ _ _ us hl => match us, hl with | [_], _ => rfl
  have F2 := fun_mk (st := s__law_draw) l2 c2 k2
  have b2 := F2.binds (ps := ["draws", "many"]) fun _ _ _ _ _ _ us hl => match us, hl with | [_, _], _ => rfl
  have F3 := fun_mk (st := s__law_stitch) l3 c3 k3
  have b3 := F3.binds (ps := ["draws"]) fun _ _ _ _ _ _ us hl => match us, hl with | [_], _ => rfl
  have F4 := fun_mk (st := s__law_list) l4 c4 k4
  have b4 := F4.binds (ps := ["draws"]) fun _ _ _ _ _ _ us hl => match us, hl with | [_], _ => rfl
  have F5 := fun_mk (st := s_is_cross) l5 c5 k5
  have b5 := F5.binds (ps := ["word"]) fun _ _ _ _ _ _ us hl => match us, hl with | [_], _ => rfl
  have F6 := fun_mk (st := s_is_stitch) l6 c6 k6
  have b6 := F6.binds (ps := ["word"]) fun _ _ _ _ _ _ us hl => match us, hl with | [_], _ => rfl
  have F7 := fun_mk (st := s_check_stitch) l7 c7 k7
  have b7 := F7.binds (ps := ["stitch"]) fun _ _ _ _ _ _ us hl => match us, hl with | [_], _ => rfl
  have F8 := fun_mk (st := s_best_text) l8 c8 k8
  have b8 := F8.binds (ps := ["stitches", "known"]) fun _ _ _ _ _ _ us hl => match us, hl with | [_, _], _ => rfl
  have F9 := fun_mk (st := s_first_items) l9 c9 k9
  have b9 := F9.binds (ps := ["stitches", "known"]) fun _ _ _ _ _ _ us hl => match us, hl with | [_, _], _ => rfl
  have F10 := fun_mk (st := s_shortest) l10 c10 k10
  have b10 := F10.binds (ps := ["stitches"]) fun _ _ _ _ _ _ us hl => match us, hl with | [_], _ => rfl
  have F11 := fun_mk (st := s__law_pieces) l11 c11 k11
  have b11 := F11.binds (ps := ["stitches", "i", "j", "best"]) fun _ _ _ _ _ _ us hl => match us, hl with | [_, _, _, _], _ => rfl
  have F12 := fun_mk (st := s__law_shortest) l12 c12 k12
  have b12 := F12.binds (ps := ["stitches"]) fun _ _ _ _ _ _ us hl => match us, hl with | [_], _ => rfl
  have F13 := fun_mk (st := s_check_chart) l13 c13 k13
  have b13 := F13.binds (ps := ["value", "least", "most"]) fun _ _ _ _ _ _ us hl => match us, hl with | [_, _, _], _ => rfl
  have F14 := fun_mk (st := s_check_way) l14 c14 k14
  have b14 := F14.binds (ps := ["way"]) fun _ _ _ _ _ _ us hl => match us, hl with | [_], _ => rfl
  have F15 := fun_mk (st := s_other_side) l15 c15 k15
  have b15 := F15.binds (ps := ["stitch"]) fun _ _ _ _ _ _ us hl => match us, hl with | [_], _ => rfl
  have F16 := fun_mk (st := s_turned) l16 c16 k16
  have b16 := F16.binds (ps := ["stitch"]) fun _ _ _ _ _ _ us hl => match us, hl with | [_], _ => rfl
  have F17 := fun_mk (st := s_on_face) l17 c17 k17
  have b17 := F17.binds (ps := ["row", "i", "way"]) fun _ _ _ _ _ _ us hl => match us, hl with | [_, _, _], _ => rfl
  have F18 := fun_mk (st := s_written) l18 c18 k18
  have b18 := F18.binds (ps := ["value", "way"]) fun _ _ _ _ _ _ us hl => match us, hl with | [_, _], _ => rfl
  have F19 := fun_mk (st := s__law_table) l19 c19 k19
  have b19 := F19.binds (ps := []) fun _ _ _ _ _ _ us hl => match us, hl with | [], _ => rfl
  have F20 := fun_mk (st := s__law_turned) l20 c20 k20
  have b20 := F20.binds (ps := ["stitch"]) fun _ _ _ _ _ _ us hl => match us, hl with | [_], _ => rfl
  have F21 := fun_mk (st := s_law) l21 c21 k21
  have b21 := F21.binds (ps := ["script"]) fun _ _ _ _ _ _ us hl => match us, hl with | [_], _ => rfl
  have sub : SubOk ⟨K, caF C0 C1 A0⟩ subE := by
    intro e n k h
    unfold subE at h
    split at h
    · rename_i q; obtain ⟨rfl, rfl⟩ := q; cases h; show PySem.W.exmOne K (.ref (caF C0 C1 A0 "BadArgument")) (.ref (caF C0 C1 A0 "BadArgument")) = _; rw [ca_C0]; exact kit_own bC0 iC0 tC0 sC0_0 bC0
    split at h
    · rename_i q; obtain ⟨rfl, rfl⟩ := q; cases h; show PySem.W.exmOne K (.ref (caF C0 C1 A0 "BadArgument")) (.ref (caF C0 C1 A0 "BadPattern")) = _; rw [ca_C0, ca_C1]; exact kit_own bC0 iC1 tC1 sC0_1 bC1
    split at h
    · rename_i q; obtain ⟨rfl, rfl⟩ := q; cases h; show PySem.W.exmOne K (.ref (caF C0 C1 A0 "BadPattern")) (.ref (caF C0 C1 A0 "BadArgument")) = _; rw [ca_C1, ca_C0]; exact kit_own bC1 iC0 tC0 sC1_0 bC0
    split at h
    · rename_i q; obtain ⟨rfl, rfl⟩ := q; cases h; show PySem.W.exmOne K (.ref (caF C0 C1 A0 "BadPattern")) (.ref (caF C0 C1 A0 "BadPattern")) = _; rw [ca_C1]; exact kit_own bC1 iC1 tC1 sC1_1 bC1
    cases h
  have T : Txt P w K mg (caF C0 C1 A0) :=
    { n_int := PySem.W.mg_none_of X G n_int
      n_isinstance := PySem.W.mg_none_of X G n_isinstance
      n_len := PySem.W.mg_none_of X G n_len
      n_list := PySem.W.mg_none_of X G n_list
      n_min := PySem.W.mg_none_of X G n_min
      n_range := PySem.W.mg_none_of X G n_range
      n_reversed := PySem.W.mg_none_of X G n_reversed
      n_str := PySem.W.mg_none_of X G n_str
      n_tuple := PySem.W.mg_none_of X G n_tuple
      g_KINDS := by rw [ca_A0]; exact PySem.W.mg_of X G aA0
      k_KINDS := by rw [ca_A0]; exact kA0
      e_BadArgument := by rw [ca_C0]; exact ⟨xC0, PySem.W.mg_of X G aC0, kC0, bC0, tC0⟩
      e_BadPattern := by rw [ca_C1]; exact ⟨xC1, PySem.W.mg_of X G aC1, kC1, bC1, tC1⟩
      sub := sub
      f__law_mixed := ⟨_, _, PySem.W.mg_of X G a0, F0, b0⟩
      f__law_numbers := ⟨_, _, PySem.W.mg_of X G a1, F1, b1⟩
      f__law_draw := ⟨_, _, PySem.W.mg_of X G a2, F2, b2⟩
      f__law_stitch := ⟨_, _, PySem.W.mg_of X G a3, F3, b3⟩
      f__law_list := ⟨_, _, PySem.W.mg_of X G a4, F4, b4⟩
      f_is_cross := ⟨_, _, PySem.W.mg_of X G a5, F5, b5⟩
      f_is_stitch := ⟨_, _, PySem.W.mg_of X G a6, F6, b6⟩
      f_check_stitch := ⟨_, _, PySem.W.mg_of X G a7, F7, b7⟩
      f_best_text := ⟨_, _, PySem.W.mg_of X G a8, F8, b8⟩
      f_first_items := ⟨_, _, PySem.W.mg_of X G a9, F9, b9⟩
      f_shortest := ⟨_, _, PySem.W.mg_of X G a10, F10, b10⟩
      f__law_pieces := ⟨_, _, PySem.W.mg_of X G a11, F11, b11⟩
      f__law_shortest := ⟨_, _, PySem.W.mg_of X G a12, F12, b12⟩
      f_check_chart := ⟨_, _, PySem.W.mg_of X G a13, F13, b13⟩
      f_check_way := ⟨_, _, PySem.W.mg_of X G a14, F14, b14⟩
      f_other_side := ⟨_, _, PySem.W.mg_of X G a15, F15, b15⟩
      f_turned := ⟨_, _, PySem.W.mg_of X G a16, F16, b16⟩
      f_on_face := ⟨_, _, PySem.W.mg_of X G a17, F17, b17⟩
      f_written := ⟨_, _, PySem.W.mg_of X G a18, F18, b18⟩
      f__law_table := ⟨_, _, PySem.W.mg_of X G a19, F19, b19⟩
      f__law_turned := ⟨_, _, PySem.W.mg_of X G a20, F20, b20⟩
      f_law := ⟨_, _, PySem.W.mg_of X G a21, F21, b21⟩ }
  obtain ⟨f, fd, q1, q2, q3, q4⟩ := (ok_law (base := h) T).ex
  refine ⟨PySem.W.fnOf "law" "law" (defArgs s_law) (defBody s_law) (defScope s_law) .none kV21 dc21 pm21 an21 cd21 ct21, fun s u => .of_eq rfl, fun base _ _ => ?_⟩
  have D := ok_lawF (base := base) T F21
  exact D.imp (fun vs H Q E s => sp_law (c := ⟨K, caF C0 C1 A0⟩) pl s)
theorem tab_iis {K : PySem.W.Frag} {ca : Str → Addr} {hh : Int} {z s : Str} {a : Addr} {i j : Int} {t t1 t2 t3 : Tok} {n : Nat} {sl : Array (Option Value)} {dd : Option Addr} {es : List DictEntry} {tbl : List (Str × List D)} (lk : K.lookup a = some ⟨.type "tuple", dd, .seq #[.int i t1, .int j t2, .str s t3] n, sl⟩) (r : TabR ⟨K, ca⟩ es tbl) : TabR ⟨K, ca⟩ (⟨hh, .str z t, .ref a⟩ :: es) ((z, [.int i, .int j, .str s]) :: tbl) :=
  TabR.cons (xs := [.int i, .int j, .str s]) (.inr ⟨_, _, n, lk, rfl, rfl, Pi.le_line (n := 3) (by decide), (.cons ⟨_, rfl⟩ (.cons ⟨_, rfl⟩ (.cons ⟨_, rfl⟩ .nil)))⟩) (.cons (.int _) (.cons (.int _) (.cons (.str _) .nil))) r
theorem ktab_mk {K : PySem.W.Frag} {ca : Str → Addr} {w : World} {q : Addr} {tbl : List (Str × List D)} {es : Array DictEntry} {n : Nat} (lk : K.lookup q = some ⟨.type "dict", none, .dict es n, #[]⟩) (kl : PySem.W.KeysLit w.params es.toList) (lo : (q == sysModules) = false) (tr : TabR ⟨K, ca⟩ es.toList tbl) : KTab ⟨K, ca⟩ w q tbl := ⟨es, n, lk, kl, lo, tr⟩
theorem walk {l : PySem.W.OpenLaw} {q : Program} {loose : List Str} {XP : (Str → Option Value) → Heap → Prop} {YP : World → Heap → Prop} {d : DefRec} {K : Params → PySem.W.Frag} (hn : l.most = some 63) (hdf : d.params.defaults = [])
    (hY : ∀ (w : World) (h : Heap), YP w h → (K w.params).In h)
    (F : ∀ (w : World) (mg : Str → Option Value) (fa : Addr) (h : Heap), (K w.params).In h → h.Ns mainGlobals mg → mg d.name = some (.ref fa) →
      ∃ fd : FuncData, (∀ (s : Shared) (u : Value), BindsTo s fd ⟨[u], []⟩ [("script", u)]) ∧
        ∀ base : Heap, (K w.params).In base → base.Ns mainGlobals mg → FnOk l.prog w (K w.params) mg base (L2.CX l.prog w) 103 fa fd ["script"] (spLaw (K w.params))) :
    PySem.W.WalkO q loose XP YP l.row.toRowW d [] (fun f vs => PySem.call f vs) :=
  L2.walk_of (n := 63) (k := 103) (x := "script") (CX := fun w => L2.CX l.prog w) (sp := fun w => spLaw (K w.params)) hn (by decide) hdf ⟨rfl, by decide, by decide⟩ hY F (fun _ _ a ns hl _ hS => ⟨a, ns, rfl, hS, hl, fun _ => rfl⟩) fun _ _ _ _ _ z => cx_end z
end Gk
open PySem PySem.W PyProof.Rows
set_option maxRecDepth 100000 in
set_option maxHeartbeats 0 in
theorem PySem.Challenge.cw_everyloop_k45_shortest_texts_holds : PySem.Challenge.rw_everyloop_k45_shortest_texts.Holds := by
  w_on; o_law; k_head; (case hw => w_witness2)
  k_fill
  refine Gk.walk (l := PySem.Challenge.rw_everyloop_k45_shortest_texts) rfl rfl (fun w h Y => PySem.W.kIn_of Y) ?F
  case F =>
    intro w mg fa h KX G hmg
    refine' Gk.all_mk KX G hmg ?n_int ?n_isinstance ?n_len ?n_list ?n_min ?n_range ?n_reversed ?n_str ?n_tuple ?aC0 ?xC0 ?kC0 ?bC0 ?tC0 ?iC0 ?aC1 ?xC1 ?kC1 ?bC1 ?tC1 ?iC1 ?sC0_0 ?sC0_1 ?sC1_0 ?sC1_1 ?aA0 ?kA0 ?a0 ?l0 ?c0 ?k0 ?a1 ?l1 ?c1 ?k1 ?a2 ?l2 ?c2 ?k2 ?a3 ?l3 ?c3 ?k3 ?a4 ?l4 ?c4 ?k4 ?a5 ?l5 ?c5 ?k5 ?a6 ?l6 ?c6 ?k6 ?a7 ?l7 ?c7 ?k7 ?a8 ?l8 ?c8 ?k8 ?a9 ?l9 ?c9 ?k9 ?a10 ?l10 ?c10 ?k10 ?a11 ?l11 ?c11 ?k11 ?a12 ?l12 ?c12 ?k12 ?a13 ?l13 ?c13 ?k13 ?a14 ?l14 ?c14 ?k14 ?a15 ?l15 ?c15 ?k15 ?a16 ?l16 ?c16 ?k16 ?a17 ?l17 ?c17 ?k17 ?a18 ?l18 ?c18 ?k18 ?a19 ?l19 ?c19 ?k19 ?a20 ?l20 ?c20 ?k20 ?a21 ?l21 ?c21 ?k21 ?pl
    (case pl => exact Gk.law_plain)
    (case n_int => k_is)
    (case n_isinstance => k_is)
    (case n_len => k_is)
    (case n_list => k_is)
    (case n_min => k_is)
    (case n_range => k_is)
    (case n_reversed => k_is)
    (case n_str => k_is)
    (case n_tuple => k_is)
    (case aC0 => k_is)
    (case kC0 => k_is)
    (case bC0 => k_is)
    (case tC0 => k_is)
    (case iC0 => k_is)
    (case aC1 => k_is)
    (case kC1 => k_is)
    (case bC1 => k_is)
    (case tC1 => k_is)
    (case iC1 => k_is)
    (case sC0_0 => k_is)
    (case sC0_1 => k_is)
    (case sC1_0 => k_is)
    (case sC1_1 => k_is)
    (case aA0 => k_is)
    (case a0 => k_is)
    (case l0 => k_is)
    (case c0 => k_is)
    (case k0 => k_is)
    (case a1 => k_is)
    (case l1 => k_is)
    (case c1 => k_is)
    (case k1 => k_is)
    (case a2 => k_is)
    (case l2 => k_is)
    (case c2 => k_is)
    (case k2 => k_is)
    (case a3 => k_is)
    (case l3 => k_is)
    (case c3 => k_is)
    (case k3 => k_is)
    (case a4 => k_is)
    (case l4 => k_is)
    (case c4 => k_is)
    (case k4 => k_is)
    (case a5 => k_is)
    (case l5 => k_is)
    (case c5 => k_is)
    (case k5 => k_is)
    (case a6 => k_is)
    (case l6 => k_is)
    (case c6 => k_is)
    (case k6 => k_is)
    (case a7 => k_is)
    (case l7 => k_is)
    (case c7 => k_is)
    (case k7 => k_is)
    (case a8 => k_is)
    (case l8 => k_is)
    (case c8 => k_is)
    (case k8 => k_is)
    (case a9 => k_is)
    (case l9 => k_is)
    (case c9 => k_is)
    (case k9 => k_is)
    (case a10 => k_is)
    (case l10 => k_is)
    (case c10 => k_is)
    (case k10 => k_is)
    (case a11 => k_is)
    (case l11 => k_is)
    (case c11 => k_is)
    (case k11 => k_is)
    (case a12 => k_is)
    (case l12 => k_is)
    (case c12 => k_is)
    (case k12 => k_is)
    (case a13 => k_is)
    (case l13 => k_is)
    (case c13 => k_is)
    (case k13 => k_is)
    (case a14 => k_is)
    (case l14 => k_is)
    (case c14 => k_is)
    (case k14 => k_is)
    (case a15 => k_is)
    (case l15 => k_is)
    (case c15 => k_is)
    (case k15 => k_is)
    (case a16 => k_is)
    (case l16 => k_is)
    (case c16 => k_is)
    (case k16 => k_is)
    (case a17 => k_is)
    (case l17 => k_is)
    (case c17 => k_is)
    (case k17 => k_is)
    (case a18 => k_is)
    (case l18 => k_is)
    (case c18 => k_is)
    (case k18 => k_is)
    (case a19 => k_is)
    (case l19 => k_is)
    (case c19 => k_is)
    (case k19 => k_is)
    (case a20 => k_is)
    (case l20 => k_is)
    (case c20 => k_is)
    (case k20 => k_is)
    (case a21 => k_is)
    (case l21 => k_is)
    (case c21 => k_is)
    (case k21 => k_is)
    (case xC0 => k_exc)
    (case xC1 => k_exc)
    (case kA0 =>
      refine' Gk.ktab_mk ?lk ?kl ?lo ?tr
      (case lk => k_is)
      (case lo => decide)
      (case kl => exact ⟨⟨_, _, rfl, rfl⟩, ⟨_, _, rfl, rfl⟩, ⟨_, _, rfl, rfl⟩, ⟨_, _, rfl, rfl⟩, ⟨_, _, rfl, rfl⟩, ⟨_, _, rfl, rfl⟩, ⟨_, _, rfl, rfl⟩, ⟨_, _, rfl, rfl⟩, ⟨_, _, rfl, rfl⟩, ⟨_, _, rfl, rfl⟩, ⟨_, _, rfl, rfl⟩, ⟨_, _, rfl, rfl⟩, True.intro⟩)
      (case tr =>
        refine' Gk.tab_iis ?t0 (Gk.tab_iis ?t1 (Gk.tab_iis ?t2 (Gk.tab_iis ?t3 (Gk.tab_iis ?t4 (Gk.tab_iis ?t5 (Gk.tab_iis ?t6 (Gk.tab_iis ?t7 (Gk.tab_iis ?t8 (Gk.tab_iis ?t9 (Gk.tab_iis ?t10 (Gk.tab_iis ?t11 Pi.TabR.nil)))))))))))
        (case t0 => k_is)
        (case t1 => k_is)
        (case t2 => k_is)
        (case t3 => k_is)
        (case t4 => k_is)
        (case t5 => k_is)
        (case t6 => k_is)
        (case t7 => k_is)
        (case t8 => k_is)
        (case t9 => k_is)
        (case t10 => k_is)
        (case t11 => k_is)))
