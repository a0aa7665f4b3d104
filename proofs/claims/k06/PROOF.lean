import PyProof.Rows.All
import Wide.All
import OpenK.AllK
import Wide.FinOn
import HandS.ForMost
import HandS.ForExc
import HandS.NoneIn
import HandS.Wide
import HandS.WideBits
import HandS.IsInst
import HandS.TupAny
import HandS.Style
import HandS.SetFor
import HandS.SortRule
import HandS.EndBits
import PySem.Challenge.RW_fewestsent_k06_whole_numbers_go_together
set_option Elab.async false
set_option linter.all false
set_option maxRecDepth 100000
set_option maxHeartbeats 4000000
/-! Fx, the core: data with a store of mutable cells; what a reading is, by a function on data. -/
namespace Fx
open PySem PySem.Spec PyProof.Rows L2

/-- data: what never changes is said whole (tuples, lists that nobody changes; frt, frz: of the written part, or locked); a mutable object is a place in the store -/
inductive D where
  | non | bl (b : Bool) | int (i : Int) | str (x : Str) | ty (n : String)
  | tup (xs : List D) | lst (xs : List D) | frt (xs : List D) | frz (xs : List D) | ref (n : Nat)
inductive Cell where
  | lst (xs : List D)
  | dct (kvs : List (Key × D))
abbrev Sto := List Cell
abbrev En := List (Option D)
/-- an exception: its class, what its own dict holds (if it has one) -/
structure Exn where
  cls : Addr
  fs : Option (List (Str × D))
inductive R (α : Type) where
  | ok (a : α) (s : Sto)
  | exc (e : Exn) (s : Sto)
def bnd {α β : Type} (x : Option (R α)) (k : α → Sto → Option (R β)) : Option (R β) :=
  match x with
  | some (.ok a s) => k a s
  | some (.exc e s) => some (.exc e s)
  | none => none
@[simp] theorem bnd_ok {α β : Type} {a : α} {s : Sto} {k : α → Sto → Option (R β)} : bnd (some (.ok a s)) k = k a s := rfl
@[simp] theorem bnd_exc {α β : Type} {e : Exn} {s : Sto} {k : α → Sto → Option (R β)} : bnd (some (.exc e s)) k = some (.exc e s) := rfl
@[simp] theorem bnd_none {α β : Type} {k : α → Sto → Option (R β)} : bnd (none : Option (R α)) k = none := rfl
theorem bnd_some {α β : Type} {x : Option (R α)} {k : α → Sto → Option (R β)} {r : R β} (h : bnd x k = some r) :
    (∃ a s, x = some (.ok a s) ∧ k a s = some r) ∨ (∃ e s, x = some (.exc e s) ∧ r = .exc e s) := by
  cases x with
  | none => cases h
  | some q =>
    cases q with
    | ok a s => exact .inl ⟨a, s, rfl, h⟩
    | exc e s => exact .inr ⟨e, s, rfl, (Option.some.inj h).symm⟩

/-! ### data stands in a heap -/
/-! of the written part: what is to be read whatever is tracked -/
def WrL (K : PySem.W.Frag) (a : Addr) (xs : List V) : Prop := SqL K (fun _ => none) a xs
def WrT (K : PySem.W.Frag) (a : Addr) (xs : List V) : Prop := SqT K (fun _ => none) a xs
theorem WrL.seq {K : PySem.W.Frag} {H : Hp} {a : Addr} {xs : List V} (h : WrL K a xs) : SqL K H a xs := h.elim (fun z => by rcases z with z | ⟨_, z⟩ <;> cases z) .inr
theorem WrT.seq {K : PySem.W.Frag} {H : Hp} {a : Addr} {xs : List V} (h : WrT K a xs) : SqT K H a xs := h.elim (fun z => by rcases z with z | ⟨_, z⟩ <;> cases z) .inr
/-- where the cells of the store stand; what else is held back (lists in the making) -/
structure Mp where
  c : List Addr
  h : List Addr
def Mp.Own (ρ : Mp) (a : Addr) : Prop := a ∈ ρ.c ∨ a ∈ ρ.h
def Mp.add (ρ : Mp) (p : Addr) : Mp := ⟨ρ.c ++ [p], ρ.h⟩
def FxL (H : Hp) (ρ : Mp) (a : Addr) (xs : List V) : Prop := ¬ ρ.Own a ∧ H a = some (.lst xs)
def FxT (H : Hp) (ρ : Mp) (a : Addr) (xs : List V) : Prop := ¬ ρ.Own a ∧ H a = some (.tup xs)
def ZxL (K : PySem.W.Frag) (H : Hp) (ρ : Mp) (a : Addr) (xs : List V) : Prop := (¬ ρ.Own a ∧ Rd H a (.lst xs)) ∨ WrL K a xs
def ZxT (K : PySem.W.Frag) (H : Hp) (ρ : Mp) (a : Addr) (xs : List V) : Prop := (¬ ρ.Own a ∧ Rd H a (.tup xs)) ∨ WrT K a xs
theorem FxL.seq {K : PySem.W.Frag} {H : Hp} {ρ : Mp} {a : Addr} {xs : List V} (h : FxL H ρ a xs) : SqL K H a xs := .inl (.inl h.2)
theorem FxT.seq {K : PySem.W.Frag} {H : Hp} {ρ : Mp} {a : Addr} {xs : List V} (h : FxT H ρ a xs) : SqT K H a xs := .inl (.inl h.2)
theorem ZxL.seq {K : PySem.W.Frag} {H : Hp} {ρ : Mp} {a : Addr} {xs : List V} (h : ZxL K H ρ a xs) : SqL K H a xs := h.elim (fun z => .inl z.2) WrL.seq
theorem ZxT.seq {K : PySem.W.Frag} {H : Hp} {ρ : Mp} {a : Addr} {xs : List V} (h : ZxT K H ρ a xs) : SqT K H a xs := h.elim (fun z => .inl z.2) WrT.seq

inductive DR (K : PySem.W.Frag) (H : Hp) (ρ : Mp) : V → D → Prop where
  | non : DR K H ρ .non .non
  | bl (b : Bool) : DR K H ρ (.bl b) (.bl b)
  | int (i : Int) : DR K H ρ (.int i) (.int i)
  | str (x : Str) : DR K H ρ (.str x) (.str x)
  | ty (n : String) : DR K H ρ (.ty n) (.ty n)
  | tup {a : Addr} {xs : List V} {ds : List D} (h : FxT H ρ a xs) (l : xs.length = ds.length) (e : ∀ (i : Nat) (x : V) (d : D), xs[i]? = some x → ds[i]? = some d → DR K H ρ x d) : DR K H ρ (.ref a) (.tup ds)
  | lst {a : Addr} {xs : List V} {ds : List D} (h : FxL H ρ a xs) (l : xs.length = ds.length) (e : ∀ (i : Nat) (x : V) (d : D), xs[i]? = some x → ds[i]? = some d → DR K H ρ x d) : DR K H ρ (.ref a) (.lst ds)
  | frt {a : Addr} {xs : List V} {ds : List D} (h : ZxT K H ρ a xs) (l : xs.length = ds.length) (e : ∀ (i : Nat) (x : V) (d : D), xs[i]? = some x → ds[i]? = some d → DR K H ρ x d) : DR K H ρ (.ref a) (.frt ds)
  | frz {a : Addr} {xs : List V} {ds : List D} (h : ZxL K H ρ a xs) (l : xs.length = ds.length) (e : ∀ (i : Nat) (x : V) (d : D), xs[i]? = some x → ds[i]? = some d → DR K H ρ x d) : DR K H ρ (.ref a) (.frz ds)
  | ref {n : Nat} {a : Addr} (h : ρ.c[n]? = some a) : DR K H ρ (.ref a) (.ref n)
/-- lists of data -/
def DRs (K : PySem.W.Frag) (H : Hp) (ρ : Mp) (xs : List V) (ds : List D) : Prop := xs.length = ds.length ∧ ∀ (i : Nat) (x : V) (d : D), xs[i]? = some x → ds[i]? = some d → DR K H ρ x d
def DRk (K : PySem.W.Frag) (H : Hp) (ρ : Mp) (xs : List (Key × V)) (ds : List (Key × D)) : Prop := xs.length = ds.length ∧ ∀ (i : Nat) (x : Key × V) (d : Key × D), xs[i]? = some x → ds[i]? = some d → x.1 = d.1 ∧ DR K H ρ x.2 d.2

structure Step (ρ : Mp) (H : Hp) (ρ' : Mp) (H' : Hp) : Prop where
  pre : ∃ t, ρ'.c = ρ.c ++ t
  hid : ρ'.h = ρ.h
  keep : ∀ a o, H a = some o → a ∉ ρ.c → H' a = some o
  new : ∀ a, a ∈ ρ'.c → a ∈ ρ.c ∨ H a = none
section
variable {K : PySem.W.Frag} {H H1 H2 H' : Hp} {ρ ρ1 ρ2 ρ' : Mp} {v x y : V} {d dx dy : D} {xs : List V} {ds : List D} {a p : Addr} {o : HO}
theorem Step.refl : Step ρ H ρ H := ⟨⟨[], by simp⟩, rfl, fun _ _ h _ => h, fun _ h => .inl h⟩
theorem Step.trans (s : Step ρ H ρ1 H1) (t : Step ρ1 H1 ρ2 H2) : Step ρ H ρ2 H2 := by
  refine ⟨?_, t.hid.trans s.hid, fun a o h n => ?_, fun a h => ?_⟩
  · obtain ⟨t1, e1⟩ := s.pre
    obtain ⟨t2, e2⟩ := t.pre
    exact ⟨t1 ++ t2, by rw [e2, e1, List.append_assoc]⟩
  · refine t.keep a o (s.keep a o h n) fun m => ?_
    rcases s.new a m with z | z
    · exact n z
    · rw [z] at h; cases h
  · rcases t.new a h with z | z
    · exact s.new a z
    · by_cases m : a ∈ ρ.c
      · exact .inl m
      · refine .inr ?_
        cases q : H a with
        | none => rfl
        | some o => rw [s.keep a o q m] at z; cases z
theorem Step.nin (s : Step ρ H ρ' H') (h : H a = some o) (n : a ∉ ρ.c) : a ∉ ρ'.c := fun m => by
  rcases s.new a m with z | z
  · exact n z
  · rw [z] at h; cases h
theorem Step.nown (s : Step ρ H ρ' H') (h : H a = some o) (n : ¬ ρ.Own a) : ¬ ρ'.Own a := fun m => by
  rcases m with m | m
  · exact s.nin h (fun z => n (.inl z)) m
  · rw [s.hid] at m; exact n (.inr m)
theorem Step.rd {u : HO} (s : Step ρ H ρ' H') (n : ¬ ρ.Own a) (h : Rd H a u) : ¬ ρ'.Own a ∧ Rd H' a u := by
  have nc : a ∉ ρ.c := fun z => n (.inl z)
  rcases h with h | ⟨o, h⟩
  · exact ⟨s.nown h n, .inl (s.keep _ _ h nc)⟩
  · exact ⟨s.nown h n, .inr ⟨o, s.keep _ _ h nc⟩⟩
theorem Step.ix (s : Step ρ H ρ' H') {n : Nat} (h : ρ.c[n]? = some a) : ρ'.c[n]? = some a := by
  obtain ⟨t, e⟩ := s.pre
  rw [e, List.getElem?_append_left (List.getElem?_eq_some_iff.mp h).1]
  exact h
/-- what stays for data: new cells, new hidden objects, what is owned may turn -/
structure Far (ρ : Mp) (H : Hp) (ρ' : Mp) (H' : Hp) : Prop where
  pre : ∃ t, ρ'.c = ρ.c ++ t
  keep : ∀ a o, H a = some o → ¬ ρ.Own a → H' a = some o
  new : ∀ a, ρ'.Own a → ρ.Own a ∨ H a = none
theorem Step.far (s : Step ρ H ρ' H') : Far ρ H ρ' H' := ⟨s.pre, fun a o e n => s.keep a o e fun z => n (.inl z), fun a m => m.elim (fun z => (s.new a z).elim (fun z => .inl (.inl z)) .inr) fun z => .inl (.inr (by rw [← s.hid]; exact z))⟩
theorem Far.refl : Far ρ H ρ H := Step.refl.far
theorem Far.trans (s : Far ρ H ρ1 H1) (t : Far ρ1 H1 ρ2 H2) : Far ρ H ρ2 H2 := by
  refine ⟨?_, fun a o h n => ?_, fun a h => ?_⟩
  · obtain ⟨t1, e1⟩ := s.pre
    obtain ⟨t2, e2⟩ := t.pre
    exact ⟨t1 ++ t2, by rw [e2, e1, List.append_assoc]⟩
  · refine t.keep a o (s.keep a o h n) fun m => ?_
    rcases s.new a m with z | z
    · exact n z
    · rw [z] at h; cases h
  · rcases t.new a h with z | z
    · exact s.new a z
    · by_cases m : ρ.Own a
      · exact .inl m
      · refine .inr ?_
        cases q : H a with
        | none => rfl
        | some o => rw [s.keep a o q m] at z; cases z
theorem Far.nown (s : Far ρ H ρ' H') (h : H a = some o) (n : ¬ ρ.Own a) : ¬ ρ'.Own a := fun m => by
  rcases s.new a m with m | m
  · exact n m
  · rw [m] at h; cases h
theorem Far.rd {u : HO} (s : Far ρ H ρ' H') (n : ¬ ρ.Own a) (h : Rd H a u) : ¬ ρ'.Own a ∧ Rd H' a u := by
  rcases h with h | ⟨o, h⟩
  · exact ⟨s.nown h n, .inl (s.keep _ _ h n)⟩
  · exact ⟨s.nown h n, .inr ⟨o, s.keep _ _ h n⟩⟩
theorem Far.ix (s : Far ρ H ρ' H') {n : Nat} (h : ρ.c[n]? = some a) : ρ'.c[n]? = some a := by
  obtain ⟨t, e⟩ := s.pre
  rw [e, List.getElem?_append_left (List.getElem?_eq_some_iff.mp h).1]
  exact h
theorem Far.fxl (s : Far ρ H ρ' H') (h : FxL H ρ a xs) : FxL H' ρ' a xs := ⟨s.nown h.2 h.1, s.keep _ _ h.2 h.1⟩
theorem Far.fxt (s : Far ρ H ρ' H') (h : FxT H ρ a xs) : FxT H' ρ' a xs := ⟨s.nown h.2 h.1, s.keep _ _ h.2 h.1⟩
theorem Far.zxl (s : Far ρ H ρ' H') (h : ZxL K H ρ a xs) : ZxL K H' ρ' a xs := h.elim (fun z => .inl (s.rd z.1 z.2)) .inr
theorem Far.zxt (s : Far ρ H ρ' H') (h : ZxT K H ρ a xs) : ZxT K H' ρ' a xs := h.elim (fun z => .inl (s.rd z.1 z.2)) .inr
theorem DR.far (h : DR K H ρ v d) (s : Far ρ H ρ' H') : DR K H' ρ' v d := by
  induction h with
  | non => exact .non
  | bl b => exact .bl b
  | int i => exact .int i
  | str x => exact .str x
  | ty n => exact .ty n
  | tup h l e ih => exact .tup (s.fxt h) l ih
  | lst h l e ih => exact .lst (s.fxl h) l ih
  | frt h l e ih => exact .frt (s.zxt h) l ih
  | frz h l e ih => exact .frz (s.zxl h) l ih
  | ref h => exact .ref (s.ix h)
theorem DR.step (h : DR K H ρ v d) (s : Step ρ H ρ' H') : DR K H' ρ' v d := h.far s.far
/-- less is held back -/
theorem DR.less (h : DR K H ρ v d) (e : ∃ t, ρ'.c = ρ.c ++ t) (l : ∀ a, ρ'.Own a → ρ.Own a) : DR K H ρ' v d := by
  induction h with
  | non => exact .non
  | bl b => exact .bl b
  | int i => exact .int i
  | str x => exact .str x
  | ty n => exact .ty n
  | tup h l' e' ih => exact .tup ⟨fun m => h.1 (l _ m), h.2⟩ l' ih
  | lst h l' e' ih => exact .lst ⟨fun m => h.1 (l _ m), h.2⟩ l' ih
  | frt h l' e' ih => exact .frt (h.elim (fun z => .inl ⟨fun m => z.1 (l _ m), z.2⟩) .inr) l' ih
  | frz h l' e' ih => exact .frz (h.elim (fun z => .inl ⟨fun m => z.1 (l _ m), z.2⟩) .inr) l' ih
  | ref h =>
    obtain ⟨t, e⟩ := e
    exact .ref (by rw [e, List.getElem?_append_left (List.getElem?_eq_some_iff.mp h).1]; exact h)
theorem DRs.far (h : DRs K H ρ xs ds) (s : Far ρ H ρ' H') : DRs K H' ρ' xs ds := ⟨h.1, fun i x d e1 e2 => (h.2 i x d e1 e2).far s⟩
theorem DRs.step (h : DRs K H ρ xs ds) (s : Step ρ H ρ' H') : DRs K H' ρ' xs ds := h.far s.far
theorem DRs.less (h : DRs K H ρ xs ds) (e : ∃ t, ρ'.c = ρ.c ++ t) (l : ∀ a, ρ'.Own a → ρ.Own a) : DRs K H ρ' xs ds := ⟨h.1, fun i x d e1 e2 => (h.2 i x d e1 e2).less e l⟩
theorem DRk.far {xs : List (Key × V)} {ds : List (Key × D)} (h : DRk K H ρ xs ds) (s : Far ρ H ρ' H') : DRk K H' ρ' xs ds := ⟨h.1, fun i x d e1 e2 => ⟨(h.2 i x d e1 e2).1, (h.2 i x d e1 e2).2.far s⟩⟩
theorem DRk.step {xs : List (Key × V)} {ds : List (Key × D)} (h : DRk K H ρ xs ds) (s : Step ρ H ρ' H') : DRk K H' ρ' xs ds := h.far s.far
theorem DRk.less {xs : List (Key × V)} {ds : List (Key × D)} (h : DRk K H ρ xs ds) (e : ∃ t, ρ'.c = ρ.c ++ t) (l : ∀ a, ρ'.Own a → ρ.Own a) : DRk K H ρ' xs ds := ⟨h.1, fun i x d e1 e2 => ⟨(h.2 i x d e1 e2).1, (h.2 i x d e1 e2).2.less e l⟩⟩
theorem Step.same (s : Same H H') : Step ρ H ρ H' := ⟨⟨[], by simp⟩, rfl, fun a o h _ => s a o h, fun _ h => .inl h⟩
theorem same_upd (h : H p = none) : Same H (upd H p o) := fun b u e => by rw [upd_ne (ne_of_none e h)]; exact e

theorem DRs.nil : DRs K H ρ [] [] := ⟨rfl, fun i x d e _ => by simp at e⟩
theorem DRs.cons (h : DR K H ρ x d) (t : DRs K H ρ xs ds) : DRs K H ρ (x :: xs) (d :: ds) := by
  refine ⟨by simp [t.1], fun i x' d' e1 e2 => ?_⟩
  cases i with
  | zero => simp at e1 e2; subst e1; subst e2; exact h
  | succ i => exact t.2 i x' d' (by simpa using e1) (by simpa using e2)
theorem DRs.cons_inv {vs : List V} (h : DRs K H ρ vs (d :: ds)) : ∃ x xs, vs = x :: xs ∧ DR K H ρ x d ∧ DRs K H ρ xs ds := by
  cases vs with
  | nil => have := h.1; simp at this
  | cons x xs => exact ⟨x, xs, rfl, h.2 0 x d rfl rfl, by simpa using h.1, fun i x' d' e1 e2 => h.2 (i + 1) x' d' (by simpa using e1) (by simpa using e2)⟩
theorem DRs.nil_inv {vs : List V} (h : DRs K H ρ vs []) : vs = [] := by
  have := h.1
  cases vs with
  | nil => rfl
  | cons x xs => simp at this
theorem DRs.get (h : DRs K H ρ xs ds) {i : Nat} (e : ds[i]? = some d) : ∃ x, xs[i]? = some x ∧ DR K H ρ x d := by
  have hi : i < xs.length := by rw [h.1]; exact (List.getElem?_eq_some_iff.mp e).1
  exact ⟨xs[i], List.getElem?_eq_getElem hi, h.2 i _ _ (List.getElem?_eq_getElem hi) e⟩
theorem DRs.append {ys : List V} {es : List D} (h : DRs K H ρ xs ds) (t : DRs K H ρ ys es) : DRs K H ρ (xs ++ ys) (ds ++ es) := by
  refine ⟨by simp [h.1, t.1], fun i x d e1 e2 => ?_⟩
  by_cases hi : i < xs.length
  · rw [List.getElem?_append_left hi] at e1
    rw [List.getElem?_append_left (by rw [← h.1]; exact hi)] at e2
    exact h.2 i x d e1 e2
  · rw [List.getElem?_append_right (by omega)] at e1
    rw [List.getElem?_append_right (by rw [← h.1]; omega), ← h.1] at e2
    exact t.2 _ x d e1 e2
theorem DRs.take (h : DRs K H ρ xs ds) (n : Nat) : DRs K H ρ (xs.take n) (ds.take n) := by
  refine ⟨by simp [h.1], fun i x d e1 e2 => ?_⟩
  rw [List.getElem?_take] at e1 e2
  split at e1
  · rename_i hi
    rw [if_pos hi] at e2
    exact h.2 i x d e1 e2
  · cases e1
theorem DRs.drop (h : DRs K H ρ xs ds) (n : Nat) : DRs K H ρ (xs.drop n) (ds.drop n) :=
  ⟨by simp [h.1], fun i x d e1 e2 => h.2 (n + i) x d (by simpa using e1) (by simpa using e2)⟩
theorem DRs.set (h : DRs K H ρ xs ds) (hx : DR K H ρ x d) (n : Nat) : DRs K H ρ (xs.set n x) (ds.set n d) := by
  refine ⟨by simp [h.1], fun i x' d' e1 e2 => ?_⟩
  by_cases hi : n = i
  · subst hi
    have h1 := (List.getElem?_eq_some_iff.mp e1).1
    have h2 := (List.getElem?_eq_some_iff.mp e2).1
    rw [List.getElem?_set_self (by simpa using h1)] at e1
    rw [List.getElem?_set_self (by simpa using h2)] at e2
    cases e1; cases e2; exact hx
  · rw [List.getElem?_set_ne hi] at e1 e2
    exact h.2 i x' d' e1 e2
theorem DR.tup_inv (h : DR K H ρ v (.tup ds)) : ∃ a xs, v = .ref a ∧ FxT H ρ a xs ∧ DRs K H ρ xs ds := by
  cases h with
  | tup h l e => exact ⟨_, _, rfl, h, l, e⟩
theorem DR.lst_inv (h : DR K H ρ v (.lst ds)) : ∃ a xs, v = .ref a ∧ FxL H ρ a xs ∧ DRs K H ρ xs ds := by
  cases h with
  | lst h l e => exact ⟨_, _, rfl, h, l, e⟩
theorem DR.frt_inv (h : DR K H ρ v (.frt ds)) : ∃ a xs, v = .ref a ∧ ZxT K H ρ a xs ∧ DRs K H ρ xs ds := by
  cases h with
  | frt h l e => exact ⟨_, _, rfl, h, l, e⟩
theorem DR.frz_inv (h : DR K H ρ v (.frz ds)) : ∃ a xs, v = .ref a ∧ ZxL K H ρ a xs ∧ DRs K H ρ xs ds := by
  cases h with
  | frz h l e => exact ⟨_, _, rfl, h, l, e⟩
theorem DR.ref_inv {n : Nat} (h : DR K H ρ v (.ref n)) : ∃ a, v = .ref a ∧ ρ.c[n]? = some a := by
  cases h with
  | ref h => exact ⟨_, rfl, h⟩
end

def CR (K : PySem.W.Frag) (H : Hp) (ρ : Mp) (a : Addr) : Cell → Prop
  | .lst ds => ∃ xs, H a = some (.lst xs) ∧ DRs K H ρ xs ds
  | .dct ds => ∃ xs, H a = some (.dK xs) ∧ DRk K H ρ xs ds
structure StR (K : PySem.W.Frag) (H : Hp) (ρ : Mp) (st : Sto) : Prop where
  len : ρ.c.length = st.length
  nd : ρ.c.Nodup
  cell : ∀ (n : Nat) (a : Addr) (c : Cell), ρ.c[n]? = some a → st[n]? = some c → CR K H ρ a c
  hid : ∀ a, a ∈ ρ.h → H a ≠ none
section
variable {K : PySem.W.Frag} {H H1 H2 H' : Hp} {ρ ρ1 ρ2 ρ' : Mp} {v x y : V} {d dx dy : D} {xs : List V} {ds : List D} {a p : Addr} {o : HO} {st st' : Sto} {c : Cell}
theorem CR.has (h : CR K H ρ a c) : ∃ o, H a = some o ∧ Mut (some o) := by
  cases c with
  | lst ds => obtain ⟨xs, e, _⟩ := h; exact ⟨_, e, trivial⟩
  | dct ds => obtain ⟨xs, e, _⟩ := h; exact ⟨_, e, trivial⟩
theorem StR.has (h : StR K H ρ st) (m : a ∈ ρ.c) : ∃ o, H a = some o ∧ Mut (some o) := by
  obtain ⟨n, e⟩ := List.getElem?_of_mem m
  have hn : n < st.length := by rw [← h.len]; exact (List.getElem?_eq_some_iff.mp e).1
  exact (h.cell n a _ e (List.getElem?_eq_getElem hn)).has
theorem StR.newc (h : StR K H ρ st) (e : H p = none) : p ∉ ρ.c := fun m => by
  obtain ⟨o, q, _⟩ := h.has m
  rw [e] at q; cases q
theorem StR.new (h : StR K H ρ st) (e : H p = none) : ¬ ρ.Own p := fun m => m.elim (h.newc e) fun z => h.hid p z e
theorem CR.move (h : CR K H ρ a c) (s : Far ρ H ρ' H') (k : ∀ o, H a = some o → H' a = some o) : CR K H' ρ' a c := by
  cases c with
  | lst ds => obtain ⟨xs, e, q⟩ := h; exact ⟨xs, k _ e, q.far s⟩
  | dct ds => obtain ⟨xs, e, q⟩ := h; exact ⟨xs, k _ e, q.far s⟩
/-- the heap has grown -/
theorem StR.same (h : StR K H ρ st) (s : Same H H') : StR K H' ρ st := ⟨h.len, h.nd, fun n a c e1 e2 => (h.cell n a c e1 e2).move (Step.same s).far fun o q => s a o q, fun a m e => by
  cases q : H a with
  | none => exact h.hid a m q
  | some o => rw [s a o q] at e; cases e⟩
/-- a new cell -/
theorem Step.cell (e : H p = none) : Step ρ H (ρ.add p) (upd H p o) :=
  ⟨⟨[p], rfl⟩, rfl, fun a u h _ => by rw [upd_ne (ne_of_none h e)]; exact h, fun a h => (List.mem_append.mp h).elim .inl fun z => by
    rw [List.mem_singleton.mp z]; exact .inr e⟩
theorem StR.newCell (h : StR K H ρ st) (e : H p = none) (hc : CR K (upd H p o) (ρ.add p) p c) : StR K (upd H p o) (ρ.add p) (st ++ [c]) := by
  refine ⟨by simp [h.len, Mp.add], ?_, fun n a c' e1 e2 => ?_, fun a m => ?_⟩
  · show (ρ.c ++ [p]).Nodup
    rw [List.nodup_append]
    refine ⟨h.nd, by simp, fun a ha b hb q => ?_⟩
    subst q
    rw [List.mem_singleton.mp hb] at ha
    exact h.newc e ha
  · have e1 : (ρ.c ++ [p])[n]? = some a := e1
    by_cases hn : n < ρ.c.length
    · rw [List.getElem?_append_left hn] at e1
      rw [List.getElem?_append_left (by rw [← h.len]; exact hn)] at e2
      exact (h.cell n a c' e1 e2).move (Step.cell e).far fun u q => by rw [upd_ne (ne_of_none q e)]; exact q
    · rw [List.getElem?_append_right (by omega)] at e1
      rw [List.getElem?_append_right (by rw [← h.len]; omega), ← h.len] at e2
      have z : n - ρ.c.length = 0 := by
        have := (List.getElem?_eq_some_iff.mp e1).1
        simp at this; omega
      rw [z] at e1 e2
      simp at e1 e2
      subst e1; subst e2
      exact hc
  · by_cases q : a = p
    · rw [q, upd_same]; simp
    · rw [upd_ne q]; exact h.hid a m
theorem Step.write {n : Nat} (e : ρ.c[n]? = some a) : Step ρ H ρ (upd H a o) :=
  ⟨⟨[], by simp⟩, rfl, fun b u q m => by
    have nb : b ≠ a := fun z => m (by rw [z]; exact List.mem_of_getElem? e)
    rw [upd_ne nb]; exact q, fun _ m => .inl m⟩
theorem StR.write {n : Nat} (h : StR K H ρ st) (e : ρ.c[n]? = some a) (hc : CR K (upd H a o) ρ a c) : StR K (upd H a o) ρ (st.set n c) := by
  refine ⟨by simp [h.len], h.nd, fun m b c' e1 e2 => ?_, fun b m => ?_⟩
  · by_cases hm : n = m
    · subst hm
      have h2 := (List.getElem?_eq_some_iff.mp e2).1
      rw [List.getElem?_set_self (by simpa using h2)] at e2
      rw [e] at e1
      cases e1; cases e2; exact hc
    · rw [List.getElem?_set_ne hm] at e2
      have nb : b ≠ a := fun z => hm (nd_ix (x := b) h.nd (by rw [z]; exact e) e1)
      exact (h.cell m b c' e1 e2).move (Step.write e).far fun u q => by rw [upd_ne nb]; exact q
  · by_cases q : b = a
    · rw [q, upd_same]; simp
    · rw [upd_ne q]; exact h.hid b m
/-- a list in the making is held back -/
def Mp.hide (ρ : Mp) (p : Addr) : Mp := ⟨ρ.c, p :: ρ.h⟩
theorem Far.hide (e : H p = none) : Far ρ H (ρ.hide p) (upd H p o) :=
  ⟨⟨[], by simp [Mp.hide]⟩, fun a u h _ => by rw [upd_ne (ne_of_none h e)]; exact h, fun a m => m.elim (fun z => .inl (.inl z)) fun z => (List.mem_cons.mp z).elim (fun z => .inr (by rw [z]; exact e)) fun z => .inl (.inr z)⟩
theorem Far.grow (m : p ∈ ρ.h) : Far ρ H ρ (upd H p o) :=
  ⟨⟨[], by simp⟩, fun a u h n => by
    have : a ≠ p := fun z => n (.inr (by rw [z]; exact m))
    rw [upd_ne this]; exact h, fun a m => .inl m⟩
theorem StR.hide (h : StR K H ρ st) (e : H p = none) : StR K (upd H p o) (ρ.hide p) st :=
  ⟨h.len, h.nd, fun n a c e1 e2 => (h.cell n a c e1 e2).move (Far.hide e) fun u q => by rw [upd_ne (ne_of_none q e)]; exact q, fun a m q => by
    rcases List.mem_cons.mp m with z | z
    · rw [z, upd_same] at q; cases q
    · by_cases w : a = p
      · rw [w, upd_same] at q; cases q
      · rw [upd_ne w] at q; exact h.hid a z q⟩
theorem StR.grow (h : StR K H ρ st) (m : p ∈ ρ.h) (n : p ∉ ρ.c) : StR K (upd H p o) ρ st :=
  ⟨h.len, h.nd, fun k a c e1 e2 => (h.cell k a c e1 e2).move (Far.grow m) fun u q => by
    have : a ≠ p := fun z => n (by rw [← z]; exact List.mem_of_getElem? e1)
    rw [upd_ne this]; exact q, fun a m q => by
    by_cases w : a = p
    · rw [w, upd_same] at q; cases q
    · rw [upd_ne w] at q; exact h.hid a m q⟩
theorem CR.less (h : CR K H ρ a c) (e : ∃ t, ρ'.c = ρ.c ++ t) (l : ∀ a, ρ'.Own a → ρ.Own a) : CR K H ρ' a c := by
  cases c with
  | lst ds => obtain ⟨xs, e1, q⟩ := h; exact ⟨xs, e1, q.less e l⟩
  | dct ds => obtain ⟨xs, e1, q⟩ := h; exact ⟨xs, e1, q.less e l⟩
theorem StR.less (h : StR K H ρ st) (e : ρ'.c = ρ.c) (l : ∀ a, a ∈ ρ'.h → a ∈ ρ.h) : StR K H ρ' st :=
  ⟨by rw [e]; exact h.len, by rw [e]; exact h.nd, fun n a c e1 e2 => (h.cell n a c (by rw [← e]; exact e1) e2).less ⟨[], by rw [e, List.append_nil]⟩ fun a m => m.elim (fun z => .inl (by rw [← e]; exact z)) fun z => .inr (l a z), fun a m => h.hid a (l a m)⟩
/-- a list in the making becomes a cell -/
theorem StR.opened {ρ : Mp} {l : List Addr} (h : StR K H ⟨l, p :: ρ.h⟩ st) (np : p ∉ l) (hp : H p = some (.lst xs)) (hd : DRs K H ⟨l, p :: ρ.h⟩ xs ds) : StR K H ⟨l ++ [p], ρ.h⟩ (st ++ [.lst ds]) := by
  have ow : ∀ a, (⟨l ++ [p], ρ.h⟩ : Mp).Own a → (⟨l, p :: ρ.h⟩ : Mp).Own a := fun a m => by
    rcases m with m | m
    · rcases List.mem_append.mp m with m | m
      · exact .inl m
      · exact .inr (by rw [List.mem_singleton.mp m]; exact List.mem_cons_self)
    · exact .inr (List.mem_cons_of_mem _ m)
  have pr : ∃ t, (⟨l ++ [p], ρ.h⟩ : Mp).c = (⟨l, p :: ρ.h⟩ : Mp).c ++ t := ⟨[p], rfl⟩
  have len := h.len
  refine ⟨by simpa using len, ?_, fun n a c e1 e2 => ?_, fun a m => h.hid a (List.mem_cons_of_mem _ m)⟩
  · show (l ++ [p]).Nodup
    rw [List.nodup_append]
    refine ⟨h.nd, by simp, fun a ha b hb q => ?_⟩
    subst q
    rw [List.mem_singleton.mp hb] at ha
    exact np ha
  · have e1 : (l ++ [p])[n]? = some a := e1
    have len : l.length = st.length := len
    by_cases hn : n < l.length
    · rw [List.getElem?_append_left hn] at e1
      rw [List.getElem?_append_left (by omega)] at e2
      exact (h.cell n a c e1 e2).less pr ow
    · rw [List.getElem?_append_right (by omega)] at e1
      rw [List.getElem?_append_right (by omega), ← len] at e2
      have z : n - l.length = 0 := by
        have := (List.getElem?_eq_some_iff.mp e1).1
        simp at this; omega
      rw [z] at e1 e2
      simp at e1 e2
      subst e1; subst e2
      exact ⟨xs, hp, hd.less pr ow⟩
theorem StR.lstAt {n : Nat} (h : StR K H ρ st) (e : ρ.c[n]? = some a) (e2 : st[n]? = some (.lst ds)) : ∃ xs, H a = some (.lst xs) ∧ DRs K H ρ xs ds := h.cell n a _ e e2
theorem StR.dctAt {n : Nat} {ks : List (Key × D)} (h : StR K H ρ st) (e : ρ.c[n]? = some a) (e2 : st[n]? = some (.dct ks)) : ∃ xs, H a = some (.dK xs) ∧ DRk K H ρ xs ks := h.cell n a _ e e2
end

/-- the frame's slots -/
def EnR (K : PySem.W.Frag) (H : Hp) (ρ : Mp) (σ : L2.St) (env : En) : Prop := σ.length = env.length ∧ ∀ (i : Nat) (d : D), env[i]? = some (some d) → ∃ v, σ[i]? = some (some v) ∧ DR K H ρ v d
structure Wd (K : PySem.W.Frag) (H : Hp) (ρ : Mp) (σ : L2.St) (env : En) (st : Sto) : Prop where
  en : EnR K H ρ σ env
  st : StR K H ρ st
def ExR (K : PySem.W.Frag) (H : Hp) (ρ : Mp) (cv : Value) (dx : Option Addr) (e : Exn) : Prop :=
  cv = .ref e.cls ∧ match e.fs with
    | none => dx = none
    | some fs => ∃ d gs, dx = some d ∧ ¬ ρ.Own d ∧ H d = some (.xd gs) ∧ gs.length = fs.length ∧ ∀ (i : Nat) (x : Str × V) (y : Str × D), gs[i]? = some x → fs[i]? = some y → x.1 = y.1 ∧ DR K H ρ x.2 y.2
section
variable {K : PySem.W.Frag} {H H1 H2 H' : Hp} {ρ ρ1 ρ2 ρ' : Mp} {σ : L2.St} {env : En} {st : Sto} {E : XK}
theorem EnR.far (h : EnR K H ρ σ env) (s : Far ρ H ρ' H') : EnR K H' ρ' σ env := ⟨h.1, fun i d e => let ⟨v, q, r⟩ := h.2 i d e; ⟨v, q, r.far s⟩⟩
theorem EnR.step (h : EnR K H ρ σ env) (s : Step ρ H ρ' H') : EnR K H' ρ' σ env := h.far s.far
theorem EnR.set {v : V} {d : D} (h : EnR K H ρ σ env) (r : DR K H ρ v d) (i : Nat) : EnR K H ρ (σ.set i (some v)) (env.set i (some d)) := by
  refine ⟨by simp [h.1], fun j d' e => ?_⟩
  by_cases hi : i = j
  · subst hi
    have h1 := (List.getElem?_eq_some_iff.mp e).1
    rw [List.getElem?_set_self (by simpa using h1)] at e
    cases e
    exact ⟨v, List.getElem?_set_self (by rw [h.1]; simpa using h1), r⟩
  · rw [List.getElem?_set_ne hi] at e
    obtain ⟨w, q, z⟩ := h.2 j d' e
    exact ⟨w, by rw [List.getElem?_set_ne hi]; exact q, z⟩
theorem EnR.setNone (h : EnR K H ρ σ env) (i : Nat) : EnR K H ρ (σ.set i none) (env.set i none) := by
  refine ⟨by simp [h.1], fun j d' e => ?_⟩
  by_cases hi : i = j
  · subst hi
    have h1 := (List.getElem?_eq_some_iff.mp e).1
    rw [List.getElem?_set_self (by simpa using h1)] at e
    cases e
  · rw [List.getElem?_set_ne hi] at e
    obtain ⟨w, q, z⟩ := h.2 j d' e
    exact ⟨w, by rw [List.getElem?_set_ne hi]; exact q, z⟩

/-- the end of a reading -/
def Fin {α β : Type} (rel : Hp → Mp → β → α → Prop) (K : PySem.W.Frag) (E : XK) (ρ : Mp) (H : Hp) (Q : β → Hp → Prop) : R α → Prop
  | .ok a st' => ∀ b H' ρ', Step ρ H ρ' H' → StR K H' ρ' st' → rel H' ρ' b a → Q b H'
  | .exc e st' => ∀ cv dx H' ρ', Step ρ H ρ' H' → StR K H' ρ' st' → ExR K H' ρ' cv dx e → E cv dx H'
theorem Fin.step {α β : Type} {rel : Hp → Mp → β → α → Prop} {Q : β → Hp → Prop} {r : R α} (h : Fin rel K E ρ H Q r) (s : Step ρ H ρ1 H1) : Fin rel K E ρ1 H1 Q r := by
  cases r with
  | ok a st' => exact fun b H' ρ' t => h b H' ρ' (s.trans t)
  | exc e st' => exact fun cv dx H' ρ' t => h cv dx H' ρ' (s.trans t)
/-- a reading by a function -/
def rdG {α β : Type} (rel : Hp → Mp → β → α → Prop) (K : PySem.W.Frag) (E : XK) (f : En → Sto → Option (R α)) (σ : L2.St) (H : Hp) (Q : β → Hp → Prop) : Prop :=
  ∃ ρ env st r, Wd K H ρ σ env st ∧ f env st = some r ∧ Fin rel K E ρ H Q r
abbrev FE := En → Sto → Option (R D)
abbrev FT := En → Sto → Option (R Bool)
abbrev FA := En → Sto → Option (R (List D))
abbrev relT : Hp → Mp → Bool → Bool → Prop := fun _ _ b a => b = a
def rdE (K : PySem.W.Frag) (E : XK) (f : FE) : TE := rdG (DR K) K E f
def rdT (K : PySem.W.Frag) (E : XK) (f : FT) : TT := rdG relT K E f
def rdA (K : PySem.W.Frag) (E : XK) (f : FA) : TA := rdG (DRs K) K E f
theorem rd_bind {α β γ δ : Type} {rel : Hp → Mp → β → α → Prop} {rel2 : Hp → Mp → δ → γ → Prop} {f : En → Sto → Option (R α)} {k : α → Sto → Option (R γ)} {r : R γ} {Q : δ → Hp → Prop} {P : β → Hp → Prop}
    (w : Wd K H ρ σ env st) (hf : bnd (f env st) k = some r) (hQ : Fin rel2 K E ρ H Q r)
    (cont : ∀ b a s1 H1 ρ1, Step ρ H ρ1 H1 → Wd K H1 ρ1 σ env s1 → rel H1 ρ1 b a → k a s1 = some r → Fin rel2 K E ρ1 H1 Q r → P b H1) : rdG rel K E f σ H P := by
  rcases bnd_some hf with ⟨a, s, e1, e2⟩ | ⟨e, s, e1, e2⟩
  · exact ⟨ρ, env, st, .ok a s, w, e1, fun b H1 ρ1 t ss q => cont b a s H1 ρ1 t ⟨w.en.step t, ss⟩ q e2 (hQ.step t)⟩
  · subst e2
    exact ⟨ρ, env, st, .exc e s, w, e1, hQ⟩
theorem Fin.val {α β : Type} {rel : Hp → Mp → β → α → Prop} {Q : β → Hp → Prop} {a : α} {b : β} (h : Fin rel K E ρ H Q (.ok a st)) (s : StR K H ρ st) (q : rel H ρ b a) : Q b H := h b H ρ .refl s q
end

/-! ### judgements -/
section
variable {X : Cx}
theorem PE.imp {e : Expr} {t t' : TE} (h : PE X e t) (i : ∀ σ H Q, t' σ H Q → t σ H Q) : PE X e t' := ⟨fun pins s σ H Q I z => h.run pins s σ H Q I (i σ H Q z)⟩
theorem PT.imp {e : Expr} {t t' : TT} (h : PT X e t) (i : ∀ σ H Q, t' σ H Q → t σ H Q) : PT X e t' := ⟨fun pins s σ H Q I z => h.run pins s σ H Q I (i σ H Q z)⟩
theorem PW.imp {e : Expr} {t t' : TT} (h : PW X e t) (i : ∀ σ H Q, t' σ H Q → t σ H Q) : PW X e t' := ⟨fun wh pins s σ H Q I z => h.run wh pins s σ H Q I (i σ H Q z)⟩
theorem PA.imp {e : List Expr} {t t' : TA} (h : PA X e t) (i : ∀ σ H Q, t' σ H Q → t σ H Q) : PA X e t' := ⟨fun pos pins s σ H Q I z => h.run pos pins s σ H Q I (i σ H Q z)⟩
theorem PS.imp {e : Stmt} {t t' : TS} (h : PS X e t) (i : ∀ D σ H, t' D σ H → t D σ H) : PS X e t' := ⟨fun pins s σ H D I z => h.run pins s σ H D I (i D σ H z)⟩
theorem PSs.imp {e : List Stmt} {t t' : TS} (h : PSs X e t) (i : ∀ D σ H, t' D σ H → t D σ H) : PSs X e t' := ⟨fun pins s σ H D I z => h.run pins s σ H D I (i D σ H z)⟩
end
abbrev VE (X : Cx) (E : XK) (e : Expr) (f : FE) : Prop := PE X e (rdE X.K E f)
abbrev VT (X : Cx) (E : XK) (e : Expr) (f : FT) : Prop := PT X e (rdT X.K E f)
abbrev VW (X : Cx) (E : XK) (e : Expr) (f : FT) : Prop := PW X e (rdT X.K E f)
abbrev VA (X : Cx) (E : XK) (e : List Expr) (f : FA) : Prop := PA X e (rdA X.K E f)

/-! ### expressions -/
def fVar (i : Nat) : FE := fun env st => match env[i]? with
  | some (some d) => some (.ok d st)
  | _ => none
def fC (d : D) : FE := fun _ st => some (.ok d st)
/-- by an operation on values that may make new immutable objects -/
def fOp (g : Sto → D → D → Option D) (a b : FE) : FE := fun env st => bnd (a env st) fun x s1 => bnd (b env s1) fun y s2 => (g s2 x y).map (R.ok · s2)
def fUn (g : Sto → D → Option D) (a : FE) : FE := fun env st => bnd (a env st) fun x s1 => (g s1 x).map (R.ok · s1)
def fIf (t : FT) (a b : FE) : FE := fun env st => bnd (t env st) fun c s1 => if c = true then a env s1 else b env s1
def fNil : FA := fun _ st => some (.ok [] st)
def fCons (a : FE) (r : FA) : FA := fun env st => bnd (a env st) fun x s1 => bnd (r env s1) fun xs s2 => some (.ok (x :: xs) s2)
def fTup (a : FA) : FE := fun env st => bnd (a env st) fun xs s1 => if xs.length ≤ 1000 then some (.ok (.tup xs) s1) else none
def fLst (a : FA) : FE := fun env st => bnd (a env st) fun xs s1 => if xs.length ≤ 1000 then some (.ok (.lst xs) s1) else none
/-- a new list that will be changed -/
def fLstC (a : FA) : FE := fun env st => bnd (a env st) fun xs s1 => if xs.length ≤ 1000 then some (.ok (.ref s1.length) (s1 ++ [.lst xs])) else none
def tV (a : FE) : FT := fun env st => bnd (a env st) fun x s1 => match x with
  | .bl b => some (.ok b s1)
  | _ => none
def tAnd2 (a b : FT) : FT := fun env st => bnd (a env st) fun c s1 => if c = true then b env s1 else some (.ok false s1)
def tOr2 (a b : FT) : FT := fun env st => bnd (a env st) fun c s1 => if c = true then some (.ok true s1) else b env s1
def tNot1 (a : FT) : FT := fun env st => bnd (a env st) fun c s1 => some (.ok (!c) s1)
def fAnd (a b : FE) : FE := fun env st => bnd (a env st) fun x s1 => match x with
  | .bl c => if c = true then b env s1 else some (.ok (.bl false) s1)
  | _ => none
def fOr (a b : FE) : FE := fun env st => bnd (a env st) fun x s1 => match x with
  | .bl c => if c = true then some (.ok (.bl true) s1) else b env s1
  | _ => none
def fNot (a : FE) : FE := fun env st => bnd (a env st) fun x s1 => match x with
  | .bl c => some (.ok (.bl (!c)) s1)
  | _ => none
/-- an operation's rule and its function -/
def OpP (K : PySem.W.Frag) (r : R2) (g : Sto → D → D → Option D) : Prop := ∀ (ρ : Mp) (H : Hp) (st : Sto) (x y : V) (dx dy d : D) (Q : VK), StR K H ρ st → DR K H ρ x dx → DR K H ρ y dy → g st dx dy = some d →
  (∀ v H', Same H H' → DR K H' ρ v d → Q v H') → r x y H Q
def UnP (K : PySem.W.Frag) (r : V → Hp → VK → Prop) (g : Sto → D → Option D) : Prop := ∀ (ρ : Mp) (H : Hp) (st : Sto) (x : V) (dx d : D) (Q : VK), StR K H ρ st → DR K H ρ x dx → g st dx = some d →
  (∀ v H', Same H H' → DR K H' ρ v d → Q v H') → r x H Q
def CaP (K : PySem.W.Frag) (r : List V → Hp → VK → Prop) (g : Sto → List D → Option D) : Prop := ∀ (ρ : Mp) (H : Hp) (st : Sto) (xs : List V) (ds : List D) (d : D) (Q : VK), StR K H ρ st → DRs K H ρ xs ds → g st ds = some d →
  (∀ v H', Same H H' → DR K H' ρ v d → Q v H') → r xs H Q
theorem map_some {α β : Type} {f : α → β} {o : Option α} {b : β} (h : o.map f = some b) : ∃ a, o = some a ∧ f a = b := Option.map_eq_some_iff.mp h
section
variable {X : Cx} {E : XK} {e a b c : Expr} {es : List Expr} {pos : Pos} {fa fb fc : FE} {fs : FA} {ft fu : FT}
theorem v_var {i : Nat} (h : PE X e (tVar i)) : VE X E e (fVar i) := by
  refine PE.imp h fun σ H Q ⟨ρ, env, st, r, w, hf, hQ⟩ => ?_
  unfold fVar at hf
  split at hf
  · rename_i d hd
    cases hf
    obtain ⟨v, q, z⟩ := w.en.2 i d hd
    exact ⟨v, q, hQ.val w.st z⟩
  · cases hf
theorem v_c {v : V} {d : D} (h : PE X e (tC v)) (r : ∀ H ρ, DR X.K H ρ v d) : VE X E e (fC d) := by
  refine PE.imp h fun σ H Q ⟨ρ, env, st, r', w, hf, hQ⟩ => ?_
  cases hf
  exact hQ.val w.st (r H ρ)
theorem v_int {i : Int} {j} : VE X E (.Constant (.int i) j pos) (fC (.int i)) := v_c pe_int fun _ _ => .int i
theorem v_bl {i : Bool} {j} : VE X E (.Constant (.bool i) j pos) (fC (.bl i)) := v_c pe_bl fun _ _ => .bl i
theorem v_non {j} : VE X E (.Constant .none j pos) (fC .non) := v_c pe_non fun _ _ => .non
theorem v_str {x : Str} {j} : VE X E (.Constant (.str x) j pos) (fC (.str x)) := v_c pe_str fun _ _ => .str x
theorem rd_op {K : PySem.W.Frag} {r : R2} {g : Sto → D → D → Option D} (hr : OpP K r g) {σ : L2.St} {H : Hp} {Q : VK} (h : rdE K E (fOp g fa fb) σ H Q) : tOp r (rdE K E fa) (rdE K E fb) σ H Q := by
  obtain ⟨ρ, env, st, r, w, hf, hQ⟩ := h
  refine rd_bind w hf hQ fun x dx s1 H1 ρ1 t1 w1 r1 hf hQ => ?_
  refine rd_bind w1 hf hQ fun y dy s2 H2 ρ2 t2 w2 r2 hf hQ => ?_
  obtain ⟨d, e1, rfl⟩ := map_some hf
  exact hr ρ2 H2 s2 x y dx dy d Q w2.st (r1.step t2) r2 e1 fun v H' s q => hQ v H' ρ2 (.same s) (w2.st.same s) q
theorem v_op {op : Operator} {r : R2} {g : Sto → D → D → Option D} (ho : OpR X (binaryOp op) r) (hr : OpP X.K r g) (ha : VE X E a fa) (hb : VE X E b fb) : VE X E (.BinOp a op b pos) (fOp g fa fb) := PE.imp (pe_op ho ha hb) fun _ _ _ h => rd_op hr h
theorem v_cmp {op : CmpOp} {r : R2} {g : Sto → D → D → Option D} (ho : OpR X (compareOp op) r) (hr : OpP X.K r g) (ha : VE X E a fa) (hb : VE X E b fb) (hm : behindInMarks op b = false) : VE X E (.Compare a [op] [b] pos) (fOp g fa fb) := PE.imp (pe_cmpR ho ha hb hm) fun _ _ _ h => rd_op hr h
theorem v_ix {r : R2} {g : Sto → D → D → Option D} (ho : IxR X r) (hr : OpP X.K r g) (ha : VE X E a fa) (hb : VE X E b fb) (hs : PlainIx b) : VE X E (.Subscript a b pos) (fOp g fa fb) := PE.imp (pe_ix ho ha hb hs) fun _ _ _ h => rd_op hr h
theorem v_un {op : UnaryOp} {r : V → Hp → VK → Prop} {g : Sto → D → Option D} (ho : UnR X (unaryOp op) r) (hr : UnP X.K r g) (ha : VE X E a fa) : VE X E (.UnaryOp op a pos) (fUn g fa) := by
  refine PE.imp (pe_un ho ha) fun σ H Q ⟨ρ, env, st, r, w, hf, hQ⟩ => ?_
  refine rd_bind w hf hQ fun x dx s1 H1 ρ1 t1 w1 r1 hf hQ => ?_
  obtain ⟨d, e1, rfl⟩ := map_some hf
  exact hr ρ1 H1 s1 x dx d Q w1.st r1 e1 fun v H' s q => hQ v H' ρ1 (.same s) (w1.st.same s) q
theorem tv_of (ha : VE X E e fa) (h : ∀ t : TE, PE X e t → PT X e (tTest t)) : VT X E e (tV fa) := by
  refine PT.imp (h _ ha) fun σ H Q ⟨ρ, env, st, r, w, hf, hQ⟩ => ?_
  refine rd_bind w hf hQ fun x dx s1 H1 ρ1 t1 w1 r1 hf hQ => ?_
  cases r1 <;> first | cases hf | skip
  exact ⟨_, rfl, hQ.val w1.st rfl⟩
theorem tv_cmp {op : CmpOp} {r : R2} {g : Sto → D → D → Option D} (ho : OpR X (compareOp op) r) (hr : OpP X.K r g) (ha : VE X E a fa) (hb : VE X E b fb) (hm : behindInMarks op b = false) : VT X E (.Compare a [op] [b] pos) (tV (fOp g fa fb)) := by
  refine PT.imp (pt_cmpR ho ha hb hm) fun σ H Q ⟨ρ, env, st, r, w, hf, hQ⟩ => ?_
  show tOp _ _ _ σ H _
  refine rd_op (K := X.K) (E := E) hr ?_
  refine rd_bind w hf hQ fun x dx s1 H1 ρ1 t1 w1 r1 hf hQ => ?_
  cases r1 <;> first | cases hf | skip
  exact ⟨_, rfl, hQ.val w1.st rfl⟩
/-- an expression that tells a truth, as a test -/
theorem tv_val (ha : VE X E e fa) (he : ∀ whole, isTrue e X.env whole = (do let v ← whole; standAt e.pos; holding [v] (truthy v)) := by intro _; rfl) : VT X E e (tV fa) := tv_of ha fun t h => pt_val h he
theorem tv_not (ha : VT X E a ft) : VT X E (.UnaryOp .Not a pos) (tNot1 ft) := by
  refine PT.imp (pt_not ha) fun σ H Q ⟨ρ, env, st, r, w, hf, hQ⟩ => ?_
  refine rd_bind w hf hQ fun x dx s1 H1 ρ1 t1 w1 r1 hf hQ => ?_
  cases hf; subst r1
  exact hQ.val w1.st rfl
theorem tw_and1 (ha : VT X E a ft) : VW X E (.BoolOp .And [a] pos) ft := pw_and1 ha
theorem tw_or1 (ha : VT X E a ft) : VW X E (.BoolOp .Or [a] pos) ft := pw_or1 ha
theorem tw_and {rest : List Expr} (ha : VT X E a ft) (hb : VW X E (.BoolOp .And (b :: rest) pos) fu) : VW X E (.BoolOp .And (a :: b :: rest) pos) (tAnd2 ft fu) := by
  refine PW.imp (pw_and ha hb) fun σ H Q ⟨ρ, env, st, r, w, hf, hQ⟩ => ?_
  refine rd_bind w hf hQ fun x dx s1 H1 ρ1 t1 w1 r1 hf hQ => ?_
  subst r1
  cases x with
  | true => exact ⟨ρ1, env, s1, r, w1, hf, hQ⟩
  | false => cases hf; exact hQ.val w1.st rfl
theorem tw_or {rest : List Expr} (ha : VT X E a ft) (hb : VW X E (.BoolOp .Or (b :: rest) pos) fu) : VW X E (.BoolOp .Or (a :: b :: rest) pos) (tOr2 ft fu) := by
  refine PW.imp (pw_or ha hb) fun σ H Q ⟨ρ, env, st, r, w, hf, hQ⟩ => ?_
  refine rd_bind w hf hQ fun x dx s1 H1 ρ1 t1 w1 r1 hf hQ => ?_
  subst r1
  cases x with
  | false => exact ⟨ρ1, env, s1, r, w1, hf, hQ⟩
  | true => cases hf; exact hQ.val w1.st rfl
theorem v_one {op} (h : VE X E a fa) : VE X E (.BoolOp op [a] pos) fa := pe_one h
theorem v_and {rest : List Expr} (ha : VE X E a fa) (hb : VE X E (.BoolOp .And (b :: rest) pos) fb) : VE X E (.BoolOp .And (a :: b :: rest) pos) (fAnd fa fb) := by
  refine PE.imp (pe_and ha hb) fun σ H Q ⟨ρ, env, st, r, w, hf, hQ⟩ => ?_
  refine rd_bind w hf hQ fun x dx s1 H1 ρ1 t1 w1 r1 hf hQ => ?_
  cases r1 <;> first | cases hf | skip
  rename_i c
  cases c with
  | true => exact ⟨true, rfl, ρ1, env, s1, r, w1, hf, hQ⟩
  | false => cases hf; exact ⟨false, rfl, hQ.val w1.st (.bl false)⟩
theorem v_or {rest : List Expr} (ha : VE X E a fa) (hb : VE X E (.BoolOp .Or (b :: rest) pos) fb) : VE X E (.BoolOp .Or (a :: b :: rest) pos) (fOr fa fb) := by
  refine PE.imp (pe_or ha hb) fun σ H Q ⟨ρ, env, st, r, w, hf, hQ⟩ => ?_
  refine rd_bind w hf hQ fun x dx s1 H1 ρ1 t1 w1 r1 hf hQ => ?_
  cases r1 <;> first | cases hf | skip
  rename_i c
  cases c with
  | false => exact ⟨false, rfl, ρ1, env, s1, r, w1, hf, hQ⟩
  | true => cases hf; exact ⟨true, rfl, hQ.val w1.st (.bl true)⟩
theorem v_not (ha : VE X E a fa) : VE X E (.UnaryOp .Not a pos) (fNot fa) := by
  refine PE.imp (pe_not ha) fun σ H Q ⟨ρ, env, st, r, w, hf, hQ⟩ => ?_
  refine rd_bind w hf hQ fun x dx s1 H1 ρ1 t1 w1 r1 hf hQ => ?_
  cases r1 <;> first | cases hf | skip
  exact ⟨_, rfl, hQ.val w1.st (.bl _)⟩
theorem v_ifExp (ht : VT X E c ft) (ha : VE X E a fa) (hb : VE X E b fb) : VE X E (.IfExp c a b pos) (fIf ft fa fb) := by
  refine PE.imp (pe_ifExp ht ha hb) fun σ H Q ⟨ρ, env, st, r, w, hf, hQ⟩ => ?_
  refine rd_bind w hf hQ fun x dx s1 H1 ρ1 t1 w1 r1 hf hQ => ?_
  subst r1
  cases x with
  | true => exact ⟨ρ1, env, s1, r, w1, hf, hQ⟩
  | false => exact ⟨ρ1, env, s1, r, w1, hf, hQ⟩
theorem a_nil : VA X E [] fNil := PA.imp pa_nil fun σ H Q ⟨ρ, env, st, r, w, hf, hQ⟩ => by
  cases hf
  exact hQ.val w.st .nil
theorem a_cons (ha : VE X E e fa) (hr : VA X E es fs) (hs : starEach (e :: es) X.env = (false, eval e X.env) :: starEach es X.env := by rfl) : VA X E (e :: es) (fCons fa fs) := by
  refine PA.imp (pa_cons ha hr hs) fun σ H Q ⟨ρ, env, st, r, w, hf, hQ⟩ => ?_
  refine rd_bind w hf hQ fun x dx s1 H1 ρ1 t1 w1 r1 hf hQ => ?_
  refine rd_bind w1 hf hQ fun y dy s2 H2 ρ2 t2 w2 r2 hf hQ => ?_
  cases hf
  exact hQ.val w2.st (.cons (r1.step t2) r2)
theorem sz1000 {n : Nat} (h : n ≤ 1000) : n ≤ sizeLine := Nat.le_trans h (by decide)
theorem v_tup {x1} (h : VA X E es fs) : VE X E (.Tuple es x1 pos) (fTup fs) := by
  refine PE.imp (pe_tup h) fun σ H Q ⟨ρ, env, st, r, w, hf, hQ⟩ => ?_
  refine rd_bind w hf hQ fun x dx s1 H1 ρ1 t1 w1 r1 hf hQ => ?_
  split at hf
  · rename_i hl
    cases hf
    refine ⟨sz1000 (by rw [r1.1]; exact hl), fun p hp => ?_⟩
    have s := same_upd (o := .tup x) hp
    exact hQ _ _ ρ1 (.same s) (w1.st.same s) (.tup ⟨w1.st.new hp, upd_same⟩ r1.1 (r1.step (.same s)).2)
  · cases hf
theorem v_lst (h : VA X E es fs) : VE X E (.List es pos) (fLst fs) := by
  refine PE.imp (pe_lst h) fun σ H Q ⟨ρ, env, st, r, w, hf, hQ⟩ => ?_
  refine rd_bind w hf hQ fun x dx s1 H1 ρ1 t1 w1 r1 hf hQ => ?_
  split at hf
  · rename_i hl
    cases hf
    refine ⟨sz1000 (by rw [r1.1]; exact hl), fun p hp => ?_⟩
    have s := same_upd (o := .lst x) hp
    exact hQ _ _ ρ1 (.same s) (w1.st.same s) (.lst ⟨w1.st.new hp, upd_same⟩ r1.1 (r1.step (.same s)).2)
  · cases hf
theorem cell_ix {ρ : Mp} {st : Sto} {K : PySem.W.Frag} {H : Hp} {p : Addr} (h : StR K H ρ st) : (ρ.add p).c[st.length]? = some p := by
  show (ρ.c ++ [p])[st.length]? = some p
  rw [← h.len, List.getElem?_append_right (Nat.le_refl _)]; simp
theorem v_lstC (h : VA X E es fs) : VE X E (.List es pos) (fLstC fs) := by
  refine PE.imp (pe_lst h) fun σ H Q ⟨ρ, env, st, r, w, hf, hQ⟩ => ?_
  refine rd_bind w hf hQ fun x dx s1 H1 ρ1 t1 w1 r1 hf hQ => ?_
  split at hf
  · rename_i hl
    cases hf
    refine ⟨sz1000 (by rw [r1.1]; exact hl), fun p hp => ?_⟩
    have s : Step ρ1 H1 (ρ1.add p) (upd H1 p (.lst x)) := .cell hp
    exact hQ _ _ _ s (w1.st.newCell hp ⟨x, upd_same, r1.step s⟩) (.ref (cell_ix w1.st))
  · cases hf
end
end Fx
/-! Fx: statements, targets, loops, comprehensions, defs. -/
namespace Fx
open PySem PySem.Spec PyProof.Rows L2

inductive Res where
  | nx (env : En) (s : Sto) | rt (d : D) (s : Sto) | bk (env : En) (s : Sto) | ct (env : En) (s : Sto) | exc (e : Exn) (s : Sto)
abbrev FS := En → Sto → Option Res
def sb {α : Type} (x : Option (R α)) (k : α → Sto → Option Res) : Option Res :=
  match x with
  | some (.ok a s) => k a s
  | some (.exc e s) => some (.exc e s)
  | none => none
@[simp] theorem sb_ok {α : Type} {a : α} {s : Sto} {k : α → Sto → Option Res} : sb (some (.ok a s)) k = k a s := rfl
@[simp] theorem sb_exc {α : Type} {e : Exn} {s : Sto} {k : α → Sto → Option Res} : sb (some (.exc e s)) k = some (.exc e s) := rfl
@[simp] theorem sb_none {α : Type} {k : α → Sto → Option Res} : sb (none : Option (R α)) k = none := rfl
theorem sb_some {α : Type} {x : Option (R α)} {k : α → Sto → Option Res} {r : Res} (h : sb x k = some r) :
    (∃ a s, x = some (.ok a s) ∧ k a s = some r) ∨ (∃ e s, x = some (.exc e s) ∧ r = .exc e s) := by
  cases x with
  | none => cases h
  | some q =>
    cases q with
    | ok a s => exact .inl ⟨a, s, rfl, h⟩
    | exc e s => exact .inr ⟨e, s, rfl, (Option.some.inj h).symm⟩
section
variable (K : PySem.W.Frag) (E : XK)
def SFin (ρ : Mp) (H : Hp) (Dn : Ends) : Res → Prop
  | .nx env st => ∀ σ' H' ρ', Step ρ H ρ' H' → Wd K H' ρ' σ' env st → Dn.nx σ' H'
  | .bk env st => ∀ σ' H' ρ', Step ρ H ρ' H' → Wd K H' ρ' σ' env st → Dn.bk σ' H'
  | .ct env st => ∀ σ' H' ρ', Step ρ H ρ' H' → Wd K H' ρ' σ' env st → Dn.ct σ' H'
  | .rt d st => ∀ v H' ρ', Step ρ H ρ' H' → StR K H' ρ' st → DR K H' ρ' v d → Dn.rt v H'
  | .exc e st => ∀ cv dx H' ρ', Step ρ H ρ' H' → StR K H' ρ' st → ExR K H' ρ' cv dx e → E cv dx H'
def rdS (f : FS) : TS := fun Dn σ H => ∃ ρ env st r, Wd K H ρ σ env st ∧ f env st = some r ∧ SFin K E ρ H Dn r
end
section
variable {K : PySem.W.Frag} {H H1 H2 H' : Hp} {ρ ρ1 ρ2 ρ' : Mp} {σ : L2.St} {env : En} {st : Sto} {E : XK} {Dn : Ends}
theorem SFin.step {r : Res} (h : SFin K E ρ H Dn r) (s : Step ρ H ρ1 H1) : SFin K E ρ1 H1 Dn r := by
  cases r with
  | nx env st => exact fun a b c t => h a b c (s.trans t)
  | bk env st => exact fun a b c t => h a b c (s.trans t)
  | ct env st => exact fun a b c t => h a b c (s.trans t)
  | rt d st => exact fun a b c t => h a b c (s.trans t)
  | exc e st => exact fun cv dx H' ρ' t => h cv dx H' ρ' (s.trans t)
theorem rd_sb {α β : Type} {rel : Hp → Mp → β → α → Prop} {f : En → Sto → Option (R α)} {k : α → Sto → Option Res} {r : Res} {P : β → Hp → Prop}
    (w : Wd K H ρ σ env st) (hf : sb (f env st) k = some r) (hQ : SFin K E ρ H Dn r)
    (cont : ∀ b a s1 H1 ρ1, Step ρ H ρ1 H1 → Wd K H1 ρ1 σ env s1 → rel H1 ρ1 b a → k a s1 = some r → SFin K E ρ1 H1 Dn r → P b H1) : rdG rel K E f σ H P := by
  rcases sb_some hf with ⟨a, s, e1, e2⟩ | ⟨e, s, e1, e2⟩
  · exact ⟨ρ, env, st, .ok a s, w, e1, fun b H1 ρ1 t ss q => cont b a s H1 ρ1 t ⟨w.en.step t, ss⟩ q e2 (hQ.step t)⟩
  · subst e2
    exact ⟨ρ, env, st, .exc e s, w, e1, hQ⟩
end
abbrev VS (X : Cx) (E : XK) (s : Stmt) (f : FS) : Prop := PS X s (rdS X.K E f)
abbrev VSs (X : Cx) (E : XK) (s : List Stmt) (f : FS) : Prop := PSs X s (rdS X.K E f)

/-! ### statements -/
def fPass : FS := fun env st => some (.nx env st)
def fSeq (a b : FS) : FS := fun env st => match a env st with
  | some (.nx e1 s1) => b e1 s1
  | r => r
def fRet (e : FE) : FS := fun env st => sb (e env st) fun d s1 => some (.rt d s1)
def fRetN : FS := fun env st => some (.rt .non st)
def fExpr (e : FE) : FS := fun env st => sb (e env st) fun _ s1 => some (.nx env s1)
def fBreak : FS := fun env st => some (.bk env st)
def fCont : FS := fun env st => some (.ct env st)
def fNever : FS := fun _ _ => none
def fIfS (t : FT) (a b : FS) : FS := fun env st => sb (t env st) fun c s1 => if c = true then a env s1 else b env s1
def fSet (i : Nat) (e : FE) : FS := fun env st => sb (e env st) fun d s1 => some (.nx (env.set i (some d)) s1)
def fPar (i j : Nat) (a : FA) : FS := fun env st => sb (a env st) fun ds s1 => match ds with
  | [x, y] => some (.nx ((env.set i (some x)).set j (some y)) s1)
  | _ => none
def fAug (i : Nat) (e : FE) (g : Sto → D → D → Option D) : FS := fun env st => match env[i]? with
  | some (some x) => sb (e env st) fun y s1 => match g s1 x y with
    | some z => some (.nx (env.set i (some z)) s1)
    | none => none
  | _ => none
/-! ### targets -/
abbrev FG := D → En → Sto → Option (R En)
abbrev FGs := List D → En → Sto → Option (R En)
def relS (K : PySem.W.Frag) : Hp → Mp → L2.St → En → Prop := fun H ρ σ env => EnR K H ρ σ env
def rdTG (K : PySem.W.Frag) (E : XK) (g : FG) : TG := fun v σ H Q => ∃ ρ env st d r, Wd K H ρ σ env st ∧ DR K H ρ v d ∧ g d env st = some r ∧ Fin (relS K) K E ρ H Q r
def rdTGs (K : PySem.W.Frag) (E : XK) (g : FGs) : TGs := fun vs σ H Q => ∃ ρ env st ds r, Wd K H ρ σ env st ∧ DRs K H ρ vs ds ∧ g ds env st = some r ∧ Fin (relS K) K E ρ H Q r
abbrev VG (X : Cx) (E : XK) (e : Expr) (g : FG) : Prop := PG X e (rdTG X.K E g)
abbrev VGs (X : Cx) (E : XK) (e : List Expr) (g : FGs) : Prop := PGs X e (rdTGs X.K E g)
def gNm (i : Nat) : FG := fun d env st => some (.ok (env.set i (some d)) st)
def gsNil : FGs := fun ds env st => match ds with
  | [] => some (.ok env st)
  | _ => none
def gsCons (g : FG) (h : FGs) : FGs := fun ds env st => match ds with
  | d :: r => bnd (g d env st) fun env1 s1 => h r env1 s1
  | [] => none
def gTp (n : Nat) (g : FGs) : FG := fun d env st => match d with
  | .tup ds => if ds.length = n then g ds env st else none
  | .frt ds => if ds.length = n then g ds env st else none
  | _ => none
def gLs (n : Nat) (g : FGs) : FG := fun d env st => match d with
  | .lst ds => if ds.length = n then g ds env st else none
  | .frz ds => if ds.length = n then g ds env st else none
  | .ref k => match st[k]? with
    | some (.lst ds) => if ds.length = n then g ds env st else none
    | _ => none
  | _ => none
def fAsg (e : FE) (g : FG) : FS := fun env st => sb (e env st) fun d s1 => sb (g d env s1) fun env2 s2 => some (.nx env2 s2)
section
variable {X : Cx}
theorem PG.imp {e : Expr} {t t' : TG} (h : PG X e t) (i : ∀ v σ H Q, t' v σ H Q → t v σ H Q) : PG X e t' := ⟨fun pins s σ H v u Q I r z => h.run pins s σ H v u Q I r (i v σ H Q z)⟩
theorem PGs.imp {e : List Expr} {t t' : TGs} (h : PGs X e t) (i : ∀ v σ H Q, t' v σ H Q → t v σ H Q) : PGs X e t' := ⟨fun pins s σ H v u Q I r z => h.run pins s σ H v u Q I r (i v σ H Q z)⟩
end
section
variable {X : Cx} {E : XK} {e a b c : Expr} {es : List Expr} {pos : Pos} {fa fb fc fe : FE} {fs : FA} {ft fu : FT} {g : FG} {gs : FGs} {s s1 : Stmt} {ss : List Stmt} {f f1 f2 : FS}
theorem ss_nil : VSs X E [] fPass := PSs.imp pss_nil fun Dn σ H ⟨ρ, env, st, r, w, hf, hQ⟩ => by
  cases hf
  exact hQ σ H ρ .refl w
theorem s_pass : VS X E (.Pass pos) fPass := PS.imp ps_pass fun Dn σ H ⟨ρ, env, st, r, w, hf, hQ⟩ => by
  cases hf
  exact hQ σ H ρ .refl w
theorem s_doc {x j pos pos'} : VS X E (.Expr (.Constant (.str x) j pos) pos') fPass := PS.imp ps_doc fun Dn σ H ⟨ρ, env, st, r, w, hf, hQ⟩ => by
  cases hf
  exact hQ σ H ρ .refl w
theorem s_break : VS X E (.Break pos) fBreak := PS.imp ps_break fun Dn σ H ⟨ρ, env, st, r, w, hf, hQ⟩ => by
  cases hf
  exact hQ σ H ρ .refl w
theorem s_cont : VS X E (.Continue pos) fCont := PS.imp ps_continue fun Dn σ H ⟨ρ, env, st, r, w, hf, hQ⟩ => by
  cases hf
  exact hQ σ H ρ .refl w
theorem s_never : VS X E s fNever := PS.imp ps_never fun Dn σ H ⟨ρ, env, st, r, w, hf, hQ⟩ => by cases hf
theorem ss_one (h : VS X E s f) : VSs X E [s] f := pss_one h
theorem ss_cons (h : VS X E s f1) (h2 : VSs X E ss f2) : VSs X E (s :: ss) (fSeq f1 f2) := by
  refine PSs.imp (pss_cons h h2) fun Dn σ H ⟨ρ, env, st, r, w, hf, hQ⟩ => ?_
  show rdS X.K E f1 { Dn with nx := rdS X.K E f2 Dn } σ H
  unfold fSeq at hf
  cases e1 : f1 env st with
  | none => rw [e1] at hf; cases hf
  | some q =>
    rw [e1] at hf
    refine ⟨ρ, env, st, q, w, e1, ?_⟩
    cases q with
    | nx en1 st1 => exact fun σ' H' ρ' t w' => ⟨ρ', en1, st1, r, w', hf, hQ.step t⟩
    | rt d st1 => cases hf; exact hQ
    | bk en1 st1 => cases hf; exact hQ
    | ct en1 st1 => cases hf; exact hQ
    | exc ex st1 => cases hf; exact hQ
theorem s_ret (h : VE X E e fe) : VS X E (.Return (some e) pos) (fRet fe) := by
  refine PS.imp (ps_ret h) fun Dn σ H ⟨ρ, env, st, r, w, hf, hQ⟩ => ?_
  refine rd_sb w hf hQ fun x dx s1 H1 ρ1 t1 w1 r1 hf hQ => ?_
  cases hf
  exact hQ x H1 ρ1 .refl w1.st r1
theorem s_retN : VS X E (.Return none pos) fRetN := PS.imp ps_retN fun Dn σ H ⟨ρ, env, st, r, w, hf, hQ⟩ => by
  cases hf
  exact hQ .non H ρ .refl w.st .non
theorem s_expr (h : VE X E e fe) (hs : swapsWith e none pos.line X.env = pure false := by rfl) : VS X E (.Expr e pos) (fExpr fe) := by
  refine PS.imp (ps_expr h hs) fun Dn σ H ⟨ρ, env, st, r, w, hf, hQ⟩ => ?_
  refine rd_sb w hf hQ fun x dx s1 H1 ρ1 t1 w1 r1 hf hQ => ?_
  cases hf
  exact hQ σ H1 ρ1 .refl w1
theorem s_if {c : Expr} {sa sbb : List Stmt} (hc : VT X E c ft) (ha : VSs X E sa f1) (hb : VSs X E sbb f2) : VS X E (.If c sa sbb pos) (fIfS ft f1 f2) := by
  refine PS.imp (ps_if hc ha hb) fun Dn σ H ⟨ρ, env, st, r, w, hf, hQ⟩ => ?_
  refine rd_sb w hf hQ fun x dx s1 H1 ρ1 t1 w1 r1 hf hQ => ?_
  subst r1
  cases x with
  | true => exact ⟨ρ1, env, s1, r, w1, hf, hQ⟩
  | false => exact ⟨ρ1, env, s1, r, w1, hf, hQ⟩
theorem s_set {i : Nat} {x : Str} {pos' : Pos} (hN : X.N.Nodup) (hi : X.N[i]? = some x) (hx : Loc X.env.scope x) (he : VE X E e fe) (hs : swapsWith e (some (.Name x pos')) pos.line X.env = pure false := by rfl) (hf : X.fn x = true ∨ X.env.scope.names.lookup x = some .local := by first | exact .inl rfl | exact .inr rfl | assumption) :
    VS X E (.Assign [.Name x pos'] e pos) (fSet i fe) := by
  refine PS.imp (ps_set hN hi hx he hs hf) fun Dn σ H ⟨ρ, env, st, r, w, hf, hQ⟩ => ?_
  refine rd_sb w hf hQ fun x dx s1 H1 ρ1 t1 w1 r1 hf hQ => ?_
  cases hf
  exact hQ _ H1 ρ1 .refl ⟨w1.en.set r1 i, w1.st⟩
theorem s_par {i j : Nat} (h : PS X s (tPar i j (rdA X.K E fs))) : VS X E s (fPar i j fs) := by
  refine PS.imp h fun Dn σ H ⟨ρ, env, st, r, w, hf, hQ⟩ => ?_
  refine rd_sb w hf hQ fun xs ds s1 H1 ρ1 t1 w1 r1 hf hQ => ?_
  split at hf
  · rename_i d1 d2
    cases hf
    obtain ⟨v1, r, rfl, q1, r1⟩ := r1.cons_inv
    obtain ⟨v2, r, rfl, q2, r1⟩ := r1.cons_inv
    have := r1.nil_inv
    subst this
    exact ⟨v1, v2, rfl, hQ _ H1 ρ1 .refl ⟨(w1.en.set q1 i).set q2 j, w1.st⟩⟩
  · cases hf
theorem s_aug {i : Nat} {x : Str} {op : Operator} {ti : TIp} {pos' : Pos} {g : Sto → D → D → Option D} (hN : X.N.Nodup) (hi : X.N[i]? = some x) (hx : Loc X.env.scope x) (he : VE X E e fe) (ho : PIp X op ti) (hr : OpP X.K ti g)
    (hf : X.fn x = true ∨ X.env.scope.names.lookup x = some .local := by first | exact .inl rfl | exact .inr rfl | assumption) : VS X E (.AugAssign (.Name x pos') op e pos) (fAug i fe g) := by
  refine PS.imp (ps_aug hN hi hx he ho hf) fun Dn σ H ⟨ρ, env, st, r, w, hf, hQ⟩ => ?_
  unfold fAug at hf
  split at hf
  · rename_i d hd
    obtain ⟨v, q, z⟩ := w.en.2 i d hd
    refine ⟨v, q, ?_⟩
    refine rd_sb w hf hQ fun y dy s1 H1 ρ1 t1 w1 r1 hf hQ => ?_
    split at hf
    · rename_i d2 hd2
      cases hf
      refine hr ρ1 H1 s1 v y d dy d2 _ w1.st (z.step t1) r1 hd2 fun u H' s q' => ?_
      exact hQ _ H' ρ1 (.same s) ⟨(w1.en.step (.same s)).set q' i, w1.st.same s⟩
    · cases hf
  · cases hf
theorem g_name {i : Nat} {x : Str} (hN : X.N.Nodup) (hi : X.N[i]? = some x) (hx : Loc X.env.scope x) (hf : X.fn x = true ∨ X.env.scope.names.lookup x = some .local := by first | exact .inl rfl | exact .inr rfl | assumption) : VG X E (.Name x pos) (gNm i) := by
  refine PG.imp (pg_name hN hi hx hf) fun v σ H Q ⟨ρ, env, st, d, r, w, hd, hf, hQ⟩ => ?_
  cases hf
  exact hQ _ H ρ .refl w.st (w.en.set hd i)
theorem gs_nil : VGs X E [] gsNil := by
  refine PGs.imp pgs_nil fun vs σ H Q ⟨ρ, env, st, ds, r, w, hd, hf, hQ⟩ => ?_
  unfold gsNil at hf
  split at hf
  · cases hf
    exact ⟨hd.nil_inv, hQ _ H ρ .refl w.st w.en⟩
  · cases hf
theorem gs_cons_rd {K : PySem.W.Frag} {vs : List V} {σ : L2.St} {H : Hp} {Q : L2.St → Hp → Prop} (h : rdTGs K E (gsCons g gs) vs σ H Q) : gCons (rdTG K E g) (rdTGs K E gs) vs σ H Q := by
  obtain ⟨ρ, env, st, ds, r, w, hd, hf, hQ⟩ := h
  unfold gsCons at hf
  split at hf
  · rename_i d ds
    obtain ⟨x, xs, rfl, q1, q2⟩ := hd.cons_inv
    refine ⟨x, xs, rfl, ?_⟩
    rcases bnd_some hf with ⟨en1, s1, e1, e2⟩ | ⟨e, s1, e1, e2⟩
    · exact ⟨ρ, env, st, d, _, w, q1, e1, fun σ' H1 ρ1 t ss q => ⟨ρ1, en1, s1, ds, r, ⟨q, ss⟩, q2.step t, e2, hQ.step t⟩⟩
    · subst e2
      exact ⟨ρ, env, st, d, _, w, q1, e1, hQ⟩
  · cases hf
theorem gs_cons (h1 : VG X E e g) (h2 : VGs X E es gs) (hs : PGs X (e :: es) (gCons (rdTG X.K E g) (rdTGs X.K E gs))) : VGs X E (e :: es) (gsCons g gs) := PGs.imp hs fun _ _ _ _ h => gs_cons_rd h
theorem g_tup {k : Nat} {n : Nat} (h : PG X (.Tuple es k pos) (gTup X.K n (rdTGs X.K E gs))) : VG X E (.Tuple es k pos) (gTp n gs) := by
  refine PG.imp h fun v σ H Q ⟨ρ, env, st, d, r, w, hd, hf, hQ⟩ => ?_
  unfold gTp at hf
  split at hf
  · rename_i ds
    split at hf
    · rename_i hl
      obtain ⟨a, xs, rfl, q1, q2⟩ := hd.tup_inv
      exact ⟨a, xs, rfl, q1.seq, q2.1.trans hl, ρ, env, st, ds, r, w, q2, hf, hQ⟩
    · cases hf
  · rename_i ds
    split at hf
    · rename_i hl
      obtain ⟨a, xs, rfl, q1, q2⟩ := hd.frt_inv
      exact ⟨a, xs, rfl, q1.seq, q2.1.trans hl, ρ, env, st, ds, r, w, q2, hf, hQ⟩
    · cases hf
  · cases hf
theorem g_lst {k : Nat} {n : Nat} (h : PG X (.Tuple es k pos) (gUnl X.K n (rdTGs X.K E gs))) : VG X E (.Tuple es k pos) (gLs n gs) := by
  refine PG.imp h fun v σ H Q ⟨ρ, env, st, d, r, w, hd, hf, hQ⟩ => ?_
  unfold gLs at hf
  split at hf
  · rename_i ds
    split at hf
    · rename_i hl
      obtain ⟨a, xs, rfl, q1, q2⟩ := hd.lst_inv
      exact ⟨a, xs, rfl, q1.seq, q2.1.trans hl, ρ, env, st, ds, r, w, q2, hf, hQ⟩
    · cases hf
  · rename_i ds
    split at hf
    · rename_i hl
      obtain ⟨a, xs, rfl, q1, q2⟩ := hd.frz_inv
      exact ⟨a, xs, rfl, q1.seq, q2.1.trans hl, ρ, env, st, ds, r, w, q2, hf, hQ⟩
    · cases hf
  · rename_i k
    split at hf
    · rename_i ds hds
      split at hf
      · rename_i hl
        obtain ⟨a, rfl, q1⟩ := hd.ref_inv
        obtain ⟨xs, q2, q3⟩ := w.st.lstAt q1 hds
        exact ⟨a, xs, rfl, .inl (.inl q2), q3.1.trans hl, ρ, env, st, ds, r, w, q3, hf, hQ⟩
      · cases hf
    · cases hf
  · cases hf
theorem s_asg {tg : Expr} (he : VE X E e fe) (hg : VG X E tg g) (hs : swapsWithSole [tg] e pos.line X.env = pure false := by rfl) (hw : swappedStores [tg] e X.env = pure none := by rfl) (h1 : (assignEach [tg] X.env).map (·.2) = [assign tg X.env] := by rfl) : VS X E (.Assign [tg] e pos) (fAsg fe g) := by
  refine PS.imp (ps_asg he hg hs hw h1) fun Dn σ H ⟨ρ, env, st, r, w, hf, hQ⟩ => ?_
  refine rd_sb w hf hQ fun y dy s1 H1 ρ1 t1 w1 r1 hf hQ => ?_
  rcases sb_some hf with ⟨en2, s2, e1, e2⟩ | ⟨e, s2, e1, e2⟩
  · cases e2
    exact ⟨ρ1, env, s1, dy, _, w1, r1, e1, fun σ' H' ρ' t ss q => hQ σ' H' ρ' t ⟨q, ss⟩⟩
  · cases e2
    exact ⟨ρ1, env, s1, dy, _, w1, r1, e1, hQ⟩
end

/-! ### loops -/
abbrev FI := En → Sto → Option (R (List D))
def ItOk (K : PySem.W.Frag) (ρ0 : Mp) (H0 : Hp) (J : It) (items : List D) : Prop :=
  ∀ ρ H st, Far ρ0 H0 ρ H → StR K H ρ st → (∀ i d, items[i]? = some d → J.go i H ∧ ∀ x H', J.yld i H x H' → Same H H' ∧ DR K H' ρ x d) ∧ ∀ i, items.length ≤ i → J.stop i H
def relI (K : PySem.W.Frag) : Hp → Mp → It → List D → Prop := fun H ρ J items => ItOk K ρ H J items
def rdI (K : PySem.W.Frag) (E : XK) (f : FI) : TI := fun σ H Q => rdG (relI K) K E f σ H Q
abbrev VI (X : Cx) (E : XK) (tg e : Expr) (f : FI) : Prop := PI X tg e (rdI X.K E f)
theorem PI.imp {X : Cx} {tg e : Expr} {t t' : TI} (h : PI X tg e t) (i : ∀ σ H Q, t' σ H Q → t σ H Q) : PI X tg e t' := ⟨fun pins s σ H Q I z => h.run pins s σ H Q I (i σ H Q z)⟩
def forL (g : FG) (body : FS) : List D → En → Sto → Option Res
  | [], env, st => some (.nx env st)
  | d :: ds, env, st => sb (g d env st) fun env1 s1 => match body env1 s1 with
    | some (.nx env2 s2) => forL g body ds env2 s2
    | some (.ct env2 s2) => forL g body ds env2 s2
    | some (.bk env2 s2) => some (.nx env2 s2)
    | r => r
def fFor (fi : FI) (g : FG) (body : FS) : FS := fun env st => sb (fi env st) fun items s1 => forL g body items env s1
def whL (t : FT) (body : FS) : Nat → En → Sto → Option Res
  | 0, _, _ => none
  | n + 1, env, st => sb (t env st) fun c s1 => if c = true then (match body env s1 with
      | some (.nx env2 s2) => whL t body n env2 s2
      | some (.ct env2 s2) => whL t body n env2 s2
      | some (.bk env2 s2) => some (.nx env2 s2)
      | r => r) else some (.nx env s1)
def fWhile (m : En → Sto → Nat) (t : FT) (body : FS) : FS := fun env st => whL t body (m env st) env st
section
variable {X : Cx} {E : XK} {pos : Pos} {ft : FT} {g : FG} {f : FS} {fi : FI}
theorem s_while {c : Expr} {body : List Stmt} (m : En → Sto → Nat) (hp : PassesOwn (model X.prog X.w) X.A X.env X.xe) (hc : VT X E c ft) (hb : VSs X E body f) : VS X E (.While c body [] pos) (fWhile m ft f) := by
  refine PS.imp (ps_while hp hc hb) fun Dn σ H ⟨ρ, env, st, r, w, hf, hQ⟩ => ?_
  refine ⟨fun n σ' H' => ∃ ρ' en' st', Step ρ H ρ' H' ∧ Wd X.K H' ρ' σ' en' st' ∧ whL ft f n en' st' = some r, ⟨_, ρ, env, st, .refl, w, hf⟩, ?_⟩
  rintro n σ1 H1 ⟨ρ1, en1, st1, t1, w1, hf⟩
  cases n with
  | zero => cases hf
  | succ n =>
    unfold whL at hf
    refine rd_sb w1 hf (hQ.step t1) fun b db s2 H2 ρ2 t2 w2 r2 hf hQ2 => ?_
    subst r2
    cases b with
    | false =>
      cases hf
      exact hQ2 σ1 H2 ρ2 .refl w2
    | true =>
      simp only [if_true] at hf ⊢
      refine ⟨fun σ' H' => ∃ ρ' en' st', Step ρ H ρ' H' ∧ Wd X.K H' ρ' σ' en' st' ∧ whL ft f n en' st' = some r, fun σ' H' h => ⟨n, Nat.lt_succ_self n, h⟩, ?_⟩
      cases e1 : f en1 s2 with
      | none => rw [e1] at hf; cases hf
      | some q =>
        rw [e1] at hf
        refine ⟨ρ2, en1, s2, q, w2, e1, ?_⟩
        cases q with
        | nx en3 s3 => exact fun σ' H' ρ' t w' => ⟨ρ', en3, s3, (t1.trans t2).trans t, w', hf⟩
        | ct en3 s3 => exact fun σ' H' ρ' t w' => ⟨ρ', en3, s3, (t1.trans t2).trans t, w', hf⟩
        | bk en3 s3 => cases hf; exact hQ2
        | rt d s3 => cases hf; exact hQ2
        | exc e s3 => cases hf; exact hQ2
theorem s_for {tg iter : Expr} {body : List Stmt} (hp : PassesOwn (model X.prog X.w) X.A X.env X.xe) (hc : X.calm = true) (hi : VI X E tg iter fi) (hg : VG X E tg g) (hb : VSs X E body f)
    (hs : ∀ x, foldedSetIterable iter X.env x = pure x := by intro _; rfl) : VS X E (.For tg iter body [] pos) (fFor fi g f) := by
  refine PS.imp (ps_for hp hc hi hg hb hs) fun Dn σ H ⟨ρ, env, st, r, w, hf, hQ⟩ => ?_
  refine rd_sb w hf hQ fun J items s1 H1 ρ1 t1 w1 r1 hf hQ => ?_
  refine ⟨fun i n σ' H' => ∃ ρ' en' st', Step ρ1 H1 ρ' H' ∧ Wd X.K H' ρ' σ' en' st' ∧ i + n = items.length ∧ forL g f (items.drop i) en' st' = some r, ⟨items.length, ρ1, env, s1, .refl, w1, by omega, by rw [List.drop_zero]; exact hf⟩, ?_⟩
  rintro i n σ2 H2 ⟨ρ2, en2, st2, t2, w2, hn, hf⟩
  obtain ⟨go, stop⟩ := r1 ρ2 H2 st2 t2.far w2.st
  by_cases hi : i < items.length
  · have hd : items[i]? = some items[i] := List.getElem?_eq_getElem hi
    obtain ⟨g1, g2⟩ := go i _ hd
    refine .inr ⟨g1, fun σ' H' => ∃ ρ' en' st', Step ρ1 H1 ρ' H' ∧ Wd X.K H' ρ' σ' en' st' ∧ forL g f (items.drop (i + 1)) en' st' = some r, fun σ' H' ⟨ρ', en', st', t, w, h⟩ => ⟨n - 1, by omega, ρ', en', st', t, w, by omega, h⟩, fun x H3 hy => ?_⟩
    obtain ⟨sm, hx⟩ := g2 x H3 hy
    have t3 : Step ρ2 H2 ρ2 H3 := .same sm
    rw [List.drop_eq_getElem_cons hi] at hf
    unfold forL at hf
    rcases sb_some hf with ⟨en4, s4, e1, e2⟩ | ⟨e, s4, e1, e2⟩
    · refine ⟨ρ2, en2, st2, _, _, ⟨w2.en.step t3, w2.st.same sm⟩, hx, e1, fun σ4 H4 ρ4 t4 ss4 q4 => ?_⟩
      have T := (t2.trans t3).trans t4
      cases e5 : f en4 s4 with
      | none => rw [e5] at e2; cases e2
      | some q =>
        rw [e5] at e2
        refine ⟨ρ4, en4, s4, q, ⟨q4, ss4⟩, e5, ?_⟩
        cases q with
        | nx en6 s6 => exact fun σ' H' ρ' t w' => ⟨ρ', en6, s6, T.trans t, w', e2⟩
        | ct en6 s6 => exact fun σ' H' ρ' t w' => ⟨ρ', en6, s6, T.trans t, w', e2⟩
        | bk en6 s6 => cases e2; exact hQ.step T
        | rt d s6 => cases e2; exact hQ.step T
        | exc e s6 => cases e2; exact hQ.step T
    · subst e2
      exact ⟨ρ2, en2, st2, _, _, ⟨w2.en.step t3, w2.st.same sm⟩, hx, e1, hQ.step (t2.trans t3)⟩
  · refine .inl ⟨stop i (by omega), ?_⟩
    rw [List.drop_of_length_le (by omega)] at hf
    cases hf
    exact hQ σ2 H2 ρ2 t2 w2
end

/-! ### what is walked -/
/-- the items of a list or tuple that stays -/
def itSeq (d : D) : Option (List D) := match d with
  | .lst xs => some xs
  | .tup xs => some xs
  | _ => none
def seqL (d : D) : Option (List D) := match d with
  | .lst xs => some xs
  | .frz xs => some xs
  | _ => none
def seqT (d : D) : Option (List D) := match d with
  | .tup xs => some xs
  | .frt xs => some xs
  | _ => none
def iLst (fa : FE) : FI := fun env st => bnd (fa env st) fun d s1 => (seqL d).map (R.ok · s1)
def iTp (fa : FE) : FI := fun env st => bnd (fa env st) fun d s1 => (seqT d).map (R.ok · s1)
theorem DR.seqL_inv {K : PySem.W.Frag} {H : Hp} {ρ : Mp} {v : V} {d : D} {ds : List D} (h : DR K H ρ v d) (e : seqL d = some ds) : ∃ a xs, v = .ref a ∧ ZxL K H ρ a xs ∧ DRs K H ρ xs ds := by
  cases h <;> first | cases e | skip
  · rename_i a xs h l q; exact ⟨a, xs, rfl, .inl ⟨h.1, .inl h.2⟩, l, q⟩
  · rename_i a xs h l q; exact ⟨a, xs, rfl, h, l, q⟩
theorem DR.seqT_inv {K : PySem.W.Frag} {H : Hp} {ρ : Mp} {v : V} {d : D} {ds : List D} (h : DR K H ρ v d) (e : seqT d = some ds) : ∃ a xs, v = .ref a ∧ ZxT K H ρ a xs ∧ DRs K H ρ xs ds := by
  cases h <;> first | cases e | skip
  · rename_i a xs h l q; exact ⟨a, xs, rfl, .inl ⟨h.1, .inl h.2⟩, l, q⟩
  · rename_i a xs h l q; exact ⟨a, xs, rfl, h, l, q⟩
def intsFrom (lo : Int) (n : Nat) : List D := (List.range n).map fun (i : Nat) => .int (lo + (i : Int))
def iRg1 (fs : FA) : FI := fun env st => bnd (fs env st) fun ds s1 => match ds with
  | [.int j] => if -(2 ^ 62) ≤ j ∧ j < 2 ^ 62 then some (.ok (intsFrom 0 j.toNat) s1) else none
  | _ => none
def iRg2 (fs : FA) : FI := fun env st => bnd (fs env st) fun ds s1 => match ds with
  | [.int i, .int j] => if -(2 ^ 62) ≤ i ∧ i < 2 ^ 62 ∧ -(2 ^ 62) ≤ j ∧ j < 2 ^ 62 then some (.ok (intsFrom i (j - i).toNat) s1) else none
  | _ => none
section
variable {X : Cx} {E : XK} {pos p : Pos} {fa : FE} {fs : FA} {e tg a b : Expr}
theorem DRs.eq_at {K : PySem.W.Frag} {H : Hp} {ρ : Mp} {x : V} {d : D} {xs : List V} {ds : List D} (h : DRs K H ρ xs ds) {i : Nat} (e : ds[i]? = some d) : ∃ x, xs[i]? = some x ∧ DR K H ρ x d := h.get e
theorem i_list (h : VE X E e fa) : VI X E tg e (iLst fa) := by
  refine PI.imp (pi_list h) fun σ H Q ⟨ρ, env, st, r, w, hf, hQ⟩ => ?_
  refine rd_bind w hf hQ fun x dx s1 H1 ρ1 t1 w1 r1 hf hQ => ?_
  obtain ⟨ds, e1, rfl⟩ := map_some hf
  obtain ⟨a, xs, rfl, q1, q2⟩ := r1.seqL_inv e1
  refine ⟨a, rfl, ⟨xs, q1.seq⟩, hQ _ _ ρ1 .refl w1.st fun ρ2 H2 st2 t2 hs2 => ⟨fun i d hd => ?_, fun i hi => ⟨xs, (t2.zxl q1).seq, by rw [q2.1]; exact hi⟩⟩⟩
  obtain ⟨x, e1, e2⟩ := q2.get hd
  exact ⟨⟨xs, x, (t2.zxl q1).seq, e1⟩, fun y H' hy => ⟨by rw [hy.1]; exact Same.refl _, by
    obtain ⟨rfl, hy⟩ := hy
    have := hy xs (t2.zxl q1).seq
    rw [e1] at this; cases this
    exact e2.far t2⟩⟩
theorem i_tup (h : VE X E e fa) : VI X E tg e (iTp fa) := by
  refine PI.imp (pi_tup h) fun σ H Q ⟨ρ, env, st, r, w, hf, hQ⟩ => ?_
  refine rd_bind w hf hQ fun x dx s1 H1 ρ1 t1 w1 r1 hf hQ => ?_
  obtain ⟨ds, e1, rfl⟩ := map_some hf
  obtain ⟨a, xs, rfl, q1, q2⟩ := r1.seqT_inv e1
  refine ⟨a, rfl, ⟨xs, q1.seq⟩, hQ _ _ ρ1 .refl w1.st fun ρ2 H2 st2 t2 hs2 => ⟨fun i d hd => ?_, fun i hi => ⟨xs, (t2.zxt q1).seq, by rw [q2.1]; exact hi⟩⟩⟩
  obtain ⟨x, e1, e2⟩ := q2.get hd
  exact ⟨⟨xs, x, (t2.zxt q1).seq, e1⟩, fun y H' hy => ⟨by rw [hy.1]; exact Same.refl _, by
    obtain ⟨rfl, hy⟩ := hy
    have := hy xs (t2.zxt q1).seq
    rw [e1] at this; cases this
    exact e2.far t2⟩⟩
theorem rng_ok {K : PySem.W.Frag} {ρ : Mp} {H : Hp} {lo : Int} {n : Nat} : ItOk K ρ H (Itr lo n) (intsFrom lo n) := by
  intro ρ2 H2 st2 t2 hs2
  refine ⟨fun i d hd => ?_, fun i hi => show n ≤ i by simpa [intsFrom] using hi⟩
  have hi : i < n := by simpa [intsFrom] using (List.getElem?_eq_some_iff.mp hd).1
  have e : d = .int (lo + i) := by
    unfold intsFrom at hd
    rw [List.getElem?_map, List.getElem?_range hi] at hd
    exact (Option.some.inj hd).symm
  subst e
  exact ⟨hi, fun x H' hy => by
    obtain ⟨rfl, rfl⟩ := hy
    exact ⟨Same.refl _, .int _⟩⟩
theorem i_rng1 (hg : Gl X "range") (hm : X.mg "range" = none) (h : VA X E [a] fs) (hs : starEach [a] X.env = [(false, eval a X.env)] := by rfl) : VI X E tg (.Call (.Name "range" p) [a] [] pos) (iRg1 fs) := by
  refine PI.imp (pi_range1 hg hm h hs) fun σ H Q ⟨ρ, env, st, r, w, hf, hQ⟩ => ?_
  refine rd_bind w hf hQ fun x dx s1 H1 ρ1 t1 w1 r1 hf hQ => ?_
  split at hf
  · rename_i j
    split at hf
    · rename_i hj
      cases hf
      obtain ⟨v, r, rfl, q1, r1⟩ := r1.cons_inv
      have := r1.nil_inv
      subst this
      cases q1
      exact ⟨j, rfl, hj.1, hj.2, hQ _ _ ρ1 .refl w1.st rng_ok⟩
    · cases hf
  · cases hf
theorem i_rng2 (hg : Gl X "range") (hm : X.mg "range" = none) (h : VA X E [a, b] fs) (hs : starEach [a, b] X.env = [(false, eval a X.env), (false, eval b X.env)] := by rfl) (hs2 : starEach [b] X.env = [(false, eval b X.env)] := by rfl) : VI X E tg (.Call (.Name "range" p) [a, b] [] pos) (iRg2 fs) := by
  refine PI.imp (pi_range2 hg hm h hs hs2) fun σ H Q ⟨ρ, env, st, r, w, hf, hQ⟩ => ?_
  refine rd_bind w hf hQ fun x dx s1 H1 ρ1 t1 w1 r1 hf hQ => ?_
  split at hf
  · rename_i i j
    split at hf
    · rename_i hj
      cases hf
      obtain ⟨v, r, rfl, q1, r1⟩ := r1.cons_inv
      obtain ⟨v2, r, rfl, q2, r1⟩ := r1.cons_inv
      have := r1.nil_inv
      subst this
      cases q1; cases q2
      exact ⟨i, j, rfl, hj, hQ _ _ ρ1 .refl w1.st rng_ok⟩
    · cases hf
  · cases hf
end

/-! ### comprehensions -/
def noX {α : Type} (x : Option (R α)) : Option (R α) := match x with
  | some (.ok a s) => some (.ok a s)
  | _ => none
theorem noX_ok {α : Type} {x : Option (R α)} {r : R α} (h : noX x = some r) : ∃ a s, x = some (.ok a s) ∧ r = .ok a s := by
  unfold noX at h
  split at h
  · cases h; exact ⟨_, _, rfl, rfl⟩
  · cases h
def wipeD (env : En) : List Nat → En
  | [] => env
  | v :: vs => (wipeD env vs).set v none
theorem EnR.wipe {K : PySem.W.Frag} {H : Hp} {ρ : Mp} {σ : L2.St} {env : En} (h : EnR K H ρ σ env) : ∀ vs : List Nat, EnR K H ρ (wipe σ vs) (wipeD env vs)
  | [] => h
  | v :: vs => (EnR.wipe h vs).setNone v
/-- the items of a comprehension -/
def lcL (g : FG) (ft : FT) (fe : FE) (env : En) : List D → Sto → Option (R (List D))
  | [], st => some (.ok [] st)
  | d :: ds, st => bnd (noX (g d env st)) fun env1 s1 => bnd (noX (ft env1 s1)) fun c s2 =>
    if c = true then bnd (noX (fe env1 s2)) fun y s3 => bnd (lcL g ft fe env ds s3) fun ys s4 => some (.ok (y :: ys) s4)
    else lcL g ft fe env ds s2
def tYes1 : FT := fun _ st => some (.ok true st)
def lcF (fi : FI) (g : FG) (ft : FT) (fe : FE) (vs : List Nat) : FA := fun env st => bnd (fi env st) fun items s1 => if items.length ≤ 100000 then lcL g ft fe (wipeD env vs) items s1 else none
def fLc (fi : FI) (g : FG) (ft : FT) (fe : FE) (vs : List Nat) : FE := fun env st => bnd (lcF fi g ft fe vs env st) fun ds s1 => some (.ok (.lst ds) s1)
def fLcC (fi : FI) (g : FG) (ft : FT) (fe : FE) (vs : List Nat) : FE := fun env st => bnd (lcF fi g ft fe vs env st) fun ds s1 => some (.ok (.ref s1.length) (s1 ++ [.lst ds]))
/-- a target that stores its own names alone -/
def OwnG (K : PySem.W.Frag) (vs : List Nat) (t : TG) (g : FG) : Prop :=
  ∀ (v : V) (d : D) (σ : L2.St) (env : En) (st s1 : Sto) (H : Hp) (ρ : Mp) (env1 : En) (Q : L2.St → Hp → Prop), Wd K H ρ (wipe σ vs) env st → DR K H ρ v d → g d env st = some (.ok env1 s1) → (∀ σ2, Wd K H ρ σ2 env1 s1 → Q σ2 H) → t v (wipe σ vs) H fun σ2 H2 => wipe σ2 vs = wipe σ vs ∧ Q σ2 H2
theorem wipe_set_mem {x : Option V} {i : Nat} : ∀ {vs : List Nat} {σ : L2.St}, i ∈ vs → wipe (σ.set i x) vs = wipe σ vs
  | [], _, h => by simp at h
  | v :: vs, σ, h => by
    unfold wipe
    by_cases hv : i ∈ vs
    · rw [wipe_set_mem hv]
    · have e : i = v := by simpa [hv] using h
      subst e
      have : ∀ (ws : List Nat) (σ : L2.St), i ∉ ws → wipe (σ.set i x) ws = (wipe σ ws).set i x := by
        intro ws
        induction ws with
        | nil => intro σ _; rfl
        | cons w ws ih =>
          intro σ hw
          simp only [List.mem_cons, not_or] at hw
          unfold wipe
          rw [ih σ hw.2, List.set_comm _ _ hw.1]
      rw [this vs σ hv, List.set_set]
theorem wipe_wipe {vs : List Nat} {σ : L2.St} : wipe (wipe σ vs) vs = wipe σ vs := by
  have : ∀ (ws us : List Nat) (σ : L2.St), (∀ i ∈ ws, i ∈ us) → wipe (wipe σ ws) us = wipe σ us := by
    intro ws us
    induction ws with
    | nil => intro σ _; rfl
    | cons w ws ih =>
      intro σ h
      show wipe ((wipe σ ws).set w none) us = _
      rw [wipe_set_mem (h w List.mem_cons_self), ih σ fun i hi => h i (List.mem_cons_of_mem _ hi)]
  exact this vs vs σ fun _ h => h
theorem own_name {K : PySem.W.Frag} {vs : List Nat} {i : Nat} (hi : i ∈ vs) : OwnG K vs (L2.gName i) (gNm i) := by
  intro v d σ env st s1 H ρ env1 Q w hd hg h
  cases hg
  refine ⟨by rw [wipe_set_mem hi, wipe_wipe], h _ ⟨w.en.set hd i, w.st⟩⟩
section
variable {X : Cx} {E : XK} {pos : Pos} {ft : FT} {g : FG} {f : FS} {fi : FI} {fe : FE}
/-- tuple targets of names -/
def nmsG : List Nat → TGs
  | [] => L2.gNil
  | i :: is => L2.gCons (L2.gName i) (nmsG is)
def nmsF : List Nat → FGs
  | [] => gsNil
  | i :: is => gsCons (gNm i) (nmsF is)
theorem own_names {K : PySem.W.Frag} {vs : List Nat} : ∀ {is : List Nat}, (∀ i ∈ is, i ∈ vs) → ∀ (xs : List V) (ds : List D) (σ σ0 : L2.St) (env : En) (st s1 : Sto) (H : Hp) (ρ : Mp) (env1 : En) (Q : L2.St → Hp → Prop), wipe σ0 vs = wipe σ vs → Wd K H ρ σ0 env st → DRs K H ρ xs ds → nmsF is ds env st = some (.ok env1 s1) →
    (∀ σ2, Wd K H ρ σ2 env1 s1 → Q σ2 H) → nmsG is xs σ0 H fun σ2 H2 => wipe σ2 vs = wipe σ vs ∧ Q σ2 H2
  | [], _, xs, ds, σ, σ0, env, st, s1, H, ρ, env1, Q, hw, w, hd, hg, h => by
    unfold nmsF gsNil at hg
    split at hg
    · cases hg
      exact ⟨hd.nil_inv, hw, h _ w⟩
    · cases hg
  | i :: is, hi, xs, ds, σ, σ0, env, st, s1, H, ρ, env1, Q, hw, w, hd, hg, h => by
    unfold nmsF gsCons at hg
    split at hg
    · rename_i d ds
      obtain ⟨x, xs, rfl, q1, q2⟩ := hd.cons_inv
      refine ⟨x, xs, rfl, ?_⟩
      exact own_names (fun j hj => hi j (List.mem_cons_of_mem _ hj)) xs ds σ _ _ st s1 H ρ env1 Q (by rw [wipe_set_mem (hi i List.mem_cons_self)]; exact hw) ⟨w.en.set q1 i, w.st⟩ q2 hg h
    · cases hg
theorem own_tup {K : PySem.W.Frag} {vs is : List Nat} {n : Nat} (hi : ∀ i ∈ is, i ∈ vs) : OwnG K vs (L2.gTup K n (nmsG is)) (gTp n (nmsF is)) := by
  intro v d σ env st s1 H ρ env1 Q w hd hg h
  unfold gTp at hg
  split at hg
  · rename_i ds
    split at hg
    · rename_i hl
      obtain ⟨a, xs, rfl, q1, q2⟩ := hd.tup_inv
      exact ⟨a, xs, rfl, q1.seq, q2.1.trans hl, own_names hi xs ds σ _ env st s1 H ρ env1 Q wipe_wipe w q2 hg h⟩
    · cases hg
  · rename_i ds
    split at hg
    · rename_i hl
      obtain ⟨a, xs, rfl, q1, q2⟩ := hd.frt_inv
      exact ⟨a, xs, rfl, q1.seq, q2.1.trans hl, own_names hi xs ds σ _ env st s1 H ρ env1 Q wipe_wipe w q2 hg h⟩
    · cases hg
  · cases hg
theorem lcL_len {env : En} : ∀ {ds : List D} {st : Sto} {ys : List D} {s2 : Sto}, lcL g ft fe env ds st = some (.ok ys s2) → ys.length ≤ ds.length
  | [], st, ys, s2, h => by cases h; exact Nat.le_refl _
  | d :: ds, st, ys, s2, h => by
    unfold lcL at h
    rcases bnd_some h with ⟨a, s, e1, e2⟩ | ⟨e, s, e1, e2⟩
    · rcases bnd_some e2 with ⟨c, s3, e3, e4⟩ | ⟨e, s3, e3, e4⟩
      · split at e4
        · rcases bnd_some e4 with ⟨y, s5, e5, e6⟩ | ⟨e, s5, e5, e6⟩
          · rcases bnd_some e6 with ⟨zs, s7, e7, e8⟩ | ⟨e, s7, e7, e8⟩
            · cases e8
              have := lcL_len e7
              simp; omega
            · cases e8
          · cases e6
        · have := lcL_len e4
          simp; omega
      · cases e4
    · cases e2
theorem lcL_exc {env : En} : ∀ {ds : List D} {st : Sto} {ex : Exn} {s2 : Sto}, lcL g ft fe env ds st ≠ some (.exc ex s2)
  | [], st, ex, s2, h => by cases h
  | d :: ds, st, ex, s2, h => by
    unfold lcL at h
    rcases bnd_some h with ⟨a, s, e1, e2⟩ | ⟨e, s, e1, e2⟩
    · rcases bnd_some e2 with ⟨c, s3, e3, e4⟩ | ⟨e, s3, e3, e4⟩
      · split at e4
        · rcases bnd_some e4 with ⟨y, s5, e5, e6⟩ | ⟨e, s5, e5, e6⟩
          · rcases bnd_some e6 with ⟨zs, s7, e7, e8⟩ | ⟨e, s7, e7, e8⟩
            · cases e8
            · exact lcL_exc e7
          · obtain ⟨_, _, _, z⟩ := noX_ok e5; cases z
        · exact lcL_exc e4
      · obtain ⟨_, _, _, z⟩ := noX_ok e3; cases z
    · obtain ⟨_, _, _, z⟩ := noX_ok e1; cases z
/-- the reading of a comprehension -/
theorem lc_read {K : PySem.W.Frag} {vs : List Nat} {t : TG} {σ : L2.St} {H : Hp} {ρ : Mp} {env : En} {st : Sto} {r : R (List D)} {Q : VK} (hg : OwnG K vs t g) (w : Wd K H ρ σ env st) (hf : lcF fi g ft fe vs env st = some r)
    (hx : ∀ e s, r = .exc e s → Fin (DR K) K E ρ H Q (.exc e s))
    (h : ∀ ds s1 p xs H' l, r = .ok ds s1 → Step ρ H ⟨l, ρ.h⟩ H' → StR K H' ⟨l, p :: ρ.h⟩ s1 → H p = none → p ∉ l → p ∉ ρ.h → H' p = some (.lst xs) → DRs K H' ⟨l, p :: ρ.h⟩ xs ds → Q (.ref p) H') :
    tLc (rdI K E fi) t (rdT K E0 ft) (rdE K E0 fe) vs σ H Q := by
  rcases bnd_some hf with ⟨items, s1, e1, e2⟩ | ⟨e, s1, e1, e2⟩
  · split at e2
    case isFalse => cases e2
    rename_i hlen
    refine ⟨ρ, env, st, _, w, e1, fun J H1 ρ1 t1 ss1 hJ => fun Dd hD => ?_⟩
    have hD0 : H Dd = none := by
      by_cases m : Dd ∈ ρ.c
      · obtain ⟨o, q, _⟩ := ss1.has (show Dd ∈ ρ1.c by obtain ⟨z, e⟩ := t1.pre; rw [e]; exact List.mem_append_left _ m)
        rw [hD] at q; cases q
      · cases q : H Dd with
        | none => rfl
        | some o => rw [t1.keep _ _ q m] at hD; cases hD
    have hDn : Dd ∉ ρ1.c := ss1.newc hD
    have hDo : ¬ ρ1.Own Dd := ss1.new hD
    have nd : ∀ a o, H1 a = some o → a ≠ Dd := fun a o q z => by rw [z, hD] at q; cases q
    -- the loop
    refine ⟨fun i n H2 => ∃ c2 st2 acc dacc r2, Step ρ1 H1 ⟨c2, ρ1.h⟩ H2 ∧ StR K H2 ⟨c2, Dd :: ρ1.h⟩ st2 ∧ Dd ∉ c2 ∧ H2 Dd = some (.lst acc) ∧ DRs K H2 ⟨c2, Dd :: ρ1.h⟩ acc dacc ∧ i + n = items.length ∧ dacc.length ≤ i ∧
      lcL g ft fe (wipeD env vs) (items.drop i) st2 = some r2 ∧ (∀ ys s, r2 = .ok ys s → r = .ok (dacc ++ ys) s) ∧ (∀ e s, r2 = .exc e s → r = .exc e s), ?_, ?_⟩
    · exact ⟨items.length, ρ1.c, s1, [], [], r, ⟨⟨[], by simp⟩, rfl, fun a o q _ => by rw [upd_ne (nd a o q)]; exact q, fun a m => .inl m⟩, ss1.hide hD, hDn, upd_same, .nil, by omega, Nat.le_refl _, by rw [List.drop_zero]; exact e2, fun ys s q => q, fun e s q => q⟩
    · rintro i n H2 ⟨c2, st2, acc, dacc, r2, t2, ss2, n2, hacc, hda, hn, hda2, hl, h1, h2⟩
      have T2 : Far ρ1 H1 ⟨c2, Dd :: ρ1.h⟩ H2 := by
        refine ⟨t2.pre, fun a o q m => t2.keep a o q fun z => m (.inl z), fun a m => ?_⟩
        rcases m with z | z
        · exact (t2.new a z).elim (fun z => .inl (.inl z)) .inr
        · rcases List.mem_cons.mp z with z | z
          · rw [z]; exact .inr hD
          · exact .inl (.inr z)
      obtain ⟨go, stop⟩ := hJ _ H2 st2 T2 ss2
      by_cases hi : i < items.length
      · have hd : items[i]? = some items[i] := List.getElem?_eq_getElem hi
        obtain ⟨g1, g2⟩ := go i _ hd
        refine .inr ⟨g1, _, fun H' hN => ⟨n - 1, by omega, hN⟩, fun x H3 hy => ?_⟩
        obtain ⟨sm, hx'⟩ := g2 x H3 hy
        have t3 : Step ⟨c2, Dd :: ρ1.h⟩ H2 ⟨c2, Dd :: ρ1.h⟩ H3 := .same sm
        rw [List.drop_eq_getElem_cons hi] at hl
        unfold lcL at hl
        have ss3 := ss2.same sm
        rcases bnd_some hl with ⟨en1, s4, e4, e5⟩ | ⟨e, s4, e4, e5⟩
        case inr => obtain ⟨_, _, _, z⟩ := noX_ok e4; cases z
        obtain ⟨_, _, e4', z⟩ := noX_ok e4
        cases z
        refine hg x _ σ (wipeD env vs) st2 s4 H3 _ en1 _ ⟨((w.en.step t1).far (T2.trans t3.far)).wipe vs, ss3⟩ hx' e4' fun σ4 w4 => ?_
        rcases bnd_some e5 with ⟨c, s6, e6, e7⟩ | ⟨e, s6, e6, e7⟩
        case inr => obtain ⟨_, _, _, z⟩ := noX_ok e6; cases z
        obtain ⟨_, _, e6', z⟩ := noX_ok e6
        cases z
        refine ⟨_, en1, s4, _, w4, e6', fun b H5 ρ5 t5 ss5 hb => ?_⟩
        subst hb
        have t35 := t3.trans t5
        obtain ⟨c5, h5⟩ := ρ5
        have hh5 : h5 = Dd :: ρ1.h := t35.hid
        subst hh5
        have T5 : Step ρ1 H1 ⟨c5, ρ1.h⟩ H5 := t2.trans ⟨t35.pre, rfl, t35.keep, t35.new⟩
        have d5 : H5 Dd = some (.lst acc) := t35.keep _ _ hacc n2
        have n5 : Dd ∉ c5 := t35.nin hacc n2
        cases b with
        | false =>
          simp only [Bool.false_eq_true, if_false] at e7 ⊢
          exact ⟨c5, s6, acc, dacc, r2, T5, ss5, n5, d5, hda.step t35, by omega, by omega, e7, h1, h2⟩
        | true =>
          simp only [if_true] at e7 ⊢
          rcases bnd_some e7 with ⟨y, s8, e8, e9⟩ | ⟨e, s8, e8, e9⟩
          case inr => obtain ⟨_, _, _, z⟩ := noX_ok e8; cases z
          obtain ⟨_, _, e8', z⟩ := noX_ok e8
          cases z
          refine ⟨_, en1, s6, _, ⟨w4.en.step t5, ss5⟩, e8', fun v H9 ρ9 t9 ss9 hv => ?_⟩
          obtain ⟨c9, h9⟩ := ρ9
          have hh9 : h9 = Dd :: ρ1.h := t9.hid
          subst hh9
          have T9 : Step ρ1 H1 ⟨c9, ρ1.h⟩ H9 := T5.trans ⟨t9.pre, rfl, t9.keep, t9.new⟩
          have d9 : H9 Dd = some (.lst acc) := t9.keep _ _ d5 n5
          have n9 : Dd ∉ c9 := t9.nin d5 n5
          have mD : Dd ∈ (⟨c9, Dd :: ρ1.h⟩ : Mp).h := List.mem_cons_self
          refine ⟨acc, d9, ?_, ?_⟩
          · have := hda.1
            exact Nat.lt_of_le_of_lt (m := 99999) (by omega) (by decide)
          · rcases bnd_some e9 with ⟨ys, s10, e10, e11⟩ | ⟨e, s10, e10, e11⟩
            case inr => exact absurd e10 lcL_exc
            cases e11
            refine ⟨c9, s8, acc ++ [v], dacc ++ [y], .ok ys s10, ⟨T9.pre, rfl, fun a o q m => by rw [upd_ne (nd a o q)]; exact T9.keep a o q m, T9.new⟩, ss9.grow mD n9, n9, upd_same, ?_, by omega, by simp; omega, e10, fun zs s q => ?_, fun e s q => by cases q⟩
            · exact (((hda.step t35).step t9).far (Far.grow mD)).append (DRs.cons (hv.far (Far.grow mD)) .nil)
            · cases q
              rw [h1 _ _ rfl, List.append_assoc]
              rfl
      · refine .inl ⟨stop i (by omega), ?_⟩
        rw [List.drop_of_length_le (by omega)] at hl
        cases hl
        have hr := h1 [] st2 rfl
        rw [List.append_nil] at hr
        have hh : ρ1.h = ρ.h := t1.hid
        rw [hh] at t2 ss2 hda
        exact h dacc st2 Dd acc H2 c2 hr (t1.trans t2) ss2 hD0 n2 (fun m => hDo (.inr (by rw [hh]; exact m))) hacc hda
  · subst e2
    exact ⟨ρ, env, st, _, w, e1, hx e s1 rfl⟩
end
end Fx
/-! Fx: comprehensions and calls as rules; operators, subscripts, built-ins by data. -/
namespace Fx
open PySem PySem.Spec PyProof.Rows L2

section
variable {X : Cx} {E : XK} {pos p : Pos} {fa fb : FE} {fs : FA} {ft : FT} {g : FG} {fi : FI} {fe : FE}
theorem pts0 : PTs X [] (rdT X.K E0 tYes1) := ⟨fun pins s σ H Q I h => pts_nil.run pins s σ H Q I (by
  obtain ⟨ρ, env, st, r, w, hf, hQ⟩ := h
  cases hf
  exact hQ.val w.st rfl)⟩
theorem lcF_ok {fi : FI} {vs : List Nat} {env : En} {st : Sto} {r : R (List D)} (h : lcF fi g ft fe vs env st = some r) : (∃ ds s, r = .ok ds s) ∨ ∃ e s, r = .exc e s := by
  cases r with
  | ok ds s => exact .inl ⟨ds, s, rfl⟩
  | exc e s => exact .inr ⟨e, s, rfl⟩
theorem lc_rd {vs : List Nat} {t : TG} (hg : OwnG X.K vs t g) {σ : L2.St} {H : Hp} {Q : VK} (h : rdE X.K E (fLc fi g ft fe vs) σ H Q) : tLc (rdI X.K E fi) t (rdT X.K E0 ft) (rdE X.K E0 fe) vs σ H Q := by
  obtain ⟨ρ, env, st, r, w, hf, hQ⟩ := h
  rcases bnd_some hf with ⟨ds, s, e1, e2⟩ | ⟨e, s, e1, e2⟩
  · cases e2
    refine lc_read hg w e1 (fun e s z => by cases z) fun ds' s1 p xs H' l z t hs hp hn hn2 hx hd => ?_
    cases z
    have ow : ∀ a, (⟨l, ρ.h⟩ : Mp).Own a → (⟨l, p :: ρ.h⟩ : Mp).Own a := fun a m => m.elim .inl fun z => .inr (List.mem_cons_of_mem _ z)
    have hd2 := hd.less (ρ' := ⟨l, ρ.h⟩) ⟨[], by simp⟩ ow
    exact hQ _ _ ⟨l, ρ.h⟩ t (hs.less rfl fun a m => List.mem_cons_of_mem _ m) (.lst ⟨fun m => m.elim hn hn2, hx⟩ hd2.1 hd2.2)
  · subst e2
    exact lc_read hg w e1 (fun e' s' z => by cases z; exact hQ) fun ds' s1 p xs H' l z => by cases z
theorem lc_rdC {vs : List Nat} {t : TG} (hg : OwnG X.K vs t g) {σ : L2.St} {H : Hp} {Q : VK} (h : rdE X.K E (fLcC fi g ft fe vs) σ H Q) : tLc (rdI X.K E fi) t (rdT X.K E0 ft) (rdE X.K E0 fe) vs σ H Q := by
  obtain ⟨ρ, env, st, r, w, hf, hQ⟩ := h
  rcases bnd_some hf with ⟨ds, s, e1, e2⟩ | ⟨e, s, e1, e2⟩
  · cases e2
    refine lc_read hg w e1 (fun e s z => by cases z) fun ds' s1 p xs H' l z t hs hp hn hn2 hx hd => ?_
    cases z
    have t2 : Step ρ H ⟨l ++ [p], ρ.h⟩ H' := by
      refine ⟨?_, rfl, t.keep, fun a m => ?_⟩
      · obtain ⟨q, e⟩ := t.pre
        exact ⟨q ++ [p], by show l ++ [p] = _; rw [show l = _ from e, List.append_assoc]⟩
      · rcases List.mem_append.mp m with z | z
        · exact t.new a z
        · rw [List.mem_singleton.mp z]; exact .inr hp
    refine hQ _ _ ⟨l ++ [p], ρ.h⟩ t2 (hs.opened hn hx hd) (.ref ?_)
    have := hs.len
    show (l ++ [p])[s.length]? = some p
    rw [← this, List.getElem?_append_right (Nat.le_refl _)]; simp
  · subst e2
    exact lc_read hg w e1 (fun e' s' z => by cases z; exact hQ) fun ds' s1 p xs H' l z => by cases z
section
variable {elt tg iter : Expr} {ifs : List Expr} {scope : Scope} {own : List (Str × Nat)} {t : TG}
theorem v_lc (hc : X.calm = true) (hN : X.N.Nodup) (hi : VI X E tg iter fi) (ok : BlkOk X.N X.env.scope scope own)
    (hg : ∀ (s : Shared) (H : Hp) (C : Addr) (cl : List (Str × Addr)) (fp : List Addr), PG (X.blk s H scope (compEnvC scope cl C X.env) fp) tg t) (ho : OwnG X.K (own.map (·.2)) t g)
    (ht : ∀ (s : Shared) (H : Hp) (C : Addr) (cl : List (Str × Addr)) (fp : List Addr), PTs (X.blk s H scope (compEnvC scope cl C X.env) fp) ifs (rdT X.K E0 ft))
    (he : ∀ (s : Shared) (H : Hp) (C : Addr) (cl : List (Str × Addr)) (fp : List Addr), VE (X.blk s H scope (compEnvC scope cl C X.env) fp) E0 elt fe) (hs : ∀ x, foldedSetIterable iter X.env x = pure x := by intro _; rfl) :
    VE X E (.ListComp elt [⟨tg, iter, ifs, 0⟩] scope pos) (fLc fi g ft fe (own.map (·.2))) := PE.imp (pe_lc hc hN hi ok hg ht he hs) fun _ _ _ h => lc_rd ho h
theorem v_lcC (hc : X.calm = true) (hN : X.N.Nodup) (hi : VI X E tg iter fi) (ok : BlkOk X.N X.env.scope scope own)
    (hg : ∀ (s : Shared) (H : Hp) (C : Addr) (cl : List (Str × Addr)) (fp : List Addr), PG (X.blk s H scope (compEnvC scope cl C X.env) fp) tg t) (ho : OwnG X.K (own.map (·.2)) t g)
    (ht : ∀ (s : Shared) (H : Hp) (C : Addr) (cl : List (Str × Addr)) (fp : List Addr), PTs (X.blk s H scope (compEnvC scope cl C X.env) fp) ifs (rdT X.K E0 ft))
    (he : ∀ (s : Shared) (H : Hp) (C : Addr) (cl : List (Str × Addr)) (fp : List Addr), VE (X.blk s H scope (compEnvC scope cl C X.env) fp) E0 elt fe) (hs : ∀ x, foldedSetIterable iter X.env x = pure x := by intro _; rfl) :
    VE X E (.ListComp elt [⟨tg, iter, ifs, 0⟩] scope pos) (fLcC fi g ft fe (own.map (·.2))) := PE.imp (pe_lc hc hN hi ok hg ht he hs) fun _ _ _ h => lc_rdC ho h
theorem set_rd {K : PySem.W.Frag} {i : Nat} {f : FE} {Dn : Ends} {σ : L2.St} {H : Hp} (h : rdS K E (fSet i f) Dn σ H) : rdE K E f σ H fun x H1 => L2.gName i x σ H1 Dn.nx := by
  obtain ⟨ρ, env, st, r, w, hf, hQ⟩ := h
  refine rd_sb w hf hQ fun x dx s1 H1 ρ1 t1 w1 r1 hf hQ => ?_
  cases hf
  exact hQ _ H1 ρ1 .refl ⟨w1.en.set r1 i, w1.st⟩
theorem s_setLc {i : Nat} {y : Str} {py spos : Pos} (hc : X.calm = true) (hN : X.N.Nodup) (hy : X.N[i]? = some y) (hyl : X.env.scope.names.lookup y = some .local)
    (hsw : swapsWith (.ListComp elt [⟨tg, iter, ifs, 0⟩] scope pos) (some (.Name y py)) spos.line X.env = pure true) (hi : VI X E tg iter fi) (ok : BlkOk X.N X.env.scope scope own)
    (hg : ∀ (s : Shared) (H : Hp) (C : Addr) (cl : List (Str × Addr)) (fp : List Addr), PG (X.blk s H scope (compEnvC scope cl C X.env) fp) tg t) (ho : OwnG X.K (own.map (·.2)) t g)
    (ht : ∀ (s : Shared) (H : Hp) (C : Addr) (cl : List (Str × Addr)) (fp : List Addr), PTs (X.blk s H scope (compEnvC scope cl C X.env) fp) ifs (rdT X.K E0 ft))
    (he : ∀ (s : Shared) (H : Hp) (C : Addr) (cl : List (Str × Addr)) (fp : List Addr), VE (X.blk s H scope (compEnvC scope cl C X.env) fp) E0 elt fe) (hs : ∀ x, foldedSetIterable iter X.env x = pure x := by intro _; rfl) :
    VS X E (.Assign [.Name y py] (.ListComp elt [⟨tg, iter, ifs, 0⟩] scope pos) spos) (fSet i (fLc fi g ft fe (own.map (·.2)))) := PS.imp (ps_setLc hc hN hy hyl hsw hi ok hg ht he hs) fun _ _ _ h => lc_rd ho (set_rd h)
theorem s_setLcC {i : Nat} {y : Str} {py spos : Pos} (hc : X.calm = true) (hN : X.N.Nodup) (hy : X.N[i]? = some y) (hyl : X.env.scope.names.lookup y = some .local)
    (hsw : swapsWith (.ListComp elt [⟨tg, iter, ifs, 0⟩] scope pos) (some (.Name y py)) spos.line X.env = pure true) (hi : VI X E tg iter fi) (ok : BlkOk X.N X.env.scope scope own)
    (hg : ∀ (s : Shared) (H : Hp) (C : Addr) (cl : List (Str × Addr)) (fp : List Addr), PG (X.blk s H scope (compEnvC scope cl C X.env) fp) tg t) (ho : OwnG X.K (own.map (·.2)) t g)
    (ht : ∀ (s : Shared) (H : Hp) (C : Addr) (cl : List (Str × Addr)) (fp : List Addr), PTs (X.blk s H scope (compEnvC scope cl C X.env) fp) ifs (rdT X.K E0 ft))
    (he : ∀ (s : Shared) (H : Hp) (C : Addr) (cl : List (Str × Addr)) (fp : List Addr), VE (X.blk s H scope (compEnvC scope cl C X.env) fp) E0 elt fe) (hs : ∀ x, foldedSetIterable iter X.env x = pure x := by intro _; rfl) :
    VS X E (.Assign [.Name y py] (.ListComp elt [⟨tg, iter, ifs, 0⟩] scope pos) spos) (fSet i (fLcC fi g ft fe (own.map (·.2)))) := PS.imp (ps_setLc hc hN hy hyl hsw hi ok hg ht he hs) fun _ _ _ h => lc_rdC ho (set_rd h)
end
theorem pts1 {c : Expr} (h : VT X E0 c ft) : PTs X [c] (rdT X.K E0 ft) := pts_one h

/-! ### calls of defs -/
abbrev DF := List D → Sto → Option (R D)
/-- a def's promise by a function -/
def spF (K : PySem.W.Frag) (n : Nat) (F : DF) : Sp := fun vs H Q E => ∃ ρ ds st r, DRs K H ρ vs ds ∧ StR K H ρ st ∧ ds.length = n ∧ F ds st = some r ∧ Fin (DR K) K E ρ H Q r
def fCall (n : Nat) (F : DF) (a : FA) : FE := fun env st => bnd (a env st) fun ds s1 => if ds.length = n then F ds s1 else none
/-- with defaults -/
def fCallD (n : Nat) (F : DF) (a : FA) (more : List D) : FE := fun env st => bnd (a env st) fun ds s1 => if (ds ++ more).length = n then F (ds ++ more) s1 else none
theorem v_call {k n : Nat} {f : Addr} {fd : FuncData} {ps : List Str} {CX : CXT} {F : DF} {x : Str} {e : Expr} {es : List Expr} (G : FnOk X.prog X.w X.K X.mg X.base CX k f fd ps (spF X.K n F)) (hr : Room k X.A) (hg : Gl X x) (hm : X.mg x = some (.ref f)) (hk : PySem.W.keepIn X.K (.ref f) = true) (hb : Binds X.K fd ps [])
    (hx : Passes CX X E) (ha : VA X E (e :: es) fs) (h : ∀ t, PA X (e :: es) t → PE X (.Call (.Name x p) (e :: es) [] pos) (tCall (spF X.K n F) [] E t)) : VE X E (.Call (.Name x p) (e :: es) [] pos) (fCall n F fs) := by
  refine PE.imp (h _ ha) fun σ H Q ⟨ρ, env, st, r, w, hf, hQ⟩ => ?_
  refine rd_bind w hf hQ fun xs ds s1 H1 ρ1 t1 w1 r1 hf hQ => ?_
  split at hf
  · rename_i hl
    rw [List.append_nil]
    exact ⟨ρ1, ds, s1, r, r1, w1.st, hl, hf, hQ⟩
  · cases hf
theorem v_call0 {k : Nat} {f : Addr} {fd : FuncData} {ps : List Str} {CX : CXT} {F : DF} {x : Str} (h : PE X (.Call (.Name x p) [] [] pos) (tCall (spF X.K 0 F) [] E tNil)) : VE X E (.Call (.Name x p) [] [] pos) (fCall 0 F fNil) := by
  refine PE.imp h fun σ H Q ⟨ρ, env, st, r, w, hf, hQ⟩ => ?_
  exact ⟨ρ, [], st, r, .nil, w.st, rfl, hf, hQ⟩
/-- a body as a function -/
def fDef (n N : Nat) (fb : FS) : DF := fun ds st => match fb (ds.map some ++ List.replicate (N - n) none) st with
  | some (.nx _ s) => some (.ok .non s)
  | some (.rt d s) => some (.ok d s)
  | _ => none
def fDefX (n N : Nat) (fb : FS) : DF := fun ds st => match fb (ds.map some ++ List.replicate (N - n) none) st with
  | some (.nx _ s) => some (.ok .non s)
  | some (.rt d s) => some (.ok d s)
  | some (.exc e s) => some (.exc e s)
  | _ => none
end
theorem start_en {K : PySem.W.Frag} {H : Hp} {ρ : Mp} {vs : List V} {ds : List D} {N : List Str} {n : Nat} (h : DRs K H ρ vs ds) (hn : ds.length = n) : EnR K H ρ (L2.start N vs) (ds.map some ++ List.replicate (N.length - n) none) := by
  unfold L2.start
  have hl := h.1
  refine ⟨by simp [hl, hn], fun i d e => ?_⟩
  by_cases hi : i < ds.length
  · rw [List.getElem?_append_left (by simpa using hi), List.getElem?_map] at e
    cases q : ds[i]? with
    | none => rw [q] at e; cases e
    | some d' =>
      rw [q] at e
      have e : d' = d := by simpa using e
      subst e
      obtain ⟨v, e1, e2⟩ := h.get q
      exact ⟨v, by rw [List.getElem?_append_left (by simp; omega), List.getElem?_map, e1]; rfl, e2⟩
  · rw [List.getElem?_append_right (by simp; omega)] at e
    have := List.mem_of_getElem? e
    rw [List.mem_replicate] at this
    cases this.2
/-! ### closed data -/
mutual
def D.ok (n : Nat) : D → Bool
  | .ref k => decide (k < n)
  | .tup xs => D.oks n xs
  | .lst xs => D.oks n xs
  | .frt xs => D.oks n xs
  | .frz xs => D.oks n xs
  | .non => true
  | .bl _ => true
  | .int _ => true
  | .str _ => true
  | .ty _ => true
def D.oks (n : Nat) : List D → Bool
  | [] => true
  | d :: ds => D.ok n d && D.oks n ds
end
theorem D.oks_of {n : Nat} : ∀ {ds : List D}, (∀ (i : Nat) (d : D), ds[i]? = some d → D.ok n d = true) → D.oks n ds = true
  | [], _ => rfl
  | d :: ds, h => by
    unfold D.oks
    rw [h 0 d rfl, D.oks_of (ds := ds) fun i d' e => h (i + 1) d' (by simpa using e)]
    rfl
theorem D.oks_get {n : Nat} : ∀ {ds : List D} {i : Nat} {d : D}, D.oks n ds = true → ds[i]? = some d → D.ok n d = true
  | [], i, d, _, e => by simp at e
  | x :: ds, i, d, h, e => by
    unfold D.oks at h
    have h := (Bool.and_eq_true_iff.mp h)
    cases i with
    | zero => simp at e; subst e; exact h.1
    | succ i => exact D.oks_get h.2 (by simpa using e)
def Cell.ok (n : Nat) : Cell → Bool
  | .lst xs => D.oks n xs
  | .dct kvs => D.oks n (kvs.map (·.2))
def StOk (st : Sto) : Prop := ∀ c ∈ st, c.ok st.length = true
section
variable {K : PySem.W.Frag} {H H' : Hp} {ρ ρ' : Mp} {v : V} {d : D} {xs : List V} {ds : List D} {st : Sto}
theorem get_pair {α β : Type} {xs : List α} {ds : List β} (l : xs.length = ds.length) {i : Nat} {d : β} (e : ds[i]? = some d) : ∃ x, xs[i]? = some x :=
  ⟨_, List.getElem?_eq_getElem (by rw [l]; exact (List.getElem?_eq_some_iff.mp e).1)⟩
theorem DR.ok (h : DR K H ρ v d) : D.ok ρ.c.length d = true := by
  induction h with
  | non => rfl
  | bl b => rfl
  | int i => rfl
  | str x => rfl
  | ty n => rfl
  | tup h l e ih => exact D.oks_of fun i d q => let ⟨x, e1⟩ := get_pair l q; ih i x d e1 q
  | lst h l e ih => exact D.oks_of fun i d q => let ⟨x, e1⟩ := get_pair l q; ih i x d e1 q
  | frt h l e ih => exact D.oks_of fun i d q => let ⟨x, e1⟩ := get_pair l q; ih i x d e1 q
  | frz h l e ih => exact D.oks_of fun i d q => let ⟨x, e1⟩ := get_pair l q; ih i x d e1 q
  | ref h => exact decide_eq_true (List.getElem?_eq_some_iff.mp h).1
theorem DRs.ok (h : DRs K H ρ xs ds) : D.oks ρ.c.length ds = true := D.oks_of fun i d q => let ⟨x, e1, e2⟩ := h.get q; e2.ok
theorem StR.ok (h : StR K H ρ st) : StOk st := fun c m => by
  obtain ⟨n, e⟩ := List.getElem?_of_mem m
  have hn : n < ρ.c.length := by rw [h.len]; exact (List.getElem?_eq_some_iff.mp e).1
  have q := h.cell n _ c (List.getElem?_eq_getElem hn) e
  rw [← h.len]
  cases c with
  | lst ds => obtain ⟨xs, _, q⟩ := q; exact q.ok
  | dct ds =>
    obtain ⟨xs, _, q⟩ := q
    exact D.oks_of fun i d e => by
      rw [List.getElem?_map] at e
      cases z : ds[i]? with
      | none => rw [z] at e; cases e
      | some p =>
        rw [z] at e
        obtain ⟨x, e1⟩ := get_pair q.1 z
        have := (q.2 i x p e1 z).2.ok
        simp at e
        rw [← e]; exact this
/-- the first cells alone -/
theorem DR.cut {l t : List Addr} {hh : List Addr} (h : DR K H ⟨l ++ t, hh⟩ v d) (o : D.ok l.length d = true) : DR K H ⟨l, hh⟩ v d := by
  have ow : ∀ a, (⟨l, hh⟩ : Mp).Own a → (⟨l ++ t, hh⟩ : Mp).Own a := fun a m => m.elim (fun z => .inl (List.mem_append_left _ z)) .inr
  induction h with
  | non => exact .non
  | bl b => exact .bl b
  | int i => exact .int i
  | str x => exact .str x
  | ty n => exact .ty n
  | tup h l e ih => exact .tup ⟨fun m => h.1 (ow _ m), h.2⟩ l fun i x d e1 e2 => ih i x d e1 e2 (D.oks_get o e2)
  | lst h l e ih => exact .lst ⟨fun m => h.1 (ow _ m), h.2⟩ l fun i x d e1 e2 => ih i x d e1 e2 (D.oks_get o e2)
  | frt h l e ih => exact .frt (h.elim (fun z => .inl ⟨fun m => z.1 (ow _ m), z.2⟩) .inr) l fun i x d e1 e2 => ih i x d e1 e2 (D.oks_get o e2)
  | frz h l e ih => exact .frz (h.elim (fun z => .inl ⟨fun m => z.1 (ow _ m), z.2⟩) .inr) l fun i x d e1 e2 => ih i x d e1 e2 (D.oks_get o e2)
  | ref h =>
    have o := of_decide_eq_true o
    exact .ref (by rw [List.getElem?_append_left o] at h; exact h)
theorem StR.cut {s more : Sto} (h : StR K H ρ (s ++ more)) (o : StOk s) : ∃ l t, ρ.c = l ++ t ∧ l.length = s.length ∧ StR K H ⟨l, ρ.h⟩ s := by
  obtain ⟨c, hh⟩ := ρ
  have len : c.length = s.length + more.length := by simpa using h.len
  refine ⟨c.take s.length, c.drop s.length, (List.take_append_drop _ _).symm, by rw [List.length_take]; omega, ?_⟩
  have ll : (c.take s.length).length = s.length := by rw [List.length_take]; omega
  refine ⟨ll, ?_, fun n a cc e1 e2 => ?_, h.hid⟩
  · exact h.nd.sublist (List.take_sublist _ _)
  · have hn : n < s.length := (List.getElem?_eq_some_iff.mp e2).1
    have e1' : c[n]? = some a := by
      have e1 : (c.take s.length)[n]? = some a := e1
      rw [List.getElem?_take, if_pos hn] at e1; exact e1
    have q := h.cell n a cc e1' (by rw [List.getElem?_append_left hn]; exact e2)
    have oc := o cc (List.mem_of_getElem? e2)
    have e : c = c.take s.length ++ c.drop s.length := (List.take_append_drop _ _).symm
    rw [e] at q
    cases cc with
    | lst ds =>
      obtain ⟨xs, hx, q⟩ := q
      exact ⟨xs, hx, q.1, fun i x d e1 e2 => (q.2 i x d e1 e2).cut (by rw [ll]; exact D.oks_get oc e2)⟩
    | dct ds =>
      obtain ⟨xs, hx, q⟩ := q
      refine ⟨xs, hx, q.1, fun i x d e1 e2 => ⟨(q.2 i x d e1 e2).1, (q.2 i x d e1 e2).2.cut ?_⟩⟩
      rw [ll]
      exact D.oks_get oc (i := i) (by rw [List.getElem?_map, e2]; rfl)
end
section
variable {P : Program} {w : World} {K : PySem.W.Frag} {mg : Str → Option Value} {base : Heap}
/-- the rule of a def that raises nothing -/
theorem fn_ok {x qual : Str} {st : Stmt} {f : Addr} {fd : FuncData} {N ps : List Str} {k : Nat} {fb : FS} (F : Fun K x qual st f fd) (S : FnScope N ps (defScope st))
    (hb : ∀ (cdv : Value) (A : Around) (outer : List Env) (s : Shared) (H : Hp) (E : XK), Room k (A.deeper (envOfC qual (defScope st) s.heap.objs.size f cdv)) → VSs (cxOf CX0 P w K mg base N qual (defScope st) f cdv A outer s H E).nox E0 (defBody st) fb) :
    FnOk P w K mg base CX0 (k + 1) f fd ps (spF K ps.length (fDef ps.length N.length fb)) := by
  refine F.ok S (fun vs H Q E ⟨ρ, ds, st, r, h1, h2, h3, _⟩ => h1.1.trans h3) fun cdv A outer s H vs Q E hr ⟨ρ, ds, st, r, h1, h2, h3, h4, h5⟩ => ?_
  refine ⟨_, hb cdv A outer s H E hr, ?_⟩
  unfold fDef at h4
  split at h4
  · rename_i en s1 e
    cases h4
    exact ⟨ρ, _, st, _, ⟨start_en h1 h3, h2⟩, e, fun σ' H' ρ' t w => h5 .non H' ρ' t w.st .non⟩
  · rename_i d s1 e
    cases h4
    exact ⟨ρ, _, st, _, ⟨start_en h1 h3, h2⟩, e, fun v H' ρ' t w q => h5 v H' ρ' t w q⟩
  · cases h4
/-- a clearer function: what the derived one tells, but for cells that nobody knows any more -/
theorem spF_imp {f : Addr} {fd : FuncData} {ps : List Str} {CX : CXT} {k n : Nat} {F G : DF} (h : FnOk P w K mg base CX k f fd ps (spF K n F))
    (e : ∀ ds st r, ds.length = n → D.oks st.length ds = true → StOk st → G ds st = some r → ∃ d s more, r = .ok d s ∧ F ds st = some (.ok d (s ++ more)) ∧ (more = [] ∨ (st.length ≤ s.length ∧ D.ok s.length d = true ∧ StOk s))) : FnOk P w K mg base CX k f fd ps (spF K n G) := by
  refine h.imp fun vs H Q E ⟨ρ, ds, st, r, h1, h2, h3, h4, h5⟩ => ?_
  obtain ⟨d, s, more, rfl, q, z⟩ := e ds st r h3 (h2.len ▸ h1.ok) h2.ok h4
  refine ⟨ρ, ds, st, _, h1, h2, h3, q, fun v H' ρ' t hs hd => ?_⟩
  rcases z with rfl | ⟨z0, z1, z2⟩
  · rw [List.append_nil] at hs
    exact h5 v H' ρ' t hs hd
  · obtain ⟨l, t2, e1, e2, e3⟩ := hs.cut z2
    refine h5 v H' ⟨l, ρ'.h⟩ ⟨?_, t.hid, t.keep, fun a m => t.new a (by rw [e1]; exact List.mem_append_left _ m)⟩ e3 ?_
    · obtain ⟨t1, q1⟩ := t.pre
      have q2 : ρ.c ++ t1 = l ++ t2 := q1.symm.trans e1
      have hl : ρ.c.length ≤ l.length := by rw [e2, h2.len]; exact z0
      rcases List.append_eq_append_iff.mp q2 with ⟨as, e, _⟩ | ⟨bs, e, _⟩
      · exact ⟨as, e⟩
      · have : bs = [] := by
          have := congrArg List.length e
          rw [List.length_append] at this
          exact List.eq_nil_of_length_eq_zero (by omega)
        subst this
        exact ⟨[], by rw [e]; simp⟩
    · obtain ⟨c, hh⟩ := ρ'
      have e1 : c = l ++ t2 := e1
      subst e1
      exact hd.cut (by rw [e2]; exact z1)
end
end Fx
/-! Fx: operators, subscripts, built-ins by data. -/
namespace Fx
open PySem PySem.Spec PyProof.Rows L2

/-! ### sequences -/
/-! a list of any kind; a list that has not been locked; a list or a tuple -/
def seqS (st : Sto) (d : D) : Option (List D) := match d with
  | .lst xs => some xs
  | .frz xs => some xs
  | .ref n => match st[n]? with
    | some (.lst xs) => some xs
    | _ => none
  | _ => none
def seqP (st : Sto) (d : D) : Option (List D) := match d with
  | .lst xs => some xs
  | .ref n => match st[n]? with
    | some (.lst xs) => some xs
    | _ => none
  | _ => none
section
variable {K : PySem.W.Frag} {H H' : Hp} {ρ : Mp} {st : Sto} {v : V} {d : D} {ds : List D}
theorem seqP_inv (s : StR K H ρ st) (h : DR K H ρ v d) (e : seqP st d = some ds) : ∃ a xs, v = .ref a ∧ H a = some (.lst xs) ∧ DRs K H ρ xs ds := by
  cases h <;> first | cases e | skip
  · rename_i a xs h l q; exact ⟨a, xs, rfl, h.2, l, q⟩
  · rename_i n a h
    unfold seqP at e
    simp only at e
    split at e
    · rename_i ys hy
      cases e
      obtain ⟨xs, e1, e2⟩ := s.lstAt h hy
      exact ⟨a, xs, rfl, e1, e2⟩
    · cases e
theorem seqS_inv (s : StR K H ρ st) (h : DR K H ρ v d) (e : seqS st d = some ds) : ∃ a xs, v = .ref a ∧ SqL K H a xs ∧ DRs K H ρ xs ds := by
  cases h <;> first | cases e | skip
  · rename_i a xs h l q; exact ⟨a, xs, rfl, h.seq, l, q⟩
  · rename_i a xs h l q; exact ⟨a, xs, rfl, h.seq, l, q⟩
  · rename_i n a h
    unfold seqS at e
    simp only at e
    split at e
    · rename_i ys hy
      cases e
      obtain ⟨xs, e1, e2⟩ := s.lstAt h hy
      exact ⟨a, xs, rfl, .inl (.inl e1), e2⟩
    · cases e
theorem new_lst {p : Addr} {xs : List V} (s : StR K H ρ st) (hp : H p = none) (h : DRs K H ρ xs ds) : Same H (upd H p (.lst xs)) ∧ DR K (upd H p (.lst xs)) ρ (.ref p) (.lst ds) := by
  have sm := Fx.same_upd (o := .lst xs) hp
  exact ⟨sm, .lst ⟨s.new hp, upd_same⟩ h.1 (h.step (.same sm)).2⟩
theorem new_tup {p : Addr} {xs : List V} (s : StR K H ρ st) (hp : H p = none) (h : DRs K H ρ xs ds) : Same H (upd H p (.tup xs)) ∧ DR K (upd H p (.tup xs)) ρ (.ref p) (.tup ds) := by
  have sm := Fx.same_upd (o := .tup xs) hp
  exact ⟨sm, .tup ⟨s.new hp, upd_same⟩ h.1 (h.step (.same sm)).2⟩
theorem DRs.ints : ∀ {ns : List Int} {xs : List V}, DRs K H ρ xs (ns.map D.int) → xs = ns.map V.int
  | [], xs, h => h.nil_inv
  | n :: ns, xs, h => by
    obtain ⟨x, ys, rfl, q1, q2⟩ := DRs.cons_inv (d := .int n) (ds := ns.map D.int) h
    cases q1
    rw [DRs.ints q2]; rfl
theorem DRs.bls : ∀ {ns : List Bool} {xs : List V}, DRs K H ρ xs (ns.map D.bl) → xs = ns.map V.bl
  | [], xs, h => h.nil_inv
  | n :: ns, xs, h => by
    obtain ⟨x, ys, rfl, q1, q2⟩ := DRs.cons_inv (d := .bl n) (ds := ns.map D.bl) h
    cases q1
    rw [DRs.bls q2]; rfl
end
/-- all ints, all truths -/
def asInts : List D → Option (List Int)
  | [] => some []
  | .int i :: ds => (asInts ds).map (i :: ·)
  | _ => none
def asBls : List D → Option (List Bool)
  | [] => some []
  | .bl i :: ds => (asBls ds).map (i :: ·)
  | _ => none
theorem asInts_some : ∀ {ds : List D} {ns : List Int}, asInts ds = some ns → ds = ns.map D.int
  | [], ns, h => by cases h; rfl
  | d :: ds, ns, h => by
    cases d <;> first | cases h | skip
    rename_i i
    obtain ⟨ms, e, rfl⟩ := map_some (show (asInts ds).map (i :: ·) = some ns from h)
    rw [asInts_some e]; rfl
theorem asBls_some : ∀ {ds : List D} {ns : List Bool}, asBls ds = some ns → ds = ns.map D.bl
  | [], ns, h => by cases h; rfl
  | d :: ds, ns, h => by
    cases d <;> first | cases h | skip
    rename_i i
    obtain ⟨ms, e, rfl⟩ := map_some (show (asBls ds).map (i :: ·) = some ns from h)
    rw [asBls_some e]; rfl
@[simp] theorem asInts_map (ns : List Int) : asInts (ns.map D.int) = some ns := by induction ns with
  | nil => rfl
  | cons n ns ih => show (asInts (ns.map D.int)).map (n :: ·) = _; rw [ih]; rfl
@[simp] theorem asBls_map (ns : List Bool) : asBls (ns.map D.bl) = some ns := by induction ns with
  | nil => rfl
  | cons n ns ih => show (asBls (ns.map D.bl)).map (n :: ·) = _; rw [ih]; rfl

/-! ### rules side by side -/
theorem opr_or {X : Cx} {f : Value → Value → Sem Value} {r r' : R2} (h : OpR X f r) (h' : OpR X f r') : OpR X f (fun x y H Q => r x y H Q ∨ r' x y H Q) := fun pins s σ H x y v u Q I rx ry q => q.elim (h pins s σ H x y v u Q I rx ry) (h' pins s σ H x y v u Q I rx ry)
theorem car_or {X : Cx} {f : Value} {r r' : List V → Hp → VK → Prop} (h : CallR X f r) (h' : CallR X f r') : CallR X f (fun x H Q => r x H Q ∨ r' x H Q) := fun pins s σ H x v Q I rx q => q.elim (h pins s σ H x v Q I rx) (h' pins s σ H x v Q I rx)

/-! ### arithmetic -/
/-- small enough for a product -/
def Sz (i : Int) : Prop := i.natAbs.log2 < 60000000
instance (i : Int) : Decidable (Sz i) := inferInstanceAs (Decidable (_ < _))
theorem Sz.mul {i j : Int} (h : Sz i) (k : Sz j) : CMulX i j := by
  have b : ∀ x : Int, Builtin.Int.intBits x ≤ x.natAbs.log2 + 1 := fun x => by
    unfold Builtin.Int.intBits
    split <;> omega
  have h1 := b i
  have h2 := b j
  unfold Sz at h k
  unfold CMulX
  omega
def dAdd (st : Sto) (x y : D) : Option D := match x, y with
  | .int i, .int j => some (.int (i + j))
  | .str i, .str j => if i.length + j.length ≤ 1000000 then some (.str (i ++ j)) else none
  | .tup xs, .tup ys => if xs.length + ys.length ≤ 1000000 then some (.tup (xs ++ ys)) else none
  | x, y => match seqP st x, seqP st y with
    | some xs, some ys => if xs.length + ys.length ≤ 1000000 then some (.lst (xs ++ ys)) else none
    | _, _ => none
def dSub (_ : Sto) (x y : D) : Option D := match x, y with
  | .int i, .int j => some (.int (i - j))
  | _, _ => none
def dMul (_ : Sto) (x y : D) : Option D := match x, y with
  | .int i, .int j => if Sz i ∧ Sz j then some (.int (i * j)) else none
  | _, _ => none
def dDiv (_ : Sto) (x y : D) : Option D := match x, y with
  | .int i, .int j => if j ≠ 0 ∧ j.natAbs.log2 < 9000 then some (.int (i.fdiv j)) else none
  | _, _ => none
def dMod (_ : Sto) (x y : D) : Option D := match x, y with
  | .int i, .int j => if j ≠ 0 then some (.int (i.fmod j)) else none
  | _, _ => none
def dPow (_ : Sto) (x y : D) : Option D := match x, y with
  | .int i, .int j => if 0 ≤ j ∧ j ≤ 100 ∧ i.natAbs < 1000 then some (.int (i ^ j.toNat)) else none
  | _, _ => none
def dNeg (_ : Sto) (x : D) : Option D := match x with
  | .int i => some (.int (-i))
  | _ => none
theorem le_line {n : Nat} (h : n ≤ 1000000) : n ≤ sizeLine := Nat.le_trans h (by decide)
section
variable {X : Cx} {K : PySem.W.Frag}
def rAddAll (K : PySem.W.Frag) : R2 := fun x y H Q => ((rI0 fun i j => .int (i + j)) x y H Q ∨ (∃ i j, x = .str i ∧ y = .str j ∧ i.length + j.length ≤ sizeLine ∧ Q (.str (i ++ j)) H)) ∨ rCatA K x y H Q ∨ rCat x y H Q
theorem op_addA : OpR X (binaryOp .Add) (rAddAll X.K) := opr_or (opr_or op_add op_add_str) (opr_or op_catA op_cat)
theorem add_p : OpP K (rAddAll K) dAdd := by
  intro ρ H st x y dx dy d Q hs hx hy e h
  unfold dAdd at e
  split at e
  · cases e; cases hx; cases hy
    exact .inl (.inl ⟨_, _, rfl, rfl, h _ H (Same.refl H) (.int _)⟩)
  · split at e
    · rename_i hl
      cases e; cases hx; cases hy
      exact .inl (.inr ⟨_, _, rfl, rfl, le_line hl, h _ H (Same.refl H) (.str _)⟩)
    · cases e
  · split at e
    · rename_i xs ys hl
      cases e
      obtain ⟨a, us, rfl, q1, q2⟩ := hx.tup_inv
      obtain ⟨b, ws, rfl, q3, q4⟩ := hy.tup_inv
      refine .inr (.inl ⟨a, b, us, ws, rfl, rfl, q1.seq, q3.seq, le_line (by rw [q2.1, q4.1]; exact hl), fun z => ?_, fun z z2 => ?_, fun z z2 p hp => ?_⟩)
      · subst z
        have := q2.1
        have : xs = [] := List.eq_nil_of_length_eq_zero this.symm
        subst this
        exact h _ H (Same.refl H) hy
      · subst z2
        have := q4.1
        have : ys = [] := List.eq_nil_of_length_eq_zero this.symm
        subst this
        rw [List.append_nil] at h
        exact h _ H (Same.refl H) hx
      · obtain ⟨sm, q⟩ := new_tup hs hp (q2.append q4)
        exact h _ _ sm q
    · cases e
  · split at e
    · rename_i xs ys e1 e2
      split at e
      · rename_i hl
        cases e
        obtain ⟨a, us, rfl, q1, q2⟩ := seqP_inv hs hx e1
        obtain ⟨b, ws, rfl, q3, q4⟩ := seqP_inv hs hy e2
        refine .inr (.inr ⟨a, b, us, ws, rfl, rfl, q1, q3, le_line (by rw [q2.1, q4.1]; exact hl), fun p hp => ?_⟩)
        obtain ⟨sm, q⟩ := new_lst hs hp (q2.append q4)
        exact h _ _ sm q
      · cases e
    · cases e
theorem sub_p : OpP K (rI0 fun i j => .int (i - j)) dSub := by
  intro ρ H st x y dx dy d Q hs hx hy e h
  unfold dSub at e
  split at e
  · cases e; cases hx; cases hy
    exact ⟨_, _, rfl, rfl, h _ H (Same.refl H) (.int _)⟩
  · cases e
theorem mul_p : OpP K (rI CMulX fun i j => .int (i * j)) dMul := by
  intro ρ H st x y dx dy d Q hs hx hy e h
  unfold dMul at e
  split at e
  · split at e
    · rename_i hz
      cases e; cases hx; cases hy
      exact ⟨_, _, rfl, rfl, hz.1.mul hz.2, h _ H (Same.refl H) (.int _)⟩
    · cases e
  · cases e
def CDivG (_ j : Int) : Prop := j ≠ 0 ∧ j.natAbs.log2 < 9000
theorem op_fdivG : OpR X (binaryOp .FloorDiv) (rI CDivG fun i j => .int (i.fdiv j)) := by
  intro pins s σ H x y v u Q I rx ry h
  obtain ⟨i, j, rfl, rfl, hc, q⟩ := h
  obtain ⟨t, rfl⟩ := rx
  obtain ⟨t', rfl⟩ := ry
  exact floordiv_int hc.1 ⟨.int _, H, I.tok _, ⟨_, rfl⟩, q⟩ (.inl (PyProof.noPylong_of_log2 hc.2))
theorem div_p : OpP K (rI CDivG fun i j => .int (i.fdiv j)) dDiv := by
  intro ρ H st x y dx dy d Q hs hx hy e h
  unfold dDiv at e
  split at e
  · split at e
    · rename_i hz
      cases e; cases hx; cases hy
      exact ⟨_, _, rfl, rfl, hz, h _ H (Same.refl H) (.int _)⟩
    · cases e
  · cases e
theorem mod_p : OpP K (rI (fun _ j => j ≠ 0) fun i j => .int (i.fmod j)) dMod := by
  intro ρ H st x y dx dy d Q hs hx hy e h
  unfold dMod at e
  split at e
  · split at e
    · rename_i hz
      cases e; cases hx; cases hy
      exact ⟨_, _, rfl, rfl, hz, h _ H (Same.refl H) (.int _)⟩
    · cases e
  · cases e
theorem pow_p : OpP K (rI CPow fun i j => .int (i ^ j.toNat)) dPow := by
  intro ρ H st x y dx dy d Q hs hx hy e h
  unfold dPow at e
  split at e
  · split at e
    · rename_i hz
      cases e; cases hx; cases hy
      refine ⟨_, _, rfl, rfl, ⟨hz.1, by omega, ?_⟩, h _ H (Same.refl H) (.int _)⟩
      exact Nat.lt_trans hz.2.2 (by decide)
    · cases e
  · cases e
theorem neg_p : UnP K (rU fun i => .int (-i)) dNeg := by
  intro ρ H st x dx d Q hs hx e h
  unfold dNeg at e
  split at e
  · cases e; cases hx
    exact ⟨_, rfl, h _ H (Same.refl H) (.int _)⟩
  · cases e

/-! ### comparisons -/
def dCmp (p : Int → Int → Bool) (_ : Sto) (x y : D) : Option D := match x, y with
  | .int i, .int j => some (.bl (p i j))
  | _, _ => none
abbrev dLt := dCmp fun i j => decide (i < j)
abbrev dLe := dCmp fun i j => decide (i ≤ j)
abbrev dGt := dCmp fun i j => decide (j < i)
abbrev dGe := dCmp fun i j => decide (j ≤ i)
theorem cmp_p {p : Int → Int → Bool} : OpP K (rI0 fun i j => .bl (p i j)) (dCmp p) := by
  intro ρ H st x y dx dy d Q hs hx hy e h
  unfold dCmp at e
  split at e
  · cases e; cases hx; cases hy
    exact ⟨_, _, rfl, rfl, h _ H (Same.refl H) (.bl _)⟩
  · cases e
def dIsN (_ : Sto) (x y : D) : Option D := match y with
  | .non => some (.bl (match x with | .non => true | _ => false))
  | _ => none
def dNotN (_ : Sto) (x y : D) : Option D := match y with
  | .non => some (.bl (match x with | .non => false | _ => true))
  | _ => none
theorem isN_p : OpP K (fun x y H Q => y = .non ∧ Q (.bl (decide (x = .non))) H) dIsN := by
  intro ρ H st x y dx dy d Q hs hx hy e h
  unfold dIsN at e
  split at e
  · cases e; cases hy
    refine ⟨rfl, h _ H (Same.refl H) ?_⟩
    cases hx <;> exact .bl _
  · cases e
theorem notN_p : OpP K (fun x y H Q => y = .non ∧ Q (.bl (!decide (x = .non))) H) dNotN := by
  intro ρ H st x y dx dy d Q hs hx hy e h
  unfold dNotN at e
  split at e
  · cases e; cases hy
    refine ⟨rfl, h _ H (Same.refl H) ?_⟩
    cases hx <;> exact .bl _
  · cases e
/-! data without references, as the library says it -/
mutual
def pd : D → Option PyData
  | .non => some .none
  | .bl b => some (.bool b)
  | .int i => some (.int i)
  | .str x => some (.str x)
  | .tup xs => (pds xs).map .tuple
  | .frt xs => (pds xs).map .tuple
  | .lst xs => (pds xs).map .list
  | .frz xs => (pds xs).map .list
  | .ty _ => none
  | .ref _ => none
def pds : List D → Option (List PyData)
  | [] => some []
  | d :: ds => (pd d).bind fun e => (pds ds).map (e :: ·)
end
/-! .. or a cell of such -/
def pdS (st : Sto) (d : D) : Option PyData := match d with
  | .ref n => match st[n]? with
    | some (.lst xs) => (pds xs).map .list
    | _ => none
  | d => pd d
section
variable {H : Hp} {ρ : Mp} {st : Sto}
mutual
theorem pd_dp : ∀ {d : D} {e : PyData} {v : V}, pd d = some e → DR K H ρ v d → Dp K H v e
  | .non, e, v, h, r => by cases h; cases r; exact .non
  | .bl b, e, v, h, r => by cases h; cases r; exact .bl b
  | .int i, e, v, h, r => by cases h; cases r; exact .int i
  | .str x, e, v, h, r => by cases h; cases r; exact .str x
  | .tup xs, e, v, h, r => by
    obtain ⟨es, e1, rfl⟩ := map_some (show (pds xs).map PyData.tuple = some e from h)
    obtain ⟨a, us, rfl, q1, q2⟩ := r.tup_inv
    exact .tup q1.seq (pds_dp e1 q2)
  | .frt xs, e, v, h, r => by
    obtain ⟨es, e1, rfl⟩ := map_some (show (pds xs).map PyData.tuple = some e from h)
    obtain ⟨a, us, rfl, q1, q2⟩ := r.frt_inv
    exact .tup q1.seq (pds_dp e1 q2)
  | .lst xs, e, v, h, r => by
    obtain ⟨es, e1, rfl⟩ := map_some (show (pds xs).map PyData.list = some e from h)
    obtain ⟨a, us, rfl, q1, q2⟩ := r.lst_inv
    exact .lst q1.seq (pds_dp e1 q2)
  | .frz xs, e, v, h, r => by
    obtain ⟨es, e1, rfl⟩ := map_some (show (pds xs).map PyData.list = some e from h)
    obtain ⟨a, us, rfl, q1, q2⟩ := r.frz_inv
    exact .lst q1.seq (pds_dp e1 q2)
  | .ty _, e, v, h, r => by cases h
  | .ref _, e, v, h, r => by cases h
theorem pds_dp : ∀ {ds : List D} {es : List PyData} {vs : List V}, pds ds = some es → DRs K H ρ vs ds → DpAll K H vs es
  | [], es, vs, h, r => by cases h; rw [r.nil_inv]; exact .nil
  | d :: ds, es, vs, h, r => by
    obtain ⟨e, e1, h2⟩ := Option.bind_eq_some_iff.mp (show (pd d).bind _ = some es from h)
    obtain ⟨fs, e2, rfl⟩ := map_some h2
    obtain ⟨x, xs, rfl, q1, q2⟩ := r.cons_inv
    exact .cons (pd_dp e1 q1) (pds_dp e2 q2)
end
theorem pdS_dp {d : D} {e : PyData} {v : V} (s : StR K H ρ st) (h : pdS st d = some e) (r : DR K H ρ v d) : Dp K H v e := by
  unfold pdS at h
  split at h
  · split at h
    · rename_i xs hx
      obtain ⟨es, e1, rfl⟩ := map_some h
      obtain ⟨a, rfl, q⟩ := r.ref_inv
      obtain ⟨us, q1, q2⟩ := s.lstAt q hx
      exact .lst (.inl (.inl q1)) (pds_dp e1 q2)
    · cases h
  · exact pd_dp h r
end
def dEq (st : Sto) (x y : D) : Option D := match pdS st x, pdS st y with
  | some a, some b => if SeqAt.shaped a = true ∧ SeqAt.shaped b = true then some (.bl (PyData.eqv a b)) else none
  | _, _ => none
def dNe (st : Sto) (x y : D) : Option D := match pdS st x, pdS st y with
  | some a, some b => if SeqAt.shaped a = true ∧ SeqAt.shaped b = true then some (.bl (!PyData.eqv a b)) else none
  | _, _ => none
theorem eq_p : OpP K (rEqD K) dEq := by
  intro ρ H st x y dx dy d Q hs hx hy e h
  unfold dEq at e
  split at e
  · rename_i a b e1 e2
    split at e
    · rename_i hsh
      cases e
      exact ⟨a, b, pdS_dp hs e1 hx, pdS_dp hs e2 hy, hsh.1, hsh.2, h _ H (Same.refl H) (.bl _)⟩
    · cases e
  · cases e
theorem ne_p : OpP K (rNeD K) dNe := by
  intro ρ H st x y dx dy d Q hs hx hy e h
  unfold dNe at e
  split at e
  · rename_i a b e1 e2
    split at e
    · rename_i hsh
      cases e
      exact ⟨a, b, pdS_dp hs e1 hx, pdS_dp hs e2 hy, hsh.1, hsh.2, h _ H (Same.refl H) (.bl _)⟩
    · cases e
  · cases e
/-- flat data as a value -/
def fv : D → Option V
  | .non => some .non
  | .bl b => some (.bl b)
  | .int i => some (.int i)
  | .str x => some (.str x)
  | _ => none
def fvs : List D → Option (List V)
  | [] => some []
  | d :: ds => (fv d).bind fun e => (fvs ds).map (e :: ·)
theorem fv_eq {H : Hp} {ρ : Mp} {v u : V} {d : D} (h : fv d = some u) (r : DR K H ρ v d) : v = u ∧ flatV u = true := by
  cases r <;> first | (cases h; exact ⟨rfl, rfl⟩) | cases h
theorem fvs_eq {H : Hp} {ρ : Mp} : ∀ {vs us : List V} {ds : List D}, fvs ds = some us → DRs K H ρ vs ds → vs = us ∧ us.all flatV = true
  | vs, us, [], h, r => by cases h; exact ⟨r.nil_inv, rfl⟩
  | vs, us, d :: ds, h, r => by
    obtain ⟨e, e1, h2⟩ := Option.bind_eq_some_iff.mp (show (fv d).bind _ = some us from h)
    obtain ⟨fs, e2, rfl⟩ := map_some h2
    obtain ⟨x, xs, rfl, q1, q2⟩ := r.cons_inv
    obtain ⟨rfl, f1⟩ := fv_eq e1 q1
    obtain ⟨rfl, f2⟩ := fvs_eq e2 q2
    exact ⟨rfl, by rw [List.all_cons, f1, f2]; rfl⟩
def seqLT (st : Sto) (d : D) : Option (List D) := match seqT d with
  | some xs => some xs
  | none => seqS st d
def dIn (neg : Bool) (st : Sto) (x y : D) : Option D := match fv x, (seqLT st y).bind fvs with
  | some u, some us => some (.bl (if neg then !inV u us else inV u us))
  | _, _ => none
theorem in_p {neg : Bool} : OpP K (rIn K neg) (dIn neg) := by
  intro ρ H st x y dx dy d Q hs hx hy e h
  unfold dIn at e
  split at e
  · rename_i u us e1 e2
    cases e
    obtain ⟨ds, e3, e4⟩ := Option.bind_eq_some_iff.mp e2
    obtain ⟨rfl, f⟩ := fv_eq e1 hx
    unfold seqLT at e3
    split at e3
    · rename_i zs ez
      cases e3
      obtain ⟨a, xs, rfl, q1, q2⟩ := hy.seqT_inv ez
      obtain ⟨rfl, f2⟩ := fvs_eq e4 q2
      exact ⟨a, _, rfl, .inr q1.seq, f, f2, h _ H (Same.refl H) (.bl _)⟩
    · obtain ⟨a, xs, rfl, q1, q2⟩ := seqS_inv hs hy e3
      obtain ⟨rfl, f2⟩ := fvs_eq e4 q2
      exact ⟨a, _, rfl, .inl q1, f, f2, h _ H (Same.refl H) (.bl _)⟩
  · cases e
/-! ### subscripts -/
def dIx (st : Sto) (x y : D) : Option D := match y with
  | .int i => (seqLT st x).bind fun xs => atI xs i
  | _ => none
theorem atI_DRs {H : Hp} {ρ : Mp} {xs : List V} {ds : List D} {i : Int} {d : D} (h : DRs K H ρ xs ds) (e : atI ds i = some d) : ∃ x, atI xs i = some x ∧ DR K H ρ x d := by
  unfold atI at e ⊢
  obtain ⟨j, e1, e2⟩ := Option.bind_eq_some_iff.mp e
  obtain ⟨x, e3, q⟩ := h.get e2
  exact ⟨x, by rw [h.1, e1]; exact e3, q⟩
def rIxLT (K : PySem.W.Frag) : R2 := fun x y H Q => rIxL K x y H Q ∨ rIxT K x y H Q
theorem ix_lt : IxR X (rIxLT X.K) := ix_list.or ix_tup
theorem ix_p : OpP K (rIxLT K) dIx := by
  intro ρ H st x y dx dy d Q hs hx hy e h
  unfold dIx at e
  split at e
  · rename_i i
    cases hy
    obtain ⟨ds, e1, e2⟩ := Option.bind_eq_some_iff.mp e
    unfold seqLT at e1
    split at e1
    · rename_i zs ez
      cases e1
      obtain ⟨a, xs, rfl, q1, q2⟩ := hx.seqT_inv ez
      obtain ⟨v, e3, q3⟩ := atI_DRs q2 e2
      exact .inr ⟨a, xs, i, v, rfl, rfl, q1.seq, e3, h _ H (Same.refl H) q3⟩
    · obtain ⟨a, xs, rfl, q1, q2⟩ := seqS_inv hs hx e1
      obtain ⟨v, e3, q3⟩ := atI_DRs q2 e2
      exact .inl ⟨a, xs, i, v, rfl, rfl, q1, e3, h _ H (Same.refl H) q3⟩
  · cases e
end
end Fx
/-! Fx: built-ins, slices, methods, by data. -/
namespace Fx
open PySem PySem.Spec PyProof.Rows L2

/-! ### built-in calls -/
def fCa (g : Sto → List D → Option D) (a : FA) : FE := fun env st => bnd (a env st) fun ds s1 => (g s1 ds).map (R.ok · s1)
section
variable {X : Cx} {E : XK} {pos p : Pos} {fs : FA} {e : Expr} {es : List Expr} {K : PySem.W.Frag}
theorem ca_rd {K : PySem.W.Frag} {r : List V → Hp → VK → Prop} {g : Sto → List D → Option D} (hr : CaP K r g) {σ : L2.St} {H : Hp} {Q : VK} (h : rdE K E (fCa g fs) σ H Q) : tCB r (rdA K E fs) σ H Q := by
  obtain ⟨ρ, env, st, r, w, hf, hQ⟩ := h
  refine rd_bind w hf hQ fun xs ds s1 H1 ρ1 t1 w1 r1 hf hQ => ?_
  obtain ⟨d, e1, rfl⟩ := map_some hf
  exact hr ρ1 H1 s1 xs ds d Q w1.st r1 e1 fun v H' s q => hQ v H' ρ1 (.same s) (w1.st.same s) q
theorem v_callB {id : String} {x : Str} {r : List V → Hp → VK → Prop} {g : Sto → List D → Option D} (hc : CallR X (.builtin id) r) (hr : CaP X.K r g) (hg : Gl X x) (hm : X.mg x = none) (hv : bootBuiltins x = some (.builtin id)) (ha : VA X E (e :: es) fs) (hn : x ≠ "__name__" := by decide) (hdb : (x == ("__debug__" : Str)) = false := by decide)
    (he : starEach (e :: es) X.env = (false, eval e X.env) :: starEach es X.env := by rfl) (hpl : (backTo pos (starEach es X.env)).any (·.1) = false := by rfl) : VE X E (.Call (.Name x p) (e :: es) [] pos) (fCa g fs) :=
  PE.imp (pe_callB hc hg hm hv ha hn hdb he hpl) fun _ _ _ h => ca_rd hr h
theorem v_callTy {T : String} {x : Str} {r : List V → Hp → VK → Prop} {g : Sto → List D → Option D} (hc : CallR X (.type T) r) (hr : CaP X.K r g) (hg : Gl X x) (hm : X.mg x = none) (hv : bootBuiltins x = some (.type T)) (ha : VA X E (e :: es) fs) (hn : x ≠ "__name__" := by decide) (hdb : (x == ("__debug__" : Str)) = false := by decide)
    (he : starEach (e :: es) X.env = (false, eval e X.env) :: starEach es X.env := by rfl) (hpl : (backTo pos (starEach es X.env)).any (·.1) = false := by rfl) : VE X E (.Call (.Name x p) (e :: es) [] pos) (fCa g fs) :=
  PE.imp (pe_callTy hc hg hm hv ha hn hdb he hpl) fun _ _ _ h => ca_rd hr h
theorem v_ty {x : Str} {n : String} (hg : Gl X x) (hm : X.mg x = none) (hv : bootBuiltins x = some (.type n)) (hn : x ≠ "__name__" := by decide) (hd : (x == ("__debug__" : Str)) = false := by decide) : VE X E (.Name x pos) (fC (.ty n)) :=
  v_c (pe_bltn (v := .ty n) hg hm hv rfl hn hd) fun _ _ => .ty n
/-- a module's constant: a number, a text, a truth -/
theorem v_globInt {x : Str} {i : Int} {t : Tok} (hg : Gl X x) (hm : X.mg x = some (.int i t)) (hd : (x == ("__debug__" : Str)) = false := by decide) : VE X E (.Name x pos) (fC (.int i)) := v_c (pe_glob (v := .int i) hg hm ⟨t, rfl⟩ hd) fun _ _ => .int i
theorem v_globStr {x z : Str} {t : Tok} (hg : Gl X x) (hm : X.mg x = some (.str z t)) (hd : (x == ("__debug__" : Str)) = false := by decide) : VE X E (.Name x pos) (fC (.str z)) := v_c (pe_glob (v := .str z) hg hm ⟨t, rfl⟩ hd) fun _ _ => .str z
theorem one_inv {H : Hp} {ρ : Mp} {xs : List V} {d : D} (h : DRs K H ρ xs [d]) : ∃ x, xs = [x] ∧ DR K H ρ x d := by
  obtain ⟨x, r, rfl, q, t⟩ := h.cons_inv
  rw [t.nil_inv]; exact ⟨x, rfl, q⟩
theorem two_inv {H : Hp} {ρ : Mp} {xs : List V} {d e : D} (h : DRs K H ρ xs [d, e]) : ∃ x y, xs = [x, y] ∧ DR K H ρ x d ∧ DR K H ρ y e := by
  obtain ⟨x, r, rfl, q, t⟩ := h.cons_inv
  obtain ⟨y, rfl, q2⟩ := one_inv t
  exact ⟨x, y, rfl, q, q2⟩

def bAbs (_ : Sto) : List D → Option D
  | [.int i] => some (.int (if i < 0 then -i else i))
  | _ => none
theorem abs_p : CaP K (fun xs H Q => ∃ i, xs = [.int i] ∧ Q (.int (if i < 0 then -i else i)) H) bAbs := by
  intro ρ H st xs ds d Q hs hx e h
  unfold bAbs at e
  split at e
  · obtain ⟨x, rfl, q⟩ := one_inv hx
    cases q; cases e
    exact ⟨_, rfl, h _ H (Same.refl H) (.int _)⟩
  · cases e
def bMax2 (_ : Sto) : List D → Option D
  | [.int i, .int j] => some (.int (if j > i then j else i))
  | _ => none
def bMin2 (_ : Sto) : List D → Option D
  | [.int i, .int j] => some (.int (if j < i then j else i))
  | _ => none
theorem max2_p : CaP K (fun xs H Q => ∃ i j, xs = [.int i, .int j] ∧ Q (.int (if j > i then j else i)) H) bMax2 := by
  intro ρ H st xs ds d Q hs hx e h
  unfold bMax2 at e
  split at e
  · obtain ⟨x, y, rfl, q, q2⟩ := two_inv hx
    cases q; cases q2; cases e
    exact ⟨_, _, rfl, h _ H (Same.refl H) (.int _)⟩
  · cases e
theorem min2_p : CaP K (fun xs H Q => ∃ i j, xs = [.int i, .int j] ∧ Q (.int (if j < i then j else i)) H) bMin2 := by
  intro ρ H st xs ds d Q hs hx e h
  unfold bMin2 at e
  split at e
  · obtain ⟨x, y, rfl, q, q2⟩ := two_inv hx
    cases q; cases q2; cases e
    exact ⟨_, _, rfl, h _ H (Same.refl H) (.int _)⟩
  · cases e
def bInt (_ : Sto) : List D → Option D
  | [.int i] => some (.int i)
  | [.bl b] => some (.int (if b then 1 else 0))
  | _ => none
theorem int_p : CaP K (fun xs H Q => (∃ i, xs = [.int i] ∧ Q (.int i) H) ∨ ∃ k, xs = [.bl k] ∧ Q (.int (if k then 1 else 0)) H) bInt := by
  intro ρ H st xs ds d Q hs hx e h
  unfold bInt at e
  split at e
  · obtain ⟨x, rfl, q⟩ := one_inv hx
    cases q; cases e
    exact .inl ⟨_, rfl, h _ H (Same.refl H) (.int _)⟩
  · obtain ⟨x, rfl, q⟩ := one_inv hx
    cases q; cases e
    exact .inr ⟨_, rfl, h _ H (Same.refl H) (.int _)⟩
  · cases e
theorem seqLT_inv {H : Hp} {ρ : Mp} {st : Sto} {v : V} {d : D} {ds : List D} (s : StR K H ρ st) (h : DR K H ρ v d) (e : seqLT st d = some ds) : ∃ a xs, v = .ref a ∧ (SqL K H a xs ∨ SqT K H a xs) ∧ DRs K H ρ xs ds := by
  unfold seqLT at e
  split at e
  · rename_i zs ez
    cases e
    obtain ⟨a, xs, rfl, q1, q2⟩ := h.seqT_inv ez
    exact ⟨a, xs, rfl, .inr q1.seq, q2⟩
  · obtain ⟨a, xs, rfl, q1, q2⟩ := seqS_inv s h e
    exact ⟨a, xs, rfl, .inl q1, q2⟩
/-- len of a list, a tuple -/
def bLen (st : Sto) : List D → Option D
  | [d] => (seqLT st d).map fun xs => .int xs.length
  | _ => none
theorem len_p : CaP K (fun xs H Q => ∃ p ys, xs = [.ref p] ∧ (SqL K H p ys ∨ SqT K H p ys) ∧ Q (.int ys.length) H) bLen := by
  intro ρ H st xs ds d Q hs hx e h
  unfold bLen at e
  split at e
  · obtain ⟨x, rfl, q⟩ := one_inv hx
    obtain ⟨zs, e1, rfl⟩ := map_some e
    obtain ⟨a, xs, rfl, q1, q2⟩ := seqLT_inv hs q e1
    exact ⟨a, xs, rfl, q1, h _ H (Same.refl H) (by rw [q2.1]; exact .int _)⟩
  · cases e
/-- list(..), tuple(..) -/
def bList (st : Sto) : List D → Option D
  | [d] => (seqLT st d).map .lst
  | _ => none
theorem list_p : CaP K (fun xs H Q => ∃ p ys, xs = [.ref p] ∧ (SqL K H p ys ∨ SqT K H p ys) ∧ ∀ l, H l = none → Q (.ref l) (upd H l (.lst ys))) bList := by
  intro ρ H st xs ds d Q hs hx e h
  unfold bList at e
  split at e
  · obtain ⟨x, rfl, q⟩ := one_inv hx
    obtain ⟨zs, e1, rfl⟩ := map_some e
    obtain ⟨a, xs, rfl, q1, q2⟩ := seqLT_inv hs q e1
    refine ⟨a, xs, rfl, q1, fun p hp => ?_⟩
    obtain ⟨sm, q⟩ := new_lst hs hp q2
    exact h _ _ sm q
  · cases e
def bTuple (st : Sto) : List D → Option D
  | [d] => match seqT d with
    | some _ => some d
    | none => (seqS st d).map .tup
  | _ => none
theorem tuple_p : CaP K (fun xs H Q => ∃ p ys, xs = [.ref p] ∧ ((SqL K H p ys ∧ ∀ l, H l = none → Q (.ref l) (upd H l (.tup ys))) ∨ (SqT K H p ys ∧ Q (.ref p) H))) bTuple := by
  intro ρ H st xs ds d Q hs hx e h
  unfold bTuple at e
  split at e
  · obtain ⟨x, rfl, q⟩ := one_inv hx
    split at e
    · rename_i zs ez
      cases e
      obtain ⟨a, xs, rfl, q1, q2⟩ := q.seqT_inv ez
      exact ⟨a, xs, rfl, .inr ⟨q1.seq, h _ H (Same.refl H) q⟩⟩
    · obtain ⟨zs, e1, rfl⟩ := map_some e
      obtain ⟨a, xs, rfl, q1, q2⟩ := seqS_inv hs q e1
      refine ⟨a, xs, rfl, .inl ⟨q1, fun p hp => ?_⟩⟩
      obtain ⟨sm, q⟩ := new_tup hs hp q2
      exact h _ _ sm q
  · cases e
def bSum (st : Sto) : List D → Option D
  | [d] => ((seqS st d).bind asInts).map fun ns => .int ns.sum
  | _ => none
theorem sum_p : CaP K (rSum K) bSum := by
  intro ρ H st xs ds d Q hs hx e h
  unfold bSum at e
  split at e
  · obtain ⟨x, rfl, q⟩ := one_inv hx
    obtain ⟨ns, e1, rfl⟩ := map_some e
    obtain ⟨zs, e2, e3⟩ := Option.bind_eq_some_iff.mp e1
    obtain ⟨a, xs, rfl, q1, q2⟩ := seqS_inv hs q e2
    have := asInts_some e3
    subst this
    have := q2.ints
    subst this
    exact ⟨a, ns, rfl, q1, h _ H (Same.refl H) (.int _)⟩
  · cases e
def bAll (st : Sto) : List D → Option D
  | [d] => ((seqS st d).bind asBls).map fun ns => .bl (ns.all id)
  | _ => none
def bAny (st : Sto) : List D → Option D
  | [d] => ((seqS st d).bind asBls).map fun ns => .bl (ns.any id)
  | _ => none
theorem all_p : CaP K (rAll K) bAll := by
  intro ρ H st xs ds d Q hs hx e h
  unfold bAll at e
  split at e
  · obtain ⟨x, rfl, q⟩ := one_inv hx
    obtain ⟨ns, e1, rfl⟩ := map_some e
    obtain ⟨zs, e2, e3⟩ := Option.bind_eq_some_iff.mp e1
    obtain ⟨a, xs, rfl, q1, q2⟩ := seqS_inv hs q e2
    have := asBls_some e3
    subst this
    have := q2.bls
    subst this
    exact ⟨a, ns, rfl, q1, h _ H (Same.refl H) (.bl _)⟩
  · cases e
theorem any_p : CaP K (rAny K) bAny := by
  intro ρ H st xs ds d Q hs hx e h
  unfold bAny at e
  split at e
  · obtain ⟨x, rfl, q⟩ := one_inv hx
    obtain ⟨ns, e1, rfl⟩ := map_some e
    obtain ⟨zs, e2, e3⟩ := Option.bind_eq_some_iff.mp e1
    obtain ⟨a, xs, rfl, q1, q2⟩ := seqS_inv hs q e2
    have := asBls_some e3
    subst this
    have := q2.bls
    subst this
    exact ⟨a, ns, rfl, q1, h _ H (Same.refl H) (.bl _)⟩
  · cases e
/-- isinstance(x, T), T a built-in class -/
def tyD (st : Sto) : D → Option String
  | .non => some "NoneType"
  | .bl _ => some "bool"
  | .int _ => some "int"
  | .str _ => some "str"
  | .tup _ => some "tuple"
  | .frt _ => some "tuple"
  | .lst _ => some "list"
  | .frz _ => some "list"
  | .ty _ => none
  | .ref n => match st[n]? with
    | some (.lst _) => some "list"
    | some (.dct _) => some "dict"
    | none => none
def bIsi (st : Sto) : List D → Option D
  | [d, .ty n] => (tyD st d).bind fun t => (kitB t n).map .bl
  | _ => none
theorem tyD_is {H : Hp} {ρ : Mp} {st : Sto} {v : V} {d : D} {t : String} (s : StR K H ρ st) (h : DR K H ρ v d) (e : tyD st d = some t) : TyX K H v (.type t) := by
  cases h
  case non => cases e; exact .base .non
  case bl b => cases e; exact .base (.bl b)
  case int b => cases e; exact .base (.int b)
  case str b => cases e; exact .base (.str b)
  case ty b => cases e
  case tup a xs ds h l q => cases e; exact .base (.tup h.2)
  case lst a xs ds h l q => cases e; exact .base (.lst h.2)
  case frt a xs ds h l q =>
    cases e
    rcases h with ⟨_, h | ⟨o, h⟩⟩ | ((h | ⟨o, h⟩) | ⟨o, its, n, h, hc, _⟩)
    · exact .base (.tup h)
    · exact .fTuple h
    · cases h
    · cases h
    · exact .kTuple h hc
  case frz a xs ds h l q =>
    cases e
    rcases h with ⟨_, h | ⟨o, h⟩⟩ | ((h | ⟨o, h⟩) | ⟨o, its, n, h, hc, _⟩)
    · exact .base (.lst h)
    · exact .base (.frz h)
    · cases h
    · cases h
    · exact .kList h hc
  case ref n a h =>
    unfold tyD at e
    simp only at e
    split at e
    · rename_i ds hd
      cases e
      obtain ⟨xs, q, _⟩ := s.lstAt h hd
      exact .base (.lst q)
    · rename_i ds hd
      cases e
      obtain ⟨xs, q, _⟩ := s.dctAt h hd
      exact .base (.dK q)
    · cases e
theorem isi_p : CaP K (rIsi K) bIsi := by
  intro ρ H st xs ds d Q hs hx e h
  unfold bIsi at e
  split at e
  · rename_i d n
    obtain ⟨x, y, rfl, q, q2⟩ := two_inv hx
    cases q2
    obtain ⟨t, e1, e2⟩ := Option.bind_eq_some_iff.mp e
    obtain ⟨b, e3, rfl⟩ := map_some e2
    exact ⟨x, _, _, _, b, rfl, .ty n, tyD_is hs q e1, kit_ty e3, h _ H (Same.refl H) (.bl _)⟩
  · cases e
/-! sorted, of pairs of ints -/
def asPairs : List D → Option (List (Int × Int))
  | [] => some []
  | .tup [.int i, .int j] :: ds => (asPairs ds).map ((i, j) :: ·)
  | _ => none
def pD (p : Int × Int) : D := .tup [.int p.1, .int p.2]
theorem asPairs_some : ∀ {ds : List D} {ns : List (Int × Int)}, asPairs ds = some ns → ds = ns.map pD
  | [], ns, h => by cases h; rfl
  | d :: ds, ns, h => by
    unfold asPairs at h
    split at h
    · rename_i e; cases e
    · rename_i i j ds' e
      cases e
      obtain ⟨ms, e, rfl⟩ := map_some h
      rw [asPairs_some e]; rfl
    · cases h
@[simp] theorem asPairs_map (ns : List (Int × Int)) : asPairs (ns.map pD) = some ns := by induction ns with
  | nil => rfl
  | cons n ns ih => show (asPairs (ns.map pD)).map ((n.1, n.2) :: ·) = _; rw [ih]; rfl
def insP (p : Int × Int) : List (Int × Int) → List (Int × Int)
  | [] => [p]
  | q :: r => if SrtO.lexB q p then q :: insP p r else p :: q :: r
def sortP : List (Int × Int) → List (Int × Int)
  | [] => []
  | p :: r => insP p (sortP r)
theorem lex_swo : SrtO.Swo (fun x y : Int × Int => SrtO.lexB x y) := by
  refine ⟨fun x y h => ?_, fun x y z h1 h2 => ?_⟩
  · have a := SrtO.lexB_iff.mp h
    refine SrtO.lexB_no.mpr ?_
    omega
  · have a := SrtO.lexB_no.mp h1
    have b := SrtO.lexB_no.mp h2
    refine SrtO.lexB_no.mpr ?_
    omega
theorem insP_perm (p : Int × Int) : ∀ l, (insP p l).Perm (p :: l)
  | [] => List.Perm.refl _
  | q :: r => by
    unfold insP
    split
    · exact ((insP_perm p r).cons q).trans (List.Perm.swap p q r)
    · exact List.Perm.refl _
theorem sortP_perm : ∀ l, (sortP l).Perm l
  | [] => List.Perm.refl _
  | p :: r => (insP_perm p _).trans ((sortP_perm r).cons p)
theorem insP_srt (p : Int × Int) : ∀ l, l.Pairwise (fun x y => SrtO.lexB y x = false) → (insP p l).Pairwise (fun x y => SrtO.lexB y x = false)
  | [], _ => by simp [insP]
  | q :: r, h => by
    obtain ⟨h1, h2⟩ := List.pairwise_cons.mp h
    unfold insP
    split
    · rename_i c
      refine List.pairwise_cons.mpr ⟨fun z hz => ?_, insP_srt p r h2⟩
      rcases List.mem_cons.mp ((insP_perm p r).mem_iff.mp hz) with e | hz
      · subst e
        have a := SrtO.lexB_iff.mp c
        refine SrtO.lexB_no.mpr ?_
        omega
      · exact h1 z hz
    · rename_i c
      have c : SrtO.lexB q p = false := by cases z : SrtO.lexB q p with | true => exact absurd z c | false => rfl
      refine List.pairwise_cons.mpr ⟨fun z hz => ?_, h⟩
      rcases List.mem_cons.mp hz with e | hz
      · subst e; exact c
      · have a := SrtO.lexB_no.mp (h1 z hz)
        have b := SrtO.lexB_no.mp c
        refine SrtO.lexB_no.mpr ?_
        omega
theorem sortP_srt : ∀ l, (sortP l).Pairwise (fun x y => SrtO.lexB y x = false)
  | [] => List.Pairwise.nil
  | p :: r => insP_srt p _ (sortP_srt r)
theorem lex_anti {x y : Int × Int} (h1 : SrtO.lexB x y = false) (h2 : SrtO.lexB y x = false) : x = y := by
  have a := SrtO.lexB_no.mp h1
  have b := SrtO.lexB_no.mp h2
  obtain ⟨x1, x2⟩ := x
  obtain ⟨y1, y2⟩ := y
  simp only at a b
  have : x1 = y1 := by omega
  subst this
  have : x2 = y2 := by omega
  rw [this]
theorem srt_uniq : ∀ {l m : List (Int × Int)}, l.Pairwise (fun x y => SrtO.lexB y x = false) → m.Pairwise (fun x y => SrtO.lexB y x = false) → l.Perm m → l = m
  | [], m, _, _, p => (List.Perm.eq_nil p.symm).symm
  | x :: l, [], _, _, p => absurd p.length_eq (by simp)
  | x :: l, y :: m, hl, hm, p => by
    obtain ⟨a1, a2⟩ := List.pairwise_cons.mp hl
    obtain ⟨b1, b2⟩ := List.pairwise_cons.mp hm
    have e : x = y := by
      rcases List.mem_cons.mp (p.mem_iff.mp (List.mem_cons_self (a := x) (l := l))) with e | hx
      · exact e
      · rcases List.mem_cons.mp (p.mem_iff.mpr (List.mem_cons_self (a := y) (l := m))) with e | hy
        · exact e.symm
        · exact lex_anti (b1 x hx) (a1 y hy)
    subst e
    rw [srt_uniq a2 b2 p.cons_inv]
def bSortP (st : Sto) : List D → Option D
  | [d] => ((seqS st d).bind asPairs).map fun ps => .lst ((sortP ps).map pD)
  | _ => none
def keyP (H : Hp) (x : V) : Int × Int := match x with
  | .ref t => match H t with
    | some (.tup [.int i, .int j]) => (i, j)
    | _ => (0, 0)
  | _ => (0, 0)
theorem pair_inv {H : Hp} {ρ : Mp} {x : V} {i j : Int} (h : DR K H ρ x (.tup [.int i, .int j])) : ∃ t, x = V.ref t ∧ H t = some (.tup [.int i, .int j]) ∧ keyP H x = (i, j) := by
  obtain ⟨a, us, rfl, q1, q2⟩ := h.tup_inv
  obtain ⟨u, w, rfl, q3, q4⟩ := two_inv q2
  cases q3; cases q4
  refine ⟨a, rfl, q1.2, ?_⟩
  unfold keyP
  simp only [q1.2]
theorem pairs_at {H : Hp} {ρ : Mp} : ∀ {xs : List V} {ps : List (Int × Int)}, DRs K H ρ xs (ps.map pD) → xs.map (keyP H) = ps ∧ ∀ x ∈ xs, DR K H ρ x (pD (keyP H x))
  | xs, [], h => by rw [h.nil_inv]; exact ⟨rfl, fun _ m => nomatch m⟩
  | xs, p :: ps, h => by
    obtain ⟨x, ys, rfl, q1, q2⟩ := DRs.cons_inv (d := pD p) (ds := ps.map pD) h
    obtain ⟨e1, e2⟩ := pairs_at q2
    obtain ⟨t, rfl, e3, e4⟩ := pair_inv q1
    refine ⟨by rw [List.map_cons, e1, e4], fun y m => ?_⟩
    rcases List.mem_cons.mp m with rfl | m
    · rw [e4]; exact q1
    · exact e2 y m
theorem sortP_p : CaP K (rSortedPO K) bSortP := by
  intro ρ H st xs ds d Q hs hx e h
  unfold bSortP at e
  split at e
  · obtain ⟨x, rfl, q⟩ := one_inv hx
    obtain ⟨ps, e1, rfl⟩ := map_some e
    obtain ⟨zs, e2, e3⟩ := Option.bind_eq_some_iff.mp e1
    obtain ⟨a, xs, rfl, q1, q2⟩ := seqS_inv hs q e2
    have := asPairs_some e3
    subst this
    obtain ⟨k1, k2⟩ := pairs_at q2
    refine ⟨a, xs, keyP H, rfl, q1, fun x m => ?_, fun ys p srt stb hp => ?_⟩
    · obtain ⟨t, e, e5, e6⟩ := pair_inv (k2 x m)
      exact ⟨t, e, e5⟩
    · have pm : (ys.map (keyP H)).Perm ps := by rw [← k1]; exact stb.perm.map _
      have sy : (ys.map (keyP H)).Pairwise (fun x y => SrtO.lexB y x = false) := List.pairwise_map.mpr srt
      have ey : ys.map (keyP H) = sortP ps := srt_uniq sy (sortP_srt ps) (pm.trans (sortP_perm ps).symm)
      have dy : DRs K H ρ ys ((sortP ps).map pD) := by
        rw [← ey]
        refine ⟨by simp, fun i x d e1 e2 => ?_⟩
        rw [List.getElem?_map, List.getElem?_map, e1] at e2
        cases e2
        exact k2 x (stb.perm.mem_iff.mp (List.mem_of_getElem? e1))
      obtain ⟨sm, q⟩ := new_lst hs hp dy
      exact h _ _ sm q
  · cases e
end

/-! ### slices -/
abbrev FO := En → Sto → Option (R (Option Int))
def oNo : FO := fun _ st => some (.ok none st)
def oSome (f : FE) : FO := fun env st => bnd (f env st) fun d s1 => match d with
  | .int i => some (.ok (some i) s1)
  | _ => none
def relO : Hp → Mp → Option Int → Option Int → Prop := fun _ _ a b => a = b
def rdO (K : PySem.W.Frag) (E : XK) (f : FO) : TO := rdG relO K E f
abbrev VO (X : Cx) (E : XK) (e : Option Expr) (f : FO) : Prop := PO X e (rdO X.K E f)
theorem PO.imp {X : Cx} {e : Option Expr} {t t' : TO} (h : PO X e t) (i : ∀ σ H Q, t' σ H Q → t σ H Q) : PO X e t' := ⟨fun pins s σ H Q I z => h.run pins s σ H Q I (i σ H Q z)⟩
def cutD (xs : List D) (lo hi : Option Int) : List D := (xs.drop (HT.sIx xs.length 0 lo)).take (HT.sIx xs.length xs.length hi - HT.sIx xs.length 0 lo)
theorem cut_DRs {K : PySem.W.Frag} {H : Hp} {ρ : Mp} {xs : List V} {ds : List D} {lo hi : Option Int} (h : DRs K H ρ xs ds) : DRs K H ρ (cutV xs lo hi) (cutD ds lo hi) := by
  unfold cutV cutD
  rw [h.1]
  exact (h.drop _).take _
def fSlL (a : FE) (lo hi : FO) : FE := fun env st => bnd (a env st) fun d s1 => bnd (lo env s1) fun l s2 => bnd (hi env s2) fun u s3 => (seqS s3 d).map fun xs => .ok (.lst (cutD xs l u)) s3
def fRev (a : FE) : FE := fun env st => bnd (a env st) fun d s1 => (seqS s1 d).map fun xs => .ok (.lst xs.reverse) s1
section
variable {X : Cx} {E : XK} {pos p2 : Pos} {fa : FE} {lo hi : Option Expr} {fl fh : FO} {e : Expr}
theorem o_none : VO X E none oNo := PO.imp po_none fun σ H Q ⟨ρ, env, st, r, w, hf, hQ⟩ => by
  cases hf
  exact hQ.val w.st rfl
theorem o_some (h : VE X E e fa) : VO X E (some e) (oSome fa) := by
  refine PO.imp (po_some h) fun σ H Q ⟨ρ, env, st, r, w, hf, hQ⟩ => ?_
  refine rd_bind w hf hQ fun x dx s1 H1 ρ1 t1 w1 r1 hf hQ => ?_
  split at hf
  · cases hf; cases r1
    exact ⟨_, rfl, hQ.val w1.st rfl⟩
  · cases hf
theorem v_slL (h : VE X E e fa) (hl : VO X E lo fl) (hh : VO X E hi fh) : VE X E (.Subscript e (.Slice lo hi none p2) pos) (fSlL fa fl fh) := by
  refine PE.imp (pe_slice sl_list h hl hh) fun σ H Q ⟨ρ, env, st, r, w, hf, hQ⟩ => ?_
  refine rd_bind w hf hQ fun x dx s1 H1 ρ1 t1 w1 r1 hf hQ => ?_
  refine rd_bind w1 hf hQ fun l dl s2 H2 ρ2 t2 w2 r2 hf hQ => ?_
  refine rd_bind w2 hf hQ fun u du s3 H3 ρ3 t3 w3 r3 hf hQ => ?_
  subst r2; subst r3
  obtain ⟨ds, e1, rfl⟩ := map_some hf
  obtain ⟨a, xs, rfl, q1, q2⟩ := seqS_inv w3.st ((r1.step t2).step t3) e1
  refine ⟨a, xs, rfl, q1, fun p hp => ?_⟩
  obtain ⟨sm, q⟩ := new_lst w3.st hp (cut_DRs q2)
  exact hQ _ _ ρ3 (.same sm) (w3.st.same sm) q
theorem DRs.reverse {K : PySem.W.Frag} {H : Hp} {ρ : Mp} {xs : List V} {ds : List D} (h : DRs K H ρ xs ds) : DRs K H ρ xs.reverse ds.reverse := by
  have l := h.1
  refine ⟨by simp [l], fun i x d e1 e2 => ?_⟩
  have hi : i < xs.length := by simpa using (List.getElem?_eq_some_iff.mp e1).1
  rw [List.getElem?_reverse hi] at e1
  rw [List.getElem?_reverse (by omega), ← l] at e2
  exact h.2 _ x d e1 e2
theorem v_rev {k : Nat} {p1 p3 : Pos} (h : VE X E e fa) : VE X E (.Subscript e (.Slice none none (some (.UnaryOp .USub (.Constant (.int 1) k p1) p2)) p3) pos) (fRev fa) := by
  refine PE.imp (pe_revL h) fun σ H Q ⟨ρ, env, st, r, w, hf, hQ⟩ => ?_
  refine rd_bind w hf hQ fun x dx s1 H1 ρ1 t1 w1 r1 hf hQ => ?_
  obtain ⟨ds, e1, rfl⟩ := map_some hf
  obtain ⟨a, xs, rfl, q1, q2⟩ := seqS_inv w1.st r1 e1
  refine ⟨a, xs, rfl, q1, fun p hp => ?_⟩
  obtain ⟨sm, q⟩ := new_lst w1.st hp q2.reverse
  exact hQ _ _ ρ1 (.same sm) (w1.st.same sm) q
end

/-- xs + ys as a list that will be changed -/
def fCatC (a b : FE) : FE := fun env st => bnd (a env st) fun x s1 => bnd (b env s1) fun y s2 => match seqP s2 x, seqP s2 y with
  | some xs, some ys => if xs.length + ys.length ≤ 1000000 then some (.ok (.ref s2.length) (s2 ++ [.lst (xs ++ ys)])) else none
  | _, _ => none
theorem v_catC {X : Cx} {E : XK} {a b : Expr} {pos : Pos} {fa fb : FE} (ha : VE X E a fa) (hb : VE X E b fb) : VE X E (.BinOp a .Add b pos) (fCatC fa fb) := by
  refine PE.imp (pe_op op_cat ha hb) fun σ H Q ⟨ρ, env, st, r, w, hf, hQ⟩ => ?_
  refine rd_bind w hf hQ fun x dx s1 H1 ρ1 t1 w1 r1 hf hQ => ?_
  refine rd_bind w1 hf hQ fun y dy s2 H2 ρ2 t2 w2 r2 hf hQ => ?_
  split at hf
  · rename_i xs ys e1 e2
    split at hf
    · rename_i hl
      cases hf
      obtain ⟨p, us, rfl, q1, q2⟩ := seqP_inv w2.st (r1.step t2) e1
      obtain ⟨q, ws, rfl, q3, q4⟩ := seqP_inv w2.st r2 e2
      refine ⟨p, q, us, ws, rfl, rfl, q1, q3, le_line (by rw [q2.1, q4.1]; exact hl), fun z hz => ?_⟩
      have s : Step ρ2 H2 (ρ2.add z) (upd H2 z (.lst (us ++ ws))) := .cell hz
      exact hQ _ _ _ s (w2.st.newCell hz ⟨_, upd_same, (q2.append q4).step s⟩) (.ref (cell_ix w2.st))
    · cases hf
  · cases hf

/-! ### stores into lists; methods -/
/-- o[i] = value, o a cell with a list -/
def gSubL (o i : FE) : FG := fun d env st => bnd (o env st) fun x s1 => bnd (i env s1) fun y s2 => match x, y with
  | .ref n, .int k => match s2[n]? with
    | some (.lst xs) => match ixN xs.length k with
      | some j => some (.ok env (s2.set n (.lst (xs.set j d))))
      | none => none
    | _ => none
  | _, _ => none
def cellT : Cell → String
  | .lst _ => "list"
  | .dct _ => "dict"
/-- a method that changes its cell: what it tells, the new cell -/
def fMtC (T : String) (g : Cell → List D → Option (D × Cell)) (o : FE) (a : FA) : FE := fun env st => bnd (o env st) fun x s1 => match x with
  | .ref n => match s1[n]? with
    | some c0 => if cellT c0 = T then bnd (a env s1) fun ds s2 => match s2[n]? with
        | some c => (g c ds).map fun q => .ok q.1 (s2.set n q.2)
        | none => none
      else none
    | none => none
  | _ => none
def mAppend : Cell → List D → Option (D × Cell)
  | .lst xs, [d] => if xs.length ≤ 1000000 then some (.non, .lst (xs ++ [d])) else none
  | _, _ => none
/-- a method of a list that changes nothing -/
def fMtL (g : Sto → List D → List D → Option D) (o : FE) (a : FA) : FE := fun env st => bnd (o env st) fun x s1 => match seqS s1 x with
  | some _ => bnd (a env s1) fun ds s2 => match seqS s2 x with
    | some xs => (g s2 xs ds).map (R.ok · s2)
    | none => none
  | none => none
def mCount (_ : Sto) (xs : List D) : List D → Option D
  | [d] => match fv d, fvs xs with
    | some u, some us => some (.int (us.countP fun y => eqV y u : Nat))
    | _, _ => none
  | _ => none
section
variable {X : Cx} {E : XK} {pos : Pos} {fo fi : FE} {fs : FA} {o i e : Expr} {es : List Expr} {apos cpos : Pos}
theorem g_subL (ho : VE X E o fo) (hi : VE X E i fi) (h : PG X (.Subscript o i pos) (L2.gSub (rdE X.K E fo) (rdE X.K E fi) rSetL)) : VG X E (.Subscript o i pos) (gSubL fo fi) := by
  refine PG.imp h fun v σ H Q ⟨ρ, env, st, d, r, w, hd, hf, hQ⟩ => ?_
  refine rd_bind w hf hQ fun x dx s1 H1 ρ1 t1 w1 r1 hf hQ => ?_
  refine rd_bind w1 hf hQ fun y dy s2 H2 ρ2 t2 w2 r2 hf hQ => ?_
  split at hf
  · rename_i n k _
    split at hf
    · rename_i xs hx
      split at hf
      · rename_i j hj
        cases hf
        obtain ⟨a, rfl, q1⟩ := (r1.step t2).ref_inv
        obtain rfl : y = .int k := by cases r2; rfl
        obtain ⟨us, q2, q3⟩ := w2.st.lstAt q1 hx
        refine ⟨a, us, k, j, rfl, rfl, q2, by rw [q3.1]; exact hj, ?_⟩
        have t3 : Step ρ2 H2 ρ2 (upd H2 a (.lst (us.set j v))) := .write q1
        refine hQ σ _ ρ2 t3 (w2.st.write q1 ⟨_, upd_same, ?_⟩) (w2.en.step t3)
        exact (q3.set ((hd.step t1).step t2) j).step t3
      · cases hf
    · cases hf
  · cases hf
/-- a method's rule and its function on cells -/
def MtP (K : PySem.W.Frag) (T : String) (r : V → List V → Hp → VK → Prop) (g : Cell → List D → Option (D × Cell)) : Prop :=
  ∀ (ρ : Mp) (H : Hp) (st : Sto) (n : Nat) (a : Addr) (c c' : Cell) (xs : List V) (ds : List D) (d : D) (Q : VK), StR K H ρ st → ρ.c[n]? = some a → st[n]? = some c → DRs K H ρ xs ds → g c ds = some (d, c') →
    (∀ v H', Step ρ H ρ H' → StR K H' ρ (st.set n c') → DR K H' ρ v d → Q v H') → r (.ref a) xs H Q
theorem cell_tyV {K : PySem.W.Frag} {H : Hp} {ρ : Mp} {a : Addr} {c : Cell} {T : String} (h : CR K H ρ a c) (e : cellT c = T) : tyV K T (.ref a) H := by
  cases c with
  | lst ds => obtain ⟨xs, q, _⟩ := h; exact .inl ⟨e.symm, xs, .inl (.inl q)⟩
  | dct ds => obtain ⟨xs, q, _⟩ := h; exact .inr (.inr (.inl ⟨e.symm, .inl ⟨xs, q⟩⟩))
theorem append_p {K : PySem.W.Frag} : MtP K "list" rAppend mAppend := by
  intro ρ H st n a c c' xs ds d Q hs ha hc hx e h
  unfold mAppend at e
  split at e
  · rename_i ys d1
    split at e
    · rename_i hl
      cases e
      obtain ⟨x, rfl, q⟩ := one_inv hx
      obtain ⟨us, q2, q3⟩ := hs.lstAt ha hc
      refine ⟨a, us, x, rfl, rfl, q2, Nat.lt_of_le_of_lt (m := 1000000) (by rw [q3.1]; exact hl) (by decide), ?_⟩
      have t3 : Step ρ H ρ (upd H a (.lst (us ++ [x]))) := .write ha
      exact h .non _ t3 (hs.write ha ⟨_, upd_same, (q3.append (DRs.cons q .nil)).step t3⟩) .non
    · cases e
  · cases e
/-- o.m(..) on a cell -/
theorem v_mtC {T : String} {r : V → List V → Hp → VK → Prop} {g : Cell → List D → Option (D × Cell)} (hp : MtP X.K T r g) (h : PE X e (tBM X.K T r (rdE X.K E fo) (rdA X.K E fs))) : VE X E e (fMtC T g fo fs) := by
  refine PE.imp h fun σ H Q ⟨ρ, env, st, r, w, hf, hQ⟩ => ?_
  refine rd_bind w hf hQ fun x dx s1 H1 ρ1 t1 w1 r1 hf hQ => ?_
  split at hf
  · rename_i n
    split at hf
    · rename_i c0 hc0
      split at hf
      · rename_i hT
        obtain ⟨a, rfl, q1⟩ := r1.ref_inv
        refine ⟨cell_tyV (w1.st.cell n a c0 q1 hc0) hT, ?_⟩
        refine rd_bind w1 hf hQ fun xs ds s2 H2 ρ2 t2 w2 r2 hf hQ => ?_
        split at hf
        · rename_i c hc
          obtain ⟨q, e1, rfl⟩ := map_some hf
          exact hp ρ2 H2 s2 n a c q.2 xs ds q.1 Q w2.st (t2.ix q1) hc r2 e1 fun v H' s ss q => hQ v H' ρ2 s ss q
        · cases hf
      · cases hf
    · cases hf
  · cases hf
theorem v_mtC0 {T : String} {r : V → List V → Hp → VK → Prop} {g : Cell → List D → Option (D × Cell)} (hp : MtP X.K T r g) (h : PE X e (tBM0 X.K T r (rdE X.K E fo))) : VE X E e (fMtC T g fo fNil) := by
  refine PE.imp h fun σ H Q ⟨ρ, env, st, r, w, hf, hQ⟩ => ?_
  refine rd_bind w hf hQ fun x dx s1 H1 ρ1 t1 w1 r1 hf hQ => ?_
  split at hf
  · rename_i n
    split at hf
    · rename_i c0 hc0
      split at hf
      · rename_i hT
        obtain ⟨a, rfl, q1⟩ := r1.ref_inv
        refine ⟨cell_tyV (w1.st.cell n a c0 q1 hc0) hT, ?_⟩
        simp only [fNil, bnd_ok, hc0] at hf
        obtain ⟨q, e1, rfl⟩ := map_some hf
        exact hp ρ1 H1 s1 n a c0 q.2 [] [] q.1 Q w1.st q1 hc0 .nil e1 fun v H' s ss q => hQ v H' ρ1 s ss q
      · cases hf
    · cases hf
  · cases hf
/-- a list's method that changes nothing -/
def MlP (K : PySem.W.Frag) (r : V → List V → Hp → VK → Prop) (g : Sto → List D → List D → Option D) : Prop :=
  ∀ (ρ : Mp) (H : Hp) (st : Sto) (a : Addr) (us xs : List V) (ys ds : List D) (d : D) (Q : VK), StR K H ρ st → SqL K H a us → DRs K H ρ us ys → DRs K H ρ xs ds → g st ys ds = some d →
    (∀ v H', Same H H' → DR K H' ρ v d → Q v H') → r (.ref a) xs H Q
theorem v_mtL {r : V → List V → Hp → VK → Prop} {g : Sto → List D → List D → Option D} (hp : MlP X.K r g) (h : PE X e (tBM X.K "list" r (rdE X.K E fo) (rdA X.K E fs))) : VE X E e (fMtL g fo fs) := by
  refine PE.imp h fun σ H Q ⟨ρ, env, st, r, w, hf, hQ⟩ => ?_
  refine rd_bind w hf hQ fun x dx s1 H1 ρ1 t1 w1 r1 hf hQ => ?_
  split at hf
  · rename_i us0 hu0
    obtain ⟨a, zs, rfl, q1, q2⟩ := seqS_inv w1.st r1 hu0
    refine ⟨.inl ⟨rfl, zs, q1⟩, ?_⟩
    refine rd_bind w1 hf hQ fun xs ds s2 H2 ρ2 t2 w2 r2 hf hQ => ?_
    split at hf
    · rename_i ys hy
      obtain ⟨b, zs2, e, q3, q4⟩ := seqS_inv w2.st (r1.step t2) hy
      cases e
      obtain ⟨d, e1, rfl⟩ := map_some hf
      exact hp ρ2 H2 s2 a zs2 xs ys ds d Q w2.st q3 q4 r2 e1 fun v H' s q => hQ v H' ρ2 (.same s) (w2.st.same s) q
    · cases hf
  · cases hf
def rCntV (K : PySem.W.Frag) : V → List V → Hp → VK → Prop := fun x xs H Q => ∃ (p : Addr) (ys : List V) (y : V), x = .ref p ∧ xs = [y] ∧ SqL K H p ys ∧ flatV y = true ∧ ys.all flatV = true ∧ Q (.int (ys.countP fun z => eqV z y : Nat)) H
theorem count_eqU {x : V} : ∀ {xs : List V} {us : List Value}, Vals xs us → xs.all flatV = true → us.countP (eqU x) = xs.countP fun y => eqV y x
  | _, _, .nil, _ => rfl
  | y :: xs, u :: us, .cons r t, f => by
    rw [List.all_cons, Bool.and_eq_true] at f
    rw [List.countP_cons, List.countP_cons, eqU_of r f.1, count_eqU t f.2]
theorem mt_countV : MtR X "list.count" (rCntV X.K) := by
  intro pins s σ H x xs v us Q I rx rxs h
  obtain ⟨p, ys, y, rfl, rfl, hs, fy, fs, q⟩ := h
  cases rx
  obtain ⟨u, rfl, ru⟩ := rxs.one
  obtain ⟨its, rv, ⟨⟨cls, dd, data, sl⟩, n, ho, hc, hdn, hd⟩, hlen⟩ := I.list hs
  simp only at hc hd
  subst hc hd
  refine call_meets PySem.F.slot_list_count ⟨_, ho, rfl⟩ PySem.F.entry_list_count (PySem.F.args_list_count_2 _ _)
    (SeqAt.list_countAt p its.toArray n dd sl u (eqU y)) ⟨ho, fun w hw => mem_eqAt ru fy rv fs w (by simpa using hw), ?_⟩
  have ec : its.toArray.toList.countP (eqU y) = ys.countP fun z => eqV z y := count_eqU rv fs
  refine ⟨.int (ys.countP fun z => eqV z y : Nat), H, I.tok _, ⟨s.toks, ?_⟩, q⟩
  show Value.int ((its.toArray.toList.countP (eqU y) : Nat) : Int) s.toks = _
  rw [ec]
theorem count_p {K : PySem.W.Frag} : MlP K (rCntV K) mCount := by
  intro ρ H st a us xs ys ds d Q hs hl hu hx e h
  unfold mCount at e
  split at e
  · split at e
    · rename_i u ws e1 e2
      cases e
      obtain ⟨x, rfl, q⟩ := one_inv hx
      obtain ⟨rfl, f⟩ := fv_eq e1 q
      obtain ⟨rfl, f2⟩ := fvs_eq e2 hu
      exact ⟨a, _, _, rfl, rfl, hl, f, f2, h _ H (Same.refl H) (.int _)⟩
    · cases e
  · cases e
end
end Fx
/-! Fx: rules as a printer writes them; a def with all that a caller wants. -/
namespace Fx
open PySem PySem.Spec PyProof.Rows L2
section
variable {X : Cx} {E : XK} {e a b c : Expr} {es : List Expr} {pos p : Pos} {fa fb fc fe : FE} {fs : FA} {ft fu : FT} {g : FG} {gs : FGs} {s s1 : Stmt} {ss : List Stmt} {f f1 f2 : FS}
theorem gs_consR (h1 : VG X E e g) (h2 : VGs X E es gs) (hs : (assignEach (e :: es) X.env).map (·.2) = assign e X.env :: (assignEach es X.env).map (·.2) := by rfl) : VGs X E (e :: es) (gsCons g gs) := gs_cons h1 h2 (pgs_cons h1 h2 hs)
theorem g_tupR {k n : Nat} (hc : X.calm = true) (h : VGs X E es gs) (hn : (assignEach es X.env).length = n := by rfl) (hst : (assignEach es X.env).findIdx? (·.1) = none := by rfl) : VG X E (.Tuple es k pos) (gTp n gs) := g_tup (pg_tup hc h hn hst)
theorem g_lstR {k n : Nat} (hc : X.calm = true) (h : VGs X E es gs) (hn : (assignEach es X.env).length = n := by rfl) (hst : (assignEach es X.env).findIdx? (·.1) = none := by rfl) : VG X E (.Tuple es k pos) (gLs n gs) := g_lst (pg_unl hc h hn hst)
theorem s_parR {i j : Nat} {x y : Str} {px py pt : Pos} {kt k2 pt2} (hc : X.calm = true) (hN : X.N.Nodup) (hi : X.N[i]? = some x) (hj : X.N[j]? = some y) (hij : i ≠ j)
    (hx : X.env.scope.names.lookup x = some .local) (hy : X.env.scope.names.lookup y = some .local) (ha : VA X E [a, b] fs)
    (hw : swappedStores [.Tuple [.Name x px, .Name y py] kt pt] (.Tuple [a, b] k2 pt2) X.env = pure (some [x, y]))
    (hs : swapsWithSole [.Tuple [.Name x px, .Name y py] kt pt] (.Tuple [a, b] k2 pt2) pos.line X.env = pure false := by rfl) :
    VS X E (.Assign [.Tuple [.Name x px, .Name y py] kt pt] (.Tuple [a, b] k2 pt2) pos) (fPar i j fs) := s_par (ps_par hc hN hi hj hij hx hy ha hw hs)
/-- a def: called by its name with all its arguments it tells what F tells -/
structure Df (P : Program) (w : World) (K : PySem.W.Frag) (mg : Str → Option Value) (base : Heap) (k : Nat) (x : Str) (n : Nat) (F : DF) : Prop where
  ex : ∃ (f : Addr) (fd : FuncData) (ps : List Str), FnOk P w K mg base CX0 k f fd ps (spF K n F) ∧ mg x = some (.ref f) ∧ PySem.W.keepIn K (.ref f) = true ∧ Binds K fd ps []
theorem v_callD {k n : Nat} {F : DF} {x : Str} (G : Df X.prog X.w X.K X.mg X.base k x n F) (hr : Room k X.A) (hg : Gl X x) (ha : VA X E0 (e :: es) fs) (hdb : (x == ("__debug__" : Str)) = false := by decide)
    (he : starEach (e :: es) X.env = (false, eval e X.env) :: starEach es X.env := by rfl) (hpl : (backTo pos (starEach es X.env)).any (·.1) = false := by rfl) : VE X E0 (.Call (.Name x p) (e :: es) [] pos) (fCall n F fs) := by
  obtain ⟨f, fd, ps, h1, h2, h3, h4⟩ := G.ex
  exact v_call h1 hr hg h2 h3 h4 pass0 ha fun t h => pe_call h1 hr hg h2 h3 h4 .nil pass0 h hdb he hpl
theorem v_callD0 {k : Nat} {F : DF} {x : Str} (G : Df X.prog X.w X.K X.mg X.base k x 0 F) (hr : Room k X.A) (hg : Gl X x) (hdb : (x == ("__debug__" : Str)) = false := by decide) : VE X E0 (.Call (.Name x p) [] [] pos) (fCall 0 F fNil) := by
  obtain ⟨f, fd, ps, h1, h2, h3, h4⟩ := G.ex
  exact v_call0 (k := k) (f := f) (fd := fd) (ps := ps) (CX := CX0) (pe_call0 h1 hr hg h2 h3 h4 .nil pass0 hdb)
end
section
variable {P : Program} {w : World} {K : PySem.W.Frag} {mg : Str → Option Value} {base : Heap}
theorem df_ok {x qual : Str} {st : Stmt} {f : Addr} {fd : FuncData} {N ps : List Str} {k n m : Nat} {fb : FS} (F : Fun K x qual st f fd) (hm : mg x = some (.ref f)) (bi : Binds K fd ps []) (S : FnScope N ps (defScope st)) (hn : ps.length = n) (hN : N.length = m)
    (hb : ∀ (cdv : Value) (A : Around) (outer : List Env) (s : Shared) (H : Hp) (E : XK), Room k (A.deeper (envOfC qual (defScope st) s.heap.objs.size f cdv)) → VSs (cxOf CX0 P w K mg base N qual (defScope st) f cdv A outer s H E).nox E0 (defBody st) fb) :
    Df P w K mg base (k + 1) x n (fDef n m fb) := by
  subst hn; subst hN
  exact ⟨f, fd, ps, fn_ok F S hb, hm, F.kp, bi⟩
theorem df_imp {k n : Nat} {x : Str} {F G : DF} (h : Df P w K mg base k x n F)
    (e : ∀ ds st r, ds.length = n → D.oks st.length ds = true → StOk st → G ds st = some r → ∃ d s more, r = .ok d s ∧ F ds st = some (.ok d (s ++ more)) ∧ (more = [] ∨ (st.length ≤ s.length ∧ D.ok s.length d = true ∧ StOk s))) : Df P w K mg base k x n G := by
  obtain ⟨f, fd, ps, h1, h2, h3, h4⟩ := h.ex
  exact ⟨f, fd, ps, spF_imp h1 e, h2, h3, h4⟩
/-- the same without a store in sight -/
theorem df_eq {k n : Nat} {x : Str} {F G : DF} (h : Df P w K mg base k x n F) (e : ∀ ds st r, ds.length = n → G ds st = some r → F ds st = some r ∧ ∃ d s, r = .ok d s) : Df P w K mg base k x n G :=
  df_imp h fun ds st r hn _ _ hg => by
    obtain ⟨h1, d, s, rfl⟩ := e ds st r hn hg
    exact ⟨d, s, [], rfl, by rw [List.append_nil]; exact h1, .inl rfl⟩
end
/-- turns enough for Euclid -/
def fuelGcd (env : En) (i : Nat) : Nat := match env[i]? with
  | some (some (.int j)) => j.natAbs + 1
  | _ => 0
end Fx
/-! Fx: how the combinators are worked out (for simp), loops by invariants. -/
namespace Fx
open PySem PySem.Spec PyProof.Rows L2
section
variable {env : En} {st : Sto}
@[simp] theorem ap_var {i : Nat} : fVar i env st = (match env[i]? with | some (some d) => some (.ok d st) | _ => none) := rfl
@[simp] theorem ap_c {d : D} : fC d env st = some (.ok d st) := rfl
@[simp] theorem ap_op {g : Sto → D → D → Option D} {a b : FE} : fOp g a b env st = bnd (a env st) fun x s1 => bnd (b env s1) fun y s2 => (g s2 x y).map (R.ok · s2) := rfl
@[simp] theorem ap_un {g : Sto → D → Option D} {a : FE} : fUn g a env st = bnd (a env st) fun x s1 => (g s1 x).map (R.ok · s1) := rfl
@[simp] theorem ap_if {t : FT} {a b : FE} : fIf t a b env st = bnd (t env st) fun c s1 => if c = true then a env s1 else b env s1 := rfl
@[simp] theorem ap_nil : fNil env st = some (.ok [] st) := rfl
@[simp] theorem ap_cons {a : FE} {r : FA} : fCons a r env st = bnd (a env st) fun x s1 => bnd (r env s1) fun xs s2 => some (.ok (x :: xs) s2) := rfl
@[simp] theorem ap_tup {a : FA} : fTup a env st = bnd (a env st) fun xs s1 => if xs.length ≤ 1000 then some (.ok (.tup xs) s1) else none := rfl
@[simp] theorem ap_lst {a : FA} : fLst a env st = bnd (a env st) fun xs s1 => if xs.length ≤ 1000 then some (.ok (.lst xs) s1) else none := rfl
@[simp] theorem ap_lstC {a : FA} : fLstC a env st = bnd (a env st) fun xs s1 => if xs.length ≤ 1000 then some (.ok (.ref s1.length) (s1 ++ [.lst xs])) else none := rfl
@[simp] theorem ap_tV {a : FE} : tV a env st = bnd (a env st) fun x s1 => match x with | .bl b => some (.ok b s1) | _ => none := rfl
@[simp] theorem ap_and2 {a b : FT} : tAnd2 a b env st = bnd (a env st) fun c s1 => if c = true then b env s1 else some (.ok false s1) := rfl
@[simp] theorem ap_or2 {a b : FT} : tOr2 a b env st = bnd (a env st) fun c s1 => if c = true then some (.ok true s1) else b env s1 := rfl
@[simp] theorem ap_not1 {a : FT} : tNot1 a env st = bnd (a env st) fun c s1 => some (.ok (!c) s1) := rfl
@[simp] theorem ap_and {a b : FE} : fAnd a b env st = bnd (a env st) fun x s1 => match x with | .bl c => if c = true then b env s1 else some (.ok (.bl false) s1) | _ => none := rfl
@[simp] theorem ap_or {a b : FE} : fOr a b env st = bnd (a env st) fun x s1 => match x with | .bl c => if c = true then some (.ok (.bl true) s1) else b env s1 | _ => none := rfl
@[simp] theorem ap_not {a : FE} : fNot a env st = bnd (a env st) fun x s1 => match x with | .bl c => some (.ok (.bl (!c)) s1) | _ => none := rfl
@[simp] theorem ap_pass : fPass env st = some (.nx env st) := rfl
@[simp] theorem ap_seq {a b : FS} : fSeq a b env st = (match a env st with | some (.nx e1 s1) => b e1 s1 | r => r) := rfl
@[simp] theorem ap_ret {e : FE} : fRet e env st = sb (e env st) fun d s1 => some (.rt d s1) := rfl
@[simp] theorem ap_retN : fRetN env st = some (.rt .non st) := rfl
@[simp] theorem ap_expr {e : FE} : fExpr e env st = sb (e env st) fun _ s1 => some (.nx env s1) := rfl
@[simp] theorem ap_break : fBreak env st = some (.bk env st) := rfl
@[simp] theorem ap_cont : fCont env st = some (.ct env st) := rfl
@[simp] theorem ap_ifS {t : FT} {a b : FS} : fIfS t a b env st = sb (t env st) fun c s1 => if c = true then a env s1 else b env s1 := rfl
@[simp] theorem ap_set {i : Nat} {e : FE} : fSet i e env st = sb (e env st) fun d s1 => some (.nx (env.set i (some d)) s1) := rfl
@[simp] theorem ap_par {i j : Nat} {a : FA} : fPar i j a env st = sb (a env st) fun ds s1 => match ds with | [x, y] => some (.nx ((env.set i (some x)).set j (some y)) s1) | _ => none := rfl
@[simp] theorem ap_asg {e : FE} {g : FG} : fAsg e g env st = sb (e env st) fun d s1 => sb (g d env s1) fun env2 s2 => some (.nx env2 s2) := rfl
@[simp] theorem ap_nm {i : Nat} {d : D} : gNm i d env st = some (.ok (env.set i (some d)) st) := rfl
@[simp] theorem ap_gsNil : gsNil [] env st = some (.ok env st) := rfl
@[simp] theorem ap_gsCons {g : FG} {h : FGs} {d : D} {r : List D} : gsCons g h (d :: r) env st = bnd (g d env st) fun env1 s1 => h r env1 s1 := rfl
@[simp] theorem ap_gTp {n : Nat} {g : FGs} {ds : List D} : gTp n g (.tup ds) env st = if ds.length = n then g ds env st else none := rfl
@[simp] theorem ap_gTpf {n : Nat} {g : FGs} {ds : List D} : gTp n g (.frt ds) env st = if ds.length = n then g ds env st else none := rfl
@[simp] theorem ap_gLs {n : Nat} {g : FGs} {ds : List D} : gLs n g (.lst ds) env st = if ds.length = n then g ds env st else none := rfl
@[simp] theorem ap_for {fi : FI} {g : FG} {body : FS} : fFor fi g body env st = sb (fi env st) fun items s1 => forL g body items env s1 := rfl
@[simp] theorem ap_while {m : En → Sto → Nat} {t : FT} {body : FS} : fWhile m t body env st = whL t body (m env st) env st := rfl
@[simp] theorem ap_iLst {a : FE} : iLst a env st = bnd (a env st) fun d s1 => (seqL d).map (R.ok · s1) := rfl
@[simp] theorem ap_iTp {a : FE} : iTp a env st = bnd (a env st) fun d s1 => (seqT d).map (R.ok · s1) := rfl
@[simp] theorem ap_iRg1 {fs : FA} : iRg1 fs env st = bnd (fs env st) fun ds s1 => match ds with | [.int j] => if -(2 ^ 62) ≤ j ∧ j < 2 ^ 62 then some (.ok (intsFrom 0 j.toNat) s1) else none | _ => none := rfl
@[simp] theorem ap_call {n : Nat} {F : DF} {a : FA} : fCall n F a env st = bnd (a env st) fun ds s1 => if ds.length = n then F ds s1 else none := rfl
@[simp] theorem ap_ca {g : Sto → List D → Option D} {a : FA} : fCa g a env st = bnd (a env st) fun ds s1 => (g s1 ds).map (R.ok · s1) := rfl
@[simp] theorem ap_slL {a : FE} {lo hi : FO} : fSlL a lo hi env st = bnd (a env st) fun d s1 => bnd (lo env s1) fun l s2 => bnd (hi env s2) fun u s3 => (seqS s3 d).map fun xs => .ok (.lst (cutD xs l u)) s3 := rfl
@[simp] theorem ap_rev {a : FE} : fRev a env st = bnd (a env st) fun d s1 => (seqS s1 d).map fun xs => .ok (.lst xs.reverse) s1 := rfl
@[simp] theorem ap_oNo : oNo env st = some (.ok none st) := rfl
@[simp] theorem ap_oSome {f : FE} : oSome f env st = bnd (f env st) fun d s1 => match d with | .int i => some (.ok (some i) s1) | _ => none := rfl
@[simp] theorem ap_subL {o i : FE} {d : D} : gSubL o i d env st = bnd (o env st) fun x s1 => bnd (i env s1) fun y s2 => match x, y with
  | .ref n, .int k => match s2[n]? with
    | some (.lst xs) => match ixN xs.length k with
      | some j => some (.ok env (s2.set n (.lst (xs.set j d))))
      | none => none
    | _ => none
  | _, _ => none := rfl
@[simp] theorem ap_mtC {T : String} {g : Cell → List D → Option (D × Cell)} {o : FE} {a : FA} : fMtC T g o a env st = bnd (o env st) fun x s1 => match x with
  | .ref n => match s1[n]? with
    | some c0 => if cellT c0 = T then bnd (a env s1) fun ds s2 => match s2[n]? with
        | some c => (g c ds).map fun q => .ok q.1 (s2.set n q.2)
        | none => none
      else none
    | none => none
  | _ => none := rfl
@[simp] theorem ap_mtL {g : Sto → List D → List D → Option D} {o : FE} {a : FA} : fMtL g o a env st = bnd (o env st) fun x s1 => match seqS s1 x with
  | some _ => bnd (a env s1) fun ds s2 => match seqS s2 x with
    | some xs => (g s2 xs ds).map (R.ok · s2)
    | none => none
  | none => none := rfl
@[simp] theorem ap_lc {fi : FI} {g : FG} {ft : FT} {fe : FE} {vs : List Nat} : fLc fi g ft fe vs env st = bnd (lcF fi g ft fe vs env st) fun ds s1 => some (.ok (.lst ds) s1) := rfl
@[simp] theorem ap_lcC {fi : FI} {g : FG} {ft : FT} {fe : FE} {vs : List Nat} : fLcC fi g ft fe vs env st = bnd (lcF fi g ft fe vs env st) fun ds s1 => some (.ok (.ref s1.length) (s1 ++ [.lst ds])) := rfl
@[simp] theorem ap_lcF {fi : FI} {g : FG} {ft : FT} {fe : FE} {vs : List Nat} : lcF fi g ft fe vs env st = bnd (fi env st) fun items s1 => if items.length ≤ 100000 then lcL g ft fe (wipeD env vs) items s1 else none := rfl
@[simp] theorem ap_tYes : tYes1 env st = some (.ok true st) := rfl
@[simp] theorem ap_lcL0 {g : FG} {ft : FT} {fe : FE} : lcL g ft fe env [] st = some (.ok [] st) := rfl
@[simp] theorem ap_lcL1 {g : FG} {ft : FT} {fe : FE} {d : D} {ds : List D} : lcL g ft fe env (d :: ds) st = bnd (noX (g d env st)) fun env1 s1 => bnd (noX (ft env1 s1)) fun c s2 =>
    if c = true then bnd (noX (fe env1 s2)) fun y s3 => bnd (lcL g ft fe env ds s3) fun ys s4 => some (.ok (y :: ys) s4)
    else lcL g ft fe env ds s2 := rfl
@[simp] theorem noX_ok' {α : Type} {a : α} {s : Sto} : noX (some (.ok a s)) = some (.ok a s) := rfl
@[simp] theorem noX_none {α : Type} : noX (none : Option (R α)) = none := rfl
@[simp] theorem wipeD_nil : wipeD env [] = env := rfl
@[simp] theorem wipeD_cons {v : Nat} {vs : List Nat} : wipeD env (v :: vs) = (wipeD env vs).set v none := rfl
@[simp] theorem ap_catC {a b : FE} : fCatC a b env st = bnd (a env st) fun x s1 => bnd (b env s1) fun y s2 => match seqP s2 x, seqP s2 y with
  | some xs, some ys => if xs.length + ys.length ≤ 1000000 then some (.ok (.ref s2.length) (s2 ++ [.lst (xs ++ ys)])) else none
  | _, _ => none := rfl
theorem ap_def {n N : Nat} {fb : FS} {ds : List D} : fDef n N fb ds st = match fb (ds.map some ++ List.replicate (N - n) none) st with
  | some (.nx _ s) => some (.ok .non s)
  | some (.rt d s) => some (.ok d s)
  | _ => none := rfl
theorem def_rt {n N : Nat} {fb : FS} {ds : List D} {d : D} {s : Sto} (he : ds.map some ++ List.replicate (N - n) none = env) (h : fb env st = some (.rt d s)) : fDef n N fb ds st = some (.ok d s) := by
  unfold fDef
  rw [he, h]
theorem def_nx {n N : Nat} {fb : FS} {ds : List D} {e2 : En} {s : Sto} (he : ds.map some ++ List.replicate (N - n) none = env) (h : fb env st = some (.nx e2 s)) : fDef n N fb ds st = some (.ok .non s) := by
  unfold fDef
  rw [he, h]
theorem seq_nx {a b : FS} {e1 : En} {s1 : Sto} (h : a env st = some (.nx e1 s1)) : fSeq a b env st = b e1 s1 := by
  unfold fSeq
  rw [h]
theorem seq_rt {a b : FS} {d : D} {s1 : Sto} (h : a env st = some (.rt d s1)) : fSeq a b env st = some (.rt d s1) := by
  unfold fSeq
  rw [h]
end
/-- a loop that comes to its end -/
theorem forL_all {g : FG} {body : FS} (I : En → Sto → Prop) : ∀ {ds : List D} {env : En} {st : Sto},
    (∀ d ∈ ds, ∀ env st, I env st → ∃ env1 s1, g d env st = some (.ok env1 s1) ∧ ∃ env2 s2, (body env1 s1 = some (.nx env2 s2) ∨ body env1 s1 = some (.ct env2 s2)) ∧ I env2 s2) →
    I env st → ∃ env2 s2, forL g body ds env st = some (.nx env2 s2) ∧ I env2 s2
  | [], env, st, _, h0 => ⟨env, st, rfl, h0⟩
  | d :: ds, env, st, h, h0 => by
    obtain ⟨env1, s1, e1, env2, s2, e2, h2⟩ := h d List.mem_cons_self env st h0
    obtain ⟨env3, s3, e3, h3⟩ := forL_all I (ds := ds) (fun d m => h d (List.mem_cons_of_mem _ m)) h2
    refine ⟨env3, s3, ?_, h3⟩
    unfold forL
    rw [e1, sb_ok]
    rcases e2 with e2 | e2 <;> rw [e2] <;> exact e3
end Fx
/-! Fx: exact numbers (tuples of a top and a bottom) as rationals. -/
namespace Fx
open PySem PySem.Spec PyProof.Rows L2

def rD (q : Rat) : D := .tup [.int q.num, .int q.den]
def decR : D → Option Rat
  | .tup [.int a, .int b] => if 0 < b ∧ Int.gcd a b = 1 then some (Rat.divInt a b) else none
  | _ => none
theorem divInt_low {a b : Int} (h : 0 < b) (g : Int.gcd a b = 1) : (Rat.divInt a b).num = a ∧ ((Rat.divInt a b).den : Int) = b := by
  have g' : b.gcd a = 1 := by rw [Int.gcd_comm]; exact g
  rw [Rat.num_divInt, Rat.den_divInt, g', if_neg (by omega), Int.sign_eq_one_of_pos h]
  refine ⟨by simp, ?_⟩
  rw [Nat.div_one]
  omega
theorem decR_some {d : D} {q : Rat} (h : decR d = some q) : d = rD q := by
  unfold decR at h
  split at h
  · rename_i a b
    split at h
    · rename_i hc
      cases h
      obtain ⟨e1, e2⟩ := divInt_low hc.1 hc.2
      unfold rD
      rw [e1, e2]
    · cases h
  · cases h
theorem rat_gcd (q : Rat) : Int.gcd q.num q.den = 1 := by
  have := q.reduced
  unfold Nat.Coprime at this
  rw [Int.gcd_eq_natAbs_gcd_natAbs]
  exact this
theorem rat_den_pos (q : Rat) : (0 : Int) < (q.den : Int) := by have := q.den_pos; omega
@[simp] theorem decR_rD (q : Rat) : decR (rD q) = some q := by
  show (if 0 < (q.den : Int) ∧ Int.gcd q.num q.den = 1 then some (Rat.divInt q.num q.den) else none) = _
  rw [if_pos ⟨rat_den_pos q, rat_gcd q⟩, Rat.num_divInt_den]
/-- small enough to be reckoned with -/
def Rs (q : Rat) : Prop := q.num.natAbs.log2 < 4000 ∧ q.den.log2 < 4000
instance (q : Rat) : Decidable (Rs q) := inferInstanceAs (Decidable (_ ∧ _))
/-- by powers of two -/
def Rz (n : Nat) (q : Rat) : Prop := q.num.natAbs < 2 ^ n ∧ q.den < 2 ^ n
theorem log2_lt {a n : Nat} (h : a < 2 ^ n) (hn : 0 < n) : a.log2 < n := PySem.Flt.log2_lt_of hn h
theorem lt_of_log2 {a n : Nat} (h : a.log2 < n) : a < 2 ^ n := Nat.lt_of_lt_of_le Nat.lt_log2_self (Nat.pow_le_pow_right (by decide) h)
theorem Rz.rs {n : Nat} {q : Rat} (h : Rz n q) (h0 : 0 < n) (hn : n ≤ 4000) : Rs q := ⟨Nat.lt_of_lt_of_le (log2_lt h.1 h0) hn, Nat.lt_of_lt_of_le (log2_lt h.2 h0) hn⟩
set_option exponentiation.threshold 5000 in
theorem Rs.rz {q : Rat} (h : Rs q) : Rz 4000 q := ⟨lt_of_log2 h.1, lt_of_log2 h.2⟩
theorem Rz.mono {n m : Nat} {q : Rat} (h : Rz n q) (l : n ≤ m) : Rz m q := ⟨Nat.lt_of_lt_of_le h.1 (Nat.pow_le_pow_right (by decide) l), Nat.lt_of_lt_of_le h.2 (Nat.pow_le_pow_right (by decide) l)⟩
theorem Sz.of {i : Int} {n : Nat} (h : i.natAbs < 2 ^ n) (h0 : 0 < n) (l : n ≤ 60000000) : Sz i := Nat.lt_of_lt_of_le (log2_lt h h0) l
theorem mul_lt {i j : Int} {a b : Nat} (ha : i.natAbs < 2 ^ a) (hb : j.natAbs < 2 ^ b) : (i * j).natAbs < 2 ^ (a + b) := wide_lt ha hb
theorem add_lt {i j : Int} {a : Nat} (ha : i.natAbs < 2 ^ a) (hb : j.natAbs < 2 ^ a) : (i + j).natAbs < 2 ^ (a + 1) := by
  have : 2 ^ (a + 1) = 2 ^ a + 2 ^ a := by rw [Nat.pow_succ]; omega
  omega
theorem sub_lt {i j : Int} {a : Nat} (ha : i.natAbs < 2 ^ a) (hb : j.natAbs < 2 ^ a) : (i - j).natAbs < 2 ^ (a + 1) := by
  have : 2 ^ (a + 1) = 2 ^ a + 2 ^ a := by rw [Nat.pow_succ]; omega
  omega
theorem Rz.den {n : Nat} {q : Rat} (h : Rz n q) : (q.den : Int).natAbs < 2 ^ n := by simpa using h.2
theorem divInt_small {a b : Int} (hb : b ≠ 0) : (Rat.divInt a b).num.natAbs ≤ a.natAbs ∧ (Rat.divInt a b).den ≤ b.natAbs := by
  rw [Rat.num_divInt, Rat.den_divInt, if_neg hb]
  refine ⟨?_, Nat.div_le_self _ _⟩
  have h : (b.sign * a / ((b.gcd a : Nat) : Int)).natAbs ≤ (b.sign * a).natAbs := by
    rw [Int.natAbs_ediv_of_dvd]
    · exact Nat.div_le_self _ _
    · exact Int.dvd_mul_of_dvd_right (Int.gcd_dvd_right ..)
  refine Nat.le_trans h ?_
  rw [Int.natAbs_mul]
  have : b.sign.natAbs ≤ 1 := by
    rcases Int.lt_trichotomy b 0 with h | h | h
    · rw [Int.sign_eq_neg_one_of_neg h]; decide
    · exact absurd h hb
    · rw [Int.sign_eq_one_of_pos h]; decide
  calc b.sign.natAbs * a.natAbs ≤ 1 * a.natAbs := Nat.mul_le_mul_right _ this
    _ = a.natAbs := Nat.one_mul _
theorem Rz.divInt {n : Nat} {a b : Int} (ha : a.natAbs < 2 ^ n) (hb : b.natAbs < 2 ^ n) (h : b ≠ 0) : Rz n (Rat.divInt a b) :=
  ⟨Nat.lt_of_le_of_lt (divInt_small h).1 ha, Nat.lt_of_le_of_lt (divInt_small h).2 hb⟩
theorem add_eq (p q : Rat) : p + q = Rat.divInt (p.num * q.den + q.num * p.den) (p.den * q.den) := by
  have h1 := rat_den_pos p
  have h2 := rat_den_pos q
  conv => lhs; rw [← Rat.num_divInt_den p, ← Rat.num_divInt_den q]
  rw [Rat.divInt_add_divInt _ _ (by omega) (by omega)]
theorem sub_eq (p q : Rat) : p - q = Rat.divInt (p.num * q.den - q.num * p.den) (p.den * q.den) := by
  have h1 := rat_den_pos p
  have h2 := rat_den_pos q
  conv => lhs; rw [← Rat.num_divInt_den p, ← Rat.num_divInt_den q]
  rw [Rat.divInt_sub_divInt _ _ (by omega) (by omega)]
theorem mul_eq (p q : Rat) : p * q = Rat.divInt (p.num * q.num) (p.den * q.den) := by
  conv => lhs; rw [← Rat.num_divInt_den p, ← Rat.num_divInt_den q]
  rw [Rat.divInt_mul_divInt]
theorem div_eq (p q : Rat) : p / q = Rat.divInt (p.num * q.den) (p.den * q.num) := by
  rw [Rat.div_def]
  conv => lhs; rw [← Rat.num_divInt_den p, ← Rat.num_divInt_den q]
  rw [Rat.inv_divInt, Rat.divInt_mul_divInt]
theorem den_mul_ne (p q : Rat) : (p.den * q.den : Int) ≠ 0 := by
  have h1 := rat_den_pos p
  have h2 := rat_den_pos q
  exact Int.ne_of_gt (Int.mul_pos h1 h2)
theorem Rz.add {n : Nat} {p q : Rat} (hp : Rz n p) (hq : Rz n q) : Rz (n + n + 1) (p + q) := by
  rw [add_eq]
  refine Rz.divInt (add_lt (mul_lt hp.1 hq.den) (mul_lt hq.1 hp.den)) ?_ (den_mul_ne p q)
  exact Nat.lt_of_lt_of_le (mul_lt hp.den hq.den) (Nat.pow_le_pow_right (by decide) (by omega))
theorem Rz.sub {n : Nat} {p q : Rat} (hp : Rz n p) (hq : Rz n q) : Rz (n + n + 1) (p - q) := by
  rw [sub_eq]
  refine Rz.divInt (sub_lt (mul_lt hp.1 hq.den) (mul_lt hq.1 hp.den)) ?_ (den_mul_ne p q)
  exact Nat.lt_of_lt_of_le (mul_lt hp.den hq.den) (Nat.pow_le_pow_right (by decide) (by omega))
theorem Rz.mul {n : Nat} {p q : Rat} (hp : Rz n p) (hq : Rz n q) : Rz (n + n + 1) (p * q) := by
  rw [mul_eq]
  refine Rz.divInt ?_ ?_ (den_mul_ne p q)
  · exact Nat.lt_of_lt_of_le (mul_lt hp.1 hq.1) (Nat.pow_le_pow_right (by decide) (by omega))
  · exact Nat.lt_of_lt_of_le (mul_lt hp.den hq.den) (Nat.pow_le_pow_right (by decide) (by omega))
theorem Rz.div {n : Nat} {p q : Rat} (hp : Rz n p) (hq : Rz n q) (h : q ≠ 0) : Rz (n + n + 1) (p / q) := by
  rw [div_eq]
  have hn : q.num ≠ 0 := fun e => h (Rat.num_eq_zero.mp e)
  have h1 := rat_den_pos p
  refine Rz.divInt ?_ ?_ (Int.mul_ne_zero (by omega) hn)
  · exact Nat.lt_of_lt_of_le (mul_lt hp.1 hq.den) (Nat.pow_le_pow_right (by decide) (by omega))
  · exact Nat.lt_of_lt_of_le (mul_lt hp.den hq.1) (Nat.pow_le_pow_right (by decide) (by omega))
/-! Euclid, as Python does it -/
theorem gcd_fmod (a b : Int) : Int.gcd b (a.fmod b) = Int.gcd a b := by
  rw [Int.fmod_def]
  rw [show a - b * a.fdiv b = a + b * (-(a.fdiv b)) by rw [Int.mul_neg]; omega]
  rw [Int.gcd_comm a b, Int.gcd_add_mul_left_right]
theorem fmod_small (a b : Int) (h : b ≠ 0) : (a.fmod b).natAbs < b.natAbs := by
  have pos : ∀ (a b : Int), 0 < b → (a.fmod b).natAbs < b.natAbs := fun a b h => by
    have h1 := Int.fmod_nonneg_of_pos a h
    have h2 := Int.fmod_lt_of_pos a h
    omega
  rcases Int.lt_or_gt_of_ne h with h | h
  · have e := Int.neg_fmod_neg (-a) (-b)
    rw [Int.neg_neg, Int.neg_neg] at e
    rw [e, Int.natAbs_neg, ← Int.natAbs_neg b]
    exact pos _ _ (by omega)
  · exact pos a b h
@[simp] theorem dNe_int {st : Sto} {a b : Int} : dNe st (.int a) (.int b) = some (.bl (!(a == b))) := by
  simp [dNe, pdS, pd, SeqAt.shaped, PyData.canLay0, PyData.depth, PyData.eqv]
@[simp] theorem dEq_int {st : Sto} {a b : Int} : dEq st (.int a) (.int b) = some (.bl (a == b)) := by
  simp [dEq, pdS, pd, SeqAt.shaped, PyData.canLay0, PyData.depth, PyData.eqv]
theorem eqv_rat (p q : Rat) : PyData.eqv (.tuple [.int p.num, .int p.den]) (.tuple [.int q.num, .int q.den]) = decide (p = q) := by
  simp only [PyData.eqv, PyData.eqvAll, Bool.and_true]
  by_cases h : p = q
  · subst h; simp
  · rw [decide_eq_false h]
    by_cases h1 : p.num = q.num
    · have h2 : ¬ (p.den : Int) = q.den := fun e => h (Rat.ext h1 (by omega))
      simp [h1, h2]
    · simp [h1]
@[simp] theorem dEq_rD {st : Sto} {p q : Rat} : dEq st (rD p) (rD q) = some (.bl (decide (p = q))) := by
  show (match some (PyData.tuple [.int p.num, .int p.den]), some (PyData.tuple [.int q.num, .int q.den]) with
    | some a, some b => if SeqAt.shaped a = true ∧ SeqAt.shaped b = true then some (D.bl (PyData.eqv a b)) else none
    | _, _ => none) = _
  simp only
  rw [eqv_rat, if_pos ⟨rfl, rfl⟩]
@[simp] theorem dNe_rD {st : Sto} {p q : Rat} : dNe st (rD p) (rD q) = some (.bl (!decide (p = q))) := by
  show (match some (PyData.tuple [.int p.num, .int p.den]), some (PyData.tuple [.int q.num, .int q.den]) with
    | some a, some b => if SeqAt.shaped a = true ∧ SeqAt.shaped b = true then some (D.bl (!PyData.eqv a b)) else none
    | _, _ => none) = _
  simp only
  rw [eqv_rat, if_pos ⟨rfl, rfl⟩]
theorem rD_nat (i : Int) : D.tup [.int i, .int 1] = rD (i : Rat) := by simp [rD]
theorem log2_mono {a b : Nat} (h : a ≤ b) : a.log2 ≤ b.log2 := by
  by_cases h0 : a = 0
  · subst h0; simp
  · rw [Nat.le_log2 (by omega)]
    exact Nat.le_trans (Nat.log2_self_le h0) h
theorem low_pos (t b : Int) (h : 0 < b) : t.fdiv (Int.gcd t b : Nat) = (Rat.divInt t b).num ∧ b.fdiv (Int.gcd t b : Nat) = (Rat.divInt t b).den := by
  rw [Rat.num_divInt, Rat.den_divInt, if_neg (by omega), Int.sign_eq_one_of_pos h, Int.one_mul, Int.gcd_comm b t]
  rw [Int.fdiv_eq_ediv_of_dvd (Int.gcd_dvd_left ..), Int.fdiv_eq_ediv_of_dvd (Int.gcd_dvd_right ..)]
  refine ⟨rfl, ?_⟩
  have : (b.natAbs : Int) = b := by omega
  rw [Int.natCast_ediv, this]
theorem low_neg (t b : Int) (h : b < 0) : t.fdiv (-(Int.gcd t b : Nat)) = (Rat.divInt t b).num ∧ b.fdiv (-(Int.gcd t b : Nat)) = (Rat.divInt t b).den := by
  rw [Rat.num_divInt, Rat.den_divInt, if_neg (by omega), Int.sign_eq_neg_one_of_neg h, Int.gcd_comm b t]
  rw [Int.fdiv_eq_ediv_of_dvd (Int.neg_dvd.mpr (Int.gcd_dvd_left ..)), Int.fdiv_eq_ediv_of_dvd (Int.neg_dvd.mpr (Int.gcd_dvd_right ..)), Int.ediv_neg, Int.ediv_neg]
  refine ⟨by rw [Int.neg_one_mul, Int.neg_ediv_of_dvd (Int.gcd_dvd_left ..)], ?_⟩
  have : (b.natAbs : Int) = -b := by omega
  rw [Int.natCast_ediv, this, Int.neg_ediv_of_dvd (Int.gcd_dvd_right ..)]
theorem gcd_ok {t b : Int} (hb : b ≠ 0) (hl : b.natAbs.log2 < 8500) : ((Int.gcd t b : Nat) : Int) ≠ 0 ∧ ((Int.gcd t b : Nat) : Int).natAbs.log2 < 9000 := by
  have h1 : 0 < Int.gcd t b := Int.gcd_pos_of_ne_zero_right _ hb
  refine ⟨by omega, ?_⟩
  have h2 : Int.gcd t b ≤ b.natAbs := Nat.le_of_dvd (by omega) (Int.gcd_eq_natAbs_gcd_natAbs t b ▸ Nat.gcd_dvd_right _ _)
  have := log2_mono h2
  simp only [Int.natAbs_natCast]
  omega
theorem dDiv_ok {st : Sto} {i j : Int} (h : j ≠ 0) (l : j.natAbs.log2 < 9000) : dDiv st (.int i) (.int j) = some (.int (i.fdiv j)) := if_pos ⟨h, l⟩
theorem dMul_ok {st : Sto} {i j : Int} (h : Sz i) (l : Sz j) : dMul st (.int i) (.int j) = some (.int (i * j)) := if_pos ⟨h, l⟩
theorem Rs.sz {q : Rat} (h : Rs q) : Sz q.num ∧ Sz q.den := by
  unfold Rs at h
  unfold Sz
  simp only [Int.natAbs_natCast]
  omega
set_option exponentiation.threshold 10000 in
theorem Rs.dd {p q : Rat} (h : Rs p) (k : Rs q) : ((p.den : Int) * q.den).natAbs.log2 < 8500 := by
  have := mul_lt h.rz.den k.rz.den
  exact Nat.lt_of_lt_of_le (log2_lt this (by decide)) (by decide)
set_option exponentiation.threshold 10000 in
theorem Rs.dn {p q : Rat} (h : Rs p) (k : Rs q) : ((p.den : Int) * q.num).natAbs.log2 < 8500 := by
  have := mul_lt h.rz.den k.rz.1
  exact Nat.lt_of_lt_of_le (log2_lt this (by decide)) (by decide)
theorem ix_rD0 {st : Sto} {q : Rat} : dIx st (rD q) (.int 0) = some (.int q.num) := rfl
theorem ix_rD1 {st : Sto} {q : Rat} : dIx st (rD q) (.int 1) = some (.int q.den) := rfl
@[simp] theorem kitB_int_int : kitB "int" "int" = some true := by decide +kernel
@[simp] theorem kitB_bool_int : kitB "bool" "int" = some true := by decide +kernel
@[simp] theorem kitB_tuple_int : kitB "tuple" "int" = some false := by decide +kernel
@[simp] theorem kitB_str_int : kitB "str" "int" = some false := by decide +kernel
@[simp] theorem kitB_list_int : kitB "list" "int" = some false := by decide +kernel
@[simp] theorem kitB_dict_int : kitB "dict" "int" = some false := by decide +kernel
@[simp] theorem kitB_NoneType_int : kitB "NoneType" "int" = some false := by decide +kernel
@[simp] theorem kitB_int_bool : kitB "int" "bool" = some false := by decide +kernel
@[simp] theorem kitB_bool_bool : kitB "bool" "bool" = some true := by decide +kernel
@[simp] theorem kitB_tuple_bool : kitB "tuple" "bool" = some false := by decide +kernel
@[simp] theorem kitB_str_bool : kitB "str" "bool" = some false := by decide +kernel
@[simp] theorem kitB_list_bool : kitB "list" "bool" = some false := by decide +kernel
@[simp] theorem kitB_dict_bool : kitB "dict" "bool" = some false := by decide +kernel
@[simp] theorem kitB_NoneType_bool : kitB "NoneType" "bool" = some false := by decide +kernel
@[simp] theorem kitB_int_tuple : kitB "int" "tuple" = some false := by decide +kernel
@[simp] theorem kitB_bool_tuple : kitB "bool" "tuple" = some false := by decide +kernel
@[simp] theorem kitB_tuple_tuple : kitB "tuple" "tuple" = some true := by decide +kernel
@[simp] theorem kitB_str_tuple : kitB "str" "tuple" = some false := by decide +kernel
@[simp] theorem kitB_list_tuple : kitB "list" "tuple" = some false := by decide +kernel
@[simp] theorem kitB_dict_tuple : kitB "dict" "tuple" = some false := by decide +kernel
@[simp] theorem kitB_NoneType_tuple : kitB "NoneType" "tuple" = some false := by decide +kernel
@[simp] theorem seqLT_tup {st : Sto} {xs : List D} : seqLT st (.tup xs) = some xs := rfl
@[simp] theorem seqLT_lst {st : Sto} {xs : List D} : seqLT st (.lst xs) = some xs := rfl
@[simp] theorem seqLT_frz {st : Sto} {xs : List D} : seqLT st (.frz xs) = some xs := rfl
@[simp] theorem seqL_lst {xs : List D} : seqL (.lst xs) = some xs := rfl
@[simp] theorem seqT_tup {xs : List D} : seqT (.tup xs) = some xs := rfl
@[simp] theorem seqS_lst {st : Sto} {xs : List D} : seqS st (.lst xs) = some xs := rfl
@[simp] theorem seqS_frz {st : Sto} {xs : List D} : seqS st (.frz xs) = some xs := rfl
@[simp] theorem seqP_lst {st : Sto} {xs : List D} : seqP st (.lst xs) = some xs := rfl
@[simp] theorem asBls_nil : asBls [] = some [] := rfl
@[simp] theorem asBls_cons {b : Bool} {ds : List D} : asBls (.bl b :: ds) = (asBls ds).map (b :: ·) := rfl
/-- the loop of Euclid over two slots -/
theorem gcd_loop (a b : Int) : ∀ (n : Nat) (st : Sto), b.natAbs < n → ∃ c : Int, whL (tV (fOp dNe (fVar 1) (fC (.int 0)))) (fPar 0 1 (fCons (fVar 1) (fCons (fOp dMod (fVar 0) (fVar 1)) fNil))) n [some (.int a), some (.int b)] st = some (.nx [some (.int c), some (.int 0)] st) ∧ c.natAbs = Int.gcd a b := by
  intro n
  induction n generalizing a b with
  | zero => intro st h; omega
  | succ n ih =>
    intro st h
    unfold whL
    by_cases hb : b = 0
    · subst hb
      exact ⟨a, by simp, by simp⟩
    · have hs := fmod_small a b hb
      obtain ⟨c, h1, h2⟩ := ih b (a.fmod b) st (by omega)
      refine ⟨c, ?_, by rw [h2, gcd_fmod]⟩
      simp [dMod, hb, h1]
/-- .. over slots further on, the others kept -/
theorem gcd_loop2 (x y z : Option D) (a b : Int) : ∀ (n : Nat) (st : Sto), b.natAbs < n → ∃ c : Int, whL (tV (fOp dNe (fVar 3) (fC (.int 0)))) (fPar 2 3 (fCons (fVar 3) (fCons (fOp dMod (fVar 2) (fVar 3)) fNil))) n [x, y, some (.int a), some (.int b), z] st = some (.nx [x, y, some (.int c), some (.int 0), z] st) ∧ c.natAbs = Int.gcd a b ∧ (0 ≤ a → 0 ≤ b → 0 ≤ c) := by
  intro n
  induction n generalizing a b with
  | zero => intro st h; omega
  | succ n ih =>
    intro st h
    unfold whL
    by_cases hb : b = 0
    · subst hb
      exact ⟨a, by simp, by simp, fun h _ => h⟩
    · have hs := fmod_small a b hb
      obtain ⟨c, h1, h2, h3⟩ := ih b (a.fmod b) st (by omega)
      refine ⟨c, ?_, by rw [h2, gcd_fmod], fun ha hb' => h3 hb' (Int.fmod_nonneg_of_pos a (by omega))⟩
      simp [dMod, hb, h1]
end Fx
namespace L_k06
open PySem PySem.Spec PyProof.Rows L2 Fx
def topS (i : Nat) : Stmt := PySem.Challenge.pw_fewestsent_k06_whole_numbers_go_together.main.body.getD i (.Pass ⟨0, 0, 0, 0⟩)
/-- what the built-in names and the constants are -/
structure Bi (mg : Str → Option Value) : Prop where
  abs : mg "abs" = none
  all : mg "all" = none
  bool : mg "bool" = none
  int : mg "int" = none
  isinstance : mg "isinstance" = none
  len : mg "len" = none
  max : mg "max" = none
  min : mg "min" = none
  range : mg "range" = none
  sorted : mg "sorted" = none
  sum : mg "sum" = none
  tuple : mg "tuple" = none
section
variable {P : Program} {w : World} {K : PySem.W.Frag} {mg : Str → Option Value} {base : Heap}
abbrev s_is_whole : Stmt := topS 1
theorem sc_is_whole : FnScope ["thing"] ["thing"] (defScope s_is_whole) := ⟨rfl, rfl, rfl, by decide +kernel, rfl, by decide +kernel, by decide +kernel⟩
def F_is_whole : DF := fDef 1 1 ((fRet (fAnd (fCa bIsi (fCons (fVar 0) (fCons (fC (.ty "int")) fNil))) (fNot (fCa bIsi (fCons (fVar 0) (fCons (fC (.ty "bool")) fNil)))))))
theorem d_is_whole (B : Bi mg)  {f : Addr} {fd : FuncData} (F : L2.Fun K "is_whole" "is_whole" s_is_whole f fd) (hm : mg "is_whole" = some (.ref f)) (bi : Binds K fd ["thing"] []) : Df P w K mg base 1 "is_whole" 1 F_is_whole := by
  refine df_ok F hm bi sc_is_whole rfl rfl fun cdv A outer s H E hr => ?_
  exact (ss_one (s_ret (v_and (v_callB call_isi isi_p (by rfl) B.isinstance (by decide +kernel) (a_cons (v_var (pv 0)) (a_cons (v_ty (by rfl) B.int (by decide +kernel)) a_nil))) (v_one (v_not (v_callB call_isi isi_p (by rfl) B.isinstance (by decide +kernel) (a_cons (v_var (pv 0)) (a_cons (v_ty (by rfl) B.bool (by decide +kernel)) a_nil))))))))
abbrev s_divisor_of : Stmt := topS 2
theorem sc_divisor_of : FnScope ["one", "other"] ["one", "other"] (defScope s_divisor_of) := ⟨rfl, rfl, rfl, by decide +kernel, rfl, by decide +kernel, by decide +kernel⟩
def F_divisor_of : DF := fDef 2 2 ((fSeq (fWhile (fun env _ => fuelGcd env 1) (tV (fOp dNe (fVar 1) (fC (.int 0))))
  (fPar 0 1 (fCons (fVar 1) (fCons (fOp dMod (fVar 0) (fVar 1)) fNil))))
  (fRet (fCa bAbs (fCons (fVar 0) fNil)))))
theorem d_divisor_of (B : Bi mg)  {f : Addr} {fd : FuncData} (F : L2.Fun K "divisor_of" "divisor_of" s_divisor_of f fd) (hm : mg "divisor_of" = some (.ref f)) (bi : Binds K fd ["one", "other"] []) : Df P w K mg base 1 "divisor_of" 2 F_divisor_of := by
  refine df_ok F hm bi sc_divisor_of rfl rfl fun cdv A outer s H E hr => ?_
  exact (ss_cons (s_while (fun env _ => fuelGcd env 1) PassesOwn.never (tv_cmp (op_neD hr.units) ne_p (v_var (pv 1)) v_int (nomark _))
  (ss_one (s_parR (i := 0) (j := 1) rfl sc_divisor_of.nd rfl rfl (by decide) rfl rfl (a_cons (v_var (pv 1)) (a_cons (v_op op_modN mod_p (v_var (pv 0)) (v_var (pv 1))) a_nil)) (by rfl))))
  (ss_one (s_ret (v_callB call_abs abs_p (by rfl) B.abs (by decide +kernel) (a_cons (v_var (pv 0)) a_nil)))))
abbrev s_is_number : Stmt := topS 3
theorem sc_is_number : FnScope ["thing", "one", "top", "bottom"] ["thing"] (defScope s_is_number) := ⟨rfl, rfl, rfl, by decide +kernel, rfl, by decide +kernel, by decide +kernel⟩
def F_is_number : DF := fDef 1 4 ((fSeq (fIfS (tOr2 (tNot1 (tV (fCa bIsi (fCons (fVar 0) (fCons (fC (.ty "tuple")) fNil))))) (tOr2 (tV (fOp dNe (fCa bLen (fCons (fVar 0) fNil)) (fC (.int 2)))) (tNot1 (tV (fCa bAll (fCons (fLc (iTp (fVar 0)) (gNm 1) tYes1 (fCall 1 F_is_whole (fCons (fVar 1) fNil)) [1]) fNil))))))
  (fRet (fC (.bl false)))
  fPass)
  (fSeq (fAsg (fVar 0) (gTp 2 (gsCons (gNm 2) (gsCons (gNm 3) gsNil))))
  (fRet (fAnd (fOp dGe (fVar 3) (fC (.int 1))) (fOp dEq (fCall 2 F_divisor_of (fCons (fVar 2) (fCons (fVar 3) fNil))) (fC (.int 1))))))))
theorem d_is_number (B : Bi mg) (g_is_whole : Df P w K mg base 1 "is_whole" 1 F_is_whole) (g_divisor_of : Df P w K mg base 1 "divisor_of" 2 F_divisor_of) {f : Addr} {fd : FuncData} (F : L2.Fun K "is_number" "is_number" s_is_number f fd) (hm : mg "is_number" = some (.ref f)) (bi : Binds K fd ["thing"] []) : Df P w K mg base 2 "is_number" 1 F_is_number := by
  refine df_ok F hm bi sc_is_number rfl rfl fun cdv A outer s H E hr => ?_
  exact (ss_cons (s_if (PW.pt (tw_or (tv_not (tv_val (v_callB call_isi isi_p (by rfl) B.isinstance (by decide +kernel) (a_cons (v_var (pv 0)) (a_cons (v_ty (by rfl) B.tuple (by decide +kernel)) a_nil))))) (tw_or (tv_cmp (op_neD hr.units) ne_p (v_callB call_len_seq len_p (by rfl) B.len (by decide +kernel) (a_cons (v_var (pv 0)) a_nil)) v_int (nomark _)) (tw_or1 (tv_not (tv_val (v_callB (cr_all rfl) all_p (by rfl) B.all (by decide +kernel) (a_cons (v_lc (own := [("one", 1)]) (t := L2.gName 1) rfl sc_is_number.nd (i_tup (v_var (pv 0))) (blkOk_by (N := ["thing", "one", "top", "bottom"]) (sc := defScope s_is_number) (by decide +kernel)) (fun _ _ _ _ _ => (pg_name (i := 1) sc_is_number.nd rfl (Or.inl rfl))) (own_name (by decide)) (fun _ _ _ _ _ => pts0) (fun _ _ _ _ _ => (v_callD g_is_whole hr (by rfl) (a_cons (v_var (pv 1)) a_nil)))) a_nil))))))))
  (ss_one (s_ret v_bl))
  ss_nil)
  (ss_cons (s_asg (v_var (pv 0)) (g_tupR rfl (gs_consR (g_name (i := 2) sc_is_number.nd rfl (.inl rfl)) (gs_consR (g_name (i := 3) sc_is_number.nd rfl (.inl rfl)) gs_nil))))
  (ss_one (s_ret (v_and (v_cmp op_ge cmp_p (v_var (pv 3)) v_int (nomark _)) (v_one (v_cmp (op_eqD hr.units) eq_p (v_callD g_divisor_of hr (by rfl) (a_cons (v_var (pv 2)) (a_cons (v_var (pv 3)) a_nil))) v_int (nomark _))))))))
abbrev s_lowest : Stmt := topS 4
theorem sc_lowest : FnScope ["top", "bottom", "by"] ["top", "bottom"] (defScope s_lowest) := ⟨rfl, rfl, rfl, by decide +kernel, rfl, by decide +kernel, by decide +kernel⟩
def F_lowest : DF := fDef 2 3 ((fSeq (fSet 2 (fIf (tV (fOp dGt (fVar 1) (fC (.int 0)))) (fCall 2 F_divisor_of (fCons (fVar 0) (fCons (fVar 1) fNil))) (fUn dNeg (fCall 2 F_divisor_of (fCons (fVar 0) (fCons (fVar 1) fNil))))))
  (fRet (fTup (fCons (fOp dDiv (fVar 0) (fVar 2)) (fCons (fOp dDiv (fVar 1) (fVar 2)) fNil))))))
theorem d_lowest (B : Bi mg) (g_divisor_of : Df P w K mg base 1 "divisor_of" 2 F_divisor_of) {f : Addr} {fd : FuncData} (F : L2.Fun K "lowest" "lowest" s_lowest f fd) (hm : mg "lowest" = some (.ref f)) (bi : Binds K fd ["top", "bottom"] []) : Df P w K mg base 2 "lowest" 2 F_lowest := by
  refine df_ok F hm bi sc_lowest rfl rfl fun cdv A outer s H E hr => ?_
  exact (ss_cons (s_set (i := 2) sc_lowest.nd rfl (.inl rfl) (v_ifExp (tv_cmp op_gt cmp_p (v_var (pv 1)) v_int (nomark _)) (v_callD g_divisor_of hr (by rfl) (a_cons (v_var (pv 0)) (a_cons (v_var (pv 1)) a_nil))) (v_un un_neg neg_p (v_callD g_divisor_of hr (by rfl) (a_cons (v_var (pv 0)) (a_cons (v_var (pv 1)) a_nil))))))
  (ss_one (s_ret (v_tup (a_cons (v_op op_fdivG div_p (v_var (pv 0)) (v_var (pv 2))) (a_cons (v_op op_fdivG div_p (v_var (pv 1)) (v_var (pv 2))) a_nil))))))
abbrev s_plus : Stmt := topS 5
theorem sc_plus : FnScope ["one", "other"] ["one", "other"] (defScope s_plus) := ⟨rfl, rfl, rfl, by decide +kernel, rfl, by decide +kernel, by decide +kernel⟩
def F_plus : DF := fDef 2 2 ((fRet (fCall 2 F_lowest (fCons (fOp dAdd (fOp dMul (fOp dIx (fVar 0) (fC (.int 0))) (fOp dIx (fVar 1) (fC (.int 1)))) (fOp dMul (fOp dIx (fVar 1) (fC (.int 0))) (fOp dIx (fVar 0) (fC (.int 1))))) (fCons (fOp dMul (fOp dIx (fVar 0) (fC (.int 1))) (fOp dIx (fVar 1) (fC (.int 1)))) fNil)))))
theorem d_plus (B : Bi mg) (g_lowest : Df P w K mg base 2 "lowest" 2 F_lowest) {f : Addr} {fd : FuncData} (F : L2.Fun K "plus" "plus" s_plus f fd) (hm : mg "plus" = some (.ref f)) (bi : Binds K fd ["one", "other"] []) : Df P w K mg base 3 "plus" 2 F_plus := by
  refine df_ok F hm bi sc_plus rfl rfl fun cdv A outer s H E hr => ?_
  exact (ss_one (s_ret (v_callD g_lowest hr (by rfl) (a_cons (v_op op_addA add_p (v_op op_mulX mul_p (v_ix ix_lt ix_p (v_var (pv 0)) v_int (fun _ _ => rfl)) (v_ix ix_lt ix_p (v_var (pv 1)) v_int (fun _ _ => rfl))) (v_op op_mulX mul_p (v_ix ix_lt ix_p (v_var (pv 1)) v_int (fun _ _ => rfl)) (v_ix ix_lt ix_p (v_var (pv 0)) v_int (fun _ _ => rfl)))) (a_cons (v_op op_mulX mul_p (v_ix ix_lt ix_p (v_var (pv 0)) v_int (fun _ _ => rfl)) (v_ix ix_lt ix_p (v_var (pv 1)) v_int (fun _ _ => rfl))) a_nil)))))
abbrev s_minus : Stmt := topS 6
theorem sc_minus : FnScope ["one", "other"] ["one", "other"] (defScope s_minus) := ⟨rfl, rfl, rfl, by decide +kernel, rfl, by decide +kernel, by decide +kernel⟩
def F_minus : DF := fDef 2 2 ((fRet (fCall 2 F_lowest (fCons (fOp dSub (fOp dMul (fOp dIx (fVar 0) (fC (.int 0))) (fOp dIx (fVar 1) (fC (.int 1)))) (fOp dMul (fOp dIx (fVar 1) (fC (.int 0))) (fOp dIx (fVar 0) (fC (.int 1))))) (fCons (fOp dMul (fOp dIx (fVar 0) (fC (.int 1))) (fOp dIx (fVar 1) (fC (.int 1)))) fNil)))))
theorem d_minus (B : Bi mg) (g_lowest : Df P w K mg base 2 "lowest" 2 F_lowest) {f : Addr} {fd : FuncData} (F : L2.Fun K "minus" "minus" s_minus f fd) (hm : mg "minus" = some (.ref f)) (bi : Binds K fd ["one", "other"] []) : Df P w K mg base 3 "minus" 2 F_minus := by
  refine df_ok F hm bi sc_minus rfl rfl fun cdv A outer s H E hr => ?_
  exact (ss_one (s_ret (v_callD g_lowest hr (by rfl) (a_cons (v_op op_sub sub_p (v_op op_mulX mul_p (v_ix ix_lt ix_p (v_var (pv 0)) v_int (fun _ _ => rfl)) (v_ix ix_lt ix_p (v_var (pv 1)) v_int (fun _ _ => rfl))) (v_op op_mulX mul_p (v_ix ix_lt ix_p (v_var (pv 1)) v_int (fun _ _ => rfl)) (v_ix ix_lt ix_p (v_var (pv 0)) v_int (fun _ _ => rfl)))) (a_cons (v_op op_mulX mul_p (v_ix ix_lt ix_p (v_var (pv 0)) v_int (fun _ _ => rfl)) (v_ix ix_lt ix_p (v_var (pv 1)) v_int (fun _ _ => rfl))) a_nil)))))
abbrev s_times : Stmt := topS 7
theorem sc_times : FnScope ["one", "other"] ["one", "other"] (defScope s_times) := ⟨rfl, rfl, rfl, by decide +kernel, rfl, by decide +kernel, by decide +kernel⟩
def F_times : DF := fDef 2 2 ((fRet (fCall 2 F_lowest (fCons (fOp dMul (fOp dIx (fVar 0) (fC (.int 0))) (fOp dIx (fVar 1) (fC (.int 0)))) (fCons (fOp dMul (fOp dIx (fVar 0) (fC (.int 1))) (fOp dIx (fVar 1) (fC (.int 1)))) fNil)))))
theorem d_times (B : Bi mg) (g_lowest : Df P w K mg base 2 "lowest" 2 F_lowest) {f : Addr} {fd : FuncData} (F : L2.Fun K "times" "times" s_times f fd) (hm : mg "times" = some (.ref f)) (bi : Binds K fd ["one", "other"] []) : Df P w K mg base 3 "times" 2 F_times := by
  refine df_ok F hm bi sc_times rfl rfl fun cdv A outer s H E hr => ?_
  exact (ss_one (s_ret (v_callD g_lowest hr (by rfl) (a_cons (v_op op_mulX mul_p (v_ix ix_lt ix_p (v_var (pv 0)) v_int (fun _ _ => rfl)) (v_ix ix_lt ix_p (v_var (pv 1)) v_int (fun _ _ => rfl))) (a_cons (v_op op_mulX mul_p (v_ix ix_lt ix_p (v_var (pv 0)) v_int (fun _ _ => rfl)) (v_ix ix_lt ix_p (v_var (pv 1)) v_int (fun _ _ => rfl))) a_nil)))))
abbrev s_over : Stmt := topS 8
theorem sc_over : FnScope ["one", "other"] ["one", "other"] (defScope s_over) := ⟨rfl, rfl, rfl, by decide +kernel, rfl, by decide +kernel, by decide +kernel⟩
def F_over : DF := fDef 2 2 ((fRet (fIf (tV (fOp dEq (fOp dIx (fVar 1) (fC (.int 0))) (fC (.int 0)))) (fC .non) (fCall 2 F_lowest (fCons (fOp dMul (fOp dIx (fVar 0) (fC (.int 0))) (fOp dIx (fVar 1) (fC (.int 1)))) (fCons (fOp dMul (fOp dIx (fVar 0) (fC (.int 1))) (fOp dIx (fVar 1) (fC (.int 0)))) fNil))))))
theorem d_over (B : Bi mg) (g_lowest : Df P w K mg base 2 "lowest" 2 F_lowest) {f : Addr} {fd : FuncData} (F : L2.Fun K "over" "over" s_over f fd) (hm : mg "over" = some (.ref f)) (bi : Binds K fd ["one", "other"] []) : Df P w K mg base 3 "over" 2 F_over := by
  refine df_ok F hm bi sc_over rfl rfl fun cdv A outer s H E hr => ?_
  exact (ss_one (s_ret (v_ifExp (tv_cmp (op_eqD hr.units) eq_p (v_ix ix_lt ix_p (v_var (pv 1)) v_int (fun _ _ => rfl)) v_int (nomark _)) v_non (v_callD g_lowest hr (by rfl) (a_cons (v_op op_mulX mul_p (v_ix ix_lt ix_p (v_var (pv 0)) v_int (fun _ _ => rfl)) (v_ix ix_lt ix_p (v_var (pv 1)) v_int (fun _ _ => rfl))) (a_cons (v_op op_mulX mul_p (v_ix ix_lt ix_p (v_var (pv 0)) v_int (fun _ _ => rfl)) (v_ix ix_lt ix_p (v_var (pv 1)) v_int (fun _ _ => rfl))) a_nil))))))
abbrev s_is_less : Stmt := topS 9
theorem sc_is_less : FnScope ["one", "other"] ["one", "other"] (defScope s_is_less) := ⟨rfl, rfl, rfl, by decide +kernel, rfl, by decide +kernel, by decide +kernel⟩
def F_is_less : DF := fDef 2 2 ((fRet (fOp dLt (fOp dMul (fOp dIx (fVar 0) (fC (.int 0))) (fOp dIx (fVar 1) (fC (.int 1)))) (fOp dMul (fOp dIx (fVar 1) (fC (.int 0))) (fOp dIx (fVar 0) (fC (.int 1)))))))
theorem d_is_less (B : Bi mg)  {f : Addr} {fd : FuncData} (F : L2.Fun K "is_less" "is_less" s_is_less f fd) (hm : mg "is_less" = some (.ref f)) (bi : Binds K fd ["one", "other"] []) : Df P w K mg base 1 "is_less" 2 F_is_less := by
  refine df_ok F hm bi sc_is_less rfl rfl fun cdv A outer s H E hr => ?_
  exact (ss_one (s_ret (v_cmp op_lt cmp_p (v_op op_mulX mul_p (v_ix ix_lt ix_p (v_var (pv 0)) v_int (fun _ _ => rfl)) (v_ix ix_lt ix_p (v_var (pv 1)) v_int (fun _ _ => rfl))) (v_op op_mulX mul_p (v_ix ix_lt ix_p (v_var (pv 1)) v_int (fun _ _ => rfl)) (v_ix ix_lt ix_p (v_var (pv 0)) v_int (fun _ _ => rfl))) (nomark _))))
abbrev s_least : Stmt := topS 10
theorem sc_least : FnScope ["one", "other"] ["one", "other"] (defScope s_least) := ⟨rfl, rfl, rfl, by decide +kernel, rfl, by decide +kernel, by decide +kernel⟩
def F_least : DF := fDef 2 2 ((fRet (fIf (tV (fCall 2 F_is_less (fCons (fVar 1) (fCons (fVar 0) fNil)))) (fVar 1) (fVar 0))))
theorem d_least (B : Bi mg) (g_is_less : Df P w K mg base 1 "is_less" 2 F_is_less) {f : Addr} {fd : FuncData} (F : L2.Fun K "least" "least" s_least f fd) (hm : mg "least" = some (.ref f)) (bi : Binds K fd ["one", "other"] []) : Df P w K mg base 2 "least" 2 F_least := by
  refine df_ok F hm bi sc_least rfl rfl fun cdv A outer s H E hr => ?_
  exact (ss_one (s_ret (v_ifExp (tv_val (v_callD g_is_less hr (by rfl) (a_cons (v_var (pv 1)) (a_cons (v_var (pv 0)) a_nil)))) (v_var (pv 1)) (v_var (pv 0)))))
abbrev s_most : Stmt := topS 11
theorem sc_most : FnScope ["one", "other"] ["one", "other"] (defScope s_most) := ⟨rfl, rfl, rfl, by decide +kernel, rfl, by decide +kernel, by decide +kernel⟩
def F_most : DF := fDef 2 2 ((fRet (fIf (tV (fCall 2 F_is_less (fCons (fVar 0) (fCons (fVar 1) fNil)))) (fVar 1) (fVar 0))))
theorem d_most (B : Bi mg) (g_is_less : Df P w K mg base 1 "is_less" 2 F_is_less) {f : Addr} {fd : FuncData} (F : L2.Fun K "most" "most" s_most f fd) (hm : mg "most" = some (.ref f)) (bi : Binds K fd ["one", "other"] []) : Df P w K mg base 2 "most" 2 F_most := by
  refine df_ok F hm bi sc_most rfl rfl fun cdv A outer s H E hr => ?_
  exact (ss_one (s_ret (v_ifExp (tv_val (v_callD g_is_less hr (by rfl) (a_cons (v_var (pv 0)) (a_cons (v_var (pv 1)) a_nil)))) (v_var (pv 1)) (v_var (pv 0)))))
abbrev s__law_pool : Stmt := topS 13
theorem sc__law_pool : FnScope ["script", "k", "cell", "great", "mixed"] ["script", "k"] (defScope s__law_pool) := ⟨rfl, rfl, rfl, by decide +kernel, rfl, by decide +kernel, by decide +kernel⟩
def F__law_pool : DF := fDef 2 5 ((fSeq (fSet 2 (fOp dAdd (fOp dMul (fC (.int 11)) (fCa bSum (fCons (fSlL (fVar 0) oNo (oSome (fC (.int 63)))) fNil))) (fVar 1)))
  (fSeq (fIfS (tV (fOp dLt (fVar 1) (fCa bLen (fCons (fVar 0) fNil))))
  (fSet 2 (fOp dIx (fVar 0) (fVar 1)))
  fPass)
  (fSeq (fSet 3 (fCa bAbs (fCons (fVar 2) fNil)))
  (fSeq (fSet 4 (fOp dMod (fOp dMul (fOp dAdd (fOp dAdd (fOp dAdd (fOp dMod (fVar 3) (fC (.int 2147483629))) (fOp dMul (fOp dMul (fC (.int 7919)) (fVar 1)) (fVar 1))) (fOp dMul (fC (.int 31)) (fVar 1))) (fC (.int 17))) (fC (.int 48271))) (fC (.int 2147483647))))
  (fRet (fLstC (fCons (fOp dMul (fVar 3) (fCa bInt (fCons (fOp dGe (fVar 3) (fOp dPow (fC (.int 10)) (fC (.int 18)))) fNil))) (fCons (fOp dMod (fOp dMul (fVar 4) (fVar 4)) (fC (.int 2147483629))) fNil)))))))))
theorem d__law_pool (B : Bi mg)  {f : Addr} {fd : FuncData} (F : L2.Fun K "_law_pool" "_law_pool" s__law_pool f fd) (hm : mg "_law_pool" = some (.ref f)) (bi : Binds K fd ["script", "k"] []) : Df P w K mg base 1 "_law_pool" 2 F__law_pool := by
  refine df_ok F hm bi sc__law_pool rfl rfl fun cdv A outer s H E hr => ?_
  exact (ss_cons (s_set (i := 2) sc__law_pool.nd rfl (.inl rfl) (v_op op_addA add_p (v_op op_mulX mul_p v_int (v_callB (cr_sum rfl) sum_p (by rfl) B.sum (by decide +kernel) (a_cons (v_slL (v_var (pv 0)) o_none (o_some v_int)) a_nil))) (v_var (pv 1))))
  (ss_cons (s_if (tv_cmp op_lt cmp_p (v_var (pv 1)) (v_callB call_len_seq len_p (by rfl) B.len (by decide +kernel) (a_cons (v_var (pv 0)) a_nil)) (nomark _))
  (ss_one (s_set (i := 2) sc__law_pool.nd rfl (.inl rfl) (v_ix ix_lt ix_p (v_var (pv 0)) (v_var (pv 1)) (fun _ _ => rfl))))
  ss_nil)
  (ss_cons (s_set (i := 3) sc__law_pool.nd rfl (.inl rfl) (v_callB call_abs abs_p (by rfl) B.abs (by decide +kernel) (a_cons (v_var (pv 2)) a_nil)))
  (ss_cons (s_set (i := 4) sc__law_pool.nd rfl (.inl rfl) (v_op op_modN mod_p (v_op op_mulX mul_p (v_op op_addA add_p (v_op op_addA add_p (v_op op_addA add_p (v_op op_modN mod_p (v_var (pv 3)) v_int) (v_op op_mulX mul_p (v_op op_mulX mul_p v_int (v_var (pv 1))) (v_var (pv 1)))) (v_op op_mulX mul_p v_int (v_var (pv 1)))) v_int) v_int) v_int))
  (ss_one (s_ret (v_lstC (a_cons (v_op op_mulX mul_p (v_var (pv 3)) (v_callTy call_int1 int_p (by rfl) B.int (by decide +kernel) (a_cons (v_cmp op_ge cmp_p (v_var (pv 3)) (v_op op_pow pow_p v_int v_int) (nomark _)) a_nil))) (a_cons (v_op op_modN mod_p (v_op op_mulX mul_p (v_var (pv 4)) (v_var (pv 4))) v_int) a_nil)))))))))
abbrev s__law_take : Stmt := topS 14
theorem sc__law_take : FnScope ["pool", "many", "found"] ["pool", "many"] (defScope s__law_take) := ⟨rfl, rfl, rfl, by decide +kernel, rfl, by decide +kernel, by decide +kernel⟩
def F__law_take : DF := fDef 2 3 ((fSeq (fIfS (tV (fOp dGt (fOp dIx (fVar 0) (fC (.int 0))) (fC (.int 0))))
  (fSeq (fSet 2 (fOp dMod (fOp dIx (fVar 0) (fC (.int 0))) (fVar 1)))
  (fSeq (fAsg (fOp dDiv (fOp dIx (fVar 0) (fC (.int 0))) (fVar 1)) (gSubL (fVar 0) (fC (.int 0))))
  (fRet (fVar 2))))
  fPass)
  (fSeq (fAsg (fOp dMod (fOp dAdd (fOp dMul (fOp dIx (fVar 0) (fC (.int 1))) (fC (.int 48271))) (fC (.int 11))) (fC (.int 2147483647))) (gSubL (fVar 0) (fC (.int 1))))
  (fRet (fOp dMod (fOp dDiv (fOp dMod (fOp dMul (fOp dIx (fVar 0) (fC (.int 1))) (fOp dIx (fVar 0) (fC (.int 1)))) (fC (.int 2147483629))) (fC (.int 16))) (fVar 1))))))
theorem d__law_take (B : Bi mg)  {f : Addr} {fd : FuncData} (F : L2.Fun K "_law_take" "_law_take" s__law_take f fd) (hm : mg "_law_take" = some (.ref f)) (bi : Binds K fd ["pool", "many"] []) : Df P w K mg base 1 "_law_take" 2 F__law_take := by
  refine df_ok F hm bi sc__law_take rfl rfl fun cdv A outer s H E hr => ?_
  exact (ss_cons (s_if (tv_cmp op_gt cmp_p (v_ix ix_lt ix_p (v_var (pv 0)) v_int (fun _ _ => rfl)) v_int (nomark _))
  (ss_cons (s_set (i := 2) sc__law_take.nd rfl (.inl rfl) (v_op op_modN mod_p (v_ix ix_lt ix_p (v_var (pv 0)) v_int (fun _ _ => rfl)) (v_var (pv 1))))
  (ss_cons (s_asg (v_op op_fdivG div_p (v_ix ix_lt ix_p (v_var (pv 0)) v_int (fun _ _ => rfl)) (v_var (pv 1))) (g_subL (v_var (pv 0)) v_int (pg_sub (v_var (pv 0)) v_int set_list (fun _ => rfl))))
  (ss_one (s_ret (v_var (pv 2))))))
  ss_nil)
  (ss_cons (s_asg (v_op op_modN mod_p (v_op op_addA add_p (v_op op_mulX mul_p (v_ix ix_lt ix_p (v_var (pv 0)) v_int (fun _ _ => rfl)) v_int) v_int) v_int) (g_subL (v_var (pv 0)) v_int (pg_sub (v_var (pv 0)) v_int set_list (fun _ => rfl))))
  (ss_one (s_ret (v_op op_modN mod_p (v_op op_fdivG div_p (v_op op_modN mod_p (v_op op_mulX mul_p (v_ix ix_lt ix_p (v_var (pv 0)) v_int (fun _ _ => rfl)) (v_ix ix_lt ix_p (v_var (pv 0)) v_int (fun _ _ => rfl))) v_int) v_int) (v_var (pv 1)))))))
abbrev s__law_low : Stmt := topS 15
theorem sc__law_low : FnScope ["top", "bottom", "one", "other", "sign"] ["top", "bottom"] (defScope s__law_low) := ⟨rfl, rfl, rfl, by decide +kernel, rfl, by decide +kernel, by decide +kernel⟩
def F__law_low : DF := fDef 2 5 ((fSeq (fPar 2 3 (fCons (fCa bAbs (fCons (fVar 0) fNil)) (fCons (fCa bAbs (fCons (fVar 1) fNil)) fNil)))
  (fSeq (fWhile (fun env _ => fuelGcd env 3) (tV (fOp dNe (fVar 3) (fC (.int 0))))
  (fPar 2 3 (fCons (fVar 3) (fCons (fOp dMod (fVar 2) (fVar 3)) fNil))))
  (fSeq (fSet 4 (fOp dIx (fLst (fCons (fC (.int 1)) (fCons (fUn dNeg (fC (.int 1))) fNil))) (fCa bInt (fCons (fOp dLt (fVar 1) (fC (.int 0))) fNil))))
  (fRet (fTup (fCons (fOp dDiv (fOp dMul (fVar 4) (fVar 0)) (fVar 2)) (fCons (fOp dDiv (fOp dMul (fVar 4) (fVar 1)) (fVar 2)) fNil))))))))
theorem d__law_low (B : Bi mg)  {f : Addr} {fd : FuncData} (F : L2.Fun K "_law_low" "_law_low" s__law_low f fd) (hm : mg "_law_low" = some (.ref f)) (bi : Binds K fd ["top", "bottom"] []) : Df P w K mg base 1 "_law_low" 2 F__law_low := by
  refine df_ok F hm bi sc__law_low rfl rfl fun cdv A outer s H E hr => ?_
  exact (ss_cons (s_parR (i := 2) (j := 3) rfl sc__law_low.nd rfl rfl (by decide) rfl rfl (a_cons (v_callB call_abs abs_p (by rfl) B.abs (by decide +kernel) (a_cons (v_var (pv 0)) a_nil)) (a_cons (v_callB call_abs abs_p (by rfl) B.abs (by decide +kernel) (a_cons (v_var (pv 1)) a_nil)) a_nil)) (by rfl))
  (ss_cons (s_while (fun env _ => fuelGcd env 3) PassesOwn.never (tv_cmp (op_neD hr.units) ne_p (v_var (pv 3)) v_int (nomark _))
  (ss_one (s_parR (i := 2) (j := 3) rfl sc__law_low.nd rfl rfl (by decide) rfl rfl (a_cons (v_var (pv 3)) (a_cons (v_op op_modN mod_p (v_var (pv 2)) (v_var (pv 3))) a_nil)) (by rfl))))
  (ss_cons (s_set (i := 4) sc__law_low.nd rfl (.inl rfl) (v_ix ix_lt ix_p (v_lst (a_cons v_int (a_cons (v_un un_neg neg_p v_int) a_nil))) (v_callTy call_int1 int_p (by rfl) B.int (by decide +kernel) (a_cons (v_cmp op_lt cmp_p (v_var (pv 1)) v_int (nomark _)) a_nil)) (fun _ _ => rfl)))
  (ss_one (s_ret (v_tup (a_cons (v_op op_fdivG div_p (v_op op_mulX mul_p (v_var (pv 4)) (v_var (pv 0))) (v_var (pv 2))) (a_cons (v_op op_fdivG div_p (v_op op_mulX mul_p (v_var (pv 4)) (v_var (pv 1))) (v_var (pv 2))) a_nil))))))))
abbrev s__law_number : Stmt := topS 16
theorem sc__law_number : FnScope ["pool", "tops"] ["pool"] (defScope s__law_number) := ⟨rfl, rfl, rfl, by decide +kernel, rfl, by decide +kernel, by decide +kernel⟩
def F__law_number : DF := fDef 1 2 ((fSeq (fSet 1 (fLst (fCons (fC (.int 0)) (fCons (fC (.int 1)) (fCons (fUn dNeg (fC (.int 1))) (fCons (fC (.int 2)) (fCons (fC (.int 3)) (fCons (fUn dNeg (fC (.int 5))) (fCons (fC (.int 7)) (fCons (fOp dPow (fC (.int 10)) (fC (.int 29))) (fCons (fOp dSub (fUn dNeg (fOp dPow (fC (.int 10)) (fC (.int 29)))) (fC (.int 1))) fNil)))))))))))
  (fRet (fCall 2 F__law_low (fCons (fOp dIx (fVar 1) (fCall 2 F__law_take (fCons (fVar 0) (fCons (fC (.int 9)) fNil)))) (fCons (fOp dIx (fLst (fCons (fC (.int 1)) (fCons (fC (.int 1)) (fCons (fC (.int 1)) (fCons (fC (.int 2)) (fCons (fC (.int 3)) (fCons (fC (.int 4)) (fCons (fC (.int 6)) (fCons (fOp dPow (fC (.int 10)) (fC (.int 20))) fNil))))))))) (fCall 2 F__law_take (fCons (fVar 0) (fCons (fC (.int 8)) fNil)))) fNil))))))
theorem d__law_number (B : Bi mg) (g__law_low : Df P w K mg base 1 "_law_low" 2 F__law_low) (g__law_take : Df P w K mg base 1 "_law_take" 2 F__law_take) {f : Addr} {fd : FuncData} (F : L2.Fun K "_law_number" "_law_number" s__law_number f fd) (hm : mg "_law_number" = some (.ref f)) (bi : Binds K fd ["pool"] []) : Df P w K mg base 2 "_law_number" 1 F__law_number := by
  refine df_ok F hm bi sc__law_number rfl rfl fun cdv A outer s H E hr => ?_
  exact (ss_cons (s_set (i := 1) sc__law_number.nd rfl (.inl rfl) (v_lst (a_cons v_int (a_cons v_int (a_cons (v_un un_neg neg_p v_int) (a_cons v_int (a_cons v_int (a_cons (v_un un_neg neg_p v_int) (a_cons v_int (a_cons (v_op op_pow pow_p v_int v_int) (a_cons (v_op op_sub sub_p (v_un un_neg neg_p (v_op op_pow pow_p v_int v_int)) v_int) a_nil)))))))))))
  (ss_one (s_ret (v_callD g__law_low hr (by rfl) (a_cons (v_ix ix_lt ix_p (v_var (pv 1)) (v_callD g__law_take hr (by rfl) (a_cons (v_var (pv 0)) (a_cons v_int a_nil))) (fun _ _ => rfl)) (a_cons (v_ix ix_lt ix_p (v_lst (a_cons v_int (a_cons v_int (a_cons v_int (a_cons v_int (a_cons v_int (a_cons v_int (a_cons v_int (a_cons (v_op op_pow pow_p v_int v_int) a_nil))))))))) (v_callD g__law_take hr (by rfl) (a_cons (v_var (pv 0)) (a_cons v_int a_nil))) (fun _ _ => rfl)) a_nil))))))
abbrev s__law_together : Stmt := topS 17
theorem sc__law_together : FnScope ["one", "other", "third", "found"] ["one", "other", "third"] (defScope s__law_together) := ⟨rfl, rfl, rfl, by decide +kernel, rfl, by decide +kernel, by decide +kernel⟩
def F__law_together : DF := fDef 3 4 ((fSeq (fSet 3 (fLst (fCons (fOp dEq (fCall 2 F_plus (fCons (fCall 2 F_plus (fCons (fVar 0) (fCons (fVar 1) fNil))) (fCons (fVar 2) fNil))) (fCall 2 F_plus (fCons (fVar 2) (fCons (fCall 2 F_plus (fCons (fVar 1) (fCons (fVar 0) fNil))) fNil)))) fNil)))
  (fSeq (fSet 3 (fOp dAdd (fVar 3) (fLst (fCons (fOp dEq (fCall 2 F_times (fCons (fCall 2 F_times (fCons (fVar 0) (fCons (fVar 1) fNil))) (fCons (fVar 2) fNil))) (fCall 2 F_times (fCons (fVar 2) (fCons (fCall 2 F_times (fCons (fVar 1) (fCons (fVar 0) fNil))) fNil)))) fNil))))
  (fSeq (fSet 3 (fOp dAdd (fVar 3) (fLst (fCons (fOp dEq (fCall 2 F_times (fCons (fVar 0) (fCons (fCall 2 F_plus (fCons (fVar 1) (fCons (fVar 2) fNil))) fNil))) (fCall 2 F_plus (fCons (fCall 2 F_times (fCons (fVar 0) (fCons (fVar 1) fNil))) (fCons (fCall 2 F_times (fCons (fVar 0) (fCons (fVar 2) fNil))) fNil)))) fNil))))
  (fSeq (fSet 3 (fOp dAdd (fVar 3) (fLst (fCons (fOp dEq (fCall 2 F_minus (fCons (fCall 2 F_plus (fCons (fVar 0) (fCons (fVar 1) fNil))) (fCons (fVar 1) fNil))) (fVar 0)) (fCons (fOp dEq (fCall 2 F_plus (fCons (fCall 2 F_minus (fCons (fVar 0) (fCons (fVar 1) fNil))) (fCons (fVar 1) fNil))) (fVar 0)) fNil)))))
  (fSeq (fSet 3 (fOp dAdd (fVar 3) (fLst (fCons (fOp dEq (fCall 2 F_minus (fCons (fVar 0) (fCons (fVar 0) fNil))) (fTup (fCons (fC (.int 0)) (fCons (fC (.int 1)) fNil)))) (fCons (fOp dEq (fCall 2 F_times (fCons (fVar 0) (fCons (fTup (fCons (fC (.int 1)) (fCons (fC (.int 1)) fNil))) fNil))) (fVar 0)) (fCons (fOp dEq (fCall 2 F_plus (fCons (fVar 0) (fCons (fTup (fCons (fC (.int 0)) (fCons (fC (.int 1)) fNil))) fNil))) (fVar 0)) fNil))))))
  (fSeq (fIfS (tV (fOp dNe (fVar 1) (fTup (fCons (fC (.int 0)) (fCons (fC (.int 1)) fNil)))))
  (fSet 3 (fOp dAdd (fVar 3) (fLst (fCons (fOp dEq (fCall 2 F_over (fCons (fCall 2 F_times (fCons (fVar 0) (fCons (fVar 1) fNil))) (fCons (fVar 1) fNil))) (fVar 0)) (fCons (fOp dEq (fCall 2 F_times (fCons (fCall 2 F_over (fCons (fVar 0) (fCons (fVar 1) fNil))) (fCons (fVar 1) fNil))) (fVar 0)) fNil)))))
  fPass)
  (fRet (fVar 3)))))))))
theorem d__law_together (B : Bi mg) (g_plus : Df P w K mg base 3 "plus" 2 F_plus) (g_times : Df P w K mg base 3 "times" 2 F_times) (g_minus : Df P w K mg base 3 "minus" 2 F_minus) (g_over : Df P w K mg base 3 "over" 2 F_over) {f : Addr} {fd : FuncData} (F : L2.Fun K "_law_together" "_law_together" s__law_together f fd) (hm : mg "_law_together" = some (.ref f)) (bi : Binds K fd ["one", "other", "third"] []) : Df P w K mg base 4 "_law_together" 3 F__law_together := by
  refine df_ok F hm bi sc__law_together rfl rfl fun cdv A outer s H E hr => ?_
  exact (ss_cons (s_set (i := 3) sc__law_together.nd rfl (.inl rfl) (v_lst (a_cons (v_cmp (op_eqD hr.units) eq_p (v_callD g_plus hr (by rfl) (a_cons (v_callD g_plus hr (by rfl) (a_cons (v_var (pv 0)) (a_cons (v_var (pv 1)) a_nil))) (a_cons (v_var (pv 2)) a_nil))) (v_callD g_plus hr (by rfl) (a_cons (v_var (pv 2)) (a_cons (v_callD g_plus hr (by rfl) (a_cons (v_var (pv 1)) (a_cons (v_var (pv 0)) a_nil))) a_nil))) (nomark _)) a_nil)))
  (ss_cons (s_set (i := 3) sc__law_together.nd rfl (.inl rfl) (v_op op_addA add_p (v_var (pv 3)) (v_lst (a_cons (v_cmp (op_eqD hr.units) eq_p (v_callD g_times hr (by rfl) (a_cons (v_callD g_times hr (by rfl) (a_cons (v_var (pv 0)) (a_cons (v_var (pv 1)) a_nil))) (a_cons (v_var (pv 2)) a_nil))) (v_callD g_times hr (by rfl) (a_cons (v_var (pv 2)) (a_cons (v_callD g_times hr (by rfl) (a_cons (v_var (pv 1)) (a_cons (v_var (pv 0)) a_nil))) a_nil))) (nomark _)) a_nil))))
  (ss_cons (s_set (i := 3) sc__law_together.nd rfl (.inl rfl) (v_op op_addA add_p (v_var (pv 3)) (v_lst (a_cons (v_cmp (op_eqD hr.units) eq_p (v_callD g_times hr (by rfl) (a_cons (v_var (pv 0)) (a_cons (v_callD g_plus hr (by rfl) (a_cons (v_var (pv 1)) (a_cons (v_var (pv 2)) a_nil))) a_nil))) (v_callD g_plus hr (by rfl) (a_cons (v_callD g_times hr (by rfl) (a_cons (v_var (pv 0)) (a_cons (v_var (pv 1)) a_nil))) (a_cons (v_callD g_times hr (by rfl) (a_cons (v_var (pv 0)) (a_cons (v_var (pv 2)) a_nil))) a_nil))) (nomark _)) a_nil))))
  (ss_cons (s_set (i := 3) sc__law_together.nd rfl (.inl rfl) (v_op op_addA add_p (v_var (pv 3)) (v_lst (a_cons (v_cmp (op_eqD hr.units) eq_p (v_callD g_minus hr (by rfl) (a_cons (v_callD g_plus hr (by rfl) (a_cons (v_var (pv 0)) (a_cons (v_var (pv 1)) a_nil))) (a_cons (v_var (pv 1)) a_nil))) (v_var (pv 0)) (nomark _)) (a_cons (v_cmp (op_eqD hr.units) eq_p (v_callD g_plus hr (by rfl) (a_cons (v_callD g_minus hr (by rfl) (a_cons (v_var (pv 0)) (a_cons (v_var (pv 1)) a_nil))) (a_cons (v_var (pv 1)) a_nil))) (v_var (pv 0)) (nomark _)) a_nil)))))
  (ss_cons (s_set (i := 3) sc__law_together.nd rfl (.inl rfl) (v_op op_addA add_p (v_var (pv 3)) (v_lst (a_cons (v_cmp (op_eqD hr.units) eq_p (v_callD g_minus hr (by rfl) (a_cons (v_var (pv 0)) (a_cons (v_var (pv 0)) a_nil))) (v_tup (a_cons v_int (a_cons v_int a_nil))) (nomark _)) (a_cons (v_cmp (op_eqD hr.units) eq_p (v_callD g_times hr (by rfl) (a_cons (v_var (pv 0)) (a_cons (v_tup (a_cons v_int (a_cons v_int a_nil))) a_nil))) (v_var (pv 0)) (nomark _)) (a_cons (v_cmp (op_eqD hr.units) eq_p (v_callD g_plus hr (by rfl) (a_cons (v_var (pv 0)) (a_cons (v_tup (a_cons v_int (a_cons v_int a_nil))) a_nil))) (v_var (pv 0)) (nomark _)) a_nil))))))
  (ss_cons (s_if (tv_cmp (op_neD hr.units) ne_p (v_var (pv 1)) (v_tup (a_cons v_int (a_cons v_int a_nil))) (nomark _))
  (ss_one (s_set (i := 3) sc__law_together.nd rfl (.inl rfl) (v_op op_addA add_p (v_var (pv 3)) (v_lst (a_cons (v_cmp (op_eqD hr.units) eq_p (v_callD g_over hr (by rfl) (a_cons (v_callD g_times hr (by rfl) (a_cons (v_var (pv 0)) (a_cons (v_var (pv 1)) a_nil))) (a_cons (v_var (pv 1)) a_nil))) (v_var (pv 0)) (nomark _)) (a_cons (v_cmp (op_eqD hr.units) eq_p (v_callD g_times hr (by rfl) (a_cons (v_callD g_over hr (by rfl) (a_cons (v_var (pv 0)) (a_cons (v_var (pv 1)) a_nil))) (a_cons (v_var (pv 1)) a_nil))) (v_var (pv 0)) (nomark _)) a_nil))))))
  ss_nil)
  (ss_one (s_ret (v_var (pv 3))))))))))
abbrev s__law_in_order : Stmt := topS 18
theorem sc__law_in_order : FnScope ["one", "other", "third", "found"] ["one", "other", "third"] (defScope s__law_in_order) := ⟨rfl, rfl, rfl, by decide +kernel, rfl, by decide +kernel, by decide +kernel⟩
def F__law_in_order : DF := fDef 3 4 ((fSeq (fSet 3 (fLstC (fCons (fOp dEq (fMtL mCount (fLst (fCons (fCall 2 F_is_less (fCons (fVar 0) (fCons (fVar 1) fNil))) (fCons (fCall 2 F_is_less (fCons (fVar 1) (fCons (fVar 0) fNil))) (fCons (fOp dEq (fVar 0) (fVar 1)) fNil)))) (fCons (fC (.bl true)) fNil)) (fC (.int 1))) fNil)))
  (fSeq (fSet 3 (fCatC (fVar 3) (fLst (fCons (fOp dEq (fCa bSortP (fCons (fLst (fCons (fCall 2 F_least (fCons (fVar 0) (fCons (fVar 1) fNil))) (fCons (fCall 2 F_most (fCons (fVar 0) (fCons (fVar 1) fNil))) fNil))) fNil)) (fCa bSortP (fCons (fLst (fCons (fVar 0) (fCons (fVar 1) fNil))) fNil))) fNil))))
  (fSeq (fSet 3 (fCatC (fVar 3) (fLst (fCons (fNot (fCall 2 F_is_less (fCons (fCall 2 F_most (fCons (fVar 0) (fCons (fVar 1) fNil))) (fCons (fCall 2 F_least (fCons (fVar 0) (fCons (fVar 1) fNil))) fNil)))) fNil))))
  (fSeq (fSet 3 (fCatC (fVar 3) (fLst (fCons (fOp dEq (fCall 2 F_is_less (fCons (fCall 2 F_plus (fCons (fVar 0) (fCons (fVar 2) fNil))) (fCons (fCall 2 F_plus (fCons (fVar 1) (fCons (fVar 2) fNil))) fNil))) (fCall 2 F_is_less (fCons (fVar 0) (fCons (fVar 1) fNil)))) fNil))))
  (fSeq (fIfS (tV (fCall 2 F_is_less (fCons (fTup (fCons (fC (.int 0)) (fCons (fC (.int 1)) fNil))) (fCons (fVar 2) fNil))))
  (fSet 3 (fCatC (fVar 3) (fLst (fCons (fOp dEq (fCall 2 F_is_less (fCons (fCall 2 F_times (fCons (fVar 0) (fCons (fVar 2) fNil))) (fCons (fCall 2 F_times (fCons (fVar 1) (fCons (fVar 2) fNil))) fNil))) (fCall 2 F_is_less (fCons (fVar 0) (fCons (fVar 1) fNil)))) fNil))))
  fPass)
  (fSeq (fIfS (tAnd2 (tV (fCall 2 F_is_less (fCons (fVar 0) (fCons (fVar 1) fNil)))) (tV (fCall 2 F_is_less (fCons (fVar 1) (fCons (fVar 2) fNil)))))
  (fExpr (fMtC "list" mAppend (fVar 3) (fCons (fCall 2 F_is_less (fCons (fVar 0) (fCons (fVar 2) fNil))) fNil)))
  fPass)
  (fRet (fVar 3)))))))))
theorem d__law_in_order (B : Bi mg) (g_is_less : Df P w K mg base 1 "is_less" 2 F_is_less) (g_most : Df P w K mg base 2 "most" 2 F_most) (g_least : Df P w K mg base 2 "least" 2 F_least) (g_plus : Df P w K mg base 3 "plus" 2 F_plus) (g_times : Df P w K mg base 3 "times" 2 F_times) {f : Addr} {fd : FuncData} (F : L2.Fun K "_law_in_order" "_law_in_order" s__law_in_order f fd) (hm : mg "_law_in_order" = some (.ref f)) (bi : Binds K fd ["one", "other", "third"] []) : Df P w K mg base 4 "_law_in_order" 3 F__law_in_order := by
  refine df_ok F hm bi sc__law_in_order rfl rfl fun cdv A outer s H E hr => ?_
  exact (ss_cons (s_set (i := 3) sc__law_in_order.nd rfl (.inl rfl) (v_lstC (a_cons (v_cmp (op_eqD hr.units) eq_p (v_mtL count_p (pe_bm PySem.F.plainAttrs_list PySem.F.slot_list_count PySem.F.type_list_count mt_countV (v_lst (a_cons (v_callD g_is_less (hr.mono (by decide)) (by rfl) (a_cons (v_var (pv 0)) (a_cons (v_var (pv 1)) a_nil))) (a_cons (v_callD g_is_less (hr.mono (by decide)) (by rfl) (a_cons (v_var (pv 1)) (a_cons (v_var (pv 0)) a_nil))) (a_cons (v_cmp (op_eqD hr.units) eq_p (v_var (pv 0)) (v_var (pv 1)) (nomark _)) a_nil)))) (a_cons v_bl a_nil))) v_int (nomark _)) a_nil)))
  (ss_cons (s_set (i := 3) sc__law_in_order.nd rfl (.inl rfl) (v_catC (v_var (pv 3)) (v_lst (a_cons (v_cmp (op_eqD hr.units) eq_p (v_callB cr_sortedPO sortP_p (by rfl) B.sorted (by decide +kernel) (a_cons (v_lst (a_cons (v_callD g_least (hr.mono (by decide)) (by rfl) (a_cons (v_var (pv 0)) (a_cons (v_var (pv 1)) a_nil))) (a_cons (v_callD g_most (hr.mono (by decide)) (by rfl) (a_cons (v_var (pv 0)) (a_cons (v_var (pv 1)) a_nil))) a_nil))) a_nil)) (v_callB cr_sortedPO sortP_p (by rfl) B.sorted (by decide +kernel) (a_cons (v_lst (a_cons (v_var (pv 0)) (a_cons (v_var (pv 1)) a_nil))) a_nil)) (nomark _)) a_nil))))
  (ss_cons (s_set (i := 3) sc__law_in_order.nd rfl (.inl rfl) (v_catC (v_var (pv 3)) (v_lst (a_cons (v_not (v_callD g_is_less (hr.mono (by decide)) (by rfl) (a_cons (v_callD g_most (hr.mono (by decide)) (by rfl) (a_cons (v_var (pv 0)) (a_cons (v_var (pv 1)) a_nil))) (a_cons (v_callD g_least (hr.mono (by decide)) (by rfl) (a_cons (v_var (pv 0)) (a_cons (v_var (pv 1)) a_nil))) a_nil)))) a_nil))))
  (ss_cons (s_set (i := 3) sc__law_in_order.nd rfl (.inl rfl) (v_catC (v_var (pv 3)) (v_lst (a_cons (v_cmp (op_eqD hr.units) eq_p (v_callD g_is_less (hr.mono (by decide)) (by rfl) (a_cons (v_callD g_plus hr (by rfl) (a_cons (v_var (pv 0)) (a_cons (v_var (pv 2)) a_nil))) (a_cons (v_callD g_plus hr (by rfl) (a_cons (v_var (pv 1)) (a_cons (v_var (pv 2)) a_nil))) a_nil))) (v_callD g_is_less (hr.mono (by decide)) (by rfl) (a_cons (v_var (pv 0)) (a_cons (v_var (pv 1)) a_nil))) (nomark _)) a_nil))))
  (ss_cons (s_if (tv_val (v_callD g_is_less (hr.mono (by decide)) (by rfl) (a_cons (v_tup (a_cons v_int (a_cons v_int a_nil))) (a_cons (v_var (pv 2)) a_nil))))
  (ss_one (s_set (i := 3) sc__law_in_order.nd rfl (.inl rfl) (v_catC (v_var (pv 3)) (v_lst (a_cons (v_cmp (op_eqD hr.units) eq_p (v_callD g_is_less (hr.mono (by decide)) (by rfl) (a_cons (v_callD g_times hr (by rfl) (a_cons (v_var (pv 0)) (a_cons (v_var (pv 2)) a_nil))) (a_cons (v_callD g_times hr (by rfl) (a_cons (v_var (pv 1)) (a_cons (v_var (pv 2)) a_nil))) a_nil))) (v_callD g_is_less (hr.mono (by decide)) (by rfl) (a_cons (v_var (pv 0)) (a_cons (v_var (pv 1)) a_nil))) (nomark _)) a_nil)))))
  ss_nil)
  (ss_cons (s_if (PW.pt (tw_and (tv_val (v_callD g_is_less (hr.mono (by decide)) (by rfl) (a_cons (v_var (pv 0)) (a_cons (v_var (pv 1)) a_nil)))) (tw_and1 (tv_val (v_callD g_is_less (hr.mono (by decide)) (by rfl) (a_cons (v_var (pv 1)) (a_cons (v_var (pv 2)) a_nil)))))))
  (ss_one (s_expr (v_mtC append_p (pe_bm PySem.F.plainAttrs_list PySem.F.slot_list_append PySem.F.type_list_append mt_append (v_var (pv 3)) (a_cons (v_callD g_is_less (hr.mono (by decide)) (by rfl) (a_cons (v_var (pv 0)) (a_cons (v_var (pv 2)) a_nil))) a_nil)))))
  ss_nil)
  (ss_one (s_ret (v_var (pv 3))))))))))
abbrev s_law : Stmt := topS 19
theorem sc_law : FnScope ["script", "k", "pool", "some", "turn", "one", "other", "third", "told"] ["script"] (defScope s_law) := ⟨rfl, rfl, rfl, by decide +kernel, rfl, by decide +kernel, by decide +kernel⟩
def F_law : DF := fDef 1 9 ((fSeq (fFor (iRg1 (fCons (fCa bMax2 (fCons (fC (.int 1)) (fCons (fCa bMin2 (fCons (fCa bLen (fCons (fVar 0) fNil)) (fCons (fC (.int 30)) fNil))) fNil))) fNil)) (gNm 1)
  (fSeq (fSet 2 (fCall 2 F__law_pool (fCons (fVar 0) (fCons (fVar 1) fNil))))
  (fSeq (fSet 3 (fLc (iRg1 (fCons (fC (.int 3)) fNil)) (gNm 4) tYes1 (fCall 1 F__law_number (fCons (fVar 2) fNil)) [4]))
  (fSeq (fFor (iLst (fLst (fCons (fVar 3) (fCons (fRev (fVar 3)) (fCons (fLst (fCons (fOp dIx (fVar 3) (fC (.int 1))) (fCons (fOp dIx (fVar 3) (fC (.int 2))) (fCons (fOp dIx (fVar 3) (fC (.int 0))) fNil)))) (fCons (fLst (fCons (fOp dIx (fVar 3) (fC (.int 0))) (fCons (fOp dIx (fVar 3) (fC (.int 0))) (fCons (fOp dIx (fVar 3) (fC (.int 1))) fNil)))) fNil)))))) (gLs 3 (gsCons (gNm 5) (gsCons (gNm 6) (gsCons (gNm 7) gsNil))))
  (fSeq (fIfS (tV (fOp (dIn false) (fC (.bl false)) (fOp dAdd (fCall 3 F__law_together (fCons (fVar 5) (fCons (fVar 6) (fCons (fVar 7) fNil)))) (fCall 3 F__law_in_order (fCons (fVar 5) (fCons (fVar 6) (fCons (fVar 7) fNil)))))))
  (fRet (fC (.bl false)))
  fPass)
  (fFor (iLst (fLst (fCons (fCall 2 F_plus (fCons (fVar 5) (fCons (fVar 6) fNil))) (fCons (fCall 2 F_minus (fCons (fVar 5) (fCons (fVar 6) fNil))) (fCons (fCall 2 F_times (fCons (fVar 5) (fCons (fVar 6) fNil))) (fCons (fCall 2 F_least (fCons (fVar 5) (fCons (fVar 6) fNil))) fNil)))))) (gNm 8)
  (fIfS (tNot1 (tV (fCall 1 F_is_number (fCons (fVar 8) fNil))))
  (fRet (fC (.bl false)))
  fPass))))
  (fIfS (tV (fOp dNotN (fCall 2 F_over (fCons (fOp dIx (fVar 3) (fC (.int 0))) (fCons (fTup (fCons (fC (.int 0)) (fCons (fC (.int 1)) fNil))) fNil))) (fC .non)))
  (fRet (fC (.bl false)))
  fPass)))))
  (fRet (fC (.bl true)))))
theorem ok_law (B : Bi mg) (g__law_pool : Df P w K mg base 1 "_law_pool" 2 F__law_pool) (g__law_number : Df P w K mg base 2 "_law_number" 1 F__law_number) (g__law_together : Df P w K mg base 4 "_law_together" 3 F__law_together) (g__law_in_order : Df P w K mg base 4 "_law_in_order" 3 F__law_in_order) (g_least : Df P w K mg base 2 "least" 2 F_least) (g_times : Df P w K mg base 3 "times" 2 F_times) (g_minus : Df P w K mg base 3 "minus" 2 F_minus) (g_plus : Df P w K mg base 3 "plus" 2 F_plus) (g_is_number : Df P w K mg base 2 "is_number" 1 F_is_number) (g_over : Df P w K mg base 3 "over" 2 F_over) {f : Addr} {fd : FuncData} (F : L2.Fun K "law" "law" s_law f fd) : FnOk P w K mg base CX0 5 f fd ["script"] (spF K 1 F_law) := by
  refine fn_ok F sc_law fun cdv A outer s H E hr => ?_
  exact (ss_cons (s_for PassesOwn.never rfl (i_rng1 (by rfl) B.range (a_cons (v_callB (call_max2 rfl) max2_p (by rfl) B.max (by decide +kernel) (a_cons v_int (a_cons (v_callB (call_min2 rfl) min2_p (by rfl) B.min (by decide +kernel) (a_cons (v_callB call_len_seq len_p (by rfl) B.len (by decide +kernel) (a_cons (v_var (pv 0)) a_nil)) (a_cons v_int a_nil))) a_nil))) a_nil)) (g_name (i := 1) sc_law.nd rfl (.inl rfl))
  (ss_cons (s_set (i := 2) sc_law.nd rfl (.inr rfl) (v_callD g__law_pool (hr.mono (by decide)) (by rfl) (a_cons (v_var (pv 0)) (a_cons (v_var (pv 1)) a_nil))))
  (ss_cons (s_setLc (i := 3) (own := [("turn", 4)]) (t := L2.gName 4) rfl sc_law.nd rfl rfl (sw_true rfl rfl rfl (by decide +kernel)) (i_rng1 (by rfl) B.range (a_cons v_int a_nil)) (blkOk_by (N := ["script", "k", "pool", "some", "turn", "one", "other", "third", "told"]) (sc := defScope s_law) (by decide +kernel)) (fun _ _ _ _ _ => (pg_name (i := 4) sc_law.nd rfl (Or.inl rfl))) (own_name (by decide)) (fun _ _ _ _ _ => pts0) (fun _ _ _ _ _ => (v_callD g__law_number (hr.mono (by decide)) (by rfl) (a_cons (v_var (pv 2)) a_nil))))
  (ss_cons (s_for PassesOwn.never rfl (i_list (v_lst (a_cons (v_var (pv 3)) (a_cons (v_rev (v_var (pv 3))) (a_cons (v_lst (a_cons (v_ix ix_lt ix_p (v_var (pv 3)) v_int (fun _ _ => rfl)) (a_cons (v_ix ix_lt ix_p (v_var (pv 3)) v_int (fun _ _ => rfl)) (a_cons (v_ix ix_lt ix_p (v_var (pv 3)) v_int (fun _ _ => rfl)) a_nil)))) (a_cons (v_lst (a_cons (v_ix ix_lt ix_p (v_var (pv 3)) v_int (fun _ _ => rfl)) (a_cons (v_ix ix_lt ix_p (v_var (pv 3)) v_int (fun _ _ => rfl)) (a_cons (v_ix ix_lt ix_p (v_var (pv 3)) v_int (fun _ _ => rfl)) a_nil)))) a_nil)))))) (g_lstR rfl (gs_consR (g_name (i := 5) sc_law.nd rfl (.inl rfl)) (gs_consR (g_name (i := 6) sc_law.nd rfl (.inl rfl)) (gs_consR (g_name (i := 7) sc_law.nd rfl (.inl rfl)) gs_nil))))
  (ss_cons (s_if (tv_cmp op_in_seq in_p v_bl (v_op op_addA add_p (v_callD g__law_together hr (by rfl) (a_cons (v_var (pv 5)) (a_cons (v_var (pv 6)) (a_cons (v_var (pv 7)) a_nil)))) (v_callD g__law_in_order hr (by rfl) (a_cons (v_var (pv 5)) (a_cons (v_var (pv 6)) (a_cons (v_var (pv 7)) a_nil))))) rfl)
  (ss_one (s_ret v_bl))
  ss_nil)
  (ss_one (s_for PassesOwn.never rfl (i_list (v_lst (a_cons (v_callD g_plus (hr.mono (by decide)) (by rfl) (a_cons (v_var (pv 5)) (a_cons (v_var (pv 6)) a_nil))) (a_cons (v_callD g_minus (hr.mono (by decide)) (by rfl) (a_cons (v_var (pv 5)) (a_cons (v_var (pv 6)) a_nil))) (a_cons (v_callD g_times (hr.mono (by decide)) (by rfl) (a_cons (v_var (pv 5)) (a_cons (v_var (pv 6)) a_nil))) (a_cons (v_callD g_least (hr.mono (by decide)) (by rfl) (a_cons (v_var (pv 5)) (a_cons (v_var (pv 6)) a_nil))) a_nil)))))) (g_name (i := 8) sc_law.nd rfl (.inl rfl))
  (ss_one (s_if (tv_not (tv_val (v_callD g_is_number (hr.mono (by decide)) (by rfl) (a_cons (v_var (pv 8)) a_nil))))
  (ss_one (s_ret v_bl))
  ss_nil))))))
  (ss_one (s_if (tv_cmp op_notN notN_p (v_callD g_over (hr.mono (by decide)) (by rfl) (a_cons (v_ix ix_lt ix_p (v_var (pv 3)) v_int (fun _ _ => rfl)) (a_cons (v_tup (a_cons v_int (a_cons v_int a_nil))) a_nil))) v_non (nomark _))
  (ss_one (s_ret v_bl))
  ss_nil))))))
  (ss_one (s_ret v_bl)))
end
end L_k06
namespace L_k06
open PySem PySem.Spec PyProof.Rows L2 Fx
/-! ### the numbers' defs, worked out -/
theorem gcd_eq (a b : Int) (st : Sto) : F_divisor_of [.int a, .int b] st = some (.ok (.int (Int.gcd a b : Nat)) st) := by
  obtain ⟨c, h1, h2⟩ := gcd_loop a b (b.natAbs + 1) st (by omega)
  unfold F_divisor_of
  rw [ap_def]
  simp [fuelGcd, h1, bAbs, ← h2]
  omega
theorem lowest_eq (t b : Int) (st : Sto) (hb : b ≠ 0) (hl : b.natAbs.log2 < 8500) : F_lowest [.int t, .int b] st = some (.ok (rD (Rat.divInt t b)) st) := by
  obtain ⟨g1, g2⟩ := gcd_ok (t := t) hb hl
  unfold F_lowest
  rw [ap_def]
  by_cases h : 0 < b
  · obtain ⟨e1, e2⟩ := low_pos t b h
    simp [gcd_eq, dCmp, h, dDiv_ok g1 g2, e1, e2, rD]
  · obtain ⟨e1, e2⟩ := low_neg t b (by omega)
    have g3 : -((Int.gcd t b : Nat) : Int) ≠ 0 := by omega
    have g4 : (-((Int.gcd t b : Nat) : Int)).natAbs.log2 < 9000 := by rw [Int.natAbs_neg]; exact g2
    simp [gcd_eq, dCmp, h, dDiv_ok g3 g4, dNeg, e1, e2, rD]
theorem plus_eq (p q : Rat) (st : Sto) (hp : Rs p) (hq : Rs q) : F_plus [rD p, rD q] st = some (.ok (rD (p + q)) st) := by
  unfold F_plus
  rw [ap_def]
  simp [ix_rD0, ix_rD1, dMul_ok hp.sz.1 hq.sz.2, dMul_ok hq.sz.1 hp.sz.2, dMul_ok hp.sz.2 hq.sz.2, dAdd, lowest_eq _ _ _ (den_mul_ne p q) (hp.dd hq), add_eq]
theorem minus_eq (p q : Rat) (st : Sto) (hp : Rs p) (hq : Rs q) : F_minus [rD p, rD q] st = some (.ok (rD (p - q)) st) := by
  unfold F_minus
  rw [ap_def]
  simp [ix_rD0, ix_rD1, dMul_ok hp.sz.1 hq.sz.2, dMul_ok hq.sz.1 hp.sz.2, dMul_ok hp.sz.2 hq.sz.2, dSub, lowest_eq _ _ _ (den_mul_ne p q) (hp.dd hq), sub_eq]
theorem times_eq (p q : Rat) (st : Sto) (hp : Rs p) (hq : Rs q) : F_times [rD p, rD q] st = some (.ok (rD (p * q)) st) := by
  unfold F_times
  rw [ap_def]
  simp [ix_rD0, ix_rD1, dMul_ok hp.sz.1 hq.sz.1, dMul_ok hp.sz.2 hq.sz.2, lowest_eq _ _ _ (den_mul_ne p q) (hp.dd hq), mul_eq]
theorem over_eq (p q : Rat) (st : Sto) (hp : Rs p) (hq : Rs q) : F_over [rD p, rD q] st = some (.ok (if q = 0 then .non else rD (p / q)) st) := by
  unfold F_over
  rw [ap_def]
  by_cases h : q = 0
  · subst h
    simp [ix_rD0, ix_rD1]
  · have hn : q.num ≠ 0 := fun e => h (Rat.num_eq_zero.mp e)
    have h1 : (p.den : Int) * q.num ≠ 0 := Int.mul_ne_zero (by have := rat_den_pos p; omega) hn
    simp [ix_rD0, ix_rD1, dMul_ok hp.sz.1 hq.sz.2, dMul_ok hp.sz.2 hq.sz.1, lowest_eq _ _ _ h1 (hp.dn hq), div_eq, h]
theorem less_eq (p q : Rat) (st : Sto) (hp : Rs p) (hq : Rs q) : F_is_less [rD p, rD q] st = some (.ok (.bl (decide (p < q))) st) := by
  unfold F_is_less
  rw [ap_def]
  simp [ix_rD0, ix_rD1, dMul_ok hp.sz.1 hq.sz.2, dMul_ok hq.sz.1 hp.sz.2, dCmp, Rat.lt_iff]
theorem least_eq (p q : Rat) (st : Sto) (hp : Rs p) (hq : Rs q) : F_least [rD p, rD q] st = some (.ok (rD (if q < p then q else p)) st) := by
  unfold F_least
  rw [ap_def]
  by_cases h : q < p <;> simp [less_eq _ _ _ hq hp, h]
theorem most_eq (p q : Rat) (st : Sto) (hp : Rs p) (hq : Rs q) : F_most [rD p, rD q] st = some (.ok (rD (if p < q then q else p)) st) := by
  unfold F_most
  rw [ap_def]
  by_cases h : p < q <;> simp [less_eq _ _ _ hp hq, h]
/-! ### draws -/
/-- a pool's cell -/
def Pl (c : Cell) : Prop := ∃ a b : Int, c = .lst [.int a, .int b] ∧ 0 ≤ a ∧ 0 ≤ b ∧ b < 2147483647
theorem sz_small {i : Int} (h : i.natAbs < 2 ^ 200) : Sz i := Sz.of h (by decide) (by decide)
theorem sz_b {i : Int} (h0 : 0 ≤ i) (h : i < 2 ^ 100) : Sz i := sz_small (by
  have : (2 : Nat) ^ 100 < 2 ^ 200 := by decide
  omega)
theorem take_eq (n : Nat) (m : Int) (st : Sto) (c : Cell) (hm : 0 < m) (hm2 : m < 1000) (hc : st[n]? = some c) (hp : Pl c) :
    ∃ (v : Int) (c2 : Cell), 0 ≤ v ∧ v < m ∧ Pl c2 ∧ F__law_take [.ref n, .int m] st = some (.ok (.int v) (st.set n c2)) := by
  obtain ⟨a, b, rfl, ha, hb, hb2⟩ := hp
  have hs : ∀ c, (st.set n c)[n]? = some c := fun c => List.getElem?_set_self (List.getElem?_eq_some_iff.mp hc).1
  have hm0 : m ≠ 0 := by omega
  have hml : m.natAbs.log2 < 9000 := Nat.lt_of_lt_of_le (log2_lt (n := 10) (by omega) (by decide)) (by decide)
  by_cases h : 0 < a
  · refine ⟨a.fmod m, .lst [.int (a.fdiv m), .int b], Int.fmod_nonneg_of_pos a hm, Int.fmod_lt_of_pos a hm, ⟨_, _, rfl, ?_, hb, hb2⟩, ?_⟩
    · rw [Int.fdiv_eq_ediv_of_nonneg _ (by omega)]
      exact Int.ediv_nonneg (by omega) (by omega)
    · unfold F__law_take
      rw [ap_def]
      simp [dIx, seqLT, seqT, seqS, hc, atI, ixN, dCmp, h, dMod, hm0, dDiv_ok hm0 hml]
  · have a0 : a = 0 := by omega
    subst a0
    have e1 : (0 : Int) < 2147483647 := by decide
    have b1 := Int.fmod_nonneg_of_pos (b * 48271 + 11) e1
    have b2 := Int.fmod_lt_of_pos (b * 48271 + 11) e1
    generalize hw : (b * 48271 + 11).fmod 2147483647 = w at b1 b2
    refine ⟨((((w * w).fmod 2147483629).fdiv 16).fmod m), .lst [.int 0, .int w], Int.fmod_nonneg_of_pos _ hm, Int.fmod_lt_of_pos _ hm, ⟨_, _, rfl, Int.le_refl _, b1, b2⟩, ?_⟩
    unfold F__law_take
    rw [ap_def]
    have z1 : Sz b := sz_b hb (by omega)
    have z2 : Sz 48271 := sz_b (by decide) (by decide)
    have z3 : Sz w := sz_b b1 (by omega)
    have h16 : (16 : Int).natAbs.log2 < 9000 := by decide
    simp [dIx, seqLT, seqT, seqS, hc, atI, ixN, dCmp, dMod, hm0, dAdd, hs, dMul_ok z1 z2, hw, dMul_ok z3 z3, dDiv_ok (show (16 : Int) ≠ 0 by decide) h16]
theorem natAbs_sum {n : Nat} : ∀ {ns : List Int}, (∀ z ∈ ns, z.natAbs < 2 ^ n) → ns.sum.natAbs ≤ ns.length * 2 ^ n
  | [], _ => by simp
  | z :: ns, h => by
    have h1 := h z List.mem_cons_self
    have h2 := natAbs_sum (ns := ns) fun y m => h y (List.mem_cons_of_mem _ m)
    rw [List.sum_cons, List.length_cons, Nat.add_mul, Nat.one_mul]
    omega
theorem cut63 {xs : List D} (h : xs.length ≤ 63) : Fx.cutD xs none (some 63) = xs := by
  unfold Fx.cutD
  have e1 : HT.sIx xs.length 0 none = 0 := HT.sIx_none ..
  have e2 : HT.sIx xs.length xs.length (some 63) = min 63 xs.length := HT.sIx_nat xs.length xs.length 63
  rw [e1, e2, List.drop_zero, Nat.sub_zero]
  exact List.take_of_length_le (by omega)
theorem bits_lt {z : Int} (h : Builtin.Int.intBits z ≤ 1048576) : z.natAbs.log2 < 1048576 ∨ z = 0 := by
  unfold Builtin.Int.intBits at h
  split at h
  · rename_i h0
    right
    simpa using h0
  · left; omega
theorem pool_eq (N : Nat) (hN : N ≤ 1048577) (ns : List Int) (k : Nat) (st : Sto) (hl : ns.length ≤ 63) (hb : ∀ z ∈ ns, z.natAbs < 2 ^ N) (hk : k < 63) :
    ∃ c, Pl c ∧ F__law_pool [.frz (ns.map D.int), .int k] st = some (.ok (.ref st.length) (st ++ [c])) := by
  have hs := natAbs_sum hb
  have hs2 : ns.sum.natAbs < 2 ^ (N + 6) := by
    rw [Nat.pow_add]
    have : 0 < 2 ^ N := Nat.pow_pos (by decide)
    have h64 : (2 : Nat) ^ 6 = 64 := by decide
    rw [h64, Nat.mul_comm _ 64]
    exact Nat.lt_of_le_of_lt hs (Nat.mul_lt_mul_of_lt_of_le (by omega) (Nat.le_refl _) (by omega))
  have z1 : Sz ns.sum := Sz.of hs2 (by omega) (by omega)
  have z0 : Sz 11 := sz_small (by decide)
  -- the cell
  obtain ⟨cell, hcell, hce⟩ : ∃ cell : Int, cell.natAbs < 2 ^ (N + 20) ∧ (if (k : Int) < ns.length then (ns[k]?).getD 0 else 11 * ns.sum + k) = cell := by
    refine ⟨_, ?_, rfl⟩
    split
    · rename_i h
      have hk2 : k < ns.length := by omega
      rw [List.getElem?_eq_getElem hk2]
      exact Nat.lt_of_lt_of_le (hb _ (List.getElem_mem hk2)) (Nat.pow_le_pow_right (by decide) (by omega))
    · have e : (2 : Nat) ^ (N + 20) = 2 ^ (N + 6) * 2 ^ 14 := by rw [← Nat.pow_add]
      have e2 : (2 : Nat) ^ 14 = 16384 := by decide
      have : 0 < 2 ^ (N + 6) := Nat.pow_pos (by decide)
      rw [e, e2]
      omega
  have hg : (if cell < 0 then -cell else cell).natAbs = cell.natAbs := by split <;> omega
  generalize hgr : (if cell < 0 then -cell else cell) = great at hg
  have g0 : 0 ≤ great := by rw [← hgr]; split <;> omega
  have zg : Sz great := Sz.of (by rw [hg]; exact hcell) (by omega) (by omega)
  have m0 := Int.fmod_nonneg_of_pos great (show (0 : Int) < 2147483629 by decide)
  have m1 := Int.fmod_lt_of_pos great (show (0 : Int) < 2147483629 by decide)
  generalize hm : great.fmod 2147483629 = m at m0 m1
  have zk : Sz (k : Int) := sz_b (by omega) (by omega)
  have z7 : Sz 7919 := sz_small (by decide)
  have z7k : Sz (7919 * (k : Int)) := sz_b (by omega) (by omega)
  have z31 : Sz 31 := sz_small (by decide)
  have z48 : Sz 48271 := sz_small (by decide)
  have kk : 0 ≤ 7919 * (k : Int) * k ∧ 7919 * (k : Int) * k ≤ 7919 * 63 * 63 := by
    refine ⟨Int.mul_nonneg (by omega) (by omega), ?_⟩
    exact Int.mul_le_mul (by omega) (by omega) (by omega) (by omega)
  have zx : Sz (m + 7919 * (k : Int) * k + 31 * k + 17) := sz_b (by omega) (by omega)
  have w0 := Int.fmod_nonneg_of_pos ((m + 7919 * (k : Int) * k + 31 * k + 17) * 48271) (show (0 : Int) < 2147483647 by decide)
  have w1 := Int.fmod_lt_of_pos ((m + 7919 * (k : Int) * k + 31 * k + 17) * 48271) (show (0 : Int) < 2147483647 by decide)
  generalize hw : ((m + 7919 * (k : Int) * k + 31 * k + 17) * 48271).fmod 2147483647 = w at w0 w1
  have zw : Sz w := sz_b w0 (by omega)
  have u0 := Int.fmod_nonneg_of_pos (w * w) (show (0 : Int) < 2147483629 by decide)
  have u1 := Int.fmod_lt_of_pos (w * w) (show (0 : Int) < 2147483629 by decide)
  have zi : Sz (if (1000000000000000000 : Int) ≤ great then 1 else 0) := by split <;> exact sz_small (by decide)
  refine ⟨.lst [.int (great * (if (1000000000000000000 : Int) ≤ great then 1 else 0)), .int ((w * w).fmod 2147483629)], ⟨_, _, rfl, ?_, u0, by omega⟩, ?_⟩
  · split
    · omega
    · omega
  · unfold F__law_pool
    rw [ap_def]
    have hl2 : (ns.map D.int).length ≤ 63 := by simpa using hl
    by_cases h : (k : Int) < ns.length
    · have hk2 : k < ns.length := by omega
      have e1 : ns[k]? = some ns[k] := List.getElem?_eq_getElem hk2
      rw [if_pos h, e1] at hce
      have hix : dIx st (.frz (ns.map D.int)) (.int k) = some (.int cell) := by
        show atI (ns.map D.int) (k : Int) = _
        rw [show ((k : Nat) : Int) = ((k : Nat) : Int) from rfl, atI_nat (j := k) (v := D.int ns[k]) (by rw [List.getElem?_map, e1]; rfl)]
        rw [← hce]; rfl
      simp [bSum, cut63 hl2, dMul_ok z0 z1, dAdd, dCmp, bLen, h, hix, bAbs, hgr, dMod, hm, dMul_ok z7 zk, dMul_ok z7k zk, dMul_ok z31 zk, dMul_ok zx z48, hw, dPow, bInt, dMul_ok zg zi, dMul_ok zw zw]
    · rw [if_neg h] at hce
      simp [bSum, cut63 hl2, dMul_ok z0 z1, dAdd, dCmp, bLen, h, hce, bAbs, hgr, dMod, hm, dMul_ok z7 zk, dMul_ok z7k zk, dMul_ok z31 zk, dMul_ok zx z48, hw, dPow, bInt, dMul_ok zg zi, dMul_ok zw zw]
def TOPS : List D := [.int 0, .int 1, .int (-1), .int 2, .int 3, .int (-5), .int 7, .int 100000000000000000000000000000, .int (-100000000000000000000000000001)]
def BOTS : List D := [.int 1, .int 1, .int 1, .int 2, .int 3, .int 4, .int 6, .int 100000000000000000000]
/-! ### the law's own lowest terms, drawn numbers -/
theorem fdiv_sign (t : Int) (g : Int) : (-t).fdiv g = t.fdiv (-g) := by
  have := Int.neg_fdiv_neg t (-g)
  rw [Int.neg_neg] at this
  exact this
theorem abs_if (a : Int) : (if a < 0 then -a else a) = a.natAbs := by split <;> omega
theorem llow_eq (t b : Int) (st : Sto) (hb : b ≠ 0) (ht : t.natAbs.log2 < 8500) (hl : b.natAbs.log2 < 8500) : F__law_low [.int t, .int b] st = some (.ok (rD (Rat.divInt t b)) st) := by
  obtain ⟨c, h1, h2, h3⟩ := gcd_loop2 (some (.int t)) (some (.int b)) none t.natAbs b.natAbs (b.natAbs + 1) st (by omega)
  have hc : c = (Int.gcd t b : Nat) := by
    have e : Int.gcd (t.natAbs : Int) (b.natAbs : Int) = Int.gcd t b := by rw [Int.gcd_eq_natAbs_gcd_natAbs, Int.gcd_eq_natAbs_gcd_natAbs t b]; rfl
    have := h3 (by omega) (by omega)
    omega
  subst hc
  obtain ⟨g1, g2⟩ := gcd_ok (t := t) hb hl
  have z1 : Sz 1 := Sz.of (n := 10) (by decide) (by decide) (by decide)
  have zm : Sz (-1) := Sz.of (n := 10) (by decide) (by decide) (by decide)
  have zt : Sz t := Nat.lt_of_lt_of_le ht (by decide)
  have zb : Sz b := Nat.lt_of_lt_of_le hl (by decide)
  unfold F__law_low
  rw [ap_def]
  by_cases h : b < 0
  · obtain ⟨e1, e2⟩ := low_neg t b h
    simp [bAbs, abs_if, fuelGcd, h1, dNeg, bInt, dCmp, h, dIx, atI, ixN, dMul_ok zm zt, dMul_ok zm zb, dDiv_ok g1 g2, fdiv_sign, e1, e2, rD]
  · obtain ⟨e1, e2⟩ := low_pos t b (by omega)
    simp [bAbs, abs_if, fuelGcd, h1, dNeg, bInt, dCmp, h, dIx, atI, ixN, dMul_ok z1 zt, dMul_ok z1 zb, dDiv_ok g1 g2, e1, e2, rD]
theorem nth_all (Pr : D → Prop) (xs : List D) (v : Int) (h0 : 0 ≤ v) (h1 : v < xs.length) (h : ∀ x ∈ xs, Pr x) : ∃ x, atI xs v = some x ∧ Pr x := by
  obtain ⟨j, rfl⟩ : ∃ j : Nat, v = j := ⟨v.toNat, by omega⟩
  have hj : j < xs.length := by omega
  exact ⟨xs[j], atI_nat (List.getElem?_eq_getElem hj), h _ (List.getElem_mem hj)⟩
theorem number_eq (n : Nat) (st : Sto) (c : Cell) (hc : st[n]? = some c) (hp : Pl c) :
    ∃ (q : Rat) (c2 : Cell), Rz 110 q ∧ Pl c2 ∧ F__law_number [.ref n] st = some (.ok (rD q) (st.set n c2)) := by
  obtain ⟨v1, c1, a1, a2, p1, e1⟩ := take_eq n 9 st c (by decide) (by decide) hc hp
  have hc1 : (st.set n c1)[n]? = some c1 := List.getElem?_set_self (List.getElem?_eq_some_iff.mp hc).1
  obtain ⟨v2, c2, b1, b2, p2, e2⟩ := take_eq n 8 (st.set n c1) c1 (by decide) (by decide) hc1 p1
  rw [List.set_set] at e2
  obtain ⟨x, x1, t, rfl, x2⟩ := nth_all (fun d => ∃ t : Int, d = .int t ∧ t.natAbs < 2 ^ 110) TOPS v1 a1 a2 (by
    intro d m
    simp only [TOPS, List.mem_cons, List.not_mem_nil, or_false] at m
    rcases m with rfl | rfl | rfl | rfl | rfl | rfl | rfl | rfl | rfl <;> exact ⟨_, rfl, by decide⟩)
  obtain ⟨y, y1, b, rfl, y2, y3⟩ := nth_all (fun d => ∃ t : Int, d = .int t ∧ t.natAbs < 2 ^ 110 ∧ t ≠ 0) BOTS v2 b1 b2 (by
    intro d m
    simp only [BOTS, List.mem_cons, List.not_mem_nil, or_false] at m
    rcases m with rfl | rfl | rfl | rfl | rfl | rfl | rfl | rfl <;> exact ⟨_, rfl, by decide, by decide⟩)
  refine ⟨Rat.divInt t b, c2, Rz.divInt x2 y2 y3, p2, ?_⟩
  have l1 : t.natAbs.log2 < 8500 := Nat.lt_of_lt_of_le (log2_lt x2 (by decide)) (by decide)
  have l2 : b.natAbs.log2 < 8500 := Nat.lt_of_lt_of_le (log2_lt y2 (by decide)) (by decide)
  have x1' : atI TOPS v1 = some (D.int t) := x1
  have y1' : atI BOTS v2 = some (D.int b) := y1
  unfold TOPS at x1'
  unfold BOTS at y1'
  unfold F__law_number
  rw [ap_def]
  simp [dNeg, dPow, dSub, dIx, e1, e2, x1', y1', llow_eq _ _ _ y3 l1 l2]

theorem isnum_eq (q : Rat) (st : Sto) : F_is_number [rD q] st = some (.ok (.bl true) st) := by
  have hw : ∀ (i : Int) (st : Sto), F_is_whole [.int i] st = some (.ok (.bl true) st) := fun i st => by
    unfold F_is_whole
    rw [ap_def]
    simp [bIsi, tyD]
  have h1 : (1 : Int) ≤ q.den := by have := rat_den_pos q; omega
  unfold F_is_number
  rw [ap_def]
  simp [rD, bIsi, tyD, bLen, hw, bAll, dCmp, h1, gcd_eq, rat_gcd]
theorem rs0 : Rs 0 := by decide
theorem rs1 : Rs 1 := by decide
theorem rD_zero : D.tup [.int 0, .int 1] = rD 0 := rfl
theorem rD_one : D.tup [.int 1, .int 1] = rD 1 := rfl
set_option maxHeartbeats 4000000 in
theorem together_eq (p q s : Rat) (st : Sto) (hp : Rz 110 p) (hq : Rz 110 q) (hs : Rz 110 s) :
    ∃ n : Nat, F__law_together [rD p, rD q, rD s] st = some (.ok (.lst (List.replicate n (.bl true))) st) ∧ n ≤ 20 := by
  have rs : ∀ {n : Nat} {x : Rat}, Rz n x → 0 < n → n ≤ 4000 → Rs x := fun h a b => h.rs a b
  have p0 := rs hp (by decide) (by decide)
  have q0 := rs hq (by decide) (by decide)
  have s0 := rs hs (by decide) (by decide)
  have pq := rs (hp.add hq) (by decide) (by decide)
  have qp := rs (hq.add hp) (by decide) (by decide)
  have qs := rs (hq.add hs) (by decide) (by decide)
  have mpq := rs (hp.mul hq) (by decide) (by decide)
  have mqp := rs (hq.mul hp) (by decide) (by decide)
  have mps := rs (hp.mul hs) (by decide) (by decide)
  have spq := rs (hp.sub hq) (by decide) (by decide)
  have e1 : (p + q) + s = s + (q + p) := by grind
  have e2 : (p * q) * s = s * (q * p) := by grind
  have e3 : p * (q + s) = p * q + p * s := by grind
  have e4 : (p + q) - q = p := by grind
  have e5 : (p - q) + q = p := by grind
  have e6 : p - p = 0 := by grind
  have e7 : p * 1 = p := by grind
  have e8 : p + 0 = p := by grind
  have S1 := plus_eq _ _ (st := st) p0 q0
  have S2 := plus_eq _ _ (st := st) q0 p0
  have S3 := plus_eq _ _ (st := st) pq s0
  have S4 := plus_eq _ _ (st := st) s0 qp
  have T1 := times_eq _ _ (st := st) p0 q0
  have T2 := times_eq _ _ (st := st) q0 p0
  have T3 := times_eq _ _ (st := st) mpq s0
  have T4 := times_eq _ _ (st := st) s0 mqp
  have S5 := plus_eq _ _ (st := st) q0 s0
  have T5 := times_eq _ _ (st := st) p0 qs
  have T6 := times_eq _ _ (st := st) p0 s0
  have S6 := plus_eq _ _ (st := st) mpq mps
  have M1 := minus_eq _ _ (st := st) pq q0
  have M2 := minus_eq _ _ (st := st) p0 q0
  have S7 := plus_eq _ _ (st := st) spq q0
  have M3 := minus_eq _ _ (st := st) p0 p0
  have T7 := times_eq _ _ (st := st) p0 rs1
  have S8 := plus_eq _ _ (st := st) p0 rs0
  rw [e1] at S3
  rw [e2] at T3
  rw [e3] at T5
  rw [e4] at M1
  rw [e5] at S7
  rw [e6] at M3
  rw [e7] at T7
  rw [e8] at S8
  by_cases h : q = 0
  · have hd : ∀ st, dNe st (rD q) (rD 0) = some (.bl false) := fun st => by rw [dNe_rD, decide_eq_true h]; rfl
    clear h
    refine ⟨8, ?_, by decide⟩
    unfold F__law_together
    rw [ap_def]
    simp [-dNe_rD, hd, S1, S2, S3, S4, S5, S6, S7, S8, T1, T2, T3, T4, T5, T6, T7, M1, M2, M3, rD_zero, rD_one, dAdd]
  · have hd : ∀ st, dNe st (rD q) (rD 0) = some (.bl true) := fun st => by rw [dNe_rD, decide_eq_false h]; rfl
    have dpq := rs (hp.div hq h) (by decide) (by decide)
    have f1 : (p * q) / q = p := by grind
    have f2 : (p / q) * q = p := by grind
    have O1 := over_eq _ _ (st := st) mpq q0
    have O2 := over_eq _ _ (st := st) p0 q0
    have T8 := times_eq _ _ (st := st) dpq q0
    rw [if_neg h] at O1 O2
    rw [f1] at O1
    rw [f2] at T8
    clear h
    refine ⟨10, ?_, by decide⟩
    unfold F__law_together
    rw [ap_def]
    simp [-dNe_rD, hd, S1, S2, S3, S4, S5, S6, S7, S8, T1, T2, T3, T4, T5, T6, T7, T8, M1, M2, M3, O1, O2, rD_zero, rD_one, dAdd]

theorem rD_sort (p q : Rat) : asPairs [rD p, rD q] = some [(p.num, (p.den : Int)), (q.num, (q.den : Int))] := rfl
theorem sort2 (a b : Int × Int) : sortP [a, b] = sortP [b, a] := srt_uniq (sortP_srt _) (sortP_srt _) ((sortP_perm _).trans ((List.Perm.swap b a []).trans (sortP_perm _).symm))
theorem shaped_pairs (l : List (Int × Int)) (h : l.length ≤ 2) : pds (l.map pD) = some (l.map fun p => PyData.tuple [.int p.1, .int p.2]) ∧ SeqAt.shaped (.list (l.map fun p => PyData.tuple [.int p.1, .int p.2])) = true ∧
    PyData.eqv (.list (l.map fun p => PyData.tuple [.int p.1, .int p.2])) (.list (l.map fun p => PyData.tuple [.int p.1, .int p.2])) = true := by
  have key : SeqAt.shaped (.list (l.map fun p => PyData.tuple [.int p.1, .int p.2])) = true := by
    match l, h with
    | [], _ => rfl
    | [a], _ => rfl
    | [a, b], _ => rfl
  refine ⟨?_, key, SeqAt.eqv_refl _ (SeqAt.canLay_of_shaped key)⟩
  match l, h with
  | [], _ => rfl
  | [a], _ => rfl
  | [a, b], _ => rfl
theorem dEq_sorted (st : Sto) (l : List (Int × Int)) (h : l.length ≤ 2) : dEq st (.lst (l.map pD)) (.lst (l.map pD)) = some (.bl true) := by
  obtain ⟨h1, h2, h3⟩ := shaped_pairs l h
  show (match (pds (l.map pD)).map PyData.list, (pds (l.map pD)).map PyData.list with
    | some a, some b => if SeqAt.shaped a = true ∧ SeqAt.shaped b = true then some (D.bl (PyData.eqv a b)) else none
    | _, _ => none) = _
  rw [h1]
  simp only [Option.map_some]
  rw [if_pos ⟨h2, h2⟩, h3]
theorem sorted_same (st s2 : Sto) (p q : Rat) : ∃ l : List (Int × Int), l.length ≤ 2 ∧ bSortP st [.lst [rD p, rD q]] = some (.lst (l.map pD)) ∧ bSortP s2 [.lst [rD q, rD p]] = some (.lst (l.map pD)) := by
  refine ⟨sortP [(p.num, (p.den : Int)), (q.num, (q.den : Int))], by rw [(sortP_perm _).length_eq]; exact Nat.le_refl _, ?_, ?_⟩
  · show ((asPairs [rD p, rD q]).map fun ps => D.lst ((sortP ps).map pD)) = _
    rw [rD_sort]; rfl
  · show ((asPairs [rD q, rD p]).map fun ps => D.lst ((sortP ps).map pD)) = _
    rw [rD_sort, sort2]; rfl

theorem dEq_bl {st : Sto} {a b : Bool} : dEq st (.bl a) (.bl b) = some (.bl (a == b)) := by cases a <;> cases b <;> rfl
theorem at_new {st : Sto} {c : Cell} {l : Sto} : (st ++ c :: l)[st.length]? = some c := by
  rw [List.getElem?_append_right (Nat.le_refl _), Nat.sub_self]; rfl
theorem at_new2 {st l : Sto} {k : Nat} : (st ++ l)[st.length + k]? = l[k]? := by
  rw [List.getElem?_append_right (Nat.le_add_right _ _), Nat.add_sub_cancel_left]
theorem set_new2 {st l : Sto} {k : Nat} {c : Cell} : (st ++ l).set (st.length + k) c = st ++ l.set k c := by
  rw [List.set_append_right _ _ (Nat.le_add_right _ _), Nat.add_sub_cancel_left]

set_option maxHeartbeats 4000000 in
theorem in_order_core (p q s x y ap aq tp tq : Rat) (b1 b2 b3 b5 b7 : Bool) (l : D) (st : Sto)
    (PA : ∀ st, F_plus [rD p, rD s] st = some (.ok (rD ap) st)) (PB : ∀ st, F_plus [rD q, rD s] st = some (.ok (rD aq) st))
    (TA : ∀ st, F_times [rD p, rD s] st = some (.ok (rD tp) st)) (TB : ∀ st, F_times [rD q, rD s] st = some (.ok (rD tq) st))
    (L1 : ∀ st, F_is_less [rD p, rD q] st = some (.ok (.bl b1) st)) (L2 : ∀ st, F_is_less [rD q, rD p] st = some (.ok (.bl b2) st)) (E3 : ∀ st, dEq st (rD p) (rD q) = some (.bl b3))
    (CN : ∀ st, mCount st [.bl b1, .bl b2, .bl b3] [.bl true] = some (.int 1))
    (LE : ∀ st, F_least [rD p, rD q] st = some (.ok (rD x) st)) (MO : ∀ st, F_most [rD p, rD q] st = some (.ok (rD y) st)) (L3 : ∀ st, F_is_less [rD y, rD x] st = some (.ok (.bl false) st))
    (l2 : ∀ st, bSortP st [.lst [rD x, rD y]] = some l) (l3 : ∀ st, bSortP st [.lst [rD p, rD q]] = some l) (SS : ∀ st, dEq st l l = some (.bl true))
    (L4 : ∀ st, F_is_less [rD ap, rD aq] st = some (.ok (.bl b1) st)) (L5 : ∀ st, F_is_less [rD 0, rD s] st = some (.ok (.bl b5) st)) (L6 : b5 = true → ∀ st, F_is_less [rD tp, rD tq] st = some (.ok (.bl b1) st))
    (L7 : ∀ st, F_is_less [rD q, rD s] st = some (.ok (.bl b7) st)) (L8 : b1 = true → b7 = true → ∀ st, F_is_less [rD p, rD s] st = some (.ok (.bl true) st)) :
    ∃ (m n : Nat) (g : Sto), F__law_in_order [rD p, rD q, rD s] st = some (.ok (.ref (st.length + m)) (st ++ g)) ∧ g[m]? = some (.lst (List.replicate n (.bl true))) ∧ n ≤ 20 := by
  unfold F__law_in_order
  rw [ap_def]
  cases b5 <;> cases b1 <;> cases b7
  all_goals
    simp [-dEq_rD, PA, PB, TA, TB, L1, L2, E3, CN, LE, MO, L3, l2, l3, SS, L4, L5, L6, L7, L8, rD_zero, seqP, seqS, at_new, at_new2, set_new2, dEq_bl, cellT, mAppend]
  all_goals first
    | exact ⟨_, 4, _, ⟨rfl, rfl⟩, rfl, by decide⟩
    | exact ⟨_, 5, _, ⟨rfl, rfl⟩, rfl, by decide⟩
    | exact ⟨_, 6, _, ⟨rfl, rfl⟩, rfl, by decide⟩
theorem in_order_eq (p q s : Rat) (st : Sto) (hp : Rz 110 p) (hq : Rz 110 q) (hs : Rz 110 s) :
    ∃ (m n : Nat) (g : Sto), F__law_in_order [rD p, rD q, rD s] st = some (.ok (.ref (st.length + m)) (st ++ g)) ∧ g[m]? = some (.lst (List.replicate n (.bl true))) ∧ n ≤ 20 := by
  have rs : ∀ {n : Nat} {x : Rat}, Rz n x → 0 < n → n ≤ 4000 → Rs x := fun h a b => h.rs a b
  have p0 := rs hp (by decide) (by decide)
  have q0 := rs hq (by decide) (by decide)
  have s0 := rs hs (by decide) (by decide)
  have ps := rs (hp.add hs) (by decide) (by decide)
  have qs := rs (hq.add hs) (by decide) (by decide)
  have mps := rs (hp.mul hs) (by decide) (by decide)
  have mqs := rs (hq.mul hs) (by decide) (by decide)
  have PA : ∀ st, F_plus [rD p, rD s] st = _ := fun st => plus_eq _ _ st p0 s0
  have PB : ∀ st, F_plus [rD q, rD s] st = _ := fun st => plus_eq _ _ st q0 s0
  have TA : ∀ st, F_times [rD p, rD s] st = _ := fun st => times_eq _ _ st p0 s0
  have TB : ∀ st, F_times [rD q, rD s] st = _ := fun st => times_eq _ _ st q0 s0
  have L1 : ∀ st, F_is_less [rD p, rD q] st = _ := fun st => less_eq _ _ st p0 q0
  have L2 : ∀ st, F_is_less [rD q, rD p] st = _ := fun st => less_eq _ _ st q0 p0
  have E3 : ∀ st, dEq st (rD p) (rD q) = _ := fun st => dEq_rD
  have L4 : ∀ st, F_is_less [rD (p + s), rD (q + s)] st = some (.ok (.bl (decide (p < q))) st) := fun st => by
    rw [less_eq _ _ st ps qs, show decide (p + s < q + s) = decide (p < q) by rw [decide_eq_decide]; grind]
  have L5 : ∀ st, F_is_less [rD 0, rD s] st = _ := fun st => less_eq _ _ st rs0 s0
  have L6 : 0 < s → ∀ st, F_is_less [rD (p * s), rD (q * s)] st = some (.ok (.bl (decide (p < q))) st) := fun h st => by
    rw [less_eq _ _ st mps mqs, show decide (p * s < q * s) = decide (p < q) by rw [decide_eq_decide]; exact Rat.mul_lt_mul_right h]
  have L7 : ∀ st, F_is_less [rD q, rD s] st = _ := fun st => less_eq _ _ st q0 s0
  have L8 : ∀ st, F_is_less [rD p, rD s] st = _ := fun st => less_eq _ _ st p0 s0
  have LE : ∀ st, F_least [rD p, rD q] st = _ := fun st => least_eq _ _ st p0 q0
  have MO : ∀ st, F_most [rD p, rD q] st = _ := fun st => most_eq _ _ st p0 q0
  have tr : p < q → q < s → p < s := fun a b => by grind
  have tri : (p < q ∧ ¬ q < p ∧ p ≠ q) ∨ (¬ p < q ∧ q < p ∧ p ≠ q) ∨ (¬ p < q ∧ ¬ q < p ∧ p = q) := by grind
  -- the lesser and the greater one
  have LM : ∃ x y : Rat, (if q < p then q else p) = x ∧ (if p < q then q else p) = y ∧ (∀ st, F_is_less [rD y, rD x] st = some (.ok (.bl false) st)) ∧
      ∃ l : List (Int × Int), l.length ≤ 2 ∧ (∀ st, bSortP st [.lst [rD x, rD y]] = some (.lst (l.map pD))) ∧ ∀ st, bSortP st [.lst [rD p, rD q]] = some (.lst (l.map pD)) := by
    obtain ⟨l, l1, l2, l3⟩ := sorted_same [] [] p q
    rcases tri with ⟨a, b, c⟩ | ⟨a, b, c⟩ | ⟨a, b, c⟩
    · exact ⟨p, q, if_neg b, if_pos a, fun st => by rw [L2 st, decide_eq_false b], l, l1, fun _ => l2, fun _ => l2⟩
    · exact ⟨q, p, if_pos b, if_neg a, fun st => by rw [L1 st, decide_eq_false a], l, l1, fun _ => l3, fun _ => l2⟩
    · subst c
      exact ⟨p, p, if_neg a, if_neg a, fun st => by rw [L1 st, decide_eq_false a], l, l1, fun _ => l2, fun _ => l2⟩
  obtain ⟨x, y, ex, ey, L3, l, l1, l2, l3⟩ := LM
  rw [ex] at LE
  rw [ey] at MO
  have SS : ∀ st, dEq st (.lst (l.map pD)) (.lst (l.map pD)) = some (.bl true) := fun st => dEq_sorted st l l1
  have CN : ∀ st, mCount st [.bl (decide (p < q)), .bl (decide (q < p)), .bl (decide (p = q))] [.bl true] = some (.int 1) := fun st => by
    rcases tri with ⟨a, b, c⟩ | ⟨a, b, c⟩ | ⟨a, b, c⟩
    · rw [decide_eq_true a, decide_eq_false b, decide_eq_false c]; rfl
    · rw [decide_eq_false a, decide_eq_true b, decide_eq_false c]; rfl
    · rw [decide_eq_false a, decide_eq_false b, decide_eq_true c]; rfl
  refine in_order_core p q s x y (p + s) (q + s) (p * s) (q * s) _ _ _ _ _ _ st PA PB TA TB L1 L2 E3 CN LE MO L3 l2 l3 SS L4 L5 (fun h => L6 (of_decide_eq_true h)) L7 fun h1 h2 st => ?_
  rw [L8 st, decide_eq_true (tr (of_decide_eq_true h1) (of_decide_eq_true h2))]

theorem fvs_trues (n : Nat) : fvs (List.replicate n (D.bl true)) = some (List.replicate n (V.bl true)) := by
  induction n with
  | zero => rfl
  | succ n ih => rw [List.replicate_succ, List.replicate_succ]; show ((fv (.bl true)).bind fun e => (fvs (List.replicate n (D.bl true))).map (e :: ·)) = _; rw [ih]; rfl
theorem in_trues (st : Sto) (n : Nat) : dIn false st (.bl false) (.lst (List.replicate n (.bl true))) = some (.bl false) := by
  have h : inV (.bl false) (List.replicate n (V.bl true)) = false := by
    unfold inV
    rw [List.any_eq_false]
    intro x m
    rw [(List.mem_replicate.mp m).2]
    decide
  show (match some (V.bl false), fvs (List.replicate n (D.bl true)) with
    | some u, some us => some (D.bl (if false = true then !inV u us else inV u us))
    | _, _ => none) = _
  rw [fvs_trues]
  simp only [Bool.false_eq_true, if_false]
  rw [h]
theorem add_trues (st g : Sto) (n m k : Nat) (hn : n ≤ 20) (hk : k ≤ 20) (hg : g[m]? = some (.lst (List.replicate k (.bl true)))) :
    dAdd (st ++ g) (.lst (List.replicate n (.bl true))) (.ref (st.length + m)) = some (.lst (List.replicate (n + k) (.bl true))) := by
  have h : n + k ≤ 1000000 := by omega
  simp [dAdd, seqP, at_new2, hg, h]
def body3 : FS := (fIfS (tNot1 (tV (fCall 1 F_is_number (fCons (fVar 8) fNil))))
  (fRet (fC (.bl false)))
  fPass)
def body2 : FS := (fSeq (fIfS (tV (fOp (dIn false) (fC (.bl false)) (fOp dAdd (fCall 3 F__law_together (fCons (fVar 5) (fCons (fVar 6) (fCons (fVar 7) fNil)))) (fCall 3 F__law_in_order (fCons (fVar 5) (fCons (fVar 6) (fCons (fVar 7) fNil)))))))
  (fRet (fC (.bl false)))
  fPass)
  (fFor (iLst (fLst (fCons (fCall 2 F_plus (fCons (fVar 5) (fCons (fVar 6) fNil))) (fCons (fCall 2 F_minus (fCons (fVar 5) (fCons (fVar 6) fNil))) (fCons (fCall 2 F_times (fCons (fVar 5) (fCons (fVar 6) fNil))) (fCons (fCall 2 F_least (fCons (fVar 5) (fCons (fVar 6) fNil))) fNil)))))) (gNm 8) body3))
theorem body2_eq (x0 x1 x2 x3 x4 x8 : Option D) (p q s : Rat) (st : Sto) (hp : Rz 110 p) (hq : Rz 110 q) (hs : Rz 110 s) :
    ∃ (y8 : Option D) (s2 : Sto), body2 [x0, x1, x2, x3, x4, some (rD p), some (rD q), some (rD s), x8] st = some (.nx [x0, x1, x2, x3, x4, some (rD p), some (rD q), some (rD s), y8] s2) := by
  obtain ⟨n, e1, n1⟩ := together_eq p q s st hp hq hs
  obtain ⟨m, k, g, e2, e3, k1⟩ := in_order_eq p q s st hp hq hs
  have e4 := add_trues st g n m k n1 k1 e3
  have p0 := hp.rs (by decide) (by decide)
  have q0 := hq.rs (by decide) (by decide)
  unfold body2 body3
  exact ⟨_, _, by
    simp [e1, e2, e4, in_trues, forL, plus_eq _ _ _ p0 q0, minus_eq _ _ _ p0 q0, times_eq _ _ _ p0 q0, least_eq _ _ _ p0 q0, isnum_eq]
    exact ⟨rfl, rfl⟩⟩
def body1 : FS := (fSeq (fSet 2 (fCall 2 F__law_pool (fCons (fVar 0) (fCons (fVar 1) fNil))))
  (fSeq (fSet 3 (fLc (iRg1 (fCons (fC (.int 3)) fNil)) (gNm 4) tYes1 (fCall 1 F__law_number (fCons (fVar 2) fNil)) [4]))
  (fSeq (fFor (iLst (fLst (fCons (fVar 3) (fCons (fRev (fVar 3)) (fCons (fLst (fCons (fOp dIx (fVar 3) (fC (.int 1))) (fCons (fOp dIx (fVar 3) (fC (.int 2))) (fCons (fOp dIx (fVar 3) (fC (.int 0))) fNil)))) (fCons (fLst (fCons (fOp dIx (fVar 3) (fC (.int 0))) (fCons (fOp dIx (fVar 3) (fC (.int 0))) (fCons (fOp dIx (fVar 3) (fC (.int 1))) fNil)))) fNil)))))) (gLs 3 (gsCons (gNm 5) (gsCons (gNm 6) (gsCons (gNm 7) gsNil)))) body2)
  (fIfS (tV (fOp dNotN (fCall 2 F_over (fCons (fOp dIx (fVar 3) (fC (.int 0))) (fCons (fTup (fCons (fC (.int 0)) (fCons (fC (.int 1)) fNil))) fNil))) (fC .non)))
  (fRet (fC (.bl false)))
  fPass))))
theorem law_shape : F_law = fDef 1 9 (fSeq (fFor (iRg1 (fCons (fCa bMax2 (fCons (fC (.int 1)) (fCons (fCa bMin2 (fCons (fCa bLen (fCons (fVar 0) fNil)) (fCons (fC (.int 30)) fNil))) fNil))) fNil)) (gNm 1) body1) (fRet (fC (.bl true)))) := rfl
theorem body1_eq (N : Nat) (hN : N ≤ 1048577) (ns : List Int) (k : Nat) (st : Sto) (hl : ns.length ≤ 63) (hb : ∀ z ∈ ns, z.natAbs < 2 ^ N) (hk : k < 63) (x2 x3 x4 x5 x6 x7 x8 : Option D) :
    ∃ (y2 y3 y4 y5 y6 y7 y8 : Option D) (s2 : Sto), body1 [some (.frz (ns.map D.int)), some (.int k), x2, x3, x4, x5, x6, x7, x8] st = some (.nx [some (.frz (ns.map D.int)), some (.int k), y2, y3, y4, y5, y6, y7, y8] s2) := by
  obtain ⟨c, c1, e1⟩ := pool_eq N hN ns k st hl hb hk
  have h0 : ∀ c, (st ++ [c])[st.length]? = some c := fun c => at_new
  have hset : ∀ a b : Cell, (st ++ [a]).set st.length b = st ++ [b] := fun a b => by rw [List.set_append_right _ _ (Nat.le_refl _), Nat.sub_self]; rfl
  obtain ⟨p, d1, p1, p2, p3⟩ := number_eq st.length (st ++ [c]) c (h0 c) c1
  rw [hset] at p3
  obtain ⟨q, d2, q1, q2, q3⟩ := number_eq st.length (st ++ [d1]) d1 (h0 d1) p2
  rw [hset] at q3
  obtain ⟨s, d3, s1, s2, s3⟩ := number_eq st.length (st ++ [d2]) d2 (h0 d2) q2
  rw [hset] at s3
  -- the inner loop
  let sm : D := .lst [rD p, rD q, rD s]
  let I : En → Sto → Prop := fun env _ => ∃ y5 y6 y7 y8, env = [some (.frz (ns.map D.int)), some (.int k), some (.ref st.length), some sm, x4, y5, y6, y7, y8]
  have loop := forL_all (g := gLs 3 (gsCons (gNm 5) (gsCons (gNm 6) (gsCons (gNm 7) gsNil)))) (body := body2) I
    (ds := [.lst [rD p, rD q, rD s], .lst [rD s, rD q, rD p], .lst [rD q, rD s, rD p], .lst [rD p, rD p, rD q]])
    (env := [some (.frz (ns.map D.int)), some (.int k), some (.ref st.length), some sm, x4, x5, x6, x7, x8]) (st := st ++ [d3])
    (fun d hd env st2 hI => by
      obtain ⟨y5, y6, y7, y8, rfl⟩ := hI
      obtain ⟨a, b, c, rfl, ha, hb, hc⟩ : ∃ a b c : Rat, d = .lst [rD a, rD b, rD c] ∧ Rz 110 a ∧ Rz 110 b ∧ Rz 110 c := by
        simp only [List.mem_cons, List.not_mem_nil, or_false] at hd
        rcases hd with rfl | rfl | rfl | rfl
        · exact ⟨_, _, _, rfl, p1, q1, s1⟩
        · exact ⟨_, _, _, rfl, s1, q1, p1⟩
        · exact ⟨_, _, _, rfl, q1, s1, p1⟩
        · exact ⟨_, _, _, rfl, p1, p1, q1⟩
      obtain ⟨z8, s4, e⟩ := body2_eq (some (.frz (ns.map D.int))) (some (.int k)) (some (.ref st.length)) (some sm) x4 y8 a b c st2 ha hb hc
      exact ⟨_, _, rfl, _, _, .inl e, _, _, _, _, rfl⟩)
    ⟨x5, x6, x7, x8, rfl⟩
  obtain ⟨env2, s5, e5, y5, y6, y7, y8, rfl⟩ := loop
  have p0 := p1.rs (by decide) (by decide)
  have O : ∀ st, F_over [rD p, rD 0] st = some (.ok .non st) := fun st => by rw [over_eq _ _ st p0 rs0, if_pos rfl]
  refine ⟨some (.ref st.length), some sm, x4, y5, y6, y7, y8, s5, ?_⟩
  unfold body1
  have ii : Fx.intsFrom 0 3 = [.int 0, .int 1, .int 2] := rfl
  have a0 : ∀ st, dIx st (.lst [rD p, rD q, rD s]) (.int 0) = some (rD p) := fun _ => rfl
  have a1 : ∀ st, dIx st (.lst [rD p, rD q, rD s]) (.int 1) = some (rD q) := fun _ => rfl
  have a2 : ∀ st, dIx st (.lst [rD p, rD q, rD s]) (.int 2) = some (rD s) := fun _ => rfl
  have e5' : forL (gLs 3 (gsCons (gNm 5) (gsCons (gNm 6) (gsCons (gNm 7) gsNil)))) body2 [.lst [rD p, rD q, rD s], .lst [rD s, rD q, rD p], .lst [rD q, rD s, rD p], .lst [rD p, rD p, rD q]]
    [some (.frz (ns.map D.int)), some (.int k), some (.ref st.length), some (.lst [rD p, rD q, rD s]), x4, x5, x6, x7, x8] (st ++ [d3]) = _ := e5
  simp [e1, ii, p3, q3, s3, a0, a1, a2, e5', rD_zero, O, dNotN, sm]
/-- between two turns of the law's loop -/
def LI (ns : List Int) (env : En) (_ : Sto) : Prop := ∃ y1 y2 y3 y4 y5 y6 y7 y8, env = [some (.frz (ns.map D.int)), y1, y2, y3, y4, y5, y6, y7, y8]
theorem law_loop (N : Nat) (hN : N ≤ 1048577) (ns : List Int) (hl : ns.length ≤ 63) (hb : ∀ z ∈ ns, z.natAbs < 2 ^ N) (M : Nat) (hM : M ≤ 30) :
    ∃ env2 s2, forL (gNm 1) body1 (Fx.intsFrom 0 M) [some (.frz (ns.map D.int)), none, none, none, none, none, none, none, none] [] = some (.nx env2 s2) := by
  obtain ⟨env2, s2, e, _⟩ := forL_all (g := gNm 1) (body := body1) (LI ns) (ds := Fx.intsFrom 0 M) (env := [some (.frz (ns.map D.int)), none, none, none, none, none, none, none, none]) (st := [])
    (fun d hd env st2 hI => by
      obtain ⟨y1, y2, y3, y4, y5, y6, y7, y8, rfl⟩ := hI
      obtain ⟨k, hk, rfl⟩ : ∃ k : Nat, k < 63 ∧ d = .int k := by
        unfold Fx.intsFrom at hd
        obtain ⟨k, h1, h2⟩ := List.mem_map.mp hd
        exact ⟨k, by have := List.mem_range.mp h1; omega, by rw [← h2]; simp⟩
      obtain ⟨z2, z3, z4, z5, z6, z7, z8, s4, e⟩ := body1_eq N hN ns k st2 hl hb hk y2 y3 y4 y5 y6 y7 y8
      exact ⟨_, _, ap_nm, _, _, .inl e, _, _, _, _, _, _, _, _, rfl⟩)
    ⟨none, none, none, none, none, none, none, none, rfl⟩
  exact ⟨env2, s2, e⟩
def rangeF : FA := fCons (fCa bMax2 (fCons (fC (.int 1)) (fCons (fCa bMin2 (fCons (fCa bLen (fCons (fVar 0) fNil)) (fCons (fC (.int 30)) fNil))) fNil))) fNil
theorem range_eq (ns : List Int) (r : En) : ∃ M : Nat, M ≤ 30 ∧ rangeF (some (.frz (ns.map D.int)) :: r) [] = some (.ok [.int M] []) := by
  have hM : ∃ M : Nat, M ≤ 30 ∧ (if (if (30 : Int) < (ns.length : Int) then (30 : Int) else ns.length) > 1 then (if (30 : Int) < (ns.length : Int) then (30 : Int) else ns.length) else 1) = (M : Int) := by
    by_cases h : (30 : Int) < ns.length
    · exact ⟨30, by omega, by rw [if_pos h]; rfl⟩
    · rw [if_neg h]
      by_cases h2 : (ns.length : Int) > 1
      · exact ⟨ns.length, by omega, by rw [if_pos h2]⟩
      · exact ⟨1, by omega, by rw [if_neg h2]; rfl⟩
  obtain ⟨M, h1, h2⟩ := hM
  refine ⟨M, h1, ?_⟩
  unfold rangeF
  simp only [ap_cons, ap_nil, ap_ca, ap_c, ap_var, List.getElem?_cons_zero, bnd_ok, bLen, seqLT_frz, Option.map_some, bMin2, bMax2, List.length_map, h2]
theorem for_eq (N : Nat) (hN : N ≤ 1048577) (ns : List Int) (hl : ns.length ≤ 63) (hb : ∀ z ∈ ns, z.natAbs < 2 ^ N) :
    ∃ env2 s2, fFor (iRg1 rangeF) (gNm 1) body1 [some (.frz (ns.map D.int)), none, none, none, none, none, none, none, none] [] = some (.nx env2 s2) := by
  obtain ⟨M, h1, h2⟩ := range_eq ns [none, none, none, none, none, none, none, none]
  obtain ⟨env2, s2, e⟩ := law_loop N hN ns hl hb M h1
  refine ⟨env2, s2, ?_⟩
  have c1 : -(2 ^ 62 : Int) ≤ (M : Int) ∧ (M : Int) < 2 ^ 62 := by constructor <;> omega
  rw [ap_for, ap_iRg1, h2, bnd_ok]
  simp only [if_pos c1, sb_ok, Int.toNat_natCast]
  exact e
theorem law_eq (N : Nat) (hN : N ≤ 1048577) (ns : List Int) (hl : ns.length ≤ 63) (hb : ∀ z ∈ ns, z.natAbs < 2 ^ N) : ∃ s2, F_law [.frz (ns.map D.int)] [] = some (.ok (.bl true) s2) := by
  obtain ⟨env2, s2, e⟩ := for_eq N hN ns hl hb
  refine ⟨s2, ?_⟩
  exact def_rt (fb := fSeq (fFor (iRg1 rangeF) (gNm 1) body1) (fRet (fC (.bl true)))) rfl ((seq_nx e).trans rfl)

/-- the law's promise, over the script -/
theorem law_sp {K : PySem.W.Frag} {H : Hp} {a : Addr} {ns : List Int} (hl : ns.length ≤ 63) (hbits : ∀ z ∈ ns, Builtin.Int.intBits z ≤ 1048576) (hS : SqL K H a (ns.map V.int)) :
    spF K 1 F_law [.ref a] H (fun v _ => v = .bl true) fun _ _ _ => False := by
  obtain ⟨N, hN⟩ : ∃ N : Nat, N = 1048577 := ⟨_, rfl⟩
  have hb : ∀ z ∈ ns, z.natAbs < 2 ^ N := fun z m => by
    rcases bits_lt (hbits z m) with h | h
    · exact Fx.lt_of_log2 (by omega)
    · rw [h]; exact Nat.pow_pos (by decide)
  obtain ⟨s2, e⟩ := law_eq N (by omega) ns hl hb
  have hz : ZxL K H ⟨[], []⟩ a (ns.map V.int) := hS.elim (fun z => .inl ⟨fun m => m.elim (fun z => (nomatch z)) (fun z => (nomatch z)), z⟩) fun z => .inr (.inr z)
  refine ⟨⟨[], []⟩, [.frz (ns.map D.int)], [], _, DRs.cons (.frz hz (by simp) fun i x d e1 e2 => ?_) .nil, ⟨rfl, List.Pairwise.nil, fun n a c e => by simp at e, fun a m => (nomatch m)⟩, rfl, e, fun v H' ρ' _ _ h => ?_⟩
  · rw [List.getElem?_map] at e1 e2
    cases q : ns[i]? with
    | none => rw [q] at e1; cases e1
    | some n =>
      rw [q] at e1 e2
      cases e1; cases e2
      exact .int n
  · cases h; rfl
/-! ### what the top has written; the law's own head -/
theorem all_mk {l : PySem.W.OpenLaw} {w : World} {K : PySem.W.Frag} {h : Heap} {mg : Str → Option Value} {fa f0 f1 f2 f3 f4 f5 f6 f7 f8 f9 f10 f11 f12 f13 f14 f15 f16 f17 : Addr} (X : K.In h) (G : h.Ns mainGlobals mg) (hfa : mg "law" = some (.ref fa))
    {od0 an0 od1 an1 od2 an2 od3 an3 od4 an4 od5 an5 od6 an6 od7 an7 od8 an8 od9 an9 od10 an10 od11 an11 od12 an12 od13 an13 od14 an14 od15 an15 od16 an16 od17 an17 : Option Addr} {sl0 sl1 sl2 sl3 sl4 sl5 sl6 sl7 sl8 sl9 sl10 sl11 sl12 sl13 sl14 sl15 sl16 sl17 : Array (Option Value)} {oc0 kV0 dc0 pm0 cd0 ct0 oc1 kV1 dc1 pm1 cd1 ct1 oc2 kV2 dc2 pm2 cd2 ct2 oc3 kV3 dc3 pm3 cd3 ct3 oc4 kV4 dc4 pm4 cd4 ct4 oc5 kV5 dc5 pm5 cd5 ct5 oc6 kV6 dc6 pm6 cd6 ct6 oc7 kV7 dc7 pm7 cd7 ct7 oc8 kV8 dc8 pm8 cd8 ct8 oc9 kV9 dc9 pm9 cd9 ct9 oc10 kV10 dc10 pm10 cd10 ct10 oc11 kV11 dc11 pm11 cd11 ct11 oc12 kV12 dc12 pm12 cd12 ct12 oc13 kV13 dc13 pm13 cd13 ct13 oc14 kV14 dc14 pm14 cd14 ct14 oc15 kV15 dc15 pm15 cd15 ct15 oc16 kV16 dc16 pm16 cd16 ct16 oc17 kV17 dc17 pm17 cd17 ct17 : Value}
    (a0 : PySem.W.nsIn K mainGlobals "is_whole" = some (some (.ref f0))) (l0 : K.lookup f0 = some ⟨oc0, od0, .func (PySem.W.fnOf "is_whole" "is_whole" (defArgs s_is_whole) (defBody s_is_whole) (defScope s_is_whole) .none kV0 dc0 pm0 an0 cd0 ct0), sl0⟩) (c0 : PySem.W.codeIn K cd0 "is_whole" = true) (k0 : PySem.W.keepIn K (.ref f0) = true)
    (a1 : PySem.W.nsIn K mainGlobals "divisor_of" = some (some (.ref f1))) (l1 : K.lookup f1 = some ⟨oc1, od1, .func (PySem.W.fnOf "divisor_of" "divisor_of" (defArgs s_divisor_of) (defBody s_divisor_of) (defScope s_divisor_of) .none kV1 dc1 pm1 an1 cd1 ct1), sl1⟩) (c1 : PySem.W.codeIn K cd1 "divisor_of" = true) (k1 : PySem.W.keepIn K (.ref f1) = true)
    (a2 : PySem.W.nsIn K mainGlobals "is_number" = some (some (.ref f2))) (l2 : K.lookup f2 = some ⟨oc2, od2, .func (PySem.W.fnOf "is_number" "is_number" (defArgs s_is_number) (defBody s_is_number) (defScope s_is_number) .none kV2 dc2 pm2 an2 cd2 ct2), sl2⟩) (c2 : PySem.W.codeIn K cd2 "is_number" = true) (k2 : PySem.W.keepIn K (.ref f2) = true)
    (a3 : PySem.W.nsIn K mainGlobals "lowest" = some (some (.ref f3))) (l3 : K.lookup f3 = some ⟨oc3, od3, .func (PySem.W.fnOf "lowest" "lowest" (defArgs s_lowest) (defBody s_lowest) (defScope s_lowest) .none kV3 dc3 pm3 an3 cd3 ct3), sl3⟩) (c3 : PySem.W.codeIn K cd3 "lowest" = true) (k3 : PySem.W.keepIn K (.ref f3) = true)
    (a4 : PySem.W.nsIn K mainGlobals "plus" = some (some (.ref f4))) (l4 : K.lookup f4 = some ⟨oc4, od4, .func (PySem.W.fnOf "plus" "plus" (defArgs s_plus) (defBody s_plus) (defScope s_plus) .none kV4 dc4 pm4 an4 cd4 ct4), sl4⟩) (c4 : PySem.W.codeIn K cd4 "plus" = true) (k4 : PySem.W.keepIn K (.ref f4) = true)
    (a5 : PySem.W.nsIn K mainGlobals "minus" = some (some (.ref f5))) (l5 : K.lookup f5 = some ⟨oc5, od5, .func (PySem.W.fnOf "minus" "minus" (defArgs s_minus) (defBody s_minus) (defScope s_minus) .none kV5 dc5 pm5 an5 cd5 ct5), sl5⟩) (c5 : PySem.W.codeIn K cd5 "minus" = true) (k5 : PySem.W.keepIn K (.ref f5) = true)
    (a6 : PySem.W.nsIn K mainGlobals "times" = some (some (.ref f6))) (l6 : K.lookup f6 = some ⟨oc6, od6, .func (PySem.W.fnOf "times" "times" (defArgs s_times) (defBody s_times) (defScope s_times) .none kV6 dc6 pm6 an6 cd6 ct6), sl6⟩) (c6 : PySem.W.codeIn K cd6 "times" = true) (k6 : PySem.W.keepIn K (.ref f6) = true)
    (a7 : PySem.W.nsIn K mainGlobals "over" = some (some (.ref f7))) (l7 : K.lookup f7 = some ⟨oc7, od7, .func (PySem.W.fnOf "over" "over" (defArgs s_over) (defBody s_over) (defScope s_over) .none kV7 dc7 pm7 an7 cd7 ct7), sl7⟩) (c7 : PySem.W.codeIn K cd7 "over" = true) (k7 : PySem.W.keepIn K (.ref f7) = true)
    (a8 : PySem.W.nsIn K mainGlobals "is_less" = some (some (.ref f8))) (l8 : K.lookup f8 = some ⟨oc8, od8, .func (PySem.W.fnOf "is_less" "is_less" (defArgs s_is_less) (defBody s_is_less) (defScope s_is_less) .none kV8 dc8 pm8 an8 cd8 ct8), sl8⟩) (c8 : PySem.W.codeIn K cd8 "is_less" = true) (k8 : PySem.W.keepIn K (.ref f8) = true)
    (a9 : PySem.W.nsIn K mainGlobals "least" = some (some (.ref f9))) (l9 : K.lookup f9 = some ⟨oc9, od9, .func (PySem.W.fnOf "least" "least" (defArgs s_least) (defBody s_least) (defScope s_least) .none kV9 dc9 pm9 an9 cd9 ct9), sl9⟩) (c9 : PySem.W.codeIn K cd9 "least" = true) (k9 : PySem.W.keepIn K (.ref f9) = true)
    (a10 : PySem.W.nsIn K mainGlobals "most" = some (some (.ref f10))) (l10 : K.lookup f10 = some ⟨oc10, od10, .func (PySem.W.fnOf "most" "most" (defArgs s_most) (defBody s_most) (defScope s_most) .none kV10 dc10 pm10 an10 cd10 ct10), sl10⟩) (c10 : PySem.W.codeIn K cd10 "most" = true) (k10 : PySem.W.keepIn K (.ref f10) = true)
    (a11 : PySem.W.nsIn K mainGlobals "_law_pool" = some (some (.ref f11))) (l11 : K.lookup f11 = some ⟨oc11, od11, .func (PySem.W.fnOf "_law_pool" "_law_pool" (defArgs s__law_pool) (defBody s__law_pool) (defScope s__law_pool) .none kV11 dc11 pm11 an11 cd11 ct11), sl11⟩) (c11 : PySem.W.codeIn K cd11 "_law_pool" = true) (k11 : PySem.W.keepIn K (.ref f11) = true)
    (a12 : PySem.W.nsIn K mainGlobals "_law_take" = some (some (.ref f12))) (l12 : K.lookup f12 = some ⟨oc12, od12, .func (PySem.W.fnOf "_law_take" "_law_take" (defArgs s__law_take) (defBody s__law_take) (defScope s__law_take) .none kV12 dc12 pm12 an12 cd12 ct12), sl12⟩) (c12 : PySem.W.codeIn K cd12 "_law_take" = true) (k12 : PySem.W.keepIn K (.ref f12) = true)
    (a13 : PySem.W.nsIn K mainGlobals "_law_low" = some (some (.ref f13))) (l13 : K.lookup f13 = some ⟨oc13, od13, .func (PySem.W.fnOf "_law_low" "_law_low" (defArgs s__law_low) (defBody s__law_low) (defScope s__law_low) .none kV13 dc13 pm13 an13 cd13 ct13), sl13⟩) (c13 : PySem.W.codeIn K cd13 "_law_low" = true) (k13 : PySem.W.keepIn K (.ref f13) = true)
    (a14 : PySem.W.nsIn K mainGlobals "_law_number" = some (some (.ref f14))) (l14 : K.lookup f14 = some ⟨oc14, od14, .func (PySem.W.fnOf "_law_number" "_law_number" (defArgs s__law_number) (defBody s__law_number) (defScope s__law_number) .none kV14 dc14 pm14 an14 cd14 ct14), sl14⟩) (c14 : PySem.W.codeIn K cd14 "_law_number" = true) (k14 : PySem.W.keepIn K (.ref f14) = true)
    (a15 : PySem.W.nsIn K mainGlobals "_law_together" = some (some (.ref f15))) (l15 : K.lookup f15 = some ⟨oc15, od15, .func (PySem.W.fnOf "_law_together" "_law_together" (defArgs s__law_together) (defBody s__law_together) (defScope s__law_together) .none kV15 dc15 pm15 an15 cd15 ct15), sl15⟩) (c15 : PySem.W.codeIn K cd15 "_law_together" = true) (k15 : PySem.W.keepIn K (.ref f15) = true)
    (a16 : PySem.W.nsIn K mainGlobals "_law_in_order" = some (some (.ref f16))) (l16 : K.lookup f16 = some ⟨oc16, od16, .func (PySem.W.fnOf "_law_in_order" "_law_in_order" (defArgs s__law_in_order) (defBody s__law_in_order) (defScope s__law_in_order) .none kV16 dc16 pm16 an16 cd16 ct16), sl16⟩) (c16 : PySem.W.codeIn K cd16 "_law_in_order" = true) (k16 : PySem.W.keepIn K (.ref f16) = true)
    (a17 : PySem.W.nsIn K mainGlobals "law" = some (some (.ref f17))) (l17 : K.lookup f17 = some ⟨oc17, od17, .func (PySem.W.fnOf "law" "law" (defArgs s_law) (defBody s_law) (defScope s_law) .none kV17 dc17 pm17 an17 cd17 ct17), sl17⟩) (c17 : PySem.W.codeIn K cd17 "law" = true) (k17 : PySem.W.keepIn K (.ref f17) = true)
    (z_abs : PySem.W.nsIn K mainGlobals "abs" = some none)
    (z_all : PySem.W.nsIn K mainGlobals "all" = some none)
    (z_bool : PySem.W.nsIn K mainGlobals "bool" = some none)
    (z_int : PySem.W.nsIn K mainGlobals "int" = some none)
    (z_isinstance : PySem.W.nsIn K mainGlobals "isinstance" = some none)
    (z_len : PySem.W.nsIn K mainGlobals "len" = some none)
    (z_max : PySem.W.nsIn K mainGlobals "max" = some none)
    (z_min : PySem.W.nsIn K mainGlobals "min" = some none)
    (z_range : PySem.W.nsIn K mainGlobals "range" = some none)
    (z_sorted : PySem.W.nsIn K mainGlobals "sorted" = some none)
    (z_sum : PySem.W.nsIn K mainGlobals "sum" = some none)
    (z_tuple : PySem.W.nsIn K mainGlobals "tuple" = some none)
    : ∃ fd : FuncData, (∀ (s : Shared) (v : Value), BindsTo s fd ⟨[v], []⟩ [("script", v)]) ∧ ∀ base : Heap, K.In base → base.Ns mainGlobals mg → FnOk l.prog w K mg base CX0 5 fa fd ["script"] (spF K 1 F_law) := by
  have e := hfa.symm.trans (PySem.W.mg_of X G a17)
  cases e
  have B : Bi mg := ⟨PySem.W.mg_none_of X G z_abs, PySem.W.mg_none_of X G z_all, PySem.W.mg_none_of X G z_bool, PySem.W.mg_none_of X G z_int, PySem.W.mg_none_of X G z_isinstance, PySem.W.mg_none_of X G z_len, PySem.W.mg_none_of X G z_max, PySem.W.mg_none_of X G z_min, PySem.W.mg_none_of X G z_range, PySem.W.mg_none_of X G z_sorted, PySem.W.mg_none_of X G z_sum, PySem.W.mg_none_of X G z_tuple⟩
  have F0 := fun_mk (st := s_is_whole) l0 c0 k0
  have b0 := F0.binds (ps := ["thing"]) fun _ _ _ _ _ _ us hl => match us, hl with | [_], _ => rfl
  have F1 := fun_mk (st := s_divisor_of) l1 c1 k1
  have b1 := F1.binds (ps := ["one", "other"]) fun _ _ _ _ _ _ us hl => match us, hl with | [_, _], _ => rfl
  have F2 := fun_mk (st := s_is_number) l2 c2 k2
  have b2 := F2.binds (ps := ["thing"]) fun _ _ _ _ _ _ us hl => match us, hl with | [_], _ => rfl
  have F3 := fun_mk (st := s_lowest) l3 c3 k3
  have b3 := F3.binds (ps := ["top", "bottom"]) fun _ _ _ _ _ _ us hl => match us, hl with | [_, _], _ => rfl
  have F4 := fun_mk (st := s_plus) l4 c4 k4
  have b4 := F4.binds (ps := ["one", "other"]) fun _ _ _ _ _ _ us hl => match us, hl with | [_, _], _ => rfl
  have F5 := fun_mk (st := s_minus) l5 c5 k5
  have b5 := F5.binds (ps := ["one", "other"]) fun _ _ _ _ _ _ us hl => match us, hl with | [_, _], _ => rfl
  have F6 := fun_mk (st := s_times) l6 c6 k6
  have b6 := F6.binds (ps := ["one", "other"]) fun _ _ _ _ _ _ us hl => match us, hl with | [_, _], _ => rfl
  have F7 := fun_mk (st := s_over) l7 c7 k7
  have b7 := F7.binds (ps := ["one", "other"]) fun _ _ _ _ _ _ us hl => match us, hl with | [_, _], _ => rfl
  have F8 := fun_mk (st := s_is_less) l8 c8 k8
  have b8 := F8.binds (ps := ["one", "other"]) fun _ _ _ _ _ _ us hl => match us, hl with | [_, _], _ => rfl
  have F9 := fun_mk (st := s_least) l9 c9 k9
  have b9 := F9.binds (ps := ["one", "other"]) fun _ _ _ _ _ _ us hl => match us, hl with | [_, _], _ => rfl
  have F10 := fun_mk (st := s_most) l10 c10 k10
  have b10 := F10.binds (ps := ["one", "other"]) fun _ _ _ _ _ _ us hl => match us, hl with | [_, _], _ => rfl
  have F11 := fun_mk (st := s__law_pool) l11 c11 k11
  have b11 := F11.binds (ps := ["script", "k"]) fun _ _ _ _ _ _ us hl => match us, hl with | [_, _], _ => rfl
  have F12 := fun_mk (st := s__law_take) l12 c12 k12
  have b12 := F12.binds (ps := ["pool", "many"]) fun _ _ _ _ _ _ us hl => match us, hl with | [_, _], _ => rfl
  have F13 := fun_mk (st := s__law_low) l13 c13 k13
  have b13 := F13.binds (ps := ["top", "bottom"]) fun _ _ _ _ _ _ us hl => match us, hl with | [_, _], _ => rfl
  have F14 := fun_mk (st := s__law_number) l14 c14 k14
  have b14 := F14.binds (ps := ["pool"]) fun _ _ _ _ _ _ us hl => match us, hl with | [_], _ => rfl
  have F15 := fun_mk (st := s__law_together) l15 c15 k15
  have b15 := F15.binds (ps := ["one", "other", "third"]) fun _ _ _ _ _ _ us hl => match us, hl with | [_, _, _], _ => rfl
  have F16 := fun_mk (st := s__law_in_order) l16 c16 k16
  have b16 := F16.binds (ps := ["one", "other", "third"]) fun _ _ _ _ _ _ us hl => match us, hl with | [_, _, _], _ => rfl
  have F17 := fun_mk (st := s_law) l17 c17 k17
  refine ⟨PySem.W.fnOf "law" "law" (defArgs s_law) (defBody s_law) (defScope s_law) .none kV17 dc17 pm17 an17 cd17 ct17, fun s v => .of_eq rfl, fun base _ _ => ?_⟩
  have g_is_whole := d_is_whole (P := l.prog) (w := w) (base := base) B  F0 (PySem.W.mg_of X G a0) b0
  have g_divisor_of := d_divisor_of (P := l.prog) (w := w) (base := base) B  F1 (PySem.W.mg_of X G a1) b1
  have g_is_number := d_is_number (P := l.prog) (w := w) (base := base) B g_is_whole g_divisor_of F2 (PySem.W.mg_of X G a2) b2
  have g_lowest := d_lowest (P := l.prog) (w := w) (base := base) B g_divisor_of F3 (PySem.W.mg_of X G a3) b3
  have g_plus := d_plus (P := l.prog) (w := w) (base := base) B g_lowest F4 (PySem.W.mg_of X G a4) b4
  have g_minus := d_minus (P := l.prog) (w := w) (base := base) B g_lowest F5 (PySem.W.mg_of X G a5) b5
  have g_times := d_times (P := l.prog) (w := w) (base := base) B g_lowest F6 (PySem.W.mg_of X G a6) b6
  have g_over := d_over (P := l.prog) (w := w) (base := base) B g_lowest F7 (PySem.W.mg_of X G a7) b7
  have g_is_less := d_is_less (P := l.prog) (w := w) (base := base) B  F8 (PySem.W.mg_of X G a8) b8
  have g_least := d_least (P := l.prog) (w := w) (base := base) B g_is_less F9 (PySem.W.mg_of X G a9) b9
  have g_most := d_most (P := l.prog) (w := w) (base := base) B g_is_less F10 (PySem.W.mg_of X G a10) b10
  have g__law_pool := d__law_pool (P := l.prog) (w := w) (base := base) B  F11 (PySem.W.mg_of X G a11) b11
  have g__law_take := d__law_take (P := l.prog) (w := w) (base := base) B  F12 (PySem.W.mg_of X G a12) b12
  have g__law_low := d__law_low (P := l.prog) (w := w) (base := base) B  F13 (PySem.W.mg_of X G a13) b13
  have g__law_number := d__law_number (P := l.prog) (w := w) (base := base) B g__law_low g__law_take F14 (PySem.W.mg_of X G a14) b14
  have g__law_together := d__law_together (P := l.prog) (w := w) (base := base) B g_plus g_times g_minus g_over F15 (PySem.W.mg_of X G a15) b15
  have g__law_in_order := d__law_in_order (P := l.prog) (w := w) (base := base) B g_is_less g_most g_least g_plus g_times F16 (PySem.W.mg_of X G a16) b16
  exact ok_law B g__law_pool g__law_number g__law_together g__law_in_order g_least g_times g_minus g_plus g_is_number g_over F17
end L_k06
open PySem PySem.W PyProof.Rows
set_option maxHeartbeats 0 in
theorem PySem.Challenge.cw_fewestsent_k06_whole_numbers_go_together_holds : PySem.Challenge.rw_fewestsent_k06_whole_numbers_go_together.Holds := by
  w_on; o_law; k_head; (case hw => w_witness2)
  k_fill
  refine L2.walk_ofB (l := PySem.Challenge.rw_fewestsent_k06_whole_numbers_go_together) (n := 63) (k := 5) (x := "script") (CX := fun _ => L2.CX0) (sp := fun w => Fx.spF _ 1 L_k06.F_law) rfl (by decide) rfl ⟨rfl, by decide, by decide⟩ (fun w h Y => PySem.W.kIn_of Y) ?F (fun w H a ns hl hbits _ hS => L_k06.law_sp hl hbits hS) (fun _ _ _ _ _ h => h)
  case F =>
    intro w mg fa h KX G hmg
    refine' L_k06.all_mk KX G hmg ?a0 ?l0 ?c0 ?k0 ?a1 ?l1 ?c1 ?k1 ?a2 ?l2 ?c2 ?k2 ?a3 ?l3 ?c3 ?k3 ?a4 ?l4 ?c4 ?k4 ?a5 ?l5 ?c5 ?k5 ?a6 ?l6 ?c6 ?k6 ?a7 ?l7 ?c7 ?k7 ?a8 ?l8 ?c8 ?k8 ?a9 ?l9 ?c9 ?k9 ?a10 ?l10 ?c10 ?k10 ?a11 ?l11 ?c11 ?k11 ?a12 ?l12 ?c12 ?k12 ?a13 ?l13 ?c13 ?k13 ?a14 ?l14 ?c14 ?k14 ?a15 ?l15 ?c15 ?k15 ?a16 ?l16 ?c16 ?k16 ?a17 ?l17 ?c17 ?k17 ?z_abs ?z_all ?z_bool ?z_int ?z_isinstance ?z_len ?z_max ?z_min ?z_range ?z_sorted ?z_sum ?z_tuple
    (case a0 => k_is); (case l0 => k_is); (case c0 => k_is); (case k0 => k_is); (case a1 => k_is); (case l1 => k_is); (case c1 => k_is); (case k1 => k_is); (case a2 => k_is); (case l2 => k_is); (case c2 => k_is); (case k2 => k_is); (case a3 => k_is); (case l3 => k_is); (case c3 => k_is); (case k3 => k_is); (case a4 => k_is); (case l4 => k_is); (case c4 => k_is); (case k4 => k_is); (case a5 => k_is); (case l5 => k_is); (case c5 => k_is); (case k5 => k_is); (case a6 => k_is); (case l6 => k_is); (case c6 => k_is); (case k6 => k_is); (case a7 => k_is); (case l7 => k_is); (case c7 => k_is); (case k7 => k_is); (case a8 => k_is); (case l8 => k_is); (case c8 => k_is); (case k8 => k_is); (case a9 => k_is); (case l9 => k_is); (case c9 => k_is); (case k9 => k_is); (case a10 => k_is); (case l10 => k_is); (case c10 => k_is); (case k10 => k_is); (case a11 => k_is); (case l11 => k_is); (case c11 => k_is); (case k11 => k_is); (case a12 => k_is); (case l12 => k_is); (case c12 => k_is); (case k12 => k_is); (case a13 => k_is); (case l13 => k_is); (case c13 => k_is); (case k13 => k_is); (case a14 => k_is); (case l14 => k_is); (case c14 => k_is); (case k14 => k_is); (case a15 => k_is); (case l15 => k_is); (case c15 => k_is); (case k15 => k_is); (case a16 => k_is); (case l16 => k_is); (case c16 => k_is); (case k16 => k_is); (case a17 => k_is); (case l17 => k_is); (case c17 => k_is); (case k17 => k_is); (case z_abs => k_is); (case z_all => k_is); (case z_bool => k_is); (case z_int => k_is); (case z_isinstance => k_is); (case z_len => k_is); (case z_max => k_is); (case z_min => k_is); (case z_range => k_is); (case z_sorted => k_is); (case z_sum => k_is); (case z_tuple => k_is)
#print axioms PySem.Challenge.cw_fewestsent_k06_whole_numbers_go_together_holds
