import PyProof.Rows.All
import Wide.All
import OpenK.AllK
import Wide.FinOn
import HandS.ForMost
import HandS.ForExc
import HandS.NoneIn
import HandS.Wide
import HandS.WideBits
import HandS.IsInst
import HandS.TupAny
import HandS.Style
import HandS.SetFor
import HandS.SortRule
import HandS.EndBits
import HandS.WordsDict
import HandS.More
import KE.KDictPairs
import PyProof.ReprRoads
import PyProof.ReprLen
import PyProof.Rows.StrMeet
import PySem.Challenge.RW_fewestsent_k08_names_put_in_and_worths
set_option Elab.async false
set_option linter.all false
set_option maxRecDepth 100000
set_option maxHeartbeats 4000000
/-! Fx, the core: data with a store of mutable cells; what a reading is, by a function on data. -/
namespace Fx
open PySem PySem.Spec PyProof.Rows L2

/-- data: what never changes is said whole (tuples, lists that nobody changes; frt, frz: of the written part, or locked); a mutable object is a place in the store -/
inductive D where
  | non | bl (b : Bool) | int (i : Int) | str (x : Str) | ty (n : String)
  | tup (xs : List D) | lst (xs : List D) | frt (xs : List D) | frz (xs : List D) | ref (n : Nat)
inductive Cell where
  | lst (xs : List D)
  | dct (kvs : List (Key × D))
  | dcf (kvs : List (Key × D))
abbrev Sto := List Cell
abbrev En := List (Option D)
/-- an exception: its class, what its own dict holds (if it has one) -/
structure Exn where
  cls : Addr
  fs : Option (List (Str × D))
inductive R (α : Type) where
  | ok (a : α) (s : Sto)
  | exc (e : Exn) (s : Sto)
def bnd {α β : Type} (x : Option (R α)) (k : α → Sto → Option (R β)) : Option (R β) :=
  match x with
  | some (.ok a s) => k a s
  | some (.exc e s) => some (.exc e s)
  | none => none
@[simp] theorem bnd_ok {α β : Type} {a : α} {s : Sto} {k : α → Sto → Option (R β)} : bnd (some (.ok a s)) k = k a s := rfl
@[simp] theorem bnd_exc {α β : Type} {e : Exn} {s : Sto} {k : α → Sto → Option (R β)} : bnd (some (.exc e s)) k = some (.exc e s) := rfl
@[simp] theorem bnd_none {α β : Type} {k : α → Sto → Option (R β)} : bnd (none : Option (R α)) k = none := rfl
theorem bnd_some {α β : Type} {x : Option (R α)} {k : α → Sto → Option (R β)} {r : R β} (h : bnd x k = some r) :
    (∃ a s, x = some (.ok a s) ∧ k a s = some r) ∨ (∃ e s, x = some (.exc e s) ∧ r = .exc e s) := by
  cases x with
  | none => cases h
  | some q =>
    cases q with
    | ok a s => exact .inl ⟨a, s, rfl, h⟩
    | exc e s => exact .inr ⟨e, s, rfl, (Option.some.inj h).symm⟩

/-! ### data stands in a heap -/
/-! of the written part: what is to be read whatever is tracked -/
def WrL (K : PySem.W.Frag) (a : Addr) (xs : List V) : Prop := SqL K (fun _ => none) a xs
def WrT (K : PySem.W.Frag) (a : Addr) (xs : List V) : Prop := SqT K (fun _ => none) a xs
theorem WrL.seq {K : PySem.W.Frag} {H : Hp} {a : Addr} {xs : List V} (h : WrL K a xs) : SqL K H a xs := h.elim (fun z => by rcases z with z | ⟨_, z⟩ <;> cases z) .inr
theorem WrT.seq {K : PySem.W.Frag} {H : Hp} {a : Addr} {xs : List V} (h : WrT K a xs) : SqT K H a xs := h.elim (fun z => by rcases z with z | ⟨_, z⟩ <;> cases z) .inr
/-- where the cells of the store stand; what else is held back (lists in the making) -/
structure Mp where
  c : List Addr
  h : List Addr
def Mp.Own (ρ : Mp) (a : Addr) : Prop := a ∈ ρ.c ∨ a ∈ ρ.h
def Mp.add (ρ : Mp) (p : Addr) : Mp := ⟨ρ.c ++ [p], ρ.h⟩
def FxL (H : Hp) (ρ : Mp) (a : Addr) (xs : List V) : Prop := ¬ ρ.Own a ∧ H a = some (.lst xs)
/-- a tuple of ours; its object is known, and has no dict -/
def FxT (H : Hp) (ρ : Mp) (a : Addr) (xs : List V) : Prop := ¬ ρ.Own a ∧ ∃ o, H a = some (.frz o (.tup xs)) ∧ o.dict = none
def ZxL (K : PySem.W.Frag) (H : Hp) (ρ : Mp) (a : Addr) (xs : List V) : Prop := (¬ ρ.Own a ∧ Rd H a (.lst xs)) ∨ WrL K a xs
def ZxT (K : PySem.W.Frag) (H : Hp) (ρ : Mp) (a : Addr) (xs : List V) : Prop := (¬ ρ.Own a ∧ Rd H a (.tup xs)) ∨ WrT K a xs
theorem FxL.seq {K : PySem.W.Frag} {H : Hp} {ρ : Mp} {a : Addr} {xs : List V} (h : FxL H ρ a xs) : SqL K H a xs := .inl (.inl h.2)
theorem FxT.seq {K : PySem.W.Frag} {H : Hp} {ρ : Mp} {a : Addr} {xs : List V} (h : FxT H ρ a xs) : SqT K H a xs := let ⟨_, o, e, _⟩ := h; .inl (.inr ⟨o, e⟩)
theorem ZxL.seq {K : PySem.W.Frag} {H : Hp} {ρ : Mp} {a : Addr} {xs : List V} (h : ZxL K H ρ a xs) : SqL K H a xs := h.elim (fun z => .inl z.2) WrL.seq
theorem ZxT.seq {K : PySem.W.Frag} {H : Hp} {ρ : Mp} {a : Addr} {xs : List V} (h : ZxT K H ρ a xs) : SqT K H a xs := h.elim (fun z => .inl z.2) WrT.seq

inductive DR (K : PySem.W.Frag) (H : Hp) (ρ : Mp) : V → D → Prop where
  | non : DR K H ρ .non .non
  | bl (b : Bool) : DR K H ρ (.bl b) (.bl b)
  | int (i : Int) : DR K H ρ (.int i) (.int i)
  | str (x : Str) : DR K H ρ (.str x) (.str x)
  | ty (n : String) : DR K H ρ (.ty n) (.ty n)
  | tup {a : Addr} {xs : List V} {ds : List D} (h : FxT H ρ a xs) (l : xs.length = ds.length) (e : ∀ (i : Nat) (x : V) (d : D), xs[i]? = some x → ds[i]? = some d → DR K H ρ x d) : DR K H ρ (.ref a) (.tup ds)
  | lst {a : Addr} {xs : List V} {ds : List D} (h : FxL H ρ a xs) (l : xs.length = ds.length) (e : ∀ (i : Nat) (x : V) (d : D), xs[i]? = some x → ds[i]? = some d → DR K H ρ x d) : DR K H ρ (.ref a) (.lst ds)
  | frt {a : Addr} {xs : List V} {ds : List D} (h : ZxT K H ρ a xs) (l : xs.length = ds.length) (e : ∀ (i : Nat) (x : V) (d : D), xs[i]? = some x → ds[i]? = some d → DR K H ρ x d) : DR K H ρ (.ref a) (.frt ds)
  | frz {a : Addr} {xs : List V} {ds : List D} (h : ZxL K H ρ a xs) (l : xs.length = ds.length) (e : ∀ (i : Nat) (x : V) (d : D), xs[i]? = some x → ds[i]? = some d → DR K H ρ x d) : DR K H ρ (.ref a) (.frz ds)
  | ref {n : Nat} {a : Addr} (h : ρ.c[n]? = some a) : DR K H ρ (.ref a) (.ref n)
/-- lists of data -/
def DRs (K : PySem.W.Frag) (H : Hp) (ρ : Mp) (xs : List V) (ds : List D) : Prop := xs.length = ds.length ∧ ∀ (i : Nat) (x : V) (d : D), xs[i]? = some x → ds[i]? = some d → DR K H ρ x d
def DRk (K : PySem.W.Frag) (H : Hp) (ρ : Mp) (xs : List (Key × V)) (ds : List (Key × D)) : Prop := xs.length = ds.length ∧ ∀ (i : Nat) (x : Key × V) (d : Key × D), xs[i]? = some x → ds[i]? = some d → x.1 = d.1 ∧ DR K H ρ x.2 d.2

structure Step (ρ : Mp) (H : Hp) (ρ' : Mp) (H' : Hp) : Prop where
  pre : ∃ t, ρ'.c = ρ.c ++ t
  hid : ρ'.h = ρ.h
  keep : ∀ a o, H a = some o → a ∉ ρ.c → H' a = some o
  new : ∀ a, a ∈ ρ'.c → a ∈ ρ.c ∨ H a = none
  fz : ∀ a o u, H a = some (.frz o u) → H' a = some (.frz o u)
section
variable {K : PySem.W.Frag} {H H1 H2 H' : Hp} {ρ ρ1 ρ2 ρ' : Mp} {v x y : V} {d dx dy : D} {xs : List V} {ds : List D} {a p : Addr} {o : HO}
theorem Step.refl : Step ρ H ρ H := ⟨⟨[], by simp⟩, rfl, fun _ _ h _ => h, fun _ h => .inl h, fun _ _ _ h => h⟩
theorem Step.trans (s : Step ρ H ρ1 H1) (t : Step ρ1 H1 ρ2 H2) : Step ρ H ρ2 H2 := by
  refine ⟨?_, t.hid.trans s.hid, fun a o h n => ?_, fun a h => ?_, fun a o u h => t.fz a o u (s.fz a o u h)⟩
  · obtain ⟨t1, e1⟩ := s.pre
    obtain ⟨t2, e2⟩ := t.pre
    exact ⟨t1 ++ t2, by rw [e2, e1, List.append_assoc]⟩
  · refine t.keep a o (s.keep a o h n) fun m => ?_
    rcases s.new a m with z | z
    · exact n z
    · rw [z] at h; cases h
  · rcases t.new a h with z | z
    · exact s.new a z
    · by_cases m : a ∈ ρ.c
      · exact .inl m
      · refine .inr ?_
        cases q : H a with
        | none => rfl
        | some o => rw [s.keep a o q m] at z; cases z
theorem Step.nin (s : Step ρ H ρ' H') (h : H a = some o) (n : a ∉ ρ.c) : a ∉ ρ'.c := fun m => by
  rcases s.new a m with z | z
  · exact n z
  · rw [z] at h; cases h
theorem Step.nown (s : Step ρ H ρ' H') (h : H a = some o) (n : ¬ ρ.Own a) : ¬ ρ'.Own a := fun m => by
  rcases m with m | m
  · exact s.nin h (fun z => n (.inl z)) m
  · rw [s.hid] at m; exact n (.inr m)
theorem Step.rd {u : HO} (s : Step ρ H ρ' H') (n : ¬ ρ.Own a) (h : Rd H a u) : ¬ ρ'.Own a ∧ Rd H' a u := by
  have nc : a ∉ ρ.c := fun z => n (.inl z)
  rcases h with h | ⟨o, h⟩
  · exact ⟨s.nown h n, .inl (s.keep _ _ h nc)⟩
  · exact ⟨s.nown h n, .inr ⟨o, s.keep _ _ h nc⟩⟩
theorem Step.ix (s : Step ρ H ρ' H') {n : Nat} (h : ρ.c[n]? = some a) : ρ'.c[n]? = some a := by
  obtain ⟨t, e⟩ := s.pre
  rw [e, List.getElem?_append_left (List.getElem?_eq_some_iff.mp h).1]
  exact h
/-- what stays for data: new cells, new hidden objects, what is owned may turn -/
structure Far (ρ : Mp) (H : Hp) (ρ' : Mp) (H' : Hp) : Prop where
  pre : ∃ t, ρ'.c = ρ.c ++ t
  keep : ∀ a o, H a = some o → ¬ ρ.Own a → H' a = some o
  new : ∀ a, ρ'.Own a → ρ.Own a ∨ H a = none
  fz : ∀ a o u, H a = some (.frz o u) → H' a = some (.frz o u)
theorem Step.far (s : Step ρ H ρ' H') : Far ρ H ρ' H' := ⟨s.pre, fun a o e n => s.keep a o e fun z => n (.inl z), fun a m => m.elim (fun z => (s.new a z).elim (fun z => .inl (.inl z)) .inr) fun z => .inl (.inr (by rw [← s.hid]; exact z)), s.fz⟩
theorem Far.refl : Far ρ H ρ H := Step.refl.far
theorem Far.trans (s : Far ρ H ρ1 H1) (t : Far ρ1 H1 ρ2 H2) : Far ρ H ρ2 H2 := by
  refine ⟨?_, fun a o h n => ?_, fun a h => ?_, fun a o u h => t.fz a o u (s.fz a o u h)⟩
  · obtain ⟨t1, e1⟩ := s.pre
    obtain ⟨t2, e2⟩ := t.pre
    exact ⟨t1 ++ t2, by rw [e2, e1, List.append_assoc]⟩
  · refine t.keep a o (s.keep a o h n) fun m => ?_
    rcases s.new a m with z | z
    · exact n z
    · rw [z] at h; cases h
  · rcases t.new a h with z | z
    · exact s.new a z
    · by_cases m : ρ.Own a
      · exact .inl m
      · refine .inr ?_
        cases q : H a with
        | none => rfl
        | some o => rw [s.keep a o q m] at z; cases z
theorem Far.nown (s : Far ρ H ρ' H') (h : H a = some o) (n : ¬ ρ.Own a) : ¬ ρ'.Own a := fun m => by
  rcases s.new a m with m | m
  · exact n m
  · rw [m] at h; cases h
theorem Far.rd {u : HO} (s : Far ρ H ρ' H') (n : ¬ ρ.Own a) (h : Rd H a u) : ¬ ρ'.Own a ∧ Rd H' a u := by
  rcases h with h | ⟨o, h⟩
  · exact ⟨s.nown h n, .inl (s.keep _ _ h n)⟩
  · exact ⟨s.nown h n, .inr ⟨o, s.keep _ _ h n⟩⟩
theorem Far.ix (s : Far ρ H ρ' H') {n : Nat} (h : ρ.c[n]? = some a) : ρ'.c[n]? = some a := by
  obtain ⟨t, e⟩ := s.pre
  rw [e, List.getElem?_append_left (List.getElem?_eq_some_iff.mp h).1]
  exact h
theorem Far.fxl (s : Far ρ H ρ' H') (h : FxL H ρ a xs) : FxL H' ρ' a xs := ⟨s.nown h.2 h.1, s.keep _ _ h.2 h.1⟩
theorem Far.fxt (s : Far ρ H ρ' H') (h : FxT H ρ a xs) : FxT H' ρ' a xs := let ⟨n, o, e, d⟩ := h; ⟨s.nown e n, o, s.keep _ _ e n, d⟩
theorem Far.zxl (s : Far ρ H ρ' H') (h : ZxL K H ρ a xs) : ZxL K H' ρ' a xs := h.elim (fun z => .inl (s.rd z.1 z.2)) .inr
theorem Far.zxt (s : Far ρ H ρ' H') (h : ZxT K H ρ a xs) : ZxT K H' ρ' a xs := h.elim (fun z => .inl (s.rd z.1 z.2)) .inr
theorem DR.far (h : DR K H ρ v d) (s : Far ρ H ρ' H') : DR K H' ρ' v d := by
  induction h with
  | non => exact .non
  | bl b => exact .bl b
  | int i => exact .int i
  | str x => exact .str x
  | ty n => exact .ty n
  | tup h l e ih => exact .tup (s.fxt h) l ih
  | lst h l e ih => exact .lst (s.fxl h) l ih
  | frt h l e ih => exact .frt (s.zxt h) l ih
  | frz h l e ih => exact .frz (s.zxl h) l ih
  | ref h => exact .ref (s.ix h)
theorem DR.step (h : DR K H ρ v d) (s : Step ρ H ρ' H') : DR K H' ρ' v d := h.far s.far
/-- less is held back -/
theorem DR.less (h : DR K H ρ v d) (e : ∃ t, ρ'.c = ρ.c ++ t) (l : ∀ a, ρ'.Own a → ρ.Own a) : DR K H ρ' v d := by
  induction h with
  | non => exact .non
  | bl b => exact .bl b
  | int i => exact .int i
  | str x => exact .str x
  | ty n => exact .ty n
  | tup h l' e' ih => exact .tup ⟨fun m => h.1 (l _ m), h.2⟩ l' ih
  | lst h l' e' ih => exact .lst ⟨fun m => h.1 (l _ m), h.2⟩ l' ih
  | frt h l' e' ih => exact .frt (h.elim (fun z => .inl ⟨fun m => z.1 (l _ m), z.2⟩) .inr) l' ih
  | frz h l' e' ih => exact .frz (h.elim (fun z => .inl ⟨fun m => z.1 (l _ m), z.2⟩) .inr) l' ih
  | ref h =>
    obtain ⟨t, e⟩ := e
    exact .ref (by rw [e, List.getElem?_append_left (List.getElem?_eq_some_iff.mp h).1]; exact h)
theorem DRs.far (h : DRs K H ρ xs ds) (s : Far ρ H ρ' H') : DRs K H' ρ' xs ds := ⟨h.1, fun i x d e1 e2 => (h.2 i x d e1 e2).far s⟩
theorem DRs.step (h : DRs K H ρ xs ds) (s : Step ρ H ρ' H') : DRs K H' ρ' xs ds := h.far s.far
theorem DRs.less (h : DRs K H ρ xs ds) (e : ∃ t, ρ'.c = ρ.c ++ t) (l : ∀ a, ρ'.Own a → ρ.Own a) : DRs K H ρ' xs ds := ⟨h.1, fun i x d e1 e2 => (h.2 i x d e1 e2).less e l⟩
theorem DRk.far {xs : List (Key × V)} {ds : List (Key × D)} (h : DRk K H ρ xs ds) (s : Far ρ H ρ' H') : DRk K H' ρ' xs ds := ⟨h.1, fun i x d e1 e2 => ⟨(h.2 i x d e1 e2).1, (h.2 i x d e1 e2).2.far s⟩⟩
theorem DRk.step {xs : List (Key × V)} {ds : List (Key × D)} (h : DRk K H ρ xs ds) (s : Step ρ H ρ' H') : DRk K H' ρ' xs ds := h.far s.far
theorem DRk.less {xs : List (Key × V)} {ds : List (Key × D)} (h : DRk K H ρ xs ds) (e : ∃ t, ρ'.c = ρ.c ++ t) (l : ∀ a, ρ'.Own a → ρ.Own a) : DRk K H ρ' xs ds := ⟨h.1, fun i x d e1 e2 => ⟨(h.2 i x d e1 e2).1, (h.2 i x d e1 e2).2.less e l⟩⟩
theorem Step.same (s : Same H H') : Step ρ H ρ H' := ⟨⟨[], by simp⟩, rfl, fun a o h _ => s a o h, fun _ h => .inl h, fun a o u h => s a _ h⟩
theorem same_upd (h : H p = none) : Same H (upd H p o) := fun b u e => by rw [upd_ne (ne_of_none e h)]; exact e

theorem DRs.nil : DRs K H ρ [] [] := ⟨rfl, fun i x d e _ => by simp at e⟩
theorem DRs.cons (h : DR K H ρ x d) (t : DRs K H ρ xs ds) : DRs K H ρ (x :: xs) (d :: ds) := by
  refine ⟨by simp [t.1], fun i x' d' e1 e2 => ?_⟩
  cases i with
  | zero => simp at e1 e2; subst e1; subst e2; exact h
  | succ i => exact t.2 i x' d' (by simpa using e1) (by simpa using e2)
theorem DRs.cons_inv {vs : List V} (h : DRs K H ρ vs (d :: ds)) : ∃ x xs, vs = x :: xs ∧ DR K H ρ x d ∧ DRs K H ρ xs ds := by
  cases vs with
  | nil => have := h.1; simp at this
  | cons x xs => exact ⟨x, xs, rfl, h.2 0 x d rfl rfl, by simpa using h.1, fun i x' d' e1 e2 => h.2 (i + 1) x' d' (by simpa using e1) (by simpa using e2)⟩
theorem DRs.nil_inv {vs : List V} (h : DRs K H ρ vs []) : vs = [] := by
  have := h.1
  cases vs with
  | nil => rfl
  | cons x xs => simp at this
theorem DRs.get (h : DRs K H ρ xs ds) {i : Nat} (e : ds[i]? = some d) : ∃ x, xs[i]? = some x ∧ DR K H ρ x d := by
  have hi : i < xs.length := by rw [h.1]; exact (List.getElem?_eq_some_iff.mp e).1
  exact ⟨xs[i], List.getElem?_eq_getElem hi, h.2 i _ _ (List.getElem?_eq_getElem hi) e⟩
theorem DRs.append {ys : List V} {es : List D} (h : DRs K H ρ xs ds) (t : DRs K H ρ ys es) : DRs K H ρ (xs ++ ys) (ds ++ es) := by
  refine ⟨by simp [h.1, t.1], fun i x d e1 e2 => ?_⟩
  by_cases hi : i < xs.length
  · rw [List.getElem?_append_left hi] at e1
    rw [List.getElem?_append_left (by rw [← h.1]; exact hi)] at e2
    exact h.2 i x d e1 e2
  · rw [List.getElem?_append_right (by omega)] at e1
    rw [List.getElem?_append_right (by rw [← h.1]; omega), ← h.1] at e2
    exact t.2 _ x d e1 e2
theorem DRs.take (h : DRs K H ρ xs ds) (n : Nat) : DRs K H ρ (xs.take n) (ds.take n) := by
  refine ⟨by simp [h.1], fun i x d e1 e2 => ?_⟩
  rw [List.getElem?_take] at e1 e2
  split at e1
  · rename_i hi
    rw [if_pos hi] at e2
    exact h.2 i x d e1 e2
  · cases e1
theorem DRs.drop (h : DRs K H ρ xs ds) (n : Nat) : DRs K H ρ (xs.drop n) (ds.drop n) :=
  ⟨by simp [h.1], fun i x d e1 e2 => h.2 (n + i) x d (by simpa using e1) (by simpa using e2)⟩
theorem DRs.set (h : DRs K H ρ xs ds) (hx : DR K H ρ x d) (n : Nat) : DRs K H ρ (xs.set n x) (ds.set n d) := by
  refine ⟨by simp [h.1], fun i x' d' e1 e2 => ?_⟩
  by_cases hi : n = i
  · subst hi
    have h1 := (List.getElem?_eq_some_iff.mp e1).1
    have h2 := (List.getElem?_eq_some_iff.mp e2).1
    rw [List.getElem?_set_self (by simpa using h1)] at e1
    rw [List.getElem?_set_self (by simpa using h2)] at e2
    cases e1; cases e2; exact hx
  · rw [List.getElem?_set_ne hi] at e1 e2
    exact h.2 i x' d' e1 e2
theorem DR.tup_inv (h : DR K H ρ v (.tup ds)) : ∃ a xs, v = .ref a ∧ FxT H ρ a xs ∧ DRs K H ρ xs ds := by
  cases h with
  | tup h l e => exact ⟨_, _, rfl, h, l, e⟩
theorem DR.lst_inv (h : DR K H ρ v (.lst ds)) : ∃ a xs, v = .ref a ∧ FxL H ρ a xs ∧ DRs K H ρ xs ds := by
  cases h with
  | lst h l e => exact ⟨_, _, rfl, h, l, e⟩
theorem DR.frt_inv (h : DR K H ρ v (.frt ds)) : ∃ a xs, v = .ref a ∧ ZxT K H ρ a xs ∧ DRs K H ρ xs ds := by
  cases h with
  | frt h l e => exact ⟨_, _, rfl, h, l, e⟩
theorem DR.frz_inv (h : DR K H ρ v (.frz ds)) : ∃ a xs, v = .ref a ∧ ZxL K H ρ a xs ∧ DRs K H ρ xs ds := by
  cases h with
  | frz h l e => exact ⟨_, _, rfl, h, l, e⟩
theorem DR.ref_inv {n : Nat} (h : DR K H ρ v (.ref n)) : ∃ a, v = .ref a ∧ ρ.c[n]? = some a := by
  cases h with
  | ref h => exact ⟨_, rfl, h⟩
end

def CR (K : PySem.W.Frag) (H : Hp) (ρ : Mp) (a : Addr) : Cell → Prop
  | .lst ds => ∃ xs, H a = some (.lst xs) ∧ DRs K H ρ xs ds
  | .dct ds => ∃ xs, H a = some (.dK xs) ∧ DRk K H ρ xs ds
  | .dcf ds => ∃ o xs, H a = some (.frz o (.dK xs)) ∧ DRk K H ρ xs ds
structure StR (K : PySem.W.Frag) (H : Hp) (ρ : Mp) (st : Sto) : Prop where
  len : ρ.c.length = st.length
  nd : ρ.c.Nodup
  cell : ∀ (n : Nat) (a : Addr) (c : Cell), ρ.c[n]? = some a → st[n]? = some c → CR K H ρ a c
  hid : ∀ a, a ∈ ρ.h → H a ≠ none
section
variable {K : PySem.W.Frag} {H H1 H2 H' : Hp} {ρ ρ1 ρ2 ρ' : Mp} {v x y : V} {d dx dy : D} {xs : List V} {ds : List D} {a p : Addr} {o : HO} {st st' : Sto} {c : Cell}
theorem CR.has (h : CR K H ρ a c) : ∃ o, H a = some o := by
  cases c with
  | lst ds => obtain ⟨xs, e, _⟩ := h; exact ⟨_, e⟩
  | dct ds => obtain ⟨xs, e, _⟩ := h; exact ⟨_, e⟩
  | dcf ds => obtain ⟨o, xs, e, _⟩ := h; exact ⟨_, e⟩
theorem StR.has (h : StR K H ρ st) (m : a ∈ ρ.c) : ∃ o, H a = some o := by
  obtain ⟨n, e⟩ := List.getElem?_of_mem m
  have hn : n < st.length := by rw [← h.len]; exact (List.getElem?_eq_some_iff.mp e).1
  exact (h.cell n a _ e (List.getElem?_eq_getElem hn)).has
theorem StR.newc (h : StR K H ρ st) (e : H p = none) : p ∉ ρ.c := fun m => by
  obtain ⟨o, q⟩ := h.has m
  rw [e] at q; cases q
theorem StR.new (h : StR K H ρ st) (e : H p = none) : ¬ ρ.Own p := fun m => m.elim (h.newc e) fun z => h.hid p z e
theorem CR.move (h : CR K H ρ a c) (s : Far ρ H ρ' H') (k : ∀ o, H a = some o → H' a = some o) : CR K H' ρ' a c := by
  cases c with
  | lst ds => obtain ⟨xs, e, q⟩ := h; exact ⟨xs, k _ e, q.far s⟩
  | dct ds => obtain ⟨xs, e, q⟩ := h; exact ⟨xs, k _ e, q.far s⟩
  | dcf ds => obtain ⟨o, xs, e, q⟩ := h; exact ⟨o, xs, k _ e, q.far s⟩
/-- the heap has grown -/
theorem StR.same (h : StR K H ρ st) (s : Same H H') : StR K H' ρ st := ⟨h.len, h.nd, fun n a c e1 e2 => (h.cell n a c e1 e2).move (Step.same s).far fun o q => s a o q, fun a m e => by
  cases q : H a with
  | none => exact h.hid a m q
  | some o => rw [s a o q] at e; cases e⟩
/-- a new cell -/
theorem Step.cell (e : H p = none) : Step ρ H (ρ.add p) (upd H p o) :=
  ⟨⟨[p], rfl⟩, rfl, fun a u h _ => by rw [upd_ne (ne_of_none h e)]; exact h, fun a h => (List.mem_append.mp h).elim .inl fun z => by
    rw [List.mem_singleton.mp z]; exact .inr e, fun a o u h => by rw [upd_ne (ne_of_none h e)]; exact h⟩
theorem StR.newCell (h : StR K H ρ st) (e : H p = none) (hc : CR K (upd H p o) (ρ.add p) p c) : StR K (upd H p o) (ρ.add p) (st ++ [c]) := by
  refine ⟨by simp [h.len, Mp.add], ?_, fun n a c' e1 e2 => ?_, fun a m => ?_⟩
  · show (ρ.c ++ [p]).Nodup
    rw [List.nodup_append]
    refine ⟨h.nd, by simp, fun a ha b hb q => ?_⟩
    subst q
    rw [List.mem_singleton.mp hb] at ha
    exact h.newc e ha
  · have e1 : (ρ.c ++ [p])[n]? = some a := e1
    by_cases hn : n < ρ.c.length
    · rw [List.getElem?_append_left hn] at e1
      rw [List.getElem?_append_left (by rw [← h.len]; exact hn)] at e2
      exact (h.cell n a c' e1 e2).move (Step.cell e).far fun u q => by rw [upd_ne (ne_of_none q e)]; exact q
    · rw [List.getElem?_append_right (by omega)] at e1
      rw [List.getElem?_append_right (by rw [← h.len]; omega), ← h.len] at e2
      have z : n - ρ.c.length = 0 := by
        have := (List.getElem?_eq_some_iff.mp e1).1
        simp at this; omega
      rw [z] at e1 e2
      simp at e1 e2
      subst e1; subst e2
      exact hc
  · by_cases q : a = p
    · rw [q, upd_same]; simp
    · rw [upd_ne q]; exact h.hid a m
/-- nothing locked stands there -/
def NoFz : Option HO → Prop
  | some (.frz _ _) => False
  | _ => True
theorem NoFz.ne {b : Addr} {o : Obj} {u : HO} (h : NoFz (H a)) (q : H b = some (.frz o u)) : b ≠ a := fun e => by
  rw [← e, q] at h; exact h
theorem Step.write {n : Nat} (e : ρ.c[n]? = some a) (nf : NoFz (H a)) : Step ρ H ρ (upd H a o) :=
  ⟨⟨[], by simp⟩, rfl, fun b u q m => by
    have nb : b ≠ a := fun z => m (by rw [z]; exact List.mem_of_getElem? e)
    rw [upd_ne nb]; exact q, fun _ m => .inl m, fun b ob u q => by rw [upd_ne (nf.ne q)]; exact q⟩
theorem StR.write {n : Nat} (h : StR K H ρ st) (e : ρ.c[n]? = some a) (nf : NoFz (H a)) (hc : CR K (upd H a o) ρ a c) : StR K (upd H a o) ρ (st.set n c) := by
  refine ⟨by simp [h.len], h.nd, fun m b c' e1 e2 => ?_, fun b m => ?_⟩
  · by_cases hm : n = m
    · subst hm
      have h2 := (List.getElem?_eq_some_iff.mp e2).1
      rw [List.getElem?_set_self (by simpa using h2)] at e2
      rw [e] at e1
      cases e1; cases e2; exact hc
    · rw [List.getElem?_set_ne hm] at e2
      have nb : b ≠ a := fun z => hm (nd_ix (x := b) h.nd (by rw [z]; exact e) e1)
      exact (h.cell m b c' e1 e2).move (Step.write e nf).far fun u q => by rw [upd_ne nb]; exact q
  · by_cases q : b = a
    · rw [q, upd_same]; simp
    · rw [upd_ne q]; exact h.hid b m
/-- a list in the making is held back -/
def Mp.hide (ρ : Mp) (p : Addr) : Mp := ⟨ρ.c, p :: ρ.h⟩
theorem Far.hide (e : H p = none) : Far ρ H (ρ.hide p) (upd H p o) :=
  ⟨⟨[], by simp [Mp.hide]⟩, fun a u h _ => by rw [upd_ne (ne_of_none h e)]; exact h, fun a m => m.elim (fun z => .inl (.inl z)) fun z => (List.mem_cons.mp z).elim (fun z => .inr (by rw [z]; exact e)) fun z => .inl (.inr z), fun a o u h => by rw [upd_ne (ne_of_none h e)]; exact h⟩
theorem Far.grow (m : p ∈ ρ.h) (nf : NoFz (H p)) : Far ρ H ρ (upd H p o) :=
  ⟨⟨[], by simp⟩, fun a u h n => by
    have : a ≠ p := fun z => n (.inr (by rw [z]; exact m))
    rw [upd_ne this]; exact h, fun a m => .inl m, fun b ob u q => by rw [upd_ne (nf.ne q)]; exact q⟩
theorem StR.hide (h : StR K H ρ st) (e : H p = none) : StR K (upd H p o) (ρ.hide p) st :=
  ⟨h.len, h.nd, fun n a c e1 e2 => (h.cell n a c e1 e2).move (Far.hide e) fun u q => by rw [upd_ne (ne_of_none q e)]; exact q, fun a m q => by
    rcases List.mem_cons.mp m with z | z
    · rw [z, upd_same] at q; cases q
    · by_cases w : a = p
      · rw [w, upd_same] at q; cases q
      · rw [upd_ne w] at q; exact h.hid a z q⟩
theorem StR.grow (h : StR K H ρ st) (m : p ∈ ρ.h) (n : p ∉ ρ.c) (nf : NoFz (H p)) : StR K (upd H p o) ρ st :=
  ⟨h.len, h.nd, fun k a c e1 e2 => (h.cell k a c e1 e2).move (Far.grow m nf) fun u q => by
    have : a ≠ p := fun z => n (by rw [← z]; exact List.mem_of_getElem? e1)
    rw [upd_ne this]; exact q, fun a m q => by
    by_cases w : a = p
    · rw [w, upd_same] at q; cases q
    · rw [upd_ne w] at q; exact h.hid a m q⟩
theorem CR.less (h : CR K H ρ a c) (e : ∃ t, ρ'.c = ρ.c ++ t) (l : ∀ a, ρ'.Own a → ρ.Own a) : CR K H ρ' a c := by
  cases c with
  | lst ds => obtain ⟨xs, e1, q⟩ := h; exact ⟨xs, e1, q.less e l⟩
  | dct ds => obtain ⟨xs, e1, q⟩ := h; exact ⟨xs, e1, q.less e l⟩
  | dcf ds => obtain ⟨o, xs, e1, q⟩ := h; exact ⟨o, xs, e1, q.less e l⟩
theorem StR.less (h : StR K H ρ st) (e : ρ'.c = ρ.c) (l : ∀ a, a ∈ ρ'.h → a ∈ ρ.h) : StR K H ρ' st :=
  ⟨by rw [e]; exact h.len, by rw [e]; exact h.nd, fun n a c e1 e2 => (h.cell n a c (by rw [← e]; exact e1) e2).less ⟨[], by rw [e, List.append_nil]⟩ fun a m => m.elim (fun z => .inl (by rw [← e]; exact z)) fun z => .inr (l a z), fun a m => h.hid a (l a m)⟩
/-- a list in the making becomes a cell -/
theorem StR.opened {ρ : Mp} {l : List Addr} (h : StR K H ⟨l, p :: ρ.h⟩ st) (np : p ∉ l) (hp : H p = some (.lst xs)) (hd : DRs K H ⟨l, p :: ρ.h⟩ xs ds) : StR K H ⟨l ++ [p], ρ.h⟩ (st ++ [.lst ds]) := by
  have ow : ∀ a, (⟨l ++ [p], ρ.h⟩ : Mp).Own a → (⟨l, p :: ρ.h⟩ : Mp).Own a := fun a m => by
    rcases m with m | m
    · rcases List.mem_append.mp m with m | m
      · exact .inl m
      · exact .inr (by rw [List.mem_singleton.mp m]; exact List.mem_cons_self)
    · exact .inr (List.mem_cons_of_mem _ m)
  have pr : ∃ t, (⟨l ++ [p], ρ.h⟩ : Mp).c = (⟨l, p :: ρ.h⟩ : Mp).c ++ t := ⟨[p], rfl⟩
  have len := h.len
  refine ⟨by simpa using len, ?_, fun n a c e1 e2 => ?_, fun a m => h.hid a (List.mem_cons_of_mem _ m)⟩
  · show (l ++ [p]).Nodup
    rw [List.nodup_append]
    refine ⟨h.nd, by simp, fun a ha b hb q => ?_⟩
    subst q
    rw [List.mem_singleton.mp hb] at ha
    exact np ha
  · have e1 : (l ++ [p])[n]? = some a := e1
    have len : l.length = st.length := len
    by_cases hn : n < l.length
    · rw [List.getElem?_append_left hn] at e1
      rw [List.getElem?_append_left (by omega)] at e2
      exact (h.cell n a c e1 e2).less pr ow
    · rw [List.getElem?_append_right (by omega)] at e1
      rw [List.getElem?_append_right (by omega), ← len] at e2
      have z : n - l.length = 0 := by
        have := (List.getElem?_eq_some_iff.mp e1).1
        simp at this; omega
      rw [z] at e1 e2
      simp at e1 e2
      subst e1; subst e2
      exact ⟨xs, hp, hd.less pr ow⟩
theorem StR.lstAt {n : Nat} (h : StR K H ρ st) (e : ρ.c[n]? = some a) (e2 : st[n]? = some (.lst ds)) : ∃ xs, H a = some (.lst xs) ∧ DRs K H ρ xs ds := h.cell n a _ e e2
theorem StR.dctAt {n : Nat} {ks : List (Key × D)} (h : StR K H ρ st) (e : ρ.c[n]? = some a) (e2 : st[n]? = some (.dct ks)) : ∃ xs, H a = some (.dK xs) ∧ DRk K H ρ xs ks := h.cell n a _ e e2
end

/-- the frame's slots -/
def EnR (K : PySem.W.Frag) (H : Hp) (ρ : Mp) (σ : L2.St) (env : En) : Prop := σ.length = env.length ∧ ∀ (i : Nat) (d : D), env[i]? = some (some d) → ∃ v, σ[i]? = some (some v) ∧ DR K H ρ v d
structure Wd (K : PySem.W.Frag) (H : Hp) (ρ : Mp) (σ : L2.St) (env : En) (st : Sto) : Prop where
  en : EnR K H ρ σ env
  st : StR K H ρ st
def ExR (K : PySem.W.Frag) (H : Hp) (ρ : Mp) (cv : Value) (dx : Option Addr) (e : Exn) : Prop :=
  cv = .ref e.cls ∧ match e.fs with
    | none => dx = none
    | some fs => ∃ d gs, dx = some d ∧ ¬ ρ.Own d ∧ H d = some (.xd gs) ∧ gs.length = fs.length ∧ ∀ (i : Nat) (x : Str × V) (y : Str × D), gs[i]? = some x → fs[i]? = some y → x.1 = y.1 ∧ DR K H ρ x.2 y.2
section
variable {K : PySem.W.Frag} {H H1 H2 H' : Hp} {ρ ρ1 ρ2 ρ' : Mp} {σ : L2.St} {env : En} {st : Sto} {E : XK}
theorem EnR.far (h : EnR K H ρ σ env) (s : Far ρ H ρ' H') : EnR K H' ρ' σ env := ⟨h.1, fun i d e => let ⟨v, q, r⟩ := h.2 i d e; ⟨v, q, r.far s⟩⟩
theorem EnR.step (h : EnR K H ρ σ env) (s : Step ρ H ρ' H') : EnR K H' ρ' σ env := h.far s.far
theorem EnR.set {v : V} {d : D} (h : EnR K H ρ σ env) (r : DR K H ρ v d) (i : Nat) : EnR K H ρ (σ.set i (some v)) (env.set i (some d)) := by
  refine ⟨by simp [h.1], fun j d' e => ?_⟩
  by_cases hi : i = j
  · subst hi
    have h1 := (List.getElem?_eq_some_iff.mp e).1
    rw [List.getElem?_set_self (by simpa using h1)] at e
    cases e
    exact ⟨v, List.getElem?_set_self (by rw [h.1]; simpa using h1), r⟩
  · rw [List.getElem?_set_ne hi] at e
    obtain ⟨w, q, z⟩ := h.2 j d' e
    exact ⟨w, by rw [List.getElem?_set_ne hi]; exact q, z⟩
theorem EnR.setNone (h : EnR K H ρ σ env) (i : Nat) : EnR K H ρ (σ.set i none) (env.set i none) := by
  refine ⟨by simp [h.1], fun j d' e => ?_⟩
  by_cases hi : i = j
  · subst hi
    have h1 := (List.getElem?_eq_some_iff.mp e).1
    rw [List.getElem?_set_self (by simpa using h1)] at e
    cases e
  · rw [List.getElem?_set_ne hi] at e
    obtain ⟨w, q, z⟩ := h.2 j d' e
    exact ⟨w, by rw [List.getElem?_set_ne hi]; exact q, z⟩

/-- the end of a reading -/
def Fin {α β : Type} (rel : Hp → Mp → β → α → Prop) (K : PySem.W.Frag) (E : XK) (ρ : Mp) (H : Hp) (Q : β → Hp → Prop) : R α → Prop
  | .ok a st' => ∀ b H' ρ', Step ρ H ρ' H' → StR K H' ρ' st' → rel H' ρ' b a → Q b H'
  | .exc e st' => ∀ cv dx H' ρ', Step ρ H ρ' H' → StR K H' ρ' st' → ExR K H' ρ' cv dx e → E cv dx H'
theorem Fin.step {α β : Type} {rel : Hp → Mp → β → α → Prop} {Q : β → Hp → Prop} {r : R α} (h : Fin rel K E ρ H Q r) (s : Step ρ H ρ1 H1) : Fin rel K E ρ1 H1 Q r := by
  cases r with
  | ok a st' => exact fun b H' ρ' t => h b H' ρ' (s.trans t)
  | exc e st' => exact fun cv dx H' ρ' t => h cv dx H' ρ' (s.trans t)
/-- a reading by a function -/
def rdG {α β : Type} (rel : Hp → Mp → β → α → Prop) (K : PySem.W.Frag) (E : XK) (f : En → Sto → Option (R α)) (σ : L2.St) (H : Hp) (Q : β → Hp → Prop) : Prop :=
  ∃ ρ env st r, Wd K H ρ σ env st ∧ f env st = some r ∧ Fin rel K E ρ H Q r
abbrev FE := En → Sto → Option (R D)
abbrev FT := En → Sto → Option (R Bool)
abbrev FA := En → Sto → Option (R (List D))
abbrev relT : Hp → Mp → Bool → Bool → Prop := fun _ _ b a => b = a
def rdE (K : PySem.W.Frag) (E : XK) (f : FE) : TE := rdG (DR K) K E f
def rdT (K : PySem.W.Frag) (E : XK) (f : FT) : TT := rdG relT K E f
def rdA (K : PySem.W.Frag) (E : XK) (f : FA) : TA := rdG (DRs K) K E f
theorem rd_bind {α β γ δ : Type} {rel : Hp → Mp → β → α → Prop} {rel2 : Hp → Mp → δ → γ → Prop} {f : En → Sto → Option (R α)} {k : α → Sto → Option (R γ)} {r : R γ} {Q : δ → Hp → Prop} {P : β → Hp → Prop}
    (w : Wd K H ρ σ env st) (hf : bnd (f env st) k = some r) (hQ : Fin rel2 K E ρ H Q r)
    (cont : ∀ b a s1 H1 ρ1, Step ρ H ρ1 H1 → Wd K H1 ρ1 σ env s1 → rel H1 ρ1 b a → k a s1 = some r → Fin rel2 K E ρ1 H1 Q r → P b H1) : rdG rel K E f σ H P := by
  rcases bnd_some hf with ⟨a, s, e1, e2⟩ | ⟨e, s, e1, e2⟩
  · exact ⟨ρ, env, st, .ok a s, w, e1, fun b H1 ρ1 t ss q => cont b a s H1 ρ1 t ⟨w.en.step t, ss⟩ q e2 (hQ.step t)⟩
  · subst e2
    exact ⟨ρ, env, st, .exc e s, w, e1, hQ⟩
theorem Fin.val {α β : Type} {rel : Hp → Mp → β → α → Prop} {Q : β → Hp → Prop} {a : α} {b : β} (h : Fin rel K E ρ H Q (.ok a st)) (s : StR K H ρ st) (q : rel H ρ b a) : Q b H := h b H ρ .refl s q
end

/-! ### judgements -/
section
variable {X : Cx}
theorem PE.imp {e : Expr} {t t' : TE} (h : PE X e t) (i : ∀ σ H Q, t' σ H Q → t σ H Q) : PE X e t' := ⟨fun pins s σ H Q I z => h.run pins s σ H Q I (i σ H Q z)⟩
theorem PT.imp {e : Expr} {t t' : TT} (h : PT X e t) (i : ∀ σ H Q, t' σ H Q → t σ H Q) : PT X e t' := ⟨fun pins s σ H Q I z => h.run pins s σ H Q I (i σ H Q z)⟩
theorem PW.imp {e : Expr} {t t' : TT} (h : PW X e t) (i : ∀ σ H Q, t' σ H Q → t σ H Q) : PW X e t' := ⟨fun wh pins s σ H Q I z => h.run wh pins s σ H Q I (i σ H Q z)⟩
theorem PA.imp {e : List Expr} {t t' : TA} (h : PA X e t) (i : ∀ σ H Q, t' σ H Q → t σ H Q) : PA X e t' := ⟨fun pos pins s σ H Q I z => h.run pos pins s σ H Q I (i σ H Q z)⟩
theorem PS.imp {e : Stmt} {t t' : TS} (h : PS X e t) (i : ∀ D σ H, t' D σ H → t D σ H) : PS X e t' := ⟨fun pins s σ H D I z => h.run pins s σ H D I (i D σ H z)⟩
theorem PSs.imp {e : List Stmt} {t t' : TS} (h : PSs X e t) (i : ∀ D σ H, t' D σ H → t D σ H) : PSs X e t' := ⟨fun pins s σ H D I z => h.run pins s σ H D I (i D σ H z)⟩
end
abbrev VE (X : Cx) (E : XK) (e : Expr) (f : FE) : Prop := PE X e (rdE X.K E f)
abbrev VT (X : Cx) (E : XK) (e : Expr) (f : FT) : Prop := PT X e (rdT X.K E f)
abbrev VW (X : Cx) (E : XK) (e : Expr) (f : FT) : Prop := PW X e (rdT X.K E f)
abbrev VA (X : Cx) (E : XK) (e : List Expr) (f : FA) : Prop := PA X e (rdA X.K E f)

/-! ### expressions -/
def fVar (i : Nat) : FE := fun env st => match env[i]? with
  | some (some d) => some (.ok d st)
  | _ => none
def fC (d : D) : FE := fun _ st => some (.ok d st)
/-- by an operation on values that may make new immutable objects -/
def fOp (g : Sto → D → D → Option D) (a b : FE) : FE := fun env st => bnd (a env st) fun x s1 => bnd (b env s1) fun y s2 => (g s2 x y).map (R.ok · s2)
def fUn (g : Sto → D → Option D) (a : FE) : FE := fun env st => bnd (a env st) fun x s1 => (g s1 x).map (R.ok · s1)
def fIf (t : FT) (a b : FE) : FE := fun env st => bnd (t env st) fun c s1 => if c = true then a env s1 else b env s1
def fNil : FA := fun _ st => some (.ok [] st)
def fCons (a : FE) (r : FA) : FA := fun env st => bnd (a env st) fun x s1 => bnd (r env s1) fun xs s2 => some (.ok (x :: xs) s2)
def fTup (a : FA) : FE := fun env st => bnd (a env st) fun xs s1 => if xs.length ≤ 1000 then some (.ok (.tup xs) s1) else none
def fLst (a : FA) : FE := fun env st => bnd (a env st) fun xs s1 => if xs.length ≤ 1000 then some (.ok (.lst xs) s1) else none
/-- a new list that will be changed -/
def fLstC (a : FA) : FE := fun env st => bnd (a env st) fun xs s1 => if xs.length ≤ 1000 then some (.ok (.ref s1.length) (s1 ++ [.lst xs])) else none
def tV (a : FE) : FT := fun env st => bnd (a env st) fun x s1 => match x with
  | .bl b => some (.ok b s1)
  | _ => none
def tAnd2 (a b : FT) : FT := fun env st => bnd (a env st) fun c s1 => if c = true then b env s1 else some (.ok false s1)
def tOr2 (a b : FT) : FT := fun env st => bnd (a env st) fun c s1 => if c = true then some (.ok true s1) else b env s1
def tNot1 (a : FT) : FT := fun env st => bnd (a env st) fun c s1 => some (.ok (!c) s1)
def fAnd (a b : FE) : FE := fun env st => bnd (a env st) fun x s1 => match x with
  | .bl c => if c = true then b env s1 else some (.ok (.bl false) s1)
  | _ => none
def fOr (a b : FE) : FE := fun env st => bnd (a env st) fun x s1 => match x with
  | .bl c => if c = true then some (.ok (.bl true) s1) else b env s1
  | _ => none
def fNot (a : FE) : FE := fun env st => bnd (a env st) fun x s1 => match x with
  | .bl c => some (.ok (.bl (!c)) s1)
  | _ => none
/-- an operation's rule and its function -/
def OpP (K : PySem.W.Frag) (r : R2) (g : Sto → D → D → Option D) : Prop := ∀ (ρ : Mp) (H : Hp) (st : Sto) (x y : V) (dx dy d : D) (Q : VK), StR K H ρ st → DR K H ρ x dx → DR K H ρ y dy → g st dx dy = some d →
  (∀ v H', Same H H' → DR K H' ρ v d → Q v H') → r x y H Q
def UnP (K : PySem.W.Frag) (r : V → Hp → VK → Prop) (g : Sto → D → Option D) : Prop := ∀ (ρ : Mp) (H : Hp) (st : Sto) (x : V) (dx d : D) (Q : VK), StR K H ρ st → DR K H ρ x dx → g st dx = some d →
  (∀ v H', Same H H' → DR K H' ρ v d → Q v H') → r x H Q
def CaP (K : PySem.W.Frag) (r : List V → Hp → VK → Prop) (g : Sto → List D → Option D) : Prop := ∀ (ρ : Mp) (H : Hp) (st : Sto) (xs : List V) (ds : List D) (d : D) (Q : VK), StR K H ρ st → DRs K H ρ xs ds → g st ds = some d →
  (∀ v H', Same H H' → DR K H' ρ v d → Q v H') → r xs H Q
theorem map_some {α β : Type} {f : α → β} {o : Option α} {b : β} (h : o.map f = some b) : ∃ a, o = some a ∧ f a = b := Option.map_eq_some_iff.mp h
section
variable {X : Cx} {E : XK} {e a b c : Expr} {es : List Expr} {pos : Pos} {fa fb fc : FE} {fs : FA} {ft fu : FT}
theorem v_var {i : Nat} (h : PE X e (tVar i)) : VE X E e (fVar i) := by
  refine PE.imp h fun σ H Q ⟨ρ, env, st, r, w, hf, hQ⟩ => ?_
  unfold fVar at hf
  split at hf
  · rename_i d hd
    cases hf
    obtain ⟨v, q, z⟩ := w.en.2 i d hd
    exact ⟨v, q, hQ.val w.st z⟩
  · cases hf
theorem v_c {v : V} {d : D} (h : PE X e (tC v)) (r : ∀ H ρ, DR X.K H ρ v d) : VE X E e (fC d) := by
  refine PE.imp h fun σ H Q ⟨ρ, env, st, r', w, hf, hQ⟩ => ?_
  cases hf
  exact hQ.val w.st (r H ρ)
theorem v_int {i : Int} {j} : VE X E (.Constant (.int i) j pos) (fC (.int i)) := v_c pe_int fun _ _ => .int i
theorem v_bl {i : Bool} {j} : VE X E (.Constant (.bool i) j pos) (fC (.bl i)) := v_c pe_bl fun _ _ => .bl i
theorem v_non {j} : VE X E (.Constant .none j pos) (fC .non) := v_c pe_non fun _ _ => .non
theorem v_str {x : Str} {j} : VE X E (.Constant (.str x) j pos) (fC (.str x)) := v_c pe_str fun _ _ => .str x
theorem rd_op {K : PySem.W.Frag} {r : R2} {g : Sto → D → D → Option D} (hr : OpP K r g) {σ : L2.St} {H : Hp} {Q : VK} (h : rdE K E (fOp g fa fb) σ H Q) : tOp r (rdE K E fa) (rdE K E fb) σ H Q := by
  obtain ⟨ρ, env, st, r, w, hf, hQ⟩ := h
  refine rd_bind w hf hQ fun x dx s1 H1 ρ1 t1 w1 r1 hf hQ => ?_
  refine rd_bind w1 hf hQ fun y dy s2 H2 ρ2 t2 w2 r2 hf hQ => ?_
  obtain ⟨d, e1, rfl⟩ := map_some hf
  exact hr ρ2 H2 s2 x y dx dy d Q w2.st (r1.step t2) r2 e1 fun v H' s q => hQ v H' ρ2 (.same s) (w2.st.same s) q
theorem v_op {op : Operator} {r : R2} {g : Sto → D → D → Option D} (ho : OpR X (binaryOp op) r) (hr : OpP X.K r g) (ha : VE X E a fa) (hb : VE X E b fb) : VE X E (.BinOp a op b pos) (fOp g fa fb) := PE.imp (pe_op ho ha hb) fun _ _ _ h => rd_op hr h
theorem v_cmp {op : CmpOp} {r : R2} {g : Sto → D → D → Option D} (ho : OpR X (compareOp op) r) (hr : OpP X.K r g) (ha : VE X E a fa) (hb : VE X E b fb) (hm : behindInMarks op b = false) : VE X E (.Compare a [op] [b] pos) (fOp g fa fb) := PE.imp (pe_cmpR ho ha hb hm) fun _ _ _ h => rd_op hr h
theorem v_ix {r : R2} {g : Sto → D → D → Option D} (ho : IxR X r) (hr : OpP X.K r g) (ha : VE X E a fa) (hb : VE X E b fb) (hs : PlainIx b) : VE X E (.Subscript a b pos) (fOp g fa fb) := PE.imp (pe_ix ho ha hb hs) fun _ _ _ h => rd_op hr h
theorem v_un {op : UnaryOp} {r : V → Hp → VK → Prop} {g : Sto → D → Option D} (ho : UnR X (unaryOp op) r) (hr : UnP X.K r g) (ha : VE X E a fa) : VE X E (.UnaryOp op a pos) (fUn g fa) := by
  refine PE.imp (pe_un ho ha) fun σ H Q ⟨ρ, env, st, r, w, hf, hQ⟩ => ?_
  refine rd_bind w hf hQ fun x dx s1 H1 ρ1 t1 w1 r1 hf hQ => ?_
  obtain ⟨d, e1, rfl⟩ := map_some hf
  exact hr ρ1 H1 s1 x dx d Q w1.st r1 e1 fun v H' s q => hQ v H' ρ1 (.same s) (w1.st.same s) q
theorem tv_of (ha : VE X E e fa) (h : ∀ t : TE, PE X e t → PT X e (tTest t)) : VT X E e (tV fa) := by
  refine PT.imp (h _ ha) fun σ H Q ⟨ρ, env, st, r, w, hf, hQ⟩ => ?_
  refine rd_bind w hf hQ fun x dx s1 H1 ρ1 t1 w1 r1 hf hQ => ?_
  cases r1 <;> first | cases hf | skip
  exact ⟨_, rfl, hQ.val w1.st rfl⟩
theorem tv_cmp {op : CmpOp} {r : R2} {g : Sto → D → D → Option D} (ho : OpR X (compareOp op) r) (hr : OpP X.K r g) (ha : VE X E a fa) (hb : VE X E b fb) (hm : behindInMarks op b = false) : VT X E (.Compare a [op] [b] pos) (tV (fOp g fa fb)) := by
  refine PT.imp (pt_cmpR ho ha hb hm) fun σ H Q ⟨ρ, env, st, r, w, hf, hQ⟩ => ?_
  show tOp _ _ _ σ H _
  refine rd_op (K := X.K) (E := E) hr ?_
  refine rd_bind w hf hQ fun x dx s1 H1 ρ1 t1 w1 r1 hf hQ => ?_
  cases r1 <;> first | cases hf | skip
  exact ⟨_, rfl, hQ.val w1.st rfl⟩
/-- an expression that tells a truth, as a test -/
theorem tv_val (ha : VE X E e fa) (he : ∀ whole, isTrue e X.env whole = (do let v ← whole; standAt e.pos; holding [v] (truthy v)) := by intro _; rfl) : VT X E e (tV fa) := tv_of ha fun t h => pt_val h he
theorem tv_not (ha : VT X E a ft) : VT X E (.UnaryOp .Not a pos) (tNot1 ft) := by
  refine PT.imp (pt_not ha) fun σ H Q ⟨ρ, env, st, r, w, hf, hQ⟩ => ?_
  refine rd_bind w hf hQ fun x dx s1 H1 ρ1 t1 w1 r1 hf hQ => ?_
  cases hf; subst r1
  exact hQ.val w1.st rfl
theorem tw_and1 (ha : VT X E a ft) : VW X E (.BoolOp .And [a] pos) ft := pw_and1 ha
theorem tw_or1 (ha : VT X E a ft) : VW X E (.BoolOp .Or [a] pos) ft := pw_or1 ha
theorem tw_and {rest : List Expr} (ha : VT X E a ft) (hb : VW X E (.BoolOp .And (b :: rest) pos) fu) : VW X E (.BoolOp .And (a :: b :: rest) pos) (tAnd2 ft fu) := by
  refine PW.imp (pw_and ha hb) fun σ H Q ⟨ρ, env, st, r, w, hf, hQ⟩ => ?_
  refine rd_bind w hf hQ fun x dx s1 H1 ρ1 t1 w1 r1 hf hQ => ?_
  subst r1
  cases x with
  | true => exact ⟨ρ1, env, s1, r, w1, hf, hQ⟩
  | false => cases hf; exact hQ.val w1.st rfl
theorem tw_or {rest : List Expr} (ha : VT X E a ft) (hb : VW X E (.BoolOp .Or (b :: rest) pos) fu) : VW X E (.BoolOp .Or (a :: b :: rest) pos) (tOr2 ft fu) := by
  refine PW.imp (pw_or ha hb) fun σ H Q ⟨ρ, env, st, r, w, hf, hQ⟩ => ?_
  refine rd_bind w hf hQ fun x dx s1 H1 ρ1 t1 w1 r1 hf hQ => ?_
  subst r1
  cases x with
  | false => exact ⟨ρ1, env, s1, r, w1, hf, hQ⟩
  | true => cases hf; exact hQ.val w1.st rfl
theorem v_one {op} (h : VE X E a fa) : VE X E (.BoolOp op [a] pos) fa := pe_one h
theorem v_and {rest : List Expr} (ha : VE X E a fa) (hb : VE X E (.BoolOp .And (b :: rest) pos) fb) : VE X E (.BoolOp .And (a :: b :: rest) pos) (fAnd fa fb) := by
  refine PE.imp (pe_and ha hb) fun σ H Q ⟨ρ, env, st, r, w, hf, hQ⟩ => ?_
  refine rd_bind w hf hQ fun x dx s1 H1 ρ1 t1 w1 r1 hf hQ => ?_
  cases r1 <;> first | cases hf | skip
  rename_i c
  cases c with
  | true => exact ⟨true, rfl, ρ1, env, s1, r, w1, hf, hQ⟩
  | false => cases hf; exact ⟨false, rfl, hQ.val w1.st (.bl false)⟩
theorem v_or {rest : List Expr} (ha : VE X E a fa) (hb : VE X E (.BoolOp .Or (b :: rest) pos) fb) : VE X E (.BoolOp .Or (a :: b :: rest) pos) (fOr fa fb) := by
  refine PE.imp (pe_or ha hb) fun σ H Q ⟨ρ, env, st, r, w, hf, hQ⟩ => ?_
  refine rd_bind w hf hQ fun x dx s1 H1 ρ1 t1 w1 r1 hf hQ => ?_
  cases r1 <;> first | cases hf | skip
  rename_i c
  cases c with
  | false => exact ⟨false, rfl, ρ1, env, s1, r, w1, hf, hQ⟩
  | true => cases hf; exact ⟨true, rfl, hQ.val w1.st (.bl true)⟩
theorem v_not (ha : VE X E a fa) : VE X E (.UnaryOp .Not a pos) (fNot fa) := by
  refine PE.imp (pe_not ha) fun σ H Q ⟨ρ, env, st, r, w, hf, hQ⟩ => ?_
  refine rd_bind w hf hQ fun x dx s1 H1 ρ1 t1 w1 r1 hf hQ => ?_
  cases r1 <;> first | cases hf | skip
  exact ⟨_, rfl, hQ.val w1.st (.bl _)⟩
theorem v_ifExp (ht : VT X E c ft) (ha : VE X E a fa) (hb : VE X E b fb) : VE X E (.IfExp c a b pos) (fIf ft fa fb) := by
  refine PE.imp (pe_ifExp ht ha hb) fun σ H Q ⟨ρ, env, st, r, w, hf, hQ⟩ => ?_
  refine rd_bind w hf hQ fun x dx s1 H1 ρ1 t1 w1 r1 hf hQ => ?_
  subst r1
  cases x with
  | true => exact ⟨ρ1, env, s1, r, w1, hf, hQ⟩
  | false => exact ⟨ρ1, env, s1, r, w1, hf, hQ⟩
theorem a_nil : VA X E [] fNil := PA.imp pa_nil fun σ H Q ⟨ρ, env, st, r, w, hf, hQ⟩ => by
  cases hf
  exact hQ.val w.st .nil
theorem a_cons (ha : VE X E e fa) (hr : VA X E es fs) (hs : starEach (e :: es) X.env = (false, eval e X.env) :: starEach es X.env := by rfl) : VA X E (e :: es) (fCons fa fs) := by
  refine PA.imp (pa_cons ha hr hs) fun σ H Q ⟨ρ, env, st, r, w, hf, hQ⟩ => ?_
  refine rd_bind w hf hQ fun x dx s1 H1 ρ1 t1 w1 r1 hf hQ => ?_
  refine rd_bind w1 hf hQ fun y dy s2 H2 ρ2 t2 w2 r2 hf hQ => ?_
  cases hf
  exact hQ.val w2.st (.cons (r1.step t2) r2)
theorem sz1000 {n : Nat} (h : n ≤ 1000) : n ≤ sizeLine := Nat.le_trans h (by decide)
/-- a tuple's display, its object known -/
def tTupP (t : TA) : TE := fun σ H Q => t σ H fun xs H1 => xs.length ≤ sizeLine ∧ ∀ p o, H1 p = none → o.dict = none → Q (.ref p) (upd H1 p (.frz o (.tup xs)))
theorem pe_tupP {x1} {t : TA} (h : PA X es t) : PE X (.Tuple es x1 pos) (tTupP t) :=
  ⟨fun pins s σ H Q I hq => wpAny_Tuple_spliced (thn (h.run pos pins s σ H _ I hq) fun us s1 ⟨xs, H1, I1, r, z, q⟩ => ⟨by rw [← r.length]; exact z,
    .ref s1.heap.objs.size, _, I1.laid (o := .frz { cls := .type "tuple", data := .seq us.toArray } (.tup xs)) (t' := s1.toks) (fun b u e => Heap.get?_push_of_some _ e) (Nat.le_refl _)
      ⟨Heap.get?_push_size _ rfl, z, us, r, ⟨_, Heap.get?_push_size _ rfl, rfl, _, rfl⟩⟩, rfl, q _ _ (I1.hok.fresh (Nat.le_refl _)) rfl⟩)⟩
theorem v_tup {x1} (h : VA X E es fs) : VE X E (.Tuple es x1 pos) (fTup fs) := by
  refine PE.imp (pe_tupP h) fun σ H Q ⟨ρ, env, st, r, w, hf, hQ⟩ => ?_
  refine rd_bind w hf hQ fun x dx s1 H1 ρ1 t1 w1 r1 hf hQ => ?_
  split at hf
  · rename_i hl
    cases hf
    refine ⟨sz1000 (by rw [r1.1]; exact hl), fun p o hp ho => ?_⟩
    have s := same_upd (o := .frz o (.tup x)) hp
    exact hQ _ _ ρ1 (.same s) (w1.st.same s) (.tup ⟨w1.st.new hp, o, upd_same, ho⟩ r1.1 (r1.step (.same s)).2)
  · cases hf
theorem v_lst (h : VA X E es fs) : VE X E (.List es pos) (fLst fs) := by
  refine PE.imp (pe_lst h) fun σ H Q ⟨ρ, env, st, r, w, hf, hQ⟩ => ?_
  refine rd_bind w hf hQ fun x dx s1 H1 ρ1 t1 w1 r1 hf hQ => ?_
  split at hf
  · rename_i hl
    cases hf
    refine ⟨sz1000 (by rw [r1.1]; exact hl), fun p hp => ?_⟩
    have s := same_upd (o := .lst x) hp
    exact hQ _ _ ρ1 (.same s) (w1.st.same s) (.lst ⟨w1.st.new hp, upd_same⟩ r1.1 (r1.step (.same s)).2)
  · cases hf
theorem cell_ix {ρ : Mp} {st : Sto} {K : PySem.W.Frag} {H : Hp} {p : Addr} (h : StR K H ρ st) : (ρ.add p).c[st.length]? = some p := by
  show (ρ.c ++ [p])[st.length]? = some p
  rw [← h.len, List.getElem?_append_right (Nat.le_refl _)]; simp
theorem v_lstC (h : VA X E es fs) : VE X E (.List es pos) (fLstC fs) := by
  refine PE.imp (pe_lst h) fun σ H Q ⟨ρ, env, st, r, w, hf, hQ⟩ => ?_
  refine rd_bind w hf hQ fun x dx s1 H1 ρ1 t1 w1 r1 hf hQ => ?_
  split at hf
  · rename_i hl
    cases hf
    refine ⟨sz1000 (by rw [r1.1]; exact hl), fun p hp => ?_⟩
    have s : Step ρ1 H1 (ρ1.add p) (upd H1 p (.lst x)) := .cell hp
    exact hQ _ _ _ s (w1.st.newCell hp ⟨x, upd_same, r1.step s⟩) (.ref (cell_ix w1.st))
  · cases hf
end
end Fx
/-! Fx: statements, targets, loops, comprehensions, defs. -/
namespace Fx
open PySem PySem.Spec PyProof.Rows L2

inductive Res where
  | nx (env : En) (s : Sto) | rt (d : D) (s : Sto) | bk (env : En) (s : Sto) | ct (env : En) (s : Sto) | exc (e : Exn) (s : Sto)
abbrev FS := En → Sto → Option Res
def sb {α : Type} (x : Option (R α)) (k : α → Sto → Option Res) : Option Res :=
  match x with
  | some (.ok a s) => k a s
  | some (.exc e s) => some (.exc e s)
  | none => none
@[simp] theorem sb_ok {α : Type} {a : α} {s : Sto} {k : α → Sto → Option Res} : sb (some (.ok a s)) k = k a s := rfl
@[simp] theorem sb_exc {α : Type} {e : Exn} {s : Sto} {k : α → Sto → Option Res} : sb (some (.exc e s)) k = some (.exc e s) := rfl
@[simp] theorem sb_none {α : Type} {k : α → Sto → Option Res} : sb (none : Option (R α)) k = none := rfl
theorem sb_some {α : Type} {x : Option (R α)} {k : α → Sto → Option Res} {r : Res} (h : sb x k = some r) :
    (∃ a s, x = some (.ok a s) ∧ k a s = some r) ∨ (∃ e s, x = some (.exc e s) ∧ r = .exc e s) := by
  cases x with
  | none => cases h
  | some q =>
    cases q with
    | ok a s => exact .inl ⟨a, s, rfl, h⟩
    | exc e s => exact .inr ⟨e, s, rfl, (Option.some.inj h).symm⟩
section
variable (K : PySem.W.Frag) (E : XK)
def SFin (ρ : Mp) (H : Hp) (Dn : Ends) : Res → Prop
  | .nx env st => ∀ σ' H' ρ', Step ρ H ρ' H' → Wd K H' ρ' σ' env st → Dn.nx σ' H'
  | .bk env st => ∀ σ' H' ρ', Step ρ H ρ' H' → Wd K H' ρ' σ' env st → Dn.bk σ' H'
  | .ct env st => ∀ σ' H' ρ', Step ρ H ρ' H' → Wd K H' ρ' σ' env st → Dn.ct σ' H'
  | .rt d st => ∀ v H' ρ', Step ρ H ρ' H' → StR K H' ρ' st → DR K H' ρ' v d → Dn.rt v H'
  | .exc e st => ∀ cv dx H' ρ', Step ρ H ρ' H' → StR K H' ρ' st → ExR K H' ρ' cv dx e → E cv dx H'
def rdS (f : FS) : TS := fun Dn σ H => ∃ ρ env st r, Wd K H ρ σ env st ∧ f env st = some r ∧ SFin K E ρ H Dn r
end
section
variable {K : PySem.W.Frag} {H H1 H2 H' : Hp} {ρ ρ1 ρ2 ρ' : Mp} {σ : L2.St} {env : En} {st : Sto} {E : XK} {Dn : Ends}
theorem SFin.step {r : Res} (h : SFin K E ρ H Dn r) (s : Step ρ H ρ1 H1) : SFin K E ρ1 H1 Dn r := by
  cases r with
  | nx env st => exact fun a b c t => h a b c (s.trans t)
  | bk env st => exact fun a b c t => h a b c (s.trans t)
  | ct env st => exact fun a b c t => h a b c (s.trans t)
  | rt d st => exact fun a b c t => h a b c (s.trans t)
  | exc e st => exact fun cv dx H' ρ' t => h cv dx H' ρ' (s.trans t)
theorem rd_sb {α β : Type} {rel : Hp → Mp → β → α → Prop} {f : En → Sto → Option (R α)} {k : α → Sto → Option Res} {r : Res} {P : β → Hp → Prop}
    (w : Wd K H ρ σ env st) (hf : sb (f env st) k = some r) (hQ : SFin K E ρ H Dn r)
    (cont : ∀ b a s1 H1 ρ1, Step ρ H ρ1 H1 → Wd K H1 ρ1 σ env s1 → rel H1 ρ1 b a → k a s1 = some r → SFin K E ρ1 H1 Dn r → P b H1) : rdG rel K E f σ H P := by
  rcases sb_some hf with ⟨a, s, e1, e2⟩ | ⟨e, s, e1, e2⟩
  · exact ⟨ρ, env, st, .ok a s, w, e1, fun b H1 ρ1 t ss q => cont b a s H1 ρ1 t ⟨w.en.step t, ss⟩ q e2 (hQ.step t)⟩
  · subst e2
    exact ⟨ρ, env, st, .exc e s, w, e1, hQ⟩
end
abbrev VS (X : Cx) (E : XK) (s : Stmt) (f : FS) : Prop := PS X s (rdS X.K E f)
abbrev VSs (X : Cx) (E : XK) (s : List Stmt) (f : FS) : Prop := PSs X s (rdS X.K E f)

/-! ### statements -/
def fPass : FS := fun env st => some (.nx env st)
def fSeq (a b : FS) : FS := fun env st => match a env st with
  | some (.nx e1 s1) => b e1 s1
  | r => r
def fRet (e : FE) : FS := fun env st => sb (e env st) fun d s1 => some (.rt d s1)
def fRetN : FS := fun env st => some (.rt .non st)
def fExpr (e : FE) : FS := fun env st => sb (e env st) fun _ s1 => some (.nx env s1)
def fBreak : FS := fun env st => some (.bk env st)
def fCont : FS := fun env st => some (.ct env st)
def fNever : FS := fun _ _ => none
def fIfS (t : FT) (a b : FS) : FS := fun env st => sb (t env st) fun c s1 => if c = true then a env s1 else b env s1
def fSet (i : Nat) (e : FE) : FS := fun env st => sb (e env st) fun d s1 => some (.nx (env.set i (some d)) s1)
def fPar (i j : Nat) (a : FA) : FS := fun env st => sb (a env st) fun ds s1 => match ds with
  | [x, y] => some (.nx ((env.set i (some x)).set j (some y)) s1)
  | _ => none
def fAug (i : Nat) (e : FE) (g : Sto → D → D → Option D) : FS := fun env st => match env[i]? with
  | some (some x) => sb (e env st) fun y s1 => match g s1 x y with
    | some z => some (.nx (env.set i (some z)) s1)
    | none => none
  | _ => none
/-! ### targets -/
abbrev FG := D → En → Sto → Option (R En)
abbrev FGs := List D → En → Sto → Option (R En)
def relS (K : PySem.W.Frag) : Hp → Mp → L2.St → En → Prop := fun H ρ σ env => EnR K H ρ σ env
def rdTG (K : PySem.W.Frag) (E : XK) (g : FG) : TG := fun v σ H Q => ∃ ρ env st d r, Wd K H ρ σ env st ∧ DR K H ρ v d ∧ g d env st = some r ∧ Fin (relS K) K E ρ H Q r
def rdTGs (K : PySem.W.Frag) (E : XK) (g : FGs) : TGs := fun vs σ H Q => ∃ ρ env st ds r, Wd K H ρ σ env st ∧ DRs K H ρ vs ds ∧ g ds env st = some r ∧ Fin (relS K) K E ρ H Q r
abbrev VG (X : Cx) (E : XK) (e : Expr) (g : FG) : Prop := PG X e (rdTG X.K E g)
abbrev VGs (X : Cx) (E : XK) (e : List Expr) (g : FGs) : Prop := PGs X e (rdTGs X.K E g)
def gNm (i : Nat) : FG := fun d env st => some (.ok (env.set i (some d)) st)
def gsNil : FGs := fun ds env st => match ds with
  | [] => some (.ok env st)
  | _ => none
def gsCons (g : FG) (h : FGs) : FGs := fun ds env st => match ds with
  | d :: r => bnd (g d env st) fun env1 s1 => h r env1 s1
  | [] => none
def gTp (n : Nat) (g : FGs) : FG := fun d env st => match d with
  | .tup ds => if ds.length = n then g ds env st else none
  | .frt ds => if ds.length = n then g ds env st else none
  | _ => none
def gLs (n : Nat) (g : FGs) : FG := fun d env st => match d with
  | .lst ds => if ds.length = n then g ds env st else none
  | .frz ds => if ds.length = n then g ds env st else none
  | .ref k => match st[k]? with
    | some (.lst ds) => if ds.length = n then g ds env st else none
    | _ => none
  | _ => none
def fAsg (e : FE) (g : FG) : FS := fun env st => sb (e env st) fun d s1 => sb (g d env s1) fun env2 s2 => some (.nx env2 s2)
section
variable {X : Cx}
theorem PG.imp {e : Expr} {t t' : TG} (h : PG X e t) (i : ∀ v σ H Q, t' v σ H Q → t v σ H Q) : PG X e t' := ⟨fun pins s σ H v u Q I r z => h.run pins s σ H v u Q I r (i v σ H Q z)⟩
theorem PGs.imp {e : List Expr} {t t' : TGs} (h : PGs X e t) (i : ∀ v σ H Q, t' v σ H Q → t v σ H Q) : PGs X e t' := ⟨fun pins s σ H v u Q I r z => h.run pins s σ H v u Q I r (i v σ H Q z)⟩
end
section
variable {X : Cx} {E : XK} {e a b c : Expr} {es : List Expr} {pos : Pos} {fa fb fc fe : FE} {fs : FA} {ft fu : FT} {g : FG} {gs : FGs} {s s1 : Stmt} {ss : List Stmt} {f f1 f2 : FS}
theorem ss_nil : VSs X E [] fPass := PSs.imp pss_nil fun Dn σ H ⟨ρ, env, st, r, w, hf, hQ⟩ => by
  cases hf
  exact hQ σ H ρ .refl w
theorem s_pass : VS X E (.Pass pos) fPass := PS.imp ps_pass fun Dn σ H ⟨ρ, env, st, r, w, hf, hQ⟩ => by
  cases hf
  exact hQ σ H ρ .refl w
theorem s_doc {x j pos pos'} : VS X E (.Expr (.Constant (.str x) j pos) pos') fPass := PS.imp ps_doc fun Dn σ H ⟨ρ, env, st, r, w, hf, hQ⟩ => by
  cases hf
  exact hQ σ H ρ .refl w
theorem s_break : VS X E (.Break pos) fBreak := PS.imp ps_break fun Dn σ H ⟨ρ, env, st, r, w, hf, hQ⟩ => by
  cases hf
  exact hQ σ H ρ .refl w
theorem s_cont : VS X E (.Continue pos) fCont := PS.imp ps_continue fun Dn σ H ⟨ρ, env, st, r, w, hf, hQ⟩ => by
  cases hf
  exact hQ σ H ρ .refl w
theorem s_never : VS X E s fNever := PS.imp ps_never fun Dn σ H ⟨ρ, env, st, r, w, hf, hQ⟩ => by cases hf
theorem ss_one (h : VS X E s f) : VSs X E [s] f := pss_one h
theorem ss_cons (h : VS X E s f1) (h2 : VSs X E ss f2) : VSs X E (s :: ss) (fSeq f1 f2) := by
  refine PSs.imp (pss_cons h h2) fun Dn σ H ⟨ρ, env, st, r, w, hf, hQ⟩ => ?_
  show rdS X.K E f1 { Dn with nx := rdS X.K E f2 Dn } σ H
  unfold fSeq at hf
  cases e1 : f1 env st with
  | none => rw [e1] at hf; cases hf
  | some q =>
    rw [e1] at hf
    refine ⟨ρ, env, st, q, w, e1, ?_⟩
    cases q with
    | nx en1 st1 => exact fun σ' H' ρ' t w' => ⟨ρ', en1, st1, r, w', hf, hQ.step t⟩
    | rt d st1 => cases hf; exact hQ
    | bk en1 st1 => cases hf; exact hQ
    | ct en1 st1 => cases hf; exact hQ
    | exc ex st1 => cases hf; exact hQ
theorem s_ret (h : VE X E e fe) : VS X E (.Return (some e) pos) (fRet fe) := by
  refine PS.imp (ps_ret h) fun Dn σ H ⟨ρ, env, st, r, w, hf, hQ⟩ => ?_
  refine rd_sb w hf hQ fun x dx s1 H1 ρ1 t1 w1 r1 hf hQ => ?_
  cases hf
  exact hQ x H1 ρ1 .refl w1.st r1
theorem s_retN : VS X E (.Return none pos) fRetN := PS.imp ps_retN fun Dn σ H ⟨ρ, env, st, r, w, hf, hQ⟩ => by
  cases hf
  exact hQ .non H ρ .refl w.st .non
theorem s_expr (h : VE X E e fe) (hs : swapsWith e none pos.line X.env = pure false := by rfl) : VS X E (.Expr e pos) (fExpr fe) := by
  refine PS.imp (ps_expr h hs) fun Dn σ H ⟨ρ, env, st, r, w, hf, hQ⟩ => ?_
  refine rd_sb w hf hQ fun x dx s1 H1 ρ1 t1 w1 r1 hf hQ => ?_
  cases hf
  exact hQ σ H1 ρ1 .refl w1
theorem s_if {c : Expr} {sa sbb : List Stmt} (hc : VT X E c ft) (ha : VSs X E sa f1) (hb : VSs X E sbb f2) : VS X E (.If c sa sbb pos) (fIfS ft f1 f2) := by
  refine PS.imp (ps_if hc ha hb) fun Dn σ H ⟨ρ, env, st, r, w, hf, hQ⟩ => ?_
  refine rd_sb w hf hQ fun x dx s1 H1 ρ1 t1 w1 r1 hf hQ => ?_
  subst r1
  cases x with
  | true => exact ⟨ρ1, env, s1, r, w1, hf, hQ⟩
  | false => exact ⟨ρ1, env, s1, r, w1, hf, hQ⟩
theorem s_set {i : Nat} {x : Str} {pos' : Pos} (hN : X.N.Nodup) (hi : X.N[i]? = some x) (hx : Loc X.env.scope x) (he : VE X E e fe) (hs : swapsWith e (some (.Name x pos')) pos.line X.env = pure false := by rfl) (hf : X.fn x = true ∨ X.env.scope.names.lookup x = some .local := by first | exact .inl rfl | exact .inr rfl | assumption) :
    VS X E (.Assign [.Name x pos'] e pos) (fSet i fe) := by
  refine PS.imp (ps_set hN hi hx he hs hf) fun Dn σ H ⟨ρ, env, st, r, w, hf, hQ⟩ => ?_
  refine rd_sb w hf hQ fun x dx s1 H1 ρ1 t1 w1 r1 hf hQ => ?_
  cases hf
  exact hQ _ H1 ρ1 .refl ⟨w1.en.set r1 i, w1.st⟩
theorem s_par {i j : Nat} (h : PS X s (tPar i j (rdA X.K E fs))) : VS X E s (fPar i j fs) := by
  refine PS.imp h fun Dn σ H ⟨ρ, env, st, r, w, hf, hQ⟩ => ?_
  refine rd_sb w hf hQ fun xs ds s1 H1 ρ1 t1 w1 r1 hf hQ => ?_
  split at hf
  · rename_i d1 d2
    cases hf
    obtain ⟨v1, r, rfl, q1, r1⟩ := r1.cons_inv
    obtain ⟨v2, r, rfl, q2, r1⟩ := r1.cons_inv
    have := r1.nil_inv
    subst this
    exact ⟨v1, v2, rfl, hQ _ H1 ρ1 .refl ⟨(w1.en.set q1 i).set q2 j, w1.st⟩⟩
  · cases hf
theorem s_aug {i : Nat} {x : Str} {op : Operator} {ti : TIp} {pos' : Pos} {g : Sto → D → D → Option D} (hN : X.N.Nodup) (hi : X.N[i]? = some x) (hx : Loc X.env.scope x) (he : VE X E e fe) (ho : PIp X op ti) (hr : OpP X.K ti g)
    (hf : X.fn x = true ∨ X.env.scope.names.lookup x = some .local := by first | exact .inl rfl | exact .inr rfl | assumption) : VS X E (.AugAssign (.Name x pos') op e pos) (fAug i fe g) := by
  refine PS.imp (ps_aug hN hi hx he ho hf) fun Dn σ H ⟨ρ, env, st, r, w, hf, hQ⟩ => ?_
  unfold fAug at hf
  split at hf
  · rename_i d hd
    obtain ⟨v, q, z⟩ := w.en.2 i d hd
    refine ⟨v, q, ?_⟩
    refine rd_sb w hf hQ fun y dy s1 H1 ρ1 t1 w1 r1 hf hQ => ?_
    split at hf
    · rename_i d2 hd2
      cases hf
      refine hr ρ1 H1 s1 v y d dy d2 _ w1.st (z.step t1) r1 hd2 fun u H' s q' => ?_
      exact hQ _ H' ρ1 (.same s) ⟨(w1.en.step (.same s)).set q' i, w1.st.same s⟩
    · cases hf
  · cases hf
theorem g_name {i : Nat} {x : Str} (hN : X.N.Nodup) (hi : X.N[i]? = some x) (hx : Loc X.env.scope x) (hf : X.fn x = true ∨ X.env.scope.names.lookup x = some .local := by first | exact .inl rfl | exact .inr rfl | assumption) : VG X E (.Name x pos) (gNm i) := by
  refine PG.imp (pg_name hN hi hx hf) fun v σ H Q ⟨ρ, env, st, d, r, w, hd, hf, hQ⟩ => ?_
  cases hf
  exact hQ _ H ρ .refl w.st (w.en.set hd i)
theorem gs_nil : VGs X E [] gsNil := by
  refine PGs.imp pgs_nil fun vs σ H Q ⟨ρ, env, st, ds, r, w, hd, hf, hQ⟩ => ?_
  unfold gsNil at hf
  split at hf
  · cases hf
    exact ⟨hd.nil_inv, hQ _ H ρ .refl w.st w.en⟩
  · cases hf
theorem gs_cons_rd {K : PySem.W.Frag} {vs : List V} {σ : L2.St} {H : Hp} {Q : L2.St → Hp → Prop} (h : rdTGs K E (gsCons g gs) vs σ H Q) : gCons (rdTG K E g) (rdTGs K E gs) vs σ H Q := by
  obtain ⟨ρ, env, st, ds, r, w, hd, hf, hQ⟩ := h
  unfold gsCons at hf
  split at hf
  · rename_i d ds
    obtain ⟨x, xs, rfl, q1, q2⟩ := hd.cons_inv
    refine ⟨x, xs, rfl, ?_⟩
    rcases bnd_some hf with ⟨en1, s1, e1, e2⟩ | ⟨e, s1, e1, e2⟩
    · exact ⟨ρ, env, st, d, _, w, q1, e1, fun σ' H1 ρ1 t ss q => ⟨ρ1, en1, s1, ds, r, ⟨q, ss⟩, q2.step t, e2, hQ.step t⟩⟩
    · subst e2
      exact ⟨ρ, env, st, d, _, w, q1, e1, hQ⟩
  · cases hf
theorem gs_cons (h1 : VG X E e g) (h2 : VGs X E es gs) (hs : PGs X (e :: es) (gCons (rdTG X.K E g) (rdTGs X.K E gs))) : VGs X E (e :: es) (gsCons g gs) := PGs.imp hs fun _ _ _ _ h => gs_cons_rd h
theorem g_tup {k : Nat} {n : Nat} (h : PG X (.Tuple es k pos) (gTup X.K n (rdTGs X.K E gs))) : VG X E (.Tuple es k pos) (gTp n gs) := by
  refine PG.imp h fun v σ H Q ⟨ρ, env, st, d, r, w, hd, hf, hQ⟩ => ?_
  unfold gTp at hf
  split at hf
  · rename_i ds
    split at hf
    · rename_i hl
      obtain ⟨a, xs, rfl, q1, q2⟩ := hd.tup_inv
      exact ⟨a, xs, rfl, q1.seq, q2.1.trans hl, ρ, env, st, ds, r, w, q2, hf, hQ⟩
    · cases hf
  · rename_i ds
    split at hf
    · rename_i hl
      obtain ⟨a, xs, rfl, q1, q2⟩ := hd.frt_inv
      exact ⟨a, xs, rfl, q1.seq, q2.1.trans hl, ρ, env, st, ds, r, w, q2, hf, hQ⟩
    · cases hf
  · cases hf
theorem g_lst {k : Nat} {n : Nat} (h : PG X (.Tuple es k pos) (gUnl X.K n (rdTGs X.K E gs))) : VG X E (.Tuple es k pos) (gLs n gs) := by
  refine PG.imp h fun v σ H Q ⟨ρ, env, st, d, r, w, hd, hf, hQ⟩ => ?_
  unfold gLs at hf
  split at hf
  · rename_i ds
    split at hf
    · rename_i hl
      obtain ⟨a, xs, rfl, q1, q2⟩ := hd.lst_inv
      exact ⟨a, xs, rfl, q1.seq, q2.1.trans hl, ρ, env, st, ds, r, w, q2, hf, hQ⟩
    · cases hf
  · rename_i ds
    split at hf
    · rename_i hl
      obtain ⟨a, xs, rfl, q1, q2⟩ := hd.frz_inv
      exact ⟨a, xs, rfl, q1.seq, q2.1.trans hl, ρ, env, st, ds, r, w, q2, hf, hQ⟩
    · cases hf
  · rename_i k
    split at hf
    · rename_i ds hds
      split at hf
      · rename_i hl
        obtain ⟨a, rfl, q1⟩ := hd.ref_inv
        obtain ⟨xs, q2, q3⟩ := w.st.lstAt q1 hds
        exact ⟨a, xs, rfl, .inl (.inl q2), q3.1.trans hl, ρ, env, st, ds, r, w, q3, hf, hQ⟩
      · cases hf
    · cases hf
  · cases hf
theorem s_asg {tg : Expr} (he : VE X E e fe) (hg : VG X E tg g) (hs : swapsWithSole [tg] e pos.line X.env = pure false := by rfl) (hw : swappedStores [tg] e X.env = pure none := by rfl) (h1 : (assignEach [tg] X.env).map (·.2) = [assign tg X.env] := by rfl) : VS X E (.Assign [tg] e pos) (fAsg fe g) := by
  refine PS.imp (ps_asg he hg hs hw h1) fun Dn σ H ⟨ρ, env, st, r, w, hf, hQ⟩ => ?_
  refine rd_sb w hf hQ fun y dy s1 H1 ρ1 t1 w1 r1 hf hQ => ?_
  rcases sb_some hf with ⟨en2, s2, e1, e2⟩ | ⟨e, s2, e1, e2⟩
  · cases e2
    exact ⟨ρ1, env, s1, dy, _, w1, r1, e1, fun σ' H' ρ' t ss q => hQ σ' H' ρ' t ⟨q, ss⟩⟩
  · cases e2
    exact ⟨ρ1, env, s1, dy, _, w1, r1, e1, hQ⟩
end

/-! ### loops -/
abbrev FI := En → Sto → Option (R (List D))
def ItOk (K : PySem.W.Frag) (ρ0 : Mp) (H0 : Hp) (J : It) (items : List D) : Prop :=
  ∀ ρ H st, Far ρ0 H0 ρ H → StR K H ρ st → (∀ i d, items[i]? = some d → J.go i H ∧ ∀ x H', J.yld i H x H' → Same H H' ∧ DR K H' ρ x d) ∧ ∀ i, items.length ≤ i → J.stop i H
def relI (K : PySem.W.Frag) : Hp → Mp → It → List D → Prop := fun H ρ J items => ItOk K ρ H J items
def rdI (K : PySem.W.Frag) (E : XK) (f : FI) : TI := fun σ H Q => rdG (relI K) K E f σ H Q
abbrev VI (X : Cx) (E : XK) (tg e : Expr) (f : FI) : Prop := PI X tg e (rdI X.K E f)
theorem PI.imp {X : Cx} {tg e : Expr} {t t' : TI} (h : PI X tg e t) (i : ∀ σ H Q, t' σ H Q → t σ H Q) : PI X tg e t' := ⟨fun pins s σ H Q I z => h.run pins s σ H Q I (i σ H Q z)⟩
def forL (g : FG) (body : FS) : List D → En → Sto → Option Res
  | [], env, st => some (.nx env st)
  | d :: ds, env, st => sb (g d env st) fun env1 s1 => match body env1 s1 with
    | some (.nx env2 s2) => forL g body ds env2 s2
    | some (.ct env2 s2) => forL g body ds env2 s2
    | some (.bk env2 s2) => some (.nx env2 s2)
    | r => r
def fFor (fi : FI) (g : FG) (body : FS) : FS := fun env st => sb (fi env st) fun items s1 => forL g body items env s1
def whL (t : FT) (body : FS) : Nat → En → Sto → Option Res
  | 0, _, _ => none
  | n + 1, env, st => sb (t env st) fun c s1 => if c = true then (match body env s1 with
      | some (.nx env2 s2) => whL t body n env2 s2
      | some (.ct env2 s2) => whL t body n env2 s2
      | some (.bk env2 s2) => some (.nx env2 s2)
      | r => r) else some (.nx env s1)
def fWhile (m : En → Sto → Nat) (t : FT) (body : FS) : FS := fun env st => whL t body (m env st) env st
section
variable {X : Cx} {E : XK} {pos : Pos} {ft : FT} {g : FG} {f : FS} {fi : FI}
theorem s_while {c : Expr} {body : List Stmt} (m : En → Sto → Nat) (hp : PassesOwn (model X.prog X.w) X.A X.env X.xe) (hc : VT X E c ft) (hb : VSs X E body f) : VS X E (.While c body [] pos) (fWhile m ft f) := by
  refine PS.imp (ps_while hp hc hb) fun Dn σ H ⟨ρ, env, st, r, w, hf, hQ⟩ => ?_
  refine ⟨fun n σ' H' => ∃ ρ' en' st', Step ρ H ρ' H' ∧ Wd X.K H' ρ' σ' en' st' ∧ whL ft f n en' st' = some r, ⟨_, ρ, env, st, .refl, w, hf⟩, ?_⟩
  rintro n σ1 H1 ⟨ρ1, en1, st1, t1, w1, hf⟩
  cases n with
  | zero => cases hf
  | succ n =>
    unfold whL at hf
    refine rd_sb w1 hf (hQ.step t1) fun b db s2 H2 ρ2 t2 w2 r2 hf hQ2 => ?_
    subst r2
    cases b with
    | false =>
      cases hf
      exact hQ2 σ1 H2 ρ2 .refl w2
    | true =>
      simp only [if_true] at hf ⊢
      refine ⟨fun σ' H' => ∃ ρ' en' st', Step ρ H ρ' H' ∧ Wd X.K H' ρ' σ' en' st' ∧ whL ft f n en' st' = some r, fun σ' H' h => ⟨n, Nat.lt_succ_self n, h⟩, ?_⟩
      cases e1 : f en1 s2 with
      | none => rw [e1] at hf; cases hf
      | some q =>
        rw [e1] at hf
        refine ⟨ρ2, en1, s2, q, w2, e1, ?_⟩
        cases q with
        | nx en3 s3 => exact fun σ' H' ρ' t w' => ⟨ρ', en3, s3, (t1.trans t2).trans t, w', hf⟩
        | ct en3 s3 => exact fun σ' H' ρ' t w' => ⟨ρ', en3, s3, (t1.trans t2).trans t, w', hf⟩
        | bk en3 s3 => cases hf; exact hQ2
        | rt d s3 => cases hf; exact hQ2
        | exc e s3 => cases hf; exact hQ2
theorem s_for {tg iter : Expr} {body : List Stmt} (hp : PassesOwn (model X.prog X.w) X.A X.env X.xe) (hc : X.calm = true) (hi : VI X E tg iter fi) (hg : VG X E tg g) (hb : VSs X E body f)
    (hs : ∀ x, foldedSetIterable iter X.env x = pure x := by intro _; rfl) : VS X E (.For tg iter body [] pos) (fFor fi g f) := by
  refine PS.imp (ps_for hp hc hi hg hb hs) fun Dn σ H ⟨ρ, env, st, r, w, hf, hQ⟩ => ?_
  refine rd_sb w hf hQ fun J items s1 H1 ρ1 t1 w1 r1 hf hQ => ?_
  refine ⟨fun i n σ' H' => ∃ ρ' en' st', Step ρ1 H1 ρ' H' ∧ Wd X.K H' ρ' σ' en' st' ∧ i + n = items.length ∧ forL g f (items.drop i) en' st' = some r, ⟨items.length, ρ1, env, s1, .refl, w1, by omega, by rw [List.drop_zero]; exact hf⟩, ?_⟩
  rintro i n σ2 H2 ⟨ρ2, en2, st2, t2, w2, hn, hf⟩
  obtain ⟨go, stop⟩ := r1 ρ2 H2 st2 t2.far w2.st
  by_cases hi : i < items.length
  · have hd : items[i]? = some items[i] := List.getElem?_eq_getElem hi
    obtain ⟨g1, g2⟩ := go i _ hd
    refine .inr ⟨g1, fun σ' H' => ∃ ρ' en' st', Step ρ1 H1 ρ' H' ∧ Wd X.K H' ρ' σ' en' st' ∧ forL g f (items.drop (i + 1)) en' st' = some r, fun σ' H' ⟨ρ', en', st', t, w, h⟩ => ⟨n - 1, by omega, ρ', en', st', t, w, by omega, h⟩, fun x H3 hy => ?_⟩
    obtain ⟨sm, hx⟩ := g2 x H3 hy
    have t3 : Step ρ2 H2 ρ2 H3 := .same sm
    rw [List.drop_eq_getElem_cons hi] at hf
    unfold forL at hf
    rcases sb_some hf with ⟨en4, s4, e1, e2⟩ | ⟨e, s4, e1, e2⟩
    · refine ⟨ρ2, en2, st2, _, _, ⟨w2.en.step t3, w2.st.same sm⟩, hx, e1, fun σ4 H4 ρ4 t4 ss4 q4 => ?_⟩
      have T := (t2.trans t3).trans t4
      cases e5 : f en4 s4 with
      | none => rw [e5] at e2; cases e2
      | some q =>
        rw [e5] at e2
        refine ⟨ρ4, en4, s4, q, ⟨q4, ss4⟩, e5, ?_⟩
        cases q with
        | nx en6 s6 => exact fun σ' H' ρ' t w' => ⟨ρ', en6, s6, T.trans t, w', e2⟩
        | ct en6 s6 => exact fun σ' H' ρ' t w' => ⟨ρ', en6, s6, T.trans t, w', e2⟩
        | bk en6 s6 => cases e2; exact hQ.step T
        | rt d s6 => cases e2; exact hQ.step T
        | exc e s6 => cases e2; exact hQ.step T
    · subst e2
      exact ⟨ρ2, en2, st2, _, _, ⟨w2.en.step t3, w2.st.same sm⟩, hx, e1, hQ.step (t2.trans t3)⟩
  · refine .inl ⟨stop i (by omega), ?_⟩
    rw [List.drop_of_length_le (by omega)] at hf
    cases hf
    exact hQ σ2 H2 ρ2 t2 w2
end

/-! ### what is walked -/
/-- the items of a list or tuple that stays -/
def itSeq (d : D) : Option (List D) := match d with
  | .lst xs => some xs
  | .tup xs => some xs
  | _ => none
def seqL (d : D) : Option (List D) := match d with
  | .lst xs => some xs
  | .frz xs => some xs
  | _ => none
def seqT (d : D) : Option (List D) := match d with
  | .tup xs => some xs
  | .frt xs => some xs
  | _ => none
def iLst (fa : FE) : FI := fun env st => bnd (fa env st) fun d s1 => (seqL d).map (R.ok · s1)
def iTp (fa : FE) : FI := fun env st => bnd (fa env st) fun d s1 => (seqT d).map (R.ok · s1)
theorem DR.seqL_inv {K : PySem.W.Frag} {H : Hp} {ρ : Mp} {v : V} {d : D} {ds : List D} (h : DR K H ρ v d) (e : seqL d = some ds) : ∃ a xs, v = .ref a ∧ ZxL K H ρ a xs ∧ DRs K H ρ xs ds := by
  cases h <;> first | cases e | skip
  · rename_i a xs h l q; exact ⟨a, xs, rfl, .inl ⟨h.1, .inl h.2⟩, l, q⟩
  · rename_i a xs h l q; exact ⟨a, xs, rfl, h, l, q⟩
theorem DR.seqT_inv {K : PySem.W.Frag} {H : Hp} {ρ : Mp} {v : V} {d : D} {ds : List D} (h : DR K H ρ v d) (e : seqT d = some ds) : ∃ a xs, v = .ref a ∧ ZxT K H ρ a xs ∧ DRs K H ρ xs ds := by
  cases h <;> first | cases e | skip
  · rename_i a xs h l q; exact ⟨a, xs, rfl, .inl ⟨h.1, .inr ⟨h.2.choose, h.2.choose_spec.1⟩⟩, l, q⟩
  · rename_i a xs h l q; exact ⟨a, xs, rfl, h, l, q⟩
def intsFrom (lo : Int) (n : Nat) : List D := (List.range n).map fun (i : Nat) => .int (lo + (i : Int))
def iRg1 (fs : FA) : FI := fun env st => bnd (fs env st) fun ds s1 => match ds with
  | [.int j] => if -(2 ^ 62) ≤ j ∧ j < 2 ^ 62 then some (.ok (intsFrom 0 j.toNat) s1) else none
  | _ => none
def iRg2 (fs : FA) : FI := fun env st => bnd (fs env st) fun ds s1 => match ds with
  | [.int i, .int j] => if -(2 ^ 62) ≤ i ∧ i < 2 ^ 62 ∧ -(2 ^ 62) ≤ j ∧ j < 2 ^ 62 then some (.ok (intsFrom i (j - i).toNat) s1) else none
  | _ => none
section
variable {X : Cx} {E : XK} {pos p : Pos} {fa : FE} {fs : FA} {e tg a b : Expr}
theorem DRs.eq_at {K : PySem.W.Frag} {H : Hp} {ρ : Mp} {x : V} {d : D} {xs : List V} {ds : List D} (h : DRs K H ρ xs ds) {i : Nat} (e : ds[i]? = some d) : ∃ x, xs[i]? = some x ∧ DR K H ρ x d := h.get e
theorem i_list (h : VE X E e fa) : VI X E tg e (iLst fa) := by
  refine PI.imp (pi_list h) fun σ H Q ⟨ρ, env, st, r, w, hf, hQ⟩ => ?_
  refine rd_bind w hf hQ fun x dx s1 H1 ρ1 t1 w1 r1 hf hQ => ?_
  obtain ⟨ds, e1, rfl⟩ := map_some hf
  obtain ⟨a, xs, rfl, q1, q2⟩ := r1.seqL_inv e1
  refine ⟨a, rfl, ⟨xs, q1.seq⟩, hQ _ _ ρ1 .refl w1.st fun ρ2 H2 st2 t2 hs2 => ⟨fun i d hd => ?_, fun i hi => ⟨xs, (t2.zxl q1).seq, by rw [q2.1]; exact hi⟩⟩⟩
  obtain ⟨x, e1, e2⟩ := q2.get hd
  exact ⟨⟨xs, x, (t2.zxl q1).seq, e1⟩, fun y H' hy => ⟨by rw [hy.1]; exact Same.refl _, by
    obtain ⟨rfl, hy⟩ := hy
    have := hy xs (t2.zxl q1).seq
    rw [e1] at this; cases this
    exact e2.far t2⟩⟩
theorem i_tup (h : VE X E e fa) : VI X E tg e (iTp fa) := by
  refine PI.imp (pi_tup h) fun σ H Q ⟨ρ, env, st, r, w, hf, hQ⟩ => ?_
  refine rd_bind w hf hQ fun x dx s1 H1 ρ1 t1 w1 r1 hf hQ => ?_
  obtain ⟨ds, e1, rfl⟩ := map_some hf
  obtain ⟨a, xs, rfl, q1, q2⟩ := r1.seqT_inv e1
  refine ⟨a, rfl, ⟨xs, q1.seq⟩, hQ _ _ ρ1 .refl w1.st fun ρ2 H2 st2 t2 hs2 => ⟨fun i d hd => ?_, fun i hi => ⟨xs, (t2.zxt q1).seq, by rw [q2.1]; exact hi⟩⟩⟩
  obtain ⟨x, e1, e2⟩ := q2.get hd
  exact ⟨⟨xs, x, (t2.zxt q1).seq, e1⟩, fun y H' hy => ⟨by rw [hy.1]; exact Same.refl _, by
    obtain ⟨rfl, hy⟩ := hy
    have := hy xs (t2.zxt q1).seq
    rw [e1] at this; cases this
    exact e2.far t2⟩⟩
theorem rng_ok {K : PySem.W.Frag} {ρ : Mp} {H : Hp} {lo : Int} {n : Nat} : ItOk K ρ H (Itr lo n) (intsFrom lo n) := by
  intro ρ2 H2 st2 t2 hs2
  refine ⟨fun i d hd => ?_, fun i hi => show n ≤ i by simpa [intsFrom] using hi⟩
  have hi : i < n := by simpa [intsFrom] using (List.getElem?_eq_some_iff.mp hd).1
  have e : d = .int (lo + i) := by
    unfold intsFrom at hd
    rw [List.getElem?_map, List.getElem?_range hi] at hd
    exact (Option.some.inj hd).symm
  subst e
  exact ⟨hi, fun x H' hy => by
    obtain ⟨rfl, rfl⟩ := hy
    exact ⟨Same.refl _, .int _⟩⟩
theorem i_rng1 (hg : Gl X "range") (hm : X.mg "range" = none) (h : VA X E [a] fs) (hs : starEach [a] X.env = [(false, eval a X.env)] := by rfl) : VI X E tg (.Call (.Name "range" p) [a] [] pos) (iRg1 fs) := by
  refine PI.imp (pi_range1 hg hm h hs) fun σ H Q ⟨ρ, env, st, r, w, hf, hQ⟩ => ?_
  refine rd_bind w hf hQ fun x dx s1 H1 ρ1 t1 w1 r1 hf hQ => ?_
  split at hf
  · rename_i j
    split at hf
    · rename_i hj
      cases hf
      obtain ⟨v, r, rfl, q1, r1⟩ := r1.cons_inv
      have := r1.nil_inv
      subst this
      cases q1
      exact ⟨j, rfl, hj.1, hj.2, hQ _ _ ρ1 .refl w1.st rng_ok⟩
    · cases hf
  · cases hf
theorem i_rng2 (hg : Gl X "range") (hm : X.mg "range" = none) (h : VA X E [a, b] fs) (hs : starEach [a, b] X.env = [(false, eval a X.env), (false, eval b X.env)] := by rfl) (hs2 : starEach [b] X.env = [(false, eval b X.env)] := by rfl) : VI X E tg (.Call (.Name "range" p) [a, b] [] pos) (iRg2 fs) := by
  refine PI.imp (pi_range2 hg hm h hs hs2) fun σ H Q ⟨ρ, env, st, r, w, hf, hQ⟩ => ?_
  refine rd_bind w hf hQ fun x dx s1 H1 ρ1 t1 w1 r1 hf hQ => ?_
  split at hf
  · rename_i i j
    split at hf
    · rename_i hj
      cases hf
      obtain ⟨v, r, rfl, q1, r1⟩ := r1.cons_inv
      obtain ⟨v2, r, rfl, q2, r1⟩ := r1.cons_inv
      have := r1.nil_inv
      subst this
      cases q1; cases q2
      exact ⟨i, j, rfl, hj, hQ _ _ ρ1 .refl w1.st rng_ok⟩
    · cases hf
  · cases hf
end

/-! ### comprehensions -/
def noX {α : Type} (x : Option (R α)) : Option (R α) := match x with
  | some (.ok a s) => some (.ok a s)
  | _ => none
theorem noX_ok {α : Type} {x : Option (R α)} {r : R α} (h : noX x = some r) : ∃ a s, x = some (.ok a s) ∧ r = .ok a s := by
  unfold noX at h
  split at h
  · cases h; exact ⟨_, _, rfl, rfl⟩
  · cases h
def wipeD (env : En) : List Nat → En
  | [] => env
  | v :: vs => (wipeD env vs).set v none
theorem EnR.wipe {K : PySem.W.Frag} {H : Hp} {ρ : Mp} {σ : L2.St} {env : En} (h : EnR K H ρ σ env) : ∀ vs : List Nat, EnR K H ρ (wipe σ vs) (wipeD env vs)
  | [] => h
  | v :: vs => (EnR.wipe h vs).setNone v
/-- the items of a comprehension -/
def lcL (g : FG) (ft : FT) (fe : FE) (env : En) : List D → Sto → Option (R (List D))
  | [], st => some (.ok [] st)
  | d :: ds, st => bnd (noX (g d env st)) fun env1 s1 => bnd (noX (ft env1 s1)) fun c s2 =>
    if c = true then bnd (noX (fe env1 s2)) fun y s3 => bnd (lcL g ft fe env ds s3) fun ys s4 => some (.ok (y :: ys) s4)
    else lcL g ft fe env ds s2
def tYes1 : FT := fun _ st => some (.ok true st)
def lcF (fi : FI) (g : FG) (ft : FT) (fe : FE) (vs : List Nat) : FA := fun env st => bnd (fi env st) fun items s1 => if items.length ≤ 100000 then lcL g ft fe (wipeD env vs) items s1 else none
def fLc (fi : FI) (g : FG) (ft : FT) (fe : FE) (vs : List Nat) : FE := fun env st => bnd (lcF fi g ft fe vs env st) fun ds s1 => some (.ok (.lst ds) s1)
def fLcC (fi : FI) (g : FG) (ft : FT) (fe : FE) (vs : List Nat) : FE := fun env st => bnd (lcF fi g ft fe vs env st) fun ds s1 => some (.ok (.ref s1.length) (s1 ++ [.lst ds]))
/-- a target that stores its own names alone -/
def OwnG (K : PySem.W.Frag) (vs : List Nat) (t : TG) (g : FG) : Prop :=
  ∀ (v : V) (d : D) (σ : L2.St) (env : En) (st s1 : Sto) (H : Hp) (ρ : Mp) (env1 : En) (Q : L2.St → Hp → Prop), Wd K H ρ (wipe σ vs) env st → DR K H ρ v d → g d env st = some (.ok env1 s1) → (∀ σ2, Wd K H ρ σ2 env1 s1 → Q σ2 H) → t v (wipe σ vs) H fun σ2 H2 => wipe σ2 vs = wipe σ vs ∧ Q σ2 H2
theorem wipe_set_mem {x : Option V} {i : Nat} : ∀ {vs : List Nat} {σ : L2.St}, i ∈ vs → wipe (σ.set i x) vs = wipe σ vs
  | [], _, h => by simp at h
  | v :: vs, σ, h => by
    unfold wipe
    by_cases hv : i ∈ vs
    · rw [wipe_set_mem hv]
    · have e : i = v := by simpa [hv] using h
      subst e
      have : ∀ (ws : List Nat) (σ : L2.St), i ∉ ws → wipe (σ.set i x) ws = (wipe σ ws).set i x := by
        intro ws
        induction ws with
        | nil => intro σ _; rfl
        | cons w ws ih =>
          intro σ hw
          simp only [List.mem_cons, not_or] at hw
          unfold wipe
          rw [ih σ hw.2, List.set_comm _ _ hw.1]
      rw [this vs σ hv, List.set_set]
theorem wipe_wipe {vs : List Nat} {σ : L2.St} : wipe (wipe σ vs) vs = wipe σ vs := by
  have : ∀ (ws us : List Nat) (σ : L2.St), (∀ i ∈ ws, i ∈ us) → wipe (wipe σ ws) us = wipe σ us := by
    intro ws us
    induction ws with
    | nil => intro σ _; rfl
    | cons w ws ih =>
      intro σ h
      show wipe ((wipe σ ws).set w none) us = _
      rw [wipe_set_mem (h w List.mem_cons_self), ih σ fun i hi => h i (List.mem_cons_of_mem _ hi)]
  exact this vs vs σ fun _ h => h
theorem own_name {K : PySem.W.Frag} {vs : List Nat} {i : Nat} (hi : i ∈ vs) : OwnG K vs (L2.gName i) (gNm i) := by
  intro v d σ env st s1 H ρ env1 Q w hd hg h
  cases hg
  refine ⟨by rw [wipe_set_mem hi, wipe_wipe], h _ ⟨w.en.set hd i, w.st⟩⟩
section
variable {X : Cx} {E : XK} {pos : Pos} {ft : FT} {g : FG} {f : FS} {fi : FI} {fe : FE}
/-- tuple targets of names -/
def nmsG : List Nat → TGs
  | [] => L2.gNil
  | i :: is => L2.gCons (L2.gName i) (nmsG is)
def nmsF : List Nat → FGs
  | [] => gsNil
  | i :: is => gsCons (gNm i) (nmsF is)
theorem own_names {K : PySem.W.Frag} {vs : List Nat} : ∀ {is : List Nat}, (∀ i ∈ is, i ∈ vs) → ∀ (xs : List V) (ds : List D) (σ σ0 : L2.St) (env : En) (st s1 : Sto) (H : Hp) (ρ : Mp) (env1 : En) (Q : L2.St → Hp → Prop), wipe σ0 vs = wipe σ vs → Wd K H ρ σ0 env st → DRs K H ρ xs ds → nmsF is ds env st = some (.ok env1 s1) →
    (∀ σ2, Wd K H ρ σ2 env1 s1 → Q σ2 H) → nmsG is xs σ0 H fun σ2 H2 => wipe σ2 vs = wipe σ vs ∧ Q σ2 H2
  | [], _, xs, ds, σ, σ0, env, st, s1, H, ρ, env1, Q, hw, w, hd, hg, h => by
    unfold nmsF gsNil at hg
    split at hg
    · cases hg
      exact ⟨hd.nil_inv, hw, h _ w⟩
    · cases hg
  | i :: is, hi, xs, ds, σ, σ0, env, st, s1, H, ρ, env1, Q, hw, w, hd, hg, h => by
    unfold nmsF gsCons at hg
    split at hg
    · rename_i d ds
      obtain ⟨x, xs, rfl, q1, q2⟩ := hd.cons_inv
      refine ⟨x, xs, rfl, ?_⟩
      exact own_names (fun j hj => hi j (List.mem_cons_of_mem _ hj)) xs ds σ _ _ st s1 H ρ env1 Q (by rw [wipe_set_mem (hi i List.mem_cons_self)]; exact hw) ⟨w.en.set q1 i, w.st⟩ q2 hg h
    · cases hg
theorem own_tup {K : PySem.W.Frag} {vs is : List Nat} {n : Nat} (hi : ∀ i ∈ is, i ∈ vs) : OwnG K vs (L2.gTup K n (nmsG is)) (gTp n (nmsF is)) := by
  intro v d σ env st s1 H ρ env1 Q w hd hg h
  unfold gTp at hg
  split at hg
  · rename_i ds
    split at hg
    · rename_i hl
      obtain ⟨a, xs, rfl, q1, q2⟩ := hd.tup_inv
      exact ⟨a, xs, rfl, q1.seq, q2.1.trans hl, own_names hi xs ds σ _ env st s1 H ρ env1 Q wipe_wipe w q2 hg h⟩
    · cases hg
  · rename_i ds
    split at hg
    · rename_i hl
      obtain ⟨a, xs, rfl, q1, q2⟩ := hd.frt_inv
      exact ⟨a, xs, rfl, q1.seq, q2.1.trans hl, own_names hi xs ds σ _ env st s1 H ρ env1 Q wipe_wipe w q2 hg h⟩
    · cases hg
  · cases hg
theorem lcL_len {env : En} : ∀ {ds : List D} {st : Sto} {ys : List D} {s2 : Sto}, lcL g ft fe env ds st = some (.ok ys s2) → ys.length ≤ ds.length
  | [], st, ys, s2, h => by cases h; exact Nat.le_refl _
  | d :: ds, st, ys, s2, h => by
    unfold lcL at h
    rcases bnd_some h with ⟨a, s, e1, e2⟩ | ⟨e, s, e1, e2⟩
    · rcases bnd_some e2 with ⟨c, s3, e3, e4⟩ | ⟨e, s3, e3, e4⟩
      · split at e4
        · rcases bnd_some e4 with ⟨y, s5, e5, e6⟩ | ⟨e, s5, e5, e6⟩
          · rcases bnd_some e6 with ⟨zs, s7, e7, e8⟩ | ⟨e, s7, e7, e8⟩
            · cases e8
              have := lcL_len e7
              simp; omega
            · cases e8
          · cases e6
        · have := lcL_len e4
          simp; omega
      · cases e4
    · cases e2
theorem lcL_exc {env : En} : ∀ {ds : List D} {st : Sto} {ex : Exn} {s2 : Sto}, lcL g ft fe env ds st ≠ some (.exc ex s2)
  | [], st, ex, s2, h => by cases h
  | d :: ds, st, ex, s2, h => by
    unfold lcL at h
    rcases bnd_some h with ⟨a, s, e1, e2⟩ | ⟨e, s, e1, e2⟩
    · rcases bnd_some e2 with ⟨c, s3, e3, e4⟩ | ⟨e, s3, e3, e4⟩
      · split at e4
        · rcases bnd_some e4 with ⟨y, s5, e5, e6⟩ | ⟨e, s5, e5, e6⟩
          · rcases bnd_some e6 with ⟨zs, s7, e7, e8⟩ | ⟨e, s7, e7, e8⟩
            · cases e8
            · exact lcL_exc e7
          · obtain ⟨_, _, _, z⟩ := noX_ok e5; cases z
        · exact lcL_exc e4
      · obtain ⟨_, _, _, z⟩ := noX_ok e3; cases z
    · obtain ⟨_, _, _, z⟩ := noX_ok e1; cases z
/-- the reading of a comprehension -/
theorem lc_read {K : PySem.W.Frag} {vs : List Nat} {t : TG} {σ : L2.St} {H : Hp} {ρ : Mp} {env : En} {st : Sto} {r : R (List D)} {Q : VK} (hg : OwnG K vs t g) (w : Wd K H ρ σ env st) (hf : lcF fi g ft fe vs env st = some r)
    (hx : ∀ e s, r = .exc e s → Fin (DR K) K E ρ H Q (.exc e s))
    (h : ∀ ds s1 p xs H' l, r = .ok ds s1 → Step ρ H ⟨l, ρ.h⟩ H' → StR K H' ⟨l, p :: ρ.h⟩ s1 → H p = none → p ∉ l → p ∉ ρ.h → H' p = some (.lst xs) → DRs K H' ⟨l, p :: ρ.h⟩ xs ds → Q (.ref p) H') :
    tLc (rdI K E fi) t (rdT K E0 ft) (rdE K E0 fe) vs σ H Q := by
  rcases bnd_some hf with ⟨items, s1, e1, e2⟩ | ⟨e, s1, e1, e2⟩
  · split at e2
    case isFalse => cases e2
    rename_i hlen
    refine ⟨ρ, env, st, _, w, e1, fun J H1 ρ1 t1 ss1 hJ => fun Dd hD => ?_⟩
    have hD0 : H Dd = none := by
      by_cases m : Dd ∈ ρ.c
      · obtain ⟨o, q⟩ := ss1.has (show Dd ∈ ρ1.c by obtain ⟨z, e⟩ := t1.pre; rw [e]; exact List.mem_append_left _ m)
        rw [hD] at q; cases q
      · cases q : H Dd with
        | none => rfl
        | some o => rw [t1.keep _ _ q m] at hD; cases hD
    have hDn : Dd ∉ ρ1.c := ss1.newc hD
    have hDo : ¬ ρ1.Own Dd := ss1.new hD
    have nd : ∀ a o, H1 a = some o → a ≠ Dd := fun a o q z => by rw [z, hD] at q; cases q
    -- the loop
    refine ⟨fun i n H2 => ∃ c2 st2 acc dacc r2, Step ρ1 H1 ⟨c2, ρ1.h⟩ H2 ∧ StR K H2 ⟨c2, Dd :: ρ1.h⟩ st2 ∧ Dd ∉ c2 ∧ H2 Dd = some (.lst acc) ∧ DRs K H2 ⟨c2, Dd :: ρ1.h⟩ acc dacc ∧ i + n = items.length ∧ dacc.length ≤ i ∧
      lcL g ft fe (wipeD env vs) (items.drop i) st2 = some r2 ∧ (∀ ys s, r2 = .ok ys s → r = .ok (dacc ++ ys) s) ∧ (∀ e s, r2 = .exc e s → r = .exc e s), ?_, ?_⟩
    · exact ⟨items.length, ρ1.c, s1, [], [], r, ⟨⟨[], by simp⟩, rfl, fun a o q _ => by rw [upd_ne (nd a o q)]; exact q, fun a m => .inl m, fun a o u q => by rw [upd_ne (nd a _ q)]; exact q⟩, ss1.hide hD, hDn, upd_same, .nil, by omega, Nat.le_refl _, by rw [List.drop_zero]; exact e2, fun ys s q => q, fun e s q => q⟩
    · rintro i n H2 ⟨c2, st2, acc, dacc, r2, t2, ss2, n2, hacc, hda, hn, hda2, hl, h1, h2⟩
      have T2 : Far ρ1 H1 ⟨c2, Dd :: ρ1.h⟩ H2 := by
        refine ⟨t2.pre, fun a o q m => t2.keep a o q fun z => m (.inl z), fun a m => ?_, t2.fz⟩
        rcases m with z | z
        · exact (t2.new a z).elim (fun z => .inl (.inl z)) .inr
        · rcases List.mem_cons.mp z with z | z
          · rw [z]; exact .inr hD
          · exact .inl (.inr z)
      obtain ⟨go, stop⟩ := hJ _ H2 st2 T2 ss2
      by_cases hi : i < items.length
      · have hd : items[i]? = some items[i] := List.getElem?_eq_getElem hi
        obtain ⟨g1, g2⟩ := go i _ hd
        refine .inr ⟨g1, _, fun H' hN => ⟨n - 1, by omega, hN⟩, fun x H3 hy => ?_⟩
        obtain ⟨sm, hx'⟩ := g2 x H3 hy
        have t3 : Step ⟨c2, Dd :: ρ1.h⟩ H2 ⟨c2, Dd :: ρ1.h⟩ H3 := .same sm
        rw [List.drop_eq_getElem_cons hi] at hl
        unfold lcL at hl
        have ss3 := ss2.same sm
        rcases bnd_some hl with ⟨en1, s4, e4, e5⟩ | ⟨e, s4, e4, e5⟩
        case inr => obtain ⟨_, _, _, z⟩ := noX_ok e4; cases z
        obtain ⟨_, _, e4', z⟩ := noX_ok e4
        cases z
        refine hg x _ σ (wipeD env vs) st2 s4 H3 _ en1 _ ⟨((w.en.step t1).far (T2.trans t3.far)).wipe vs, ss3⟩ hx' e4' fun σ4 w4 => ?_
        rcases bnd_some e5 with ⟨c, s6, e6, e7⟩ | ⟨e, s6, e6, e7⟩
        case inr => obtain ⟨_, _, _, z⟩ := noX_ok e6; cases z
        obtain ⟨_, _, e6', z⟩ := noX_ok e6
        cases z
        refine ⟨_, en1, s4, _, w4, e6', fun b H5 ρ5 t5 ss5 hb => ?_⟩
        subst hb
        have t35 := t3.trans t5
        obtain ⟨c5, h5⟩ := ρ5
        have hh5 : h5 = Dd :: ρ1.h := t35.hid
        subst hh5
        have T5 : Step ρ1 H1 ⟨c5, ρ1.h⟩ H5 := t2.trans ⟨t35.pre, rfl, t35.keep, t35.new, t35.fz⟩
        have d5 : H5 Dd = some (.lst acc) := t35.keep _ _ hacc n2
        have n5 : Dd ∉ c5 := t35.nin hacc n2
        cases b with
        | false =>
          simp only [Bool.false_eq_true, if_false] at e7 ⊢
          exact ⟨c5, s6, acc, dacc, r2, T5, ss5, n5, d5, hda.step t35, by omega, by omega, e7, h1, h2⟩
        | true =>
          simp only [if_true] at e7 ⊢
          rcases bnd_some e7 with ⟨y, s8, e8, e9⟩ | ⟨e, s8, e8, e9⟩
          case inr => obtain ⟨_, _, _, z⟩ := noX_ok e8; cases z
          obtain ⟨_, _, e8', z⟩ := noX_ok e8
          cases z
          refine ⟨_, en1, s6, _, ⟨w4.en.step t5, ss5⟩, e8', fun v H9 ρ9 t9 ss9 hv => ?_⟩
          obtain ⟨c9, h9⟩ := ρ9
          have hh9 : h9 = Dd :: ρ1.h := t9.hid
          subst hh9
          have T9 : Step ρ1 H1 ⟨c9, ρ1.h⟩ H9 := T5.trans ⟨t9.pre, rfl, t9.keep, t9.new, t9.fz⟩
          have d9 : H9 Dd = some (.lst acc) := t9.keep _ _ d5 n5
          have n9 : Dd ∉ c9 := t9.nin d5 n5
          have mD : Dd ∈ (⟨c9, Dd :: ρ1.h⟩ : Mp).h := List.mem_cons_self
          have nfD : NoFz (H9 Dd) := by rw [d9]; trivial
          refine ⟨acc, d9, ?_, ?_⟩
          · have := hda.1
            exact Nat.lt_of_le_of_lt (m := 99999) (by omega) (by decide)
          · rcases bnd_some e9 with ⟨ys, s10, e10, e11⟩ | ⟨e, s10, e10, e11⟩
            case inr => exact absurd e10 lcL_exc
            cases e11
            refine ⟨c9, s8, acc ++ [v], dacc ++ [y], .ok ys s10, ⟨T9.pre, rfl, fun a o q m => by rw [upd_ne (nd a o q)]; exact T9.keep a o q m, T9.new, fun a o u q => by rw [upd_ne (nd a _ q)]; exact T9.fz a o u q⟩, ss9.grow mD n9 nfD, n9, upd_same, ?_, by omega, by simp; omega, e10, fun zs s q => ?_, fun e s q => by cases q⟩
            · exact (((hda.step t35).step t9).far (Far.grow mD nfD)).append (DRs.cons (hv.far (Far.grow mD nfD)) .nil)
            · cases q
              rw [h1 _ _ rfl, List.append_assoc]
              rfl
      · refine .inl ⟨stop i (by omega), ?_⟩
        rw [List.drop_of_length_le (by omega)] at hl
        cases hl
        have hr := h1 [] st2 rfl
        rw [List.append_nil] at hr
        have hh : ρ1.h = ρ.h := t1.hid
        rw [hh] at t2 ss2 hda
        exact h dacc st2 Dd acc H2 c2 hr (t1.trans t2) ss2 hD0 n2 (fun m => hDo (.inr (by rw [hh]; exact m))) hacc hda
  · subst e2
    exact ⟨ρ, env, st, _, w, e1, hx e s1 rfl⟩
end
end Fx
/-! Fx: comprehensions and calls as rules; operators, subscripts, built-ins by data. -/
namespace Fx
open PySem PySem.Spec PyProof.Rows L2

section
variable {X : Cx} {E : XK} {pos p : Pos} {fa fb : FE} {fs : FA} {ft : FT} {g : FG} {fi : FI} {fe : FE}
theorem pts0 : PTs X [] (rdT X.K E0 tYes1) := ⟨fun pins s σ H Q I h => pts_nil.run pins s σ H Q I (by
  obtain ⟨ρ, env, st, r, w, hf, hQ⟩ := h
  cases hf
  exact hQ.val w.st rfl)⟩
theorem lcF_ok {fi : FI} {vs : List Nat} {env : En} {st : Sto} {r : R (List D)} (h : lcF fi g ft fe vs env st = some r) : (∃ ds s, r = .ok ds s) ∨ ∃ e s, r = .exc e s := by
  cases r with
  | ok ds s => exact .inl ⟨ds, s, rfl⟩
  | exc e s => exact .inr ⟨e, s, rfl⟩
theorem lc_rd {vs : List Nat} {t : TG} (hg : OwnG X.K vs t g) {σ : L2.St} {H : Hp} {Q : VK} (h : rdE X.K E (fLc fi g ft fe vs) σ H Q) : tLc (rdI X.K E fi) t (rdT X.K E0 ft) (rdE X.K E0 fe) vs σ H Q := by
  obtain ⟨ρ, env, st, r, w, hf, hQ⟩ := h
  rcases bnd_some hf with ⟨ds, s, e1, e2⟩ | ⟨e, s, e1, e2⟩
  · cases e2
    refine lc_read hg w e1 (fun e s z => by cases z) fun ds' s1 p xs H' l z t hs hp hn hn2 hx hd => ?_
    cases z
    have ow : ∀ a, (⟨l, ρ.h⟩ : Mp).Own a → (⟨l, p :: ρ.h⟩ : Mp).Own a := fun a m => m.elim .inl fun z => .inr (List.mem_cons_of_mem _ z)
    have hd2 := hd.less (ρ' := ⟨l, ρ.h⟩) ⟨[], by simp⟩ ow
    exact hQ _ _ ⟨l, ρ.h⟩ t (hs.less rfl fun a m => List.mem_cons_of_mem _ m) (.lst ⟨fun m => m.elim hn hn2, hx⟩ hd2.1 hd2.2)
  · subst e2
    exact lc_read hg w e1 (fun e' s' z => by cases z; exact hQ) fun ds' s1 p xs H' l z => by cases z
theorem lc_rdC {vs : List Nat} {t : TG} (hg : OwnG X.K vs t g) {σ : L2.St} {H : Hp} {Q : VK} (h : rdE X.K E (fLcC fi g ft fe vs) σ H Q) : tLc (rdI X.K E fi) t (rdT X.K E0 ft) (rdE X.K E0 fe) vs σ H Q := by
  obtain ⟨ρ, env, st, r, w, hf, hQ⟩ := h
  rcases bnd_some hf with ⟨ds, s, e1, e2⟩ | ⟨e, s, e1, e2⟩
  · cases e2
    refine lc_read hg w e1 (fun e s z => by cases z) fun ds' s1 p xs H' l z t hs hp hn hn2 hx hd => ?_
    cases z
    have t2 : Step ρ H ⟨l ++ [p], ρ.h⟩ H' := by
      refine ⟨?_, rfl, t.keep, fun a m => ?_, ?_⟩
      · obtain ⟨q, e⟩ := t.pre
        exact ⟨q ++ [p], by show l ++ [p] = _; rw [show l = _ from e, List.append_assoc]⟩
      · rcases List.mem_append.mp m with z | z
        · exact t.new a z
        · rw [List.mem_singleton.mp z]; exact .inr hp
      · exact t.fz
    refine hQ _ _ ⟨l ++ [p], ρ.h⟩ t2 (hs.opened hn hx hd) (.ref ?_)
    have := hs.len
    show (l ++ [p])[s.length]? = some p
    rw [← this, List.getElem?_append_right (Nat.le_refl _)]; simp
  · subst e2
    exact lc_read hg w e1 (fun e' s' z => by cases z; exact hQ) fun ds' s1 p xs H' l z => by cases z
section
variable {elt tg iter : Expr} {ifs : List Expr} {scope : Scope} {own : List (Str × Nat)} {t : TG}
theorem v_lc (hc : X.calm = true) (hN : X.N.Nodup) (hi : VI X E tg iter fi) (ok : BlkOk X.N X.env.scope scope own)
    (hg : ∀ (s : Shared) (H : Hp) (C : Addr) (cl : List (Str × Addr)) (fp : List Addr), PG (X.blk s H scope (compEnvC scope cl C X.env) fp) tg t) (ho : OwnG X.K (own.map (·.2)) t g)
    (ht : ∀ (s : Shared) (H : Hp) (C : Addr) (cl : List (Str × Addr)) (fp : List Addr), PTs (X.blk s H scope (compEnvC scope cl C X.env) fp) ifs (rdT X.K E0 ft))
    (he : ∀ (s : Shared) (H : Hp) (C : Addr) (cl : List (Str × Addr)) (fp : List Addr), VE (X.blk s H scope (compEnvC scope cl C X.env) fp) E0 elt fe) (hs : ∀ x, foldedSetIterable iter X.env x = pure x := by intro _; rfl) :
    VE X E (.ListComp elt [⟨tg, iter, ifs, 0⟩] scope pos) (fLc fi g ft fe (own.map (·.2))) := PE.imp (pe_lc hc hN hi ok hg ht he hs) fun _ _ _ h => lc_rd ho h
theorem v_lcC (hc : X.calm = true) (hN : X.N.Nodup) (hi : VI X E tg iter fi) (ok : BlkOk X.N X.env.scope scope own)
    (hg : ∀ (s : Shared) (H : Hp) (C : Addr) (cl : List (Str × Addr)) (fp : List Addr), PG (X.blk s H scope (compEnvC scope cl C X.env) fp) tg t) (ho : OwnG X.K (own.map (·.2)) t g)
    (ht : ∀ (s : Shared) (H : Hp) (C : Addr) (cl : List (Str × Addr)) (fp : List Addr), PTs (X.blk s H scope (compEnvC scope cl C X.env) fp) ifs (rdT X.K E0 ft))
    (he : ∀ (s : Shared) (H : Hp) (C : Addr) (cl : List (Str × Addr)) (fp : List Addr), VE (X.blk s H scope (compEnvC scope cl C X.env) fp) E0 elt fe) (hs : ∀ x, foldedSetIterable iter X.env x = pure x := by intro _; rfl) :
    VE X E (.ListComp elt [⟨tg, iter, ifs, 0⟩] scope pos) (fLcC fi g ft fe (own.map (·.2))) := PE.imp (pe_lc hc hN hi ok hg ht he hs) fun _ _ _ h => lc_rdC ho h
theorem set_rd {K : PySem.W.Frag} {i : Nat} {f : FE} {Dn : Ends} {σ : L2.St} {H : Hp} (h : rdS K E (fSet i f) Dn σ H) : rdE K E f σ H fun x H1 => L2.gName i x σ H1 Dn.nx := by
  obtain ⟨ρ, env, st, r, w, hf, hQ⟩ := h
  refine rd_sb w hf hQ fun x dx s1 H1 ρ1 t1 w1 r1 hf hQ => ?_
  cases hf
  exact hQ _ H1 ρ1 .refl ⟨w1.en.set r1 i, w1.st⟩
theorem s_setLc {i : Nat} {y : Str} {py spos : Pos} (hc : X.calm = true) (hN : X.N.Nodup) (hy : X.N[i]? = some y) (hyl : X.env.scope.names.lookup y = some .local)
    (hsw : swapsWith (.ListComp elt [⟨tg, iter, ifs, 0⟩] scope pos) (some (.Name y py)) spos.line X.env = pure true) (hi : VI X E tg iter fi) (ok : BlkOk X.N X.env.scope scope own)
    (hg : ∀ (s : Shared) (H : Hp) (C : Addr) (cl : List (Str × Addr)) (fp : List Addr), PG (X.blk s H scope (compEnvC scope cl C X.env) fp) tg t) (ho : OwnG X.K (own.map (·.2)) t g)
    (ht : ∀ (s : Shared) (H : Hp) (C : Addr) (cl : List (Str × Addr)) (fp : List Addr), PTs (X.blk s H scope (compEnvC scope cl C X.env) fp) ifs (rdT X.K E0 ft))
    (he : ∀ (s : Shared) (H : Hp) (C : Addr) (cl : List (Str × Addr)) (fp : List Addr), VE (X.blk s H scope (compEnvC scope cl C X.env) fp) E0 elt fe) (hs : ∀ x, foldedSetIterable iter X.env x = pure x := by intro _; rfl) :
    VS X E (.Assign [.Name y py] (.ListComp elt [⟨tg, iter, ifs, 0⟩] scope pos) spos) (fSet i (fLc fi g ft fe (own.map (·.2)))) := PS.imp (ps_setLc hc hN hy hyl hsw hi ok hg ht he hs) fun _ _ _ h => lc_rd ho (set_rd h)
theorem s_setLcC {i : Nat} {y : Str} {py spos : Pos} (hc : X.calm = true) (hN : X.N.Nodup) (hy : X.N[i]? = some y) (hyl : X.env.scope.names.lookup y = some .local)
    (hsw : swapsWith (.ListComp elt [⟨tg, iter, ifs, 0⟩] scope pos) (some (.Name y py)) spos.line X.env = pure true) (hi : VI X E tg iter fi) (ok : BlkOk X.N X.env.scope scope own)
    (hg : ∀ (s : Shared) (H : Hp) (C : Addr) (cl : List (Str × Addr)) (fp : List Addr), PG (X.blk s H scope (compEnvC scope cl C X.env) fp) tg t) (ho : OwnG X.K (own.map (·.2)) t g)
    (ht : ∀ (s : Shared) (H : Hp) (C : Addr) (cl : List (Str × Addr)) (fp : List Addr), PTs (X.blk s H scope (compEnvC scope cl C X.env) fp) ifs (rdT X.K E0 ft))
    (he : ∀ (s : Shared) (H : Hp) (C : Addr) (cl : List (Str × Addr)) (fp : List Addr), VE (X.blk s H scope (compEnvC scope cl C X.env) fp) E0 elt fe) (hs : ∀ x, foldedSetIterable iter X.env x = pure x := by intro _; rfl) :
    VS X E (.Assign [.Name y py] (.ListComp elt [⟨tg, iter, ifs, 0⟩] scope pos) spos) (fSet i (fLcC fi g ft fe (own.map (·.2)))) := PS.imp (ps_setLc hc hN hy hyl hsw hi ok hg ht he hs) fun _ _ _ h => lc_rdC ho (set_rd h)
end
theorem pts1 {c : Expr} (h : VT X E0 c ft) : PTs X [c] (rdT X.K E0 ft) := pts_one h

/-! ### calls of defs -/
abbrev DF := List D → Sto → Option (R D)
/-- a def's promise by a function -/
def spF (K : PySem.W.Frag) (n : Nat) (F : DF) : Sp := fun vs H Q E => ∃ ρ ds st r, DRs K H ρ vs ds ∧ StR K H ρ st ∧ ds.length = n ∧ F ds st = some r ∧ Fin (DR K) K E ρ H Q r
def fCall (n : Nat) (F : DF) (a : FA) : FE := fun env st => bnd (a env st) fun ds s1 => if ds.length = n then F ds s1 else none
/-- with defaults -/
def fCallD (n : Nat) (F : DF) (a : FA) (more : List D) : FE := fun env st => bnd (a env st) fun ds s1 => if (ds ++ more).length = n then F (ds ++ more) s1 else none
theorem v_call {k n : Nat} {f : Addr} {fd : FuncData} {ps : List Str} {CX : CXT} {F : DF} {x : Str} {e : Expr} {es : List Expr} (G : FnOk X.prog X.w X.K X.mg X.base CX k f fd ps (spF X.K n F)) (hr : Room k X.A) (hg : Gl X x) (hm : X.mg x = some (.ref f)) (hk : PySem.W.keepIn X.K (.ref f) = true) (hb : Binds X.K fd ps [])
    (hx : Passes CX X E) (ha : VA X E (e :: es) fs) (h : ∀ t, PA X (e :: es) t → PE X (.Call (.Name x p) (e :: es) [] pos) (tCall (spF X.K n F) [] E t)) : VE X E (.Call (.Name x p) (e :: es) [] pos) (fCall n F fs) := by
  refine PE.imp (h _ ha) fun σ H Q ⟨ρ, env, st, r, w, hf, hQ⟩ => ?_
  refine rd_bind w hf hQ fun xs ds s1 H1 ρ1 t1 w1 r1 hf hQ => ?_
  split at hf
  · rename_i hl
    rw [List.append_nil]
    exact ⟨ρ1, ds, s1, r, r1, w1.st, hl, hf, hQ⟩
  · cases hf
theorem v_call0 {k : Nat} {f : Addr} {fd : FuncData} {ps : List Str} {CX : CXT} {F : DF} {x : Str} (h : PE X (.Call (.Name x p) [] [] pos) (tCall (spF X.K 0 F) [] E tNil)) : VE X E (.Call (.Name x p) [] [] pos) (fCall 0 F fNil) := by
  refine PE.imp h fun σ H Q ⟨ρ, env, st, r, w, hf, hQ⟩ => ?_
  exact ⟨ρ, [], st, r, .nil, w.st, rfl, hf, hQ⟩
/-- a body as a function -/
def fDef (n N : Nat) (fb : FS) : DF := fun ds st => match fb (ds.map some ++ List.replicate (N - n) none) st with
  | some (.nx _ s) => some (.ok .non s)
  | some (.rt d s) => some (.ok d s)
  | _ => none
def fDefX (n N : Nat) (fb : FS) : DF := fun ds st => match fb (ds.map some ++ List.replicate (N - n) none) st with
  | some (.nx _ s) => some (.ok .non s)
  | some (.rt d s) => some (.ok d s)
  | some (.exc e s) => some (.exc e s)
  | _ => none
end
theorem start_en {K : PySem.W.Frag} {H : Hp} {ρ : Mp} {vs : List V} {ds : List D} {N : List Str} {n : Nat} (h : DRs K H ρ vs ds) (hn : ds.length = n) : EnR K H ρ (L2.start N vs) (ds.map some ++ List.replicate (N.length - n) none) := by
  unfold L2.start
  have hl := h.1
  refine ⟨by simp [hl, hn], fun i d e => ?_⟩
  by_cases hi : i < ds.length
  · rw [List.getElem?_append_left (by simpa using hi), List.getElem?_map] at e
    cases q : ds[i]? with
    | none => rw [q] at e; cases e
    | some d' =>
      rw [q] at e
      have e : d' = d := by simpa using e
      subst e
      obtain ⟨v, e1, e2⟩ := h.get q
      exact ⟨v, by rw [List.getElem?_append_left (by simp; omega), List.getElem?_map, e1]; rfl, e2⟩
  · rw [List.getElem?_append_right (by simp; omega)] at e
    have := List.mem_of_getElem? e
    rw [List.mem_replicate] at this
    cases this.2
/-! ### closed data -/
mutual
def D.ok (n : Nat) : D → Bool
  | .ref k => decide (k < n)
  | .tup xs => D.oks n xs
  | .lst xs => D.oks n xs
  | .frt xs => D.oks n xs
  | .frz xs => D.oks n xs
  | .non => true
  | .bl _ => true
  | .int _ => true
  | .str _ => true
  | .ty _ => true
def D.oks (n : Nat) : List D → Bool
  | [] => true
  | d :: ds => D.ok n d && D.oks n ds
end
theorem D.oks_of {n : Nat} : ∀ {ds : List D}, (∀ (i : Nat) (d : D), ds[i]? = some d → D.ok n d = true) → D.oks n ds = true
  | [], _ => rfl
  | d :: ds, h => by
    unfold D.oks
    rw [h 0 d rfl, D.oks_of (ds := ds) fun i d' e => h (i + 1) d' (by simpa using e)]
    rfl
theorem D.oks_get {n : Nat} : ∀ {ds : List D} {i : Nat} {d : D}, D.oks n ds = true → ds[i]? = some d → D.ok n d = true
  | [], i, d, _, e => by simp at e
  | x :: ds, i, d, h, e => by
    unfold D.oks at h
    have h := (Bool.and_eq_true_iff.mp h)
    cases i with
    | zero => simp at e; subst e; exact h.1
    | succ i => exact D.oks_get h.2 (by simpa using e)
def Cell.ok (n : Nat) : Cell → Bool
  | .lst xs => D.oks n xs
  | .dct kvs => D.oks n (kvs.map (·.2))
  | .dcf kvs => D.oks n (kvs.map (·.2))
def StOk (st : Sto) : Prop := ∀ c ∈ st, c.ok st.length = true
section
variable {K : PySem.W.Frag} {H H' : Hp} {ρ ρ' : Mp} {v : V} {d : D} {xs : List V} {ds : List D} {st : Sto}
theorem get_pair {α β : Type} {xs : List α} {ds : List β} (l : xs.length = ds.length) {i : Nat} {d : β} (e : ds[i]? = some d) : ∃ x, xs[i]? = some x :=
  ⟨_, List.getElem?_eq_getElem (by rw [l]; exact (List.getElem?_eq_some_iff.mp e).1)⟩
theorem DR.ok (h : DR K H ρ v d) : D.ok ρ.c.length d = true := by
  induction h with
  | non => rfl
  | bl b => rfl
  | int i => rfl
  | str x => rfl
  | ty n => rfl
  | tup h l e ih => exact D.oks_of fun i d q => let ⟨x, e1⟩ := get_pair l q; ih i x d e1 q
  | lst h l e ih => exact D.oks_of fun i d q => let ⟨x, e1⟩ := get_pair l q; ih i x d e1 q
  | frt h l e ih => exact D.oks_of fun i d q => let ⟨x, e1⟩ := get_pair l q; ih i x d e1 q
  | frz h l e ih => exact D.oks_of fun i d q => let ⟨x, e1⟩ := get_pair l q; ih i x d e1 q
  | ref h => exact decide_eq_true (List.getElem?_eq_some_iff.mp h).1
theorem DRs.ok (h : DRs K H ρ xs ds) : D.oks ρ.c.length ds = true := D.oks_of fun i d q => let ⟨x, e1, e2⟩ := h.get q; e2.ok
theorem StR.ok (h : StR K H ρ st) : StOk st := fun c m => by
  obtain ⟨n, e⟩ := List.getElem?_of_mem m
  have hn : n < ρ.c.length := by rw [h.len]; exact (List.getElem?_eq_some_iff.mp e).1
  have q := h.cell n _ c (List.getElem?_eq_getElem hn) e
  rw [← h.len]
  cases c with
  | lst ds => obtain ⟨xs, _, q⟩ := q; exact q.ok
  | dct ds =>
    obtain ⟨xs, _, q⟩ := q
    exact D.oks_of fun i d e => by
      rw [List.getElem?_map] at e
      cases z : ds[i]? with
      | none => rw [z] at e; cases e
      | some p =>
        rw [z] at e
        obtain ⟨x, e1⟩ := get_pair q.1 z
        have := (q.2 i x p e1 z).2.ok
        simp at e
        rw [← e]; exact this
  | dcf ds =>
    obtain ⟨o, xs, _, q⟩ := q
    exact D.oks_of fun i d e => by
      rw [List.getElem?_map] at e
      cases z : ds[i]? with
      | none => rw [z] at e; cases e
      | some p =>
        rw [z] at e
        obtain ⟨x, e1⟩ := get_pair q.1 z
        have := (q.2 i x p e1 z).2.ok
        simp at e
        rw [← e]; exact this
/-- the first cells alone -/
theorem DR.cut {l t : List Addr} {hh : List Addr} (h : DR K H ⟨l ++ t, hh⟩ v d) (o : D.ok l.length d = true) : DR K H ⟨l, hh⟩ v d := by
  have ow : ∀ a, (⟨l, hh⟩ : Mp).Own a → (⟨l ++ t, hh⟩ : Mp).Own a := fun a m => m.elim (fun z => .inl (List.mem_append_left _ z)) .inr
  induction h with
  | non => exact .non
  | bl b => exact .bl b
  | int i => exact .int i
  | str x => exact .str x
  | ty n => exact .ty n
  | tup h l e ih => exact .tup ⟨fun m => h.1 (ow _ m), h.2⟩ l fun i x d e1 e2 => ih i x d e1 e2 (D.oks_get o e2)
  | lst h l e ih => exact .lst ⟨fun m => h.1 (ow _ m), h.2⟩ l fun i x d e1 e2 => ih i x d e1 e2 (D.oks_get o e2)
  | frt h l e ih => exact .frt (h.elim (fun z => .inl ⟨fun m => z.1 (ow _ m), z.2⟩) .inr) l fun i x d e1 e2 => ih i x d e1 e2 (D.oks_get o e2)
  | frz h l e ih => exact .frz (h.elim (fun z => .inl ⟨fun m => z.1 (ow _ m), z.2⟩) .inr) l fun i x d e1 e2 => ih i x d e1 e2 (D.oks_get o e2)
  | ref h =>
    have o := of_decide_eq_true o
    exact .ref (by rw [List.getElem?_append_left o] at h; exact h)
theorem StR.cut {s more : Sto} (h : StR K H ρ (s ++ more)) (o : StOk s) : ∃ l t, ρ.c = l ++ t ∧ l.length = s.length ∧ StR K H ⟨l, ρ.h⟩ s := by
  obtain ⟨c, hh⟩ := ρ
  have len : c.length = s.length + more.length := by simpa using h.len
  refine ⟨c.take s.length, c.drop s.length, (List.take_append_drop _ _).symm, by rw [List.length_take]; omega, ?_⟩
  have ll : (c.take s.length).length = s.length := by rw [List.length_take]; omega
  refine ⟨ll, ?_, fun n a cc e1 e2 => ?_, h.hid⟩
  · exact h.nd.sublist (List.take_sublist _ _)
  · have hn : n < s.length := (List.getElem?_eq_some_iff.mp e2).1
    have e1' : c[n]? = some a := by
      have e1 : (c.take s.length)[n]? = some a := e1
      rw [List.getElem?_take, if_pos hn] at e1; exact e1
    have q := h.cell n a cc e1' (by rw [List.getElem?_append_left hn]; exact e2)
    have oc := o cc (List.mem_of_getElem? e2)
    have e : c = c.take s.length ++ c.drop s.length := (List.take_append_drop _ _).symm
    rw [e] at q
    cases cc with
    | lst ds =>
      obtain ⟨xs, hx, q⟩ := q
      exact ⟨xs, hx, q.1, fun i x d e1 e2 => (q.2 i x d e1 e2).cut (by rw [ll]; exact D.oks_get oc e2)⟩
    | dct ds =>
      obtain ⟨xs, hx, q⟩ := q
      refine ⟨xs, hx, q.1, fun i x d e1 e2 => ⟨(q.2 i x d e1 e2).1, (q.2 i x d e1 e2).2.cut ?_⟩⟩
      rw [ll]
      exact D.oks_get oc (i := i) (by rw [List.getElem?_map, e2]; rfl)
    | dcf ds =>
      obtain ⟨o, xs, hx, q⟩ := q
      refine ⟨o, xs, hx, q.1, fun i x d e1 e2 => ⟨(q.2 i x d e1 e2).1, (q.2 i x d e1 e2).2.cut ?_⟩⟩
      rw [ll]
      exact D.oks_get oc (i := i) (by rw [List.getElem?_map, e2]; rfl)
end
section
variable {P : Program} {w : World} {K : PySem.W.Frag} {mg : Str → Option Value} {base : Heap}
/-- the rule of a def that raises nothing -/
theorem fn_ok {x qual : Str} {st : Stmt} {f : Addr} {fd : FuncData} {N ps : List Str} {k : Nat} {fb : FS} (F : Fun K x qual st f fd) (S : FnScope N ps (defScope st))
    (hb : ∀ (cdv : Value) (A : Around) (outer : List Env) (s : Shared) (H : Hp) (E : XK), Room k (A.deeper (envOfC qual (defScope st) s.heap.objs.size f cdv)) → VSs (cxOf CX0 P w K mg base N qual (defScope st) f cdv A outer s H E).nox E0 (defBody st) fb) :
    FnOk P w K mg base CX0 (k + 1) f fd ps (spF K ps.length (fDef ps.length N.length fb)) := by
  refine F.ok S (fun vs H Q E ⟨ρ, ds, st, r, h1, h2, h3, _⟩ => h1.1.trans h3) fun cdv A outer s H vs Q E hr ⟨ρ, ds, st, r, h1, h2, h3, h4, h5⟩ => ?_
  refine ⟨_, hb cdv A outer s H E hr, ?_⟩
  unfold fDef at h4
  split at h4
  · rename_i en s1 e
    cases h4
    exact ⟨ρ, _, st, _, ⟨start_en h1 h3, h2⟩, e, fun σ' H' ρ' t w => h5 .non H' ρ' t w.st .non⟩
  · rename_i d s1 e
    cases h4
    exact ⟨ρ, _, st, _, ⟨start_en h1 h3, h2⟩, e, fun v H' ρ' t w q => h5 v H' ρ' t w q⟩
  · cases h4
/-- a clearer function: what the derived one tells, but for cells that nobody knows any more -/
theorem spF_le {n : Nat} {F G : DF}
    (e : ∀ ds st r, ds.length = n → D.oks st.length ds = true → StOk st → G ds st = some r → ∃ d s more, r = .ok d s ∧ F ds st = some (.ok d (s ++ more)) ∧ (more = [] ∨ (st.length ≤ s.length ∧ D.ok s.length d = true ∧ StOk s))) : ∀ vs H Q E, spF K n G vs H Q E → spF K n F vs H Q E := by
  intro vs H Q E ⟨ρ, ds, st, r, h1, h2, h3, h4, h5⟩
  obtain ⟨d, s, more, rfl, q, z⟩ := e ds st r h3 (h2.len ▸ h1.ok) h2.ok h4
  refine ⟨ρ, ds, st, _, h1, h2, h3, q, fun v H' ρ' t hs hd => ?_⟩
  rcases z with rfl | ⟨z0, z1, z2⟩
  · rw [List.append_nil] at hs
    exact h5 v H' ρ' t hs hd
  · obtain ⟨l, t2, e1, e2, e3⟩ := hs.cut z2
    refine h5 v H' ⟨l, ρ'.h⟩ ⟨?_, t.hid, t.keep, fun a m => t.new a (by rw [e1]; exact List.mem_append_left _ m), t.fz⟩ e3 ?_
    · obtain ⟨t1, q1⟩ := t.pre
      have q2 : ρ.c ++ t1 = l ++ t2 := q1.symm.trans e1
      have hl : ρ.c.length ≤ l.length := by rw [e2, h2.len]; exact z0
      rcases List.append_eq_append_iff.mp q2 with ⟨as, e, _⟩ | ⟨bs, e, _⟩
      · exact ⟨as, e⟩
      · have : bs = [] := by
          have := congrArg List.length e
          rw [List.length_append] at this
          exact List.eq_nil_of_length_eq_zero (by omega)
        subst this
        exact ⟨[], by rw [e]; simp⟩
    · obtain ⟨c, hh⟩ := ρ'
      have e1 : c = l ++ t2 := e1
      subst e1
      exact hd.cut (by rw [e2]; exact z1)
end
end Fx
/-! Fx: operators, subscripts, built-ins by data. -/
namespace Fx
open PySem PySem.Spec PyProof.Rows L2

/-! ### sequences -/
/-! a list of any kind; a list that has not been locked; a list or a tuple -/
def seqS (st : Sto) (d : D) : Option (List D) := match d with
  | .lst xs => some xs
  | .frz xs => some xs
  | .ref n => match st[n]? with
    | some (.lst xs) => some xs
    | _ => none
  | _ => none
def seqP (st : Sto) (d : D) : Option (List D) := match d with
  | .lst xs => some xs
  | .ref n => match st[n]? with
    | some (.lst xs) => some xs
    | _ => none
  | _ => none
section
variable {K : PySem.W.Frag} {H H' : Hp} {ρ : Mp} {st : Sto} {v : V} {d : D} {ds : List D}
theorem seqP_inv (s : StR K H ρ st) (h : DR K H ρ v d) (e : seqP st d = some ds) : ∃ a xs, v = .ref a ∧ H a = some (.lst xs) ∧ DRs K H ρ xs ds := by
  cases h <;> first | cases e | skip
  · rename_i a xs h l q; exact ⟨a, xs, rfl, h.2, l, q⟩
  · rename_i n a h
    unfold seqP at e
    simp only at e
    split at e
    · rename_i ys hy
      cases e
      obtain ⟨xs, e1, e2⟩ := s.lstAt h hy
      exact ⟨a, xs, rfl, e1, e2⟩
    · cases e
theorem seqS_inv (s : StR K H ρ st) (h : DR K H ρ v d) (e : seqS st d = some ds) : ∃ a xs, v = .ref a ∧ SqL K H a xs ∧ DRs K H ρ xs ds := by
  cases h <;> first | cases e | skip
  · rename_i a xs h l q; exact ⟨a, xs, rfl, h.seq, l, q⟩
  · rename_i a xs h l q; exact ⟨a, xs, rfl, h.seq, l, q⟩
  · rename_i n a h
    unfold seqS at e
    simp only at e
    split at e
    · rename_i ys hy
      cases e
      obtain ⟨xs, e1, e2⟩ := s.lstAt h hy
      exact ⟨a, xs, rfl, .inl (.inl e1), e2⟩
    · cases e
theorem new_lst {p : Addr} {xs : List V} (s : StR K H ρ st) (hp : H p = none) (h : DRs K H ρ xs ds) : Same H (upd H p (.lst xs)) ∧ DR K (upd H p (.lst xs)) ρ (.ref p) (.lst ds) := by
  have sm := Fx.same_upd (o := .lst xs) hp
  exact ⟨sm, .lst ⟨s.new hp, upd_same⟩ h.1 (h.step (.same sm)).2⟩
theorem new_tup {p : Addr} {o : Obj} {xs : List V} (s : StR K H ρ st) (hp : H p = none) (ho : o.dict = none) (h : DRs K H ρ xs ds) : Same H (upd H p (.frz o (.tup xs))) ∧ DR K (upd H p (.frz o (.tup xs))) ρ (.ref p) (.tup ds) := by
  have sm := Fx.same_upd (o := .frz o (.tup xs)) hp
  exact ⟨sm, .tup ⟨s.new hp, o, upd_same, ho⟩ h.1 (h.step (.same sm)).2⟩
/-- .. whose object nobody knows -/
theorem new_frt {p : Addr} {xs : List V} (s : StR K H ρ st) (hp : H p = none) (h : DRs K H ρ xs ds) : Same H (upd H p (.tup xs)) ∧ DR K (upd H p (.tup xs)) ρ (.ref p) (.frt ds) := by
  have sm := Fx.same_upd (o := .tup xs) hp
  exact ⟨sm, .frt (.inl ⟨s.new hp, .inl upd_same⟩) h.1 (h.step (.same sm)).2⟩
theorem DRs.ints : ∀ {ns : List Int} {xs : List V}, DRs K H ρ xs (ns.map D.int) → xs = ns.map V.int
  | [], xs, h => h.nil_inv
  | n :: ns, xs, h => by
    obtain ⟨x, ys, rfl, q1, q2⟩ := DRs.cons_inv (d := .int n) (ds := ns.map D.int) h
    cases q1
    rw [DRs.ints q2]; rfl
theorem DRs.bls : ∀ {ns : List Bool} {xs : List V}, DRs K H ρ xs (ns.map D.bl) → xs = ns.map V.bl
  | [], xs, h => h.nil_inv
  | n :: ns, xs, h => by
    obtain ⟨x, ys, rfl, q1, q2⟩ := DRs.cons_inv (d := .bl n) (ds := ns.map D.bl) h
    cases q1
    rw [DRs.bls q2]; rfl
end
/-- all ints, all truths -/
def asInts : List D → Option (List Int)
  | [] => some []
  | .int i :: ds => (asInts ds).map (i :: ·)
  | _ => none
def asBls : List D → Option (List Bool)
  | [] => some []
  | .bl i :: ds => (asBls ds).map (i :: ·)
  | _ => none
theorem asInts_some : ∀ {ds : List D} {ns : List Int}, asInts ds = some ns → ds = ns.map D.int
  | [], ns, h => by cases h; rfl
  | d :: ds, ns, h => by
    cases d <;> first | cases h | skip
    rename_i i
    obtain ⟨ms, e, rfl⟩ := map_some (show (asInts ds).map (i :: ·) = some ns from h)
    rw [asInts_some e]; rfl
theorem asBls_some : ∀ {ds : List D} {ns : List Bool}, asBls ds = some ns → ds = ns.map D.bl
  | [], ns, h => by cases h; rfl
  | d :: ds, ns, h => by
    cases d <;> first | cases h | skip
    rename_i i
    obtain ⟨ms, e, rfl⟩ := map_some (show (asBls ds).map (i :: ·) = some ns from h)
    rw [asBls_some e]; rfl
@[simp] theorem asInts_map (ns : List Int) : asInts (ns.map D.int) = some ns := by induction ns with
  | nil => rfl
  | cons n ns ih => show (asInts (ns.map D.int)).map (n :: ·) = _; rw [ih]; rfl
@[simp] theorem asBls_map (ns : List Bool) : asBls (ns.map D.bl) = some ns := by induction ns with
  | nil => rfl
  | cons n ns ih => show (asBls (ns.map D.bl)).map (n :: ·) = _; rw [ih]; rfl

/-! ### rules side by side -/
theorem opr_or {X : Cx} {f : Value → Value → Sem Value} {r r' : R2} (h : OpR X f r) (h' : OpR X f r') : OpR X f (fun x y H Q => r x y H Q ∨ r' x y H Q) := fun pins s σ H x y v u Q I rx ry q => q.elim (h pins s σ H x y v u Q I rx ry) (h' pins s σ H x y v u Q I rx ry)
theorem car_or {X : Cx} {f : Value} {r r' : List V → Hp → VK → Prop} (h : CallR X f r) (h' : CallR X f r') : CallR X f (fun x H Q => r x H Q ∨ r' x H Q) := fun pins s σ H x v Q I rx q => q.elim (h pins s σ H x v Q I rx) (h' pins s σ H x v Q I rx)

/-! ### arithmetic -/
/-- small enough for a product -/
def Sz (i : Int) : Prop := i.natAbs.log2 < 60000000
instance (i : Int) : Decidable (Sz i) := inferInstanceAs (Decidable (_ < _))
theorem Sz.mul {i j : Int} (h : Sz i) (k : Sz j) : CMulX i j := by
  have b : ∀ x : Int, Builtin.Int.intBits x ≤ x.natAbs.log2 + 1 := fun x => by
    unfold Builtin.Int.intBits
    split <;> omega
  have h1 := b i
  have h2 := b j
  unfold Sz at h k
  unfold CMulX
  omega
/-- t + u, of tuples -/
def catT : List D → List D → D
  | [], ys => .tup ys
  | xs, [] => .tup xs
  | xs, ys => .frt (xs ++ ys)
def dAdd (st : Sto) (x y : D) : Option D := match x, y with
  | .int i, .int j => some (.int (i + j))
  | .str i, .str j => if i.length + j.length ≤ 1000000 then some (.str (i ++ j)) else none
  | .tup xs, .tup ys => if xs.length + ys.length ≤ 1000000 then some (catT xs ys) else none
  | x, y => match seqP st x, seqP st y with
    | some xs, some ys => if xs.length + ys.length ≤ 1000000 then some (.lst (xs ++ ys)) else none
    | _, _ => none
def dSub (_ : Sto) (x y : D) : Option D := match x, y with
  | .int i, .int j => some (.int (i - j))
  | _, _ => none
def dMul (_ : Sto) (x y : D) : Option D := match x, y with
  | .int i, .int j => if Sz i ∧ Sz j then some (.int (i * j)) else none
  | _, _ => none
def dDiv (_ : Sto) (x y : D) : Option D := match x, y with
  | .int i, .int j => if j ≠ 0 ∧ j.natAbs.log2 < 9000 then some (.int (i.fdiv j)) else none
  | _, _ => none
def dMod (_ : Sto) (x y : D) : Option D := match x, y with
  | .int i, .int j => if j ≠ 0 then some (.int (i.fmod j)) else none
  | _, _ => none
def dPow (_ : Sto) (x y : D) : Option D := match x, y with
  | .int i, .int j => if 0 ≤ j ∧ j ≤ 100 ∧ i.natAbs < 1000 then some (.int (i ^ j.toNat)) else none
  | _, _ => none
def dNeg (_ : Sto) (x : D) : Option D := match x with
  | .int i => some (.int (-i))
  | _ => none
theorem le_line {n : Nat} (h : n ≤ 1000000) : n ≤ sizeLine := Nat.le_trans h (by decide)
section
variable {X : Cx} {K : PySem.W.Frag}
def rAddAll (K : PySem.W.Frag) : R2 := fun x y H Q => ((rI0 fun i j => .int (i + j)) x y H Q ∨ (∃ i j, x = .str i ∧ y = .str j ∧ i.length + j.length ≤ sizeLine ∧ Q (.str (i ++ j)) H)) ∨ rCatA K x y H Q ∨ rCat x y H Q
theorem op_addA : OpR X (binaryOp .Add) (rAddAll X.K) := opr_or (opr_or op_add op_add_str) (opr_or op_catA op_cat)
theorem add_p : OpP K (rAddAll K) dAdd := by
  intro ρ H st x y dx dy d Q hs hx hy e h
  unfold dAdd at e
  split at e
  · cases e; cases hx; cases hy
    exact .inl (.inl ⟨_, _, rfl, rfl, h _ H (Same.refl H) (.int _)⟩)
  · split at e
    · rename_i hl
      cases e; cases hx; cases hy
      exact .inl (.inr ⟨_, _, rfl, rfl, le_line hl, h _ H (Same.refl H) (.str _)⟩)
    · cases e
  · split at e
    · rename_i xs ys hl
      cases e
      obtain ⟨a, us, rfl, q1, q2⟩ := hx.tup_inv
      obtain ⟨b, ws, rfl, q3, q4⟩ := hy.tup_inv
      refine .inr (.inl ⟨a, b, us, ws, rfl, rfl, q1.seq, q3.seq, le_line (by rw [q2.1, q4.1]; exact hl), fun z => ?_, fun z z2 => ?_, fun z z2 p hp => ?_⟩)
      · subst z
        have := q2.1
        have : xs = [] := List.eq_nil_of_length_eq_zero this.symm
        subst this
        exact h _ H (Same.refl H) hy
      · subst z2
        have := q4.1
        have : ys = [] := List.eq_nil_of_length_eq_zero this.symm
        subst this
        have e : catT xs [] = .tup xs := by cases xs <;> rfl
        rw [e] at h
        exact h _ H (Same.refl H) hx
      · obtain ⟨sm, q⟩ := new_frt hs hp (q2.append q4)
        have e : catT xs ys = .frt (xs ++ ys) := by
          cases xs with
          | nil => exact absurd (List.eq_nil_of_length_eq_zero q2.1) z
          | cons x xs =>
            cases ys with
            | nil => exact absurd (List.eq_nil_of_length_eq_zero q4.1) z2
            | cons y ys => rfl
        rw [e] at h
        exact h _ _ sm q
    · cases e
  · split at e
    · rename_i xs ys e1 e2
      split at e
      · rename_i hl
        cases e
        obtain ⟨a, us, rfl, q1, q2⟩ := seqP_inv hs hx e1
        obtain ⟨b, ws, rfl, q3, q4⟩ := seqP_inv hs hy e2
        refine .inr (.inr ⟨a, b, us, ws, rfl, rfl, q1, q3, le_line (by rw [q2.1, q4.1]; exact hl), fun p hp => ?_⟩)
        obtain ⟨sm, q⟩ := new_lst hs hp (q2.append q4)
        exact h _ _ sm q
      · cases e
    · cases e
theorem sub_p : OpP K (rI0 fun i j => .int (i - j)) dSub := by
  intro ρ H st x y dx dy d Q hs hx hy e h
  unfold dSub at e
  split at e
  · cases e; cases hx; cases hy
    exact ⟨_, _, rfl, rfl, h _ H (Same.refl H) (.int _)⟩
  · cases e
theorem mul_p : OpP K (rI CMulX fun i j => .int (i * j)) dMul := by
  intro ρ H st x y dx dy d Q hs hx hy e h
  unfold dMul at e
  split at e
  · split at e
    · rename_i hz
      cases e; cases hx; cases hy
      exact ⟨_, _, rfl, rfl, hz.1.mul hz.2, h _ H (Same.refl H) (.int _)⟩
    · cases e
  · cases e
def CDivG (_ j : Int) : Prop := j ≠ 0 ∧ j.natAbs.log2 < 9000
theorem op_fdivG : OpR X (binaryOp .FloorDiv) (rI CDivG fun i j => .int (i.fdiv j)) := by
  intro pins s σ H x y v u Q I rx ry h
  obtain ⟨i, j, rfl, rfl, hc, q⟩ := h
  obtain ⟨t, rfl⟩ := rx
  obtain ⟨t', rfl⟩ := ry
  exact floordiv_int hc.1 ⟨.int _, H, I.tok _, ⟨_, rfl⟩, q⟩ (.inl (PyProof.noPylong_of_log2 hc.2))
theorem div_p : OpP K (rI CDivG fun i j => .int (i.fdiv j)) dDiv := by
  intro ρ H st x y dx dy d Q hs hx hy e h
  unfold dDiv at e
  split at e
  · split at e
    · rename_i hz
      cases e; cases hx; cases hy
      exact ⟨_, _, rfl, rfl, hz, h _ H (Same.refl H) (.int _)⟩
    · cases e
  · cases e
theorem mod_p : OpP K (rI (fun _ j => j ≠ 0) fun i j => .int (i.fmod j)) dMod := by
  intro ρ H st x y dx dy d Q hs hx hy e h
  unfold dMod at e
  split at e
  · split at e
    · rename_i hz
      cases e; cases hx; cases hy
      exact ⟨_, _, rfl, rfl, hz, h _ H (Same.refl H) (.int _)⟩
    · cases e
  · cases e
theorem pow_p : OpP K (rI CPow fun i j => .int (i ^ j.toNat)) dPow := by
  intro ρ H st x y dx dy d Q hs hx hy e h
  unfold dPow at e
  split at e
  · split at e
    · rename_i hz
      cases e; cases hx; cases hy
      refine ⟨_, _, rfl, rfl, ⟨hz.1, by omega, ?_⟩, h _ H (Same.refl H) (.int _)⟩
      exact Nat.lt_trans hz.2.2 (by decide)
    · cases e
  · cases e
theorem neg_p : UnP K (rU fun i => .int (-i)) dNeg := by
  intro ρ H st x dx d Q hs hx e h
  unfold dNeg at e
  split at e
  · cases e; cases hx
    exact ⟨_, rfl, h _ H (Same.refl H) (.int _)⟩
  · cases e

/-! ### comparisons -/
def dCmp (p : Int → Int → Bool) (_ : Sto) (x y : D) : Option D := match x, y with
  | .int i, .int j => some (.bl (p i j))
  | _, _ => none
abbrev dLt := dCmp fun i j => decide (i < j)
abbrev dLe := dCmp fun i j => decide (i ≤ j)
abbrev dGt := dCmp fun i j => decide (j < i)
abbrev dGe := dCmp fun i j => decide (j ≤ i)
theorem cmp_p {p : Int → Int → Bool} : OpP K (rI0 fun i j => .bl (p i j)) (dCmp p) := by
  intro ρ H st x y dx dy d Q hs hx hy e h
  unfold dCmp at e
  split at e
  · cases e; cases hx; cases hy
    exact ⟨_, _, rfl, rfl, h _ H (Same.refl H) (.bl _)⟩
  · cases e
def dIsN (_ : Sto) (x y : D) : Option D := match y with
  | .non => some (.bl (match x with | .non => true | _ => false))
  | _ => none
def dNotN (_ : Sto) (x y : D) : Option D := match y with
  | .non => some (.bl (match x with | .non => false | _ => true))
  | _ => none
theorem isN_p : OpP K (fun x y H Q => y = .non ∧ Q (.bl (decide (x = .non))) H) dIsN := by
  intro ρ H st x y dx dy d Q hs hx hy e h
  unfold dIsN at e
  split at e
  · cases e; cases hy
    refine ⟨rfl, h _ H (Same.refl H) ?_⟩
    cases hx <;> exact .bl _
  · cases e
theorem notN_p : OpP K (fun x y H Q => y = .non ∧ Q (.bl (!decide (x = .non))) H) dNotN := by
  intro ρ H st x y dx dy d Q hs hx hy e h
  unfold dNotN at e
  split at e
  · cases e; cases hy
    refine ⟨rfl, h _ H (Same.refl H) ?_⟩
    cases hx <;> exact .bl _
  · cases e
/-! data without references, as the library says it -/
mutual
def pd : D → Option PyData
  | .non => some .none
  | .bl b => some (.bool b)
  | .int i => some (.int i)
  | .str x => some (.str x)
  | .tup xs => (pds xs).map .tuple
  | .frt xs => (pds xs).map .tuple
  | .lst xs => (pds xs).map .list
  | .frz xs => (pds xs).map .list
  | .ty _ => none
  | .ref _ => none
def pds : List D → Option (List PyData)
  | [] => some []
  | d :: ds => (pd d).bind fun e => (pds ds).map (e :: ·)
end
/-! .. or a cell of such -/
def pdS (st : Sto) (d : D) : Option PyData := match d with
  | .ref n => match st[n]? with
    | some (.lst xs) => (pds xs).map .list
    | _ => none
  | d => pd d
section
variable {H : Hp} {ρ : Mp} {st : Sto}
mutual
theorem pd_dp : ∀ {d : D} {e : PyData} {v : V}, pd d = some e → DR K H ρ v d → Dp K H v e
  | .non, e, v, h, r => by cases h; cases r; exact .non
  | .bl b, e, v, h, r => by cases h; cases r; exact .bl b
  | .int i, e, v, h, r => by cases h; cases r; exact .int i
  | .str x, e, v, h, r => by cases h; cases r; exact .str x
  | .tup xs, e, v, h, r => by
    obtain ⟨es, e1, rfl⟩ := map_some (show (pds xs).map PyData.tuple = some e from h)
    obtain ⟨a, us, rfl, q1, q2⟩ := r.tup_inv
    exact .tup q1.seq (pds_dp e1 q2)
  | .frt xs, e, v, h, r => by
    obtain ⟨es, e1, rfl⟩ := map_some (show (pds xs).map PyData.tuple = some e from h)
    obtain ⟨a, us, rfl, q1, q2⟩ := r.frt_inv
    exact .tup q1.seq (pds_dp e1 q2)
  | .lst xs, e, v, h, r => by
    obtain ⟨es, e1, rfl⟩ := map_some (show (pds xs).map PyData.list = some e from h)
    obtain ⟨a, us, rfl, q1, q2⟩ := r.lst_inv
    exact .lst q1.seq (pds_dp e1 q2)
  | .frz xs, e, v, h, r => by
    obtain ⟨es, e1, rfl⟩ := map_some (show (pds xs).map PyData.list = some e from h)
    obtain ⟨a, us, rfl, q1, q2⟩ := r.frz_inv
    exact .lst q1.seq (pds_dp e1 q2)
  | .ty _, e, v, h, r => by cases h
  | .ref _, e, v, h, r => by cases h
theorem pds_dp : ∀ {ds : List D} {es : List PyData} {vs : List V}, pds ds = some es → DRs K H ρ vs ds → DpAll K H vs es
  | [], es, vs, h, r => by cases h; rw [r.nil_inv]; exact .nil
  | d :: ds, es, vs, h, r => by
    obtain ⟨e, e1, h2⟩ := Option.bind_eq_some_iff.mp (show (pd d).bind _ = some es from h)
    obtain ⟨fs, e2, rfl⟩ := map_some h2
    obtain ⟨x, xs, rfl, q1, q2⟩ := r.cons_inv
    exact .cons (pd_dp e1 q1) (pds_dp e2 q2)
end
theorem pdS_dp {d : D} {e : PyData} {v : V} (s : StR K H ρ st) (h : pdS st d = some e) (r : DR K H ρ v d) : Dp K H v e := by
  unfold pdS at h
  split at h
  · split at h
    · rename_i xs hx
      obtain ⟨es, e1, rfl⟩ := map_some h
      obtain ⟨a, rfl, q⟩ := r.ref_inv
      obtain ⟨us, q1, q2⟩ := s.lstAt q hx
      exact .lst (.inl (.inl q1)) (pds_dp e1 q2)
    · cases h
  · exact pd_dp h r
end
def dEq (st : Sto) (x y : D) : Option D := match pdS st x, pdS st y with
  | some a, some b => if SeqAt.shaped a = true ∧ SeqAt.shaped b = true then some (.bl (PyData.eqv a b)) else none
  | _, _ => none
def dNe (st : Sto) (x y : D) : Option D := match pdS st x, pdS st y with
  | some a, some b => if SeqAt.shaped a = true ∧ SeqAt.shaped b = true then some (.bl (!PyData.eqv a b)) else none
  | _, _ => none
theorem eq_p : OpP K (rEqD K) dEq := by
  intro ρ H st x y dx dy d Q hs hx hy e h
  unfold dEq at e
  split at e
  · rename_i a b e1 e2
    split at e
    · rename_i hsh
      cases e
      exact ⟨a, b, pdS_dp hs e1 hx, pdS_dp hs e2 hy, hsh.1, hsh.2, h _ H (Same.refl H) (.bl _)⟩
    · cases e
  · cases e
theorem ne_p : OpP K (rNeD K) dNe := by
  intro ρ H st x y dx dy d Q hs hx hy e h
  unfold dNe at e
  split at e
  · rename_i a b e1 e2
    split at e
    · rename_i hsh
      cases e
      exact ⟨a, b, pdS_dp hs e1 hx, pdS_dp hs e2 hy, hsh.1, hsh.2, h _ H (Same.refl H) (.bl _)⟩
    · cases e
  · cases e
/-- flat data as a value -/
def fv : D → Option V
  | .non => some .non
  | .bl b => some (.bl b)
  | .int i => some (.int i)
  | .str x => some (.str x)
  | _ => none
def fvs : List D → Option (List V)
  | [] => some []
  | d :: ds => (fv d).bind fun e => (fvs ds).map (e :: ·)
theorem fv_eq {H : Hp} {ρ : Mp} {v u : V} {d : D} (h : fv d = some u) (r : DR K H ρ v d) : v = u ∧ flatV u = true := by
  cases r <;> first | (cases h; exact ⟨rfl, rfl⟩) | cases h
theorem fvs_eq {H : Hp} {ρ : Mp} : ∀ {vs us : List V} {ds : List D}, fvs ds = some us → DRs K H ρ vs ds → vs = us ∧ us.all flatV = true
  | vs, us, [], h, r => by cases h; exact ⟨r.nil_inv, rfl⟩
  | vs, us, d :: ds, h, r => by
    obtain ⟨e, e1, h2⟩ := Option.bind_eq_some_iff.mp (show (fv d).bind _ = some us from h)
    obtain ⟨fs, e2, rfl⟩ := map_some h2
    obtain ⟨x, xs, rfl, q1, q2⟩ := r.cons_inv
    obtain ⟨rfl, f1⟩ := fv_eq e1 q1
    obtain ⟨rfl, f2⟩ := fvs_eq e2 q2
    exact ⟨rfl, by rw [List.all_cons, f1, f2]; rfl⟩
def seqLT (st : Sto) (d : D) : Option (List D) := match seqT d with
  | some xs => some xs
  | none => seqS st d
def dIn (neg : Bool) (st : Sto) (x y : D) : Option D := match fv x, (seqLT st y).bind fvs with
  | some u, some us => some (.bl (if neg then !inV u us else inV u us))
  | _, _ => none
theorem in_p {neg : Bool} : OpP K (rIn K neg) (dIn neg) := by
  intro ρ H st x y dx dy d Q hs hx hy e h
  unfold dIn at e
  split at e
  · rename_i u us e1 e2
    cases e
    obtain ⟨ds, e3, e4⟩ := Option.bind_eq_some_iff.mp e2
    obtain ⟨rfl, f⟩ := fv_eq e1 hx
    unfold seqLT at e3
    split at e3
    · rename_i zs ez
      cases e3
      obtain ⟨a, xs, rfl, q1, q2⟩ := hy.seqT_inv ez
      obtain ⟨rfl, f2⟩ := fvs_eq e4 q2
      exact ⟨a, _, rfl, .inr q1.seq, f, f2, h _ H (Same.refl H) (.bl _)⟩
    · obtain ⟨a, xs, rfl, q1, q2⟩ := seqS_inv hs hy e3
      obtain ⟨rfl, f2⟩ := fvs_eq e4 q2
      exact ⟨a, _, rfl, .inl q1, f, f2, h _ H (Same.refl H) (.bl _)⟩
  · cases e
/-! ### subscripts -/
def dIx (st : Sto) (x y : D) : Option D := match y with
  | .int i => (seqLT st x).bind fun xs => atI xs i
  | _ => none
theorem atI_DRs {H : Hp} {ρ : Mp} {xs : List V} {ds : List D} {i : Int} {d : D} (h : DRs K H ρ xs ds) (e : atI ds i = some d) : ∃ x, atI xs i = some x ∧ DR K H ρ x d := by
  unfold atI at e ⊢
  obtain ⟨j, e1, e2⟩ := Option.bind_eq_some_iff.mp e
  obtain ⟨x, e3, q⟩ := h.get e2
  exact ⟨x, by rw [h.1, e1]; exact e3, q⟩
def rIxLT (K : PySem.W.Frag) : R2 := fun x y H Q => rIxL K x y H Q ∨ rIxT K x y H Q
theorem ix_lt : IxR X (rIxLT X.K) := ix_list.or ix_tup
theorem ix_p : OpP K (rIxLT K) dIx := by
  intro ρ H st x y dx dy d Q hs hx hy e h
  unfold dIx at e
  split at e
  · rename_i i
    cases hy
    obtain ⟨ds, e1, e2⟩ := Option.bind_eq_some_iff.mp e
    unfold seqLT at e1
    split at e1
    · rename_i zs ez
      cases e1
      obtain ⟨a, xs, rfl, q1, q2⟩ := hx.seqT_inv ez
      obtain ⟨v, e3, q3⟩ := atI_DRs q2 e2
      exact .inr ⟨a, xs, i, v, rfl, rfl, q1.seq, e3, h _ H (Same.refl H) q3⟩
    · obtain ⟨a, xs, rfl, q1, q2⟩ := seqS_inv hs hx e1
      obtain ⟨v, e3, q3⟩ := atI_DRs q2 e2
      exact .inl ⟨a, xs, i, v, rfl, rfl, q1, e3, h _ H (Same.refl H) q3⟩
  · cases e
end
end Fx
/-! Fx: built-ins, slices, methods, by data. -/
namespace Fx
open PySem PySem.Spec PyProof.Rows L2

/-! ### built-in calls -/
def fCa (g : Sto → List D → Option D) (a : FA) : FE := fun env st => bnd (a env st) fun ds s1 => (g s1 ds).map (R.ok · s1)
section
variable {X : Cx} {E : XK} {pos p : Pos} {fs : FA} {e : Expr} {es : List Expr} {K : PySem.W.Frag}
theorem ca_rd {K : PySem.W.Frag} {r : List V → Hp → VK → Prop} {g : Sto → List D → Option D} (hr : CaP K r g) {σ : L2.St} {H : Hp} {Q : VK} (h : rdE K E (fCa g fs) σ H Q) : tCB r (rdA K E fs) σ H Q := by
  obtain ⟨ρ, env, st, r, w, hf, hQ⟩ := h
  refine rd_bind w hf hQ fun xs ds s1 H1 ρ1 t1 w1 r1 hf hQ => ?_
  obtain ⟨d, e1, rfl⟩ := map_some hf
  exact hr ρ1 H1 s1 xs ds d Q w1.st r1 e1 fun v H' s q => hQ v H' ρ1 (.same s) (w1.st.same s) q
theorem v_callB {id : String} {x : Str} {r : List V → Hp → VK → Prop} {g : Sto → List D → Option D} (hc : CallR X (.builtin id) r) (hr : CaP X.K r g) (hg : Gl X x) (hm : X.mg x = none) (hv : bootBuiltins x = some (.builtin id)) (ha : VA X E (e :: es) fs) (hn : x ≠ "__name__" := by decide) (hdb : (x == ("__debug__" : Str)) = false := by decide)
    (he : starEach (e :: es) X.env = (false, eval e X.env) :: starEach es X.env := by rfl) (hpl : (backTo pos (starEach es X.env)).any (·.1) = false := by rfl) : VE X E (.Call (.Name x p) (e :: es) [] pos) (fCa g fs) :=
  PE.imp (pe_callB hc hg hm hv ha hn hdb he hpl) fun _ _ _ h => ca_rd hr h
theorem v_callTy {T : String} {x : Str} {r : List V → Hp → VK → Prop} {g : Sto → List D → Option D} (hc : CallR X (.type T) r) (hr : CaP X.K r g) (hg : Gl X x) (hm : X.mg x = none) (hv : bootBuiltins x = some (.type T)) (ha : VA X E (e :: es) fs) (hn : x ≠ "__name__" := by decide) (hdb : (x == ("__debug__" : Str)) = false := by decide)
    (he : starEach (e :: es) X.env = (false, eval e X.env) :: starEach es X.env := by rfl) (hpl : (backTo pos (starEach es X.env)).any (·.1) = false := by rfl) : VE X E (.Call (.Name x p) (e :: es) [] pos) (fCa g fs) :=
  PE.imp (pe_callTy hc hg hm hv ha hn hdb he hpl) fun _ _ _ h => ca_rd hr h
theorem v_ty {x : Str} {n : String} (hg : Gl X x) (hm : X.mg x = none) (hv : bootBuiltins x = some (.type n)) (hn : x ≠ "__name__" := by decide) (hd : (x == ("__debug__" : Str)) = false := by decide) : VE X E (.Name x pos) (fC (.ty n)) :=
  v_c (pe_bltn (v := .ty n) hg hm hv rfl hn hd) fun _ _ => .ty n
/-- a module's constant: a number, a text, a truth -/
theorem v_globInt {x : Str} {i : Int} {t : Tok} (hg : Gl X x) (hm : X.mg x = some (.int i t)) (hd : (x == ("__debug__" : Str)) = false := by decide) : VE X E (.Name x pos) (fC (.int i)) := v_c (pe_glob (v := .int i) hg hm ⟨t, rfl⟩ hd) fun _ _ => .int i
theorem v_globStr {x z : Str} {t : Tok} (hg : Gl X x) (hm : X.mg x = some (.str z t)) (hd : (x == ("__debug__" : Str)) = false := by decide) : VE X E (.Name x pos) (fC (.str z)) := v_c (pe_glob (v := .str z) hg hm ⟨t, rfl⟩ hd) fun _ _ => .str z
theorem one_inv {H : Hp} {ρ : Mp} {xs : List V} {d : D} (h : DRs K H ρ xs [d]) : ∃ x, xs = [x] ∧ DR K H ρ x d := by
  obtain ⟨x, r, rfl, q, t⟩ := h.cons_inv
  rw [t.nil_inv]; exact ⟨x, rfl, q⟩
theorem two_inv {H : Hp} {ρ : Mp} {xs : List V} {d e : D} (h : DRs K H ρ xs [d, e]) : ∃ x y, xs = [x, y] ∧ DR K H ρ x d ∧ DR K H ρ y e := by
  obtain ⟨x, r, rfl, q, t⟩ := h.cons_inv
  obtain ⟨y, rfl, q2⟩ := one_inv t
  exact ⟨x, y, rfl, q, q2⟩

def bAbs (_ : Sto) : List D → Option D
  | [.int i] => some (.int (if i < 0 then -i else i))
  | _ => none
theorem abs_p : CaP K (fun xs H Q => ∃ i, xs = [.int i] ∧ Q (.int (if i < 0 then -i else i)) H) bAbs := by
  intro ρ H st xs ds d Q hs hx e h
  unfold bAbs at e
  split at e
  · obtain ⟨x, rfl, q⟩ := one_inv hx
    cases q; cases e
    exact ⟨_, rfl, h _ H (Same.refl H) (.int _)⟩
  · cases e
def bMax2 (_ : Sto) : List D → Option D
  | [.int i, .int j] => some (.int (if j > i then j else i))
  | _ => none
def bMin2 (_ : Sto) : List D → Option D
  | [.int i, .int j] => some (.int (if j < i then j else i))
  | _ => none
theorem max2_p : CaP K (fun xs H Q => ∃ i j, xs = [.int i, .int j] ∧ Q (.int (if j > i then j else i)) H) bMax2 := by
  intro ρ H st xs ds d Q hs hx e h
  unfold bMax2 at e
  split at e
  · obtain ⟨x, y, rfl, q, q2⟩ := two_inv hx
    cases q; cases q2; cases e
    exact ⟨_, _, rfl, h _ H (Same.refl H) (.int _)⟩
  · cases e
theorem min2_p : CaP K (fun xs H Q => ∃ i j, xs = [.int i, .int j] ∧ Q (.int (if j < i then j else i)) H) bMin2 := by
  intro ρ H st xs ds d Q hs hx e h
  unfold bMin2 at e
  split at e
  · obtain ⟨x, y, rfl, q, q2⟩ := two_inv hx
    cases q; cases q2; cases e
    exact ⟨_, _, rfl, h _ H (Same.refl H) (.int _)⟩
  · cases e
def bInt (_ : Sto) : List D → Option D
  | [.int i] => some (.int i)
  | [.bl b] => some (.int (if b then 1 else 0))
  | _ => none
theorem int_p : CaP K (fun xs H Q => (∃ i, xs = [.int i] ∧ Q (.int i) H) ∨ ∃ k, xs = [.bl k] ∧ Q (.int (if k then 1 else 0)) H) bInt := by
  intro ρ H st xs ds d Q hs hx e h
  unfold bInt at e
  split at e
  · obtain ⟨x, rfl, q⟩ := one_inv hx
    cases q; cases e
    exact .inl ⟨_, rfl, h _ H (Same.refl H) (.int _)⟩
  · obtain ⟨x, rfl, q⟩ := one_inv hx
    cases q; cases e
    exact .inr ⟨_, rfl, h _ H (Same.refl H) (.int _)⟩
  · cases e
theorem seqLT_inv {H : Hp} {ρ : Mp} {st : Sto} {v : V} {d : D} {ds : List D} (s : StR K H ρ st) (h : DR K H ρ v d) (e : seqLT st d = some ds) : ∃ a xs, v = .ref a ∧ (SqL K H a xs ∨ SqT K H a xs) ∧ DRs K H ρ xs ds := by
  unfold seqLT at e
  split at e
  · rename_i zs ez
    cases e
    obtain ⟨a, xs, rfl, q1, q2⟩ := h.seqT_inv ez
    exact ⟨a, xs, rfl, .inr q1.seq, q2⟩
  · obtain ⟨a, xs, rfl, q1, q2⟩ := seqS_inv s h e
    exact ⟨a, xs, rfl, .inl q1, q2⟩
/-- len of a list, a tuple -/
def bLen (st : Sto) : List D → Option D
  | [d] => (seqLT st d).map fun xs => .int xs.length
  | _ => none
theorem len_p : CaP K (fun xs H Q => ∃ p ys, xs = [.ref p] ∧ (SqL K H p ys ∨ SqT K H p ys) ∧ Q (.int ys.length) H) bLen := by
  intro ρ H st xs ds d Q hs hx e h
  unfold bLen at e
  split at e
  · obtain ⟨x, rfl, q⟩ := one_inv hx
    obtain ⟨zs, e1, rfl⟩ := map_some e
    obtain ⟨a, xs, rfl, q1, q2⟩ := seqLT_inv hs q e1
    exact ⟨a, xs, rfl, q1, h _ H (Same.refl H) (by rw [q2.1]; exact .int _)⟩
  · cases e
/-- list(..), tuple(..) -/
def bList (st : Sto) : List D → Option D
  | [d] => (seqLT st d).map .lst
  | _ => none
theorem list_p : CaP K (fun xs H Q => ∃ p ys, xs = [.ref p] ∧ (SqL K H p ys ∨ SqT K H p ys) ∧ ∀ l, H l = none → Q (.ref l) (upd H l (.lst ys))) bList := by
  intro ρ H st xs ds d Q hs hx e h
  unfold bList at e
  split at e
  · obtain ⟨x, rfl, q⟩ := one_inv hx
    obtain ⟨zs, e1, rfl⟩ := map_some e
    obtain ⟨a, xs, rfl, q1, q2⟩ := seqLT_inv hs q e1
    refine ⟨a, xs, rfl, q1, fun p hp => ?_⟩
    obtain ⟨sm, q⟩ := new_lst hs hp q2
    exact h _ _ sm q
  · cases e
def bTuple (st : Sto) : List D → Option D
  | [d] => match seqT d with
    | some _ => some d
    | none => (seqS st d).map .tup
  | _ => none
/-- tuple(xs): a new one, its object known, or the same -/
def rTupP (K : PySem.W.Frag) : List V → Hp → VK → Prop := fun xs H Q => ∃ p ys, xs = [.ref p] ∧ ((SqL K H p ys ∧ ∀ l o, H l = none → o.dict = none → Q (.ref l) (upd H l (.frz o (.tup ys)))) ∨ (SqT K H p ys ∧ Q (.ref p) H))
theorem call_tupP {X : Cx} : CallR X (.type "tuple") (rTupP X.K) := by
  rintro pins s σ H xs us Q I r ⟨p, ys, rfl, h⟩
  obtain ⟨u, rfl, ru⟩ := vals1 r
  obtain rfl : u = Value.ref p := ru
  rcases h with ⟨hs, k⟩ | ⟨hs, k⟩
  · obtain ⟨its, ri, pl, hz⟩ := I.list hs
    have n := ri.length
    refine call_tuple_list pl.isList (fun h' keep => ?_) (by rw [List.size_toArray, ← n]; exact hz)
    have J := I.kept (t' := s.toks) keep
    exact ⟨.ref h'.objs.size, _, J.laid (o := .frz { cls := .type "tuple", data := .seq its.toArray } (.tup ys)) (t' := s.toks) (fun b o e => Heap.get?_push_of_some _ e) (Nat.le_refl _)
      ⟨Heap.get?_push_size _ rfl, hz, its, ri, IsTup.new _ _⟩, rfl, k _ _ (J.hok.fresh (Nat.le_refl _)) rfl⟩
  · obtain ⟨its, ri, pl, hz⟩ := I.tuple hs
    exact call_tuple_same pl ⟨.ref p, H, I, rfl, k⟩
theorem tuple_p : CaP K (rTupP K) bTuple := by
  intro ρ H st xs ds d Q hs hx e h
  unfold bTuple at e
  split at e
  · obtain ⟨x, rfl, q⟩ := one_inv hx
    split at e
    · rename_i zs ez
      cases e
      obtain ⟨a, xs, rfl, q1, q2⟩ := q.seqT_inv ez
      exact ⟨a, xs, rfl, .inr ⟨q1.seq, h _ H (Same.refl H) q⟩⟩
    · obtain ⟨zs, e1, rfl⟩ := map_some e
      obtain ⟨a, xs, rfl, q1, q2⟩ := seqS_inv hs q e1
      refine ⟨a, xs, rfl, .inl ⟨q1, fun p o hp ho => ?_⟩⟩
      obtain ⟨sm, q⟩ := new_tup (K := K) hs hp ho q2
      exact h _ _ sm q
  · cases e
def bSum (st : Sto) : List D → Option D
  | [d] => ((seqS st d).bind asInts).map fun ns => .int ns.sum
  | _ => none
theorem sum_p : CaP K (rSum K) bSum := by
  intro ρ H st xs ds d Q hs hx e h
  unfold bSum at e
  split at e
  · obtain ⟨x, rfl, q⟩ := one_inv hx
    obtain ⟨ns, e1, rfl⟩ := map_some e
    obtain ⟨zs, e2, e3⟩ := Option.bind_eq_some_iff.mp e1
    obtain ⟨a, xs, rfl, q1, q2⟩ := seqS_inv hs q e2
    have := asInts_some e3
    subst this
    have := q2.ints
    subst this
    exact ⟨a, ns, rfl, q1, h _ H (Same.refl H) (.int _)⟩
  · cases e
def bAll (st : Sto) : List D → Option D
  | [d] => ((seqS st d).bind asBls).map fun ns => .bl (ns.all id)
  | _ => none
def bAny (st : Sto) : List D → Option D
  | [d] => ((seqS st d).bind asBls).map fun ns => .bl (ns.any id)
  | _ => none
theorem all_p : CaP K (rAll K) bAll := by
  intro ρ H st xs ds d Q hs hx e h
  unfold bAll at e
  split at e
  · obtain ⟨x, rfl, q⟩ := one_inv hx
    obtain ⟨ns, e1, rfl⟩ := map_some e
    obtain ⟨zs, e2, e3⟩ := Option.bind_eq_some_iff.mp e1
    obtain ⟨a, xs, rfl, q1, q2⟩ := seqS_inv hs q e2
    have := asBls_some e3
    subst this
    have := q2.bls
    subst this
    exact ⟨a, ns, rfl, q1, h _ H (Same.refl H) (.bl _)⟩
  · cases e
theorem any_p : CaP K (rAny K) bAny := by
  intro ρ H st xs ds d Q hs hx e h
  unfold bAny at e
  split at e
  · obtain ⟨x, rfl, q⟩ := one_inv hx
    obtain ⟨ns, e1, rfl⟩ := map_some e
    obtain ⟨zs, e2, e3⟩ := Option.bind_eq_some_iff.mp e1
    obtain ⟨a, xs, rfl, q1, q2⟩ := seqS_inv hs q e2
    have := asBls_some e3
    subst this
    have := q2.bls
    subst this
    exact ⟨a, ns, rfl, q1, h _ H (Same.refl H) (.bl _)⟩
  · cases e
/-- isinstance(x, T), T a built-in class -/
def tyD (st : Sto) : D → Option String
  | .non => some "NoneType"
  | .bl _ => some "bool"
  | .int _ => some "int"
  | .str _ => some "str"
  | .tup _ => some "tuple"
  | .frt _ => some "tuple"
  | .lst _ => some "list"
  | .frz _ => some "list"
  | .ty _ => none
  | .ref n => match st[n]? with
    | some (.lst _) => some "list"
    | some (.dct _) => some "dict"
    | _ => none
def bIsi (st : Sto) : List D → Option D
  | [d, .ty n] => (tyD st d).bind fun t => (kitB t n).map .bl
  | _ => none
theorem tyD_is {H : Hp} {ρ : Mp} {st : Sto} {v : V} {d : D} {t : String} (s : StR K H ρ st) (h : DR K H ρ v d) (e : tyD st d = some t) : TyX K H v (.type t) := by
  cases h
  case non => cases e; exact .base .non
  case bl b => cases e; exact .base (.bl b)
  case int b => cases e; exact .base (.int b)
  case str b => cases e; exact .base (.str b)
  case ty b => cases e
  case tup a xs ds h l q => cases e; obtain ⟨_, o, h, _⟩ := h; exact .fTuple h
  case lst a xs ds h l q => cases e; exact .base (.lst h.2)
  case frt a xs ds h l q =>
    cases e
    rcases h with ⟨_, h | ⟨o, h⟩⟩ | ((h | ⟨o, h⟩) | ⟨o, its, n, h, hc, _⟩)
    · exact .base (.tup h)
    · exact .fTuple h
    · cases h
    · cases h
    · exact .kTuple h hc
  case frz a xs ds h l q =>
    cases e
    rcases h with ⟨_, h | ⟨o, h⟩⟩ | ((h | ⟨o, h⟩) | ⟨o, its, n, h, hc, _⟩)
    · exact .base (.lst h)
    · exact .base (.frz h)
    · cases h
    · cases h
    · exact .kList h hc
  case ref n a h =>
    unfold tyD at e
    simp only at e
    split at e
    · rename_i ds hd
      cases e
      obtain ⟨xs, q, _⟩ := s.lstAt h hd
      exact .base (.lst q)
    · rename_i ds hd
      cases e
      obtain ⟨xs, q, _⟩ := s.dctAt h hd
      exact .base (.dK q)
    · cases e
theorem isi_p : CaP K (rIsi K) bIsi := by
  intro ρ H st xs ds d Q hs hx e h
  unfold bIsi at e
  split at e
  · rename_i d n
    obtain ⟨x, y, rfl, q, q2⟩ := two_inv hx
    cases q2
    obtain ⟨t, e1, e2⟩ := Option.bind_eq_some_iff.mp e
    obtain ⟨b, e3, rfl⟩ := map_some e2
    exact ⟨x, _, _, _, b, rfl, .ty n, tyD_is hs q e1, kit_ty e3, h _ H (Same.refl H) (.bl _)⟩
  · cases e
/-! sorted, of pairs of ints -/
def asPairs : List D → Option (List (Int × Int))
  | [] => some []
  | .tup [.int i, .int j] :: ds => (asPairs ds).map ((i, j) :: ·)
  | _ => none
def pD (p : Int × Int) : D := .tup [.int p.1, .int p.2]
theorem asPairs_some : ∀ {ds : List D} {ns : List (Int × Int)}, asPairs ds = some ns → ds = ns.map pD
  | [], ns, h => by cases h; rfl
  | d :: ds, ns, h => by
    unfold asPairs at h
    split at h
    · rename_i e; cases e
    · rename_i i j ds' e
      cases e
      obtain ⟨ms, e, rfl⟩ := map_some h
      rw [asPairs_some e]; rfl
    · cases h
@[simp] theorem asPairs_map (ns : List (Int × Int)) : asPairs (ns.map pD) = some ns := by induction ns with
  | nil => rfl
  | cons n ns ih => show (asPairs (ns.map pD)).map ((n.1, n.2) :: ·) = _; rw [ih]; rfl
def insP (p : Int × Int) : List (Int × Int) → List (Int × Int)
  | [] => [p]
  | q :: r => if SrtO.lexB q p then q :: insP p r else p :: q :: r
def sortP : List (Int × Int) → List (Int × Int)
  | [] => []
  | p :: r => insP p (sortP r)
theorem lex_swo : SrtO.Swo (fun x y : Int × Int => SrtO.lexB x y) := by
  refine ⟨fun x y h => ?_, fun x y z h1 h2 => ?_⟩
  · have a := SrtO.lexB_iff.mp h
    refine SrtO.lexB_no.mpr ?_
    omega
  · have a := SrtO.lexB_no.mp h1
    have b := SrtO.lexB_no.mp h2
    refine SrtO.lexB_no.mpr ?_
    omega
theorem insP_perm (p : Int × Int) : ∀ l, (insP p l).Perm (p :: l)
  | [] => List.Perm.refl _
  | q :: r => by
    unfold insP
    split
    · exact ((insP_perm p r).cons q).trans (List.Perm.swap p q r)
    · exact List.Perm.refl _
theorem sortP_perm : ∀ l, (sortP l).Perm l
  | [] => List.Perm.refl _
  | p :: r => (insP_perm p _).trans ((sortP_perm r).cons p)
theorem insP_srt (p : Int × Int) : ∀ l, l.Pairwise (fun x y => SrtO.lexB y x = false) → (insP p l).Pairwise (fun x y => SrtO.lexB y x = false)
  | [], _ => by simp [insP]
  | q :: r, h => by
    obtain ⟨h1, h2⟩ := List.pairwise_cons.mp h
    unfold insP
    split
    · rename_i c
      refine List.pairwise_cons.mpr ⟨fun z hz => ?_, insP_srt p r h2⟩
      rcases List.mem_cons.mp ((insP_perm p r).mem_iff.mp hz) with e | hz
      · subst e
        have a := SrtO.lexB_iff.mp c
        refine SrtO.lexB_no.mpr ?_
        omega
      · exact h1 z hz
    · rename_i c
      have c : SrtO.lexB q p = false := by cases z : SrtO.lexB q p with | true => exact absurd z c | false => rfl
      refine List.pairwise_cons.mpr ⟨fun z hz => ?_, h⟩
      rcases List.mem_cons.mp hz with e | hz
      · subst e; exact c
      · have a := SrtO.lexB_no.mp (h1 z hz)
        have b := SrtO.lexB_no.mp c
        refine SrtO.lexB_no.mpr ?_
        omega
theorem sortP_srt : ∀ l, (sortP l).Pairwise (fun x y => SrtO.lexB y x = false)
  | [] => List.Pairwise.nil
  | p :: r => insP_srt p _ (sortP_srt r)
theorem lex_anti {x y : Int × Int} (h1 : SrtO.lexB x y = false) (h2 : SrtO.lexB y x = false) : x = y := by
  have a := SrtO.lexB_no.mp h1
  have b := SrtO.lexB_no.mp h2
  obtain ⟨x1, x2⟩ := x
  obtain ⟨y1, y2⟩ := y
  simp only at a b
  have : x1 = y1 := by omega
  subst this
  have : x2 = y2 := by omega
  rw [this]
theorem srt_uniq : ∀ {l m : List (Int × Int)}, l.Pairwise (fun x y => SrtO.lexB y x = false) → m.Pairwise (fun x y => SrtO.lexB y x = false) → l.Perm m → l = m
  | [], m, _, _, p => (List.Perm.eq_nil p.symm).symm
  | x :: l, [], _, _, p => absurd p.length_eq (by simp)
  | x :: l, y :: m, hl, hm, p => by
    obtain ⟨a1, a2⟩ := List.pairwise_cons.mp hl
    obtain ⟨b1, b2⟩ := List.pairwise_cons.mp hm
    have e : x = y := by
      rcases List.mem_cons.mp (p.mem_iff.mp (List.mem_cons_self (a := x) (l := l))) with e | hx
      · exact e
      · rcases List.mem_cons.mp (p.mem_iff.mpr (List.mem_cons_self (a := y) (l := m))) with e | hy
        · exact e.symm
        · exact lex_anti (b1 x hx) (a1 y hy)
    subst e
    rw [srt_uniq a2 b2 p.cons_inv]
def bSortP (st : Sto) : List D → Option D
  | [d] => ((seqS st d).bind asPairs).map fun ps => .lst ((sortP ps).map pD)
  | _ => none
def keyP (H : Hp) (x : V) : Int × Int := match x with
  | .ref t => match H t with
    | some (.frz _ (.tup [.int i, .int j])) => (i, j)
    | _ => (0, 0)
  | _ => (0, 0)
theorem pair_inv {H : Hp} {ρ : Mp} {x : V} {i j : Int} (h : DR K H ρ x (.tup [.int i, .int j])) : ∃ t o, x = V.ref t ∧ H t = some (.frz o (.tup [.int i, .int j])) ∧ keyP H x = (i, j) := by
  obtain ⟨a, us, rfl, q1, q2⟩ := h.tup_inv
  obtain ⟨u, w, rfl, q3, q4⟩ := two_inv q2
  cases q3; cases q4
  obtain ⟨_, o, e, _⟩ := q1
  refine ⟨a, o, rfl, e, ?_⟩
  unfold keyP
  simp only [e]
theorem pairs_at {H : Hp} {ρ : Mp} : ∀ {xs : List V} {ps : List (Int × Int)}, DRs K H ρ xs (ps.map pD) → xs.map (keyP H) = ps ∧ ∀ x ∈ xs, DR K H ρ x (pD (keyP H x))
  | xs, [], h => by rw [h.nil_inv]; exact ⟨rfl, fun _ m => nomatch m⟩
  | xs, p :: ps, h => by
    obtain ⟨x, ys, rfl, q1, q2⟩ := DRs.cons_inv (d := pD p) (ds := ps.map pD) h
    obtain ⟨e1, e2⟩ := pairs_at q2
    obtain ⟨t, o, rfl, e3, e4⟩ := pair_inv q1
    refine ⟨by rw [List.map_cons, e1, e4], fun y m => ?_⟩
    rcases List.mem_cons.mp m with rfl | m
    · rw [e4]; exact q1
    · exact e2 y m
/-- sorted(xs) of pairs whose objects are known -/
def rSortF (K : PySem.W.Frag) : List V → Hp → VK → Prop := fun vs H Q => ∃ (a : Addr) (xs : List V) (k : V → Int × Int), vs = [V.ref a] ∧ SqL K H a xs ∧ (∀ x ∈ xs, ∃ t o, x = V.ref t ∧ H t = some (.frz o (.tup [.int (k x).1, .int (k x).2]))) ∧
  ∀ ys p, SrtO.Srtd (ltP k) ys → SrtO.Stb (ltP k) ys xs → H p = none → Q (.ref p) (upd H p (.lst ys))
theorem call_sortF {X : Cx} : CallR X (.builtin "sorted") (rSortF X.K) := by
  rintro pins s σ H vs us Q I r ⟨a, xs, k, rfl, hs, hp, q⟩
  obtain ⟨its, rv, pl, hz⟩ := I.list hs
  obtain ⟨u, rfl, ru⟩ := vals1 r
  obtain rfl : u = Value.ref a := ru
  obtain ⟨back, refs⟩ := refs_back rv fun x m => let ⟨t, _, e, _⟩ := hp x m; ⟨t, e⟩
  refine SrtO.sorted_pairsO (k := fun u => k (backV u)) pl.isList (by rw [← rv.length]; exact hz) (fun v hv => ?_) fun h' d out h1 h2 keep hd ⟨n, hn⟩ => ?_
  · obtain ⟨t, rfl⟩ := refs v hv
    obtain ⟨t', o, e, ht⟩ := hp (V.ref t) (by rw [back]; exact List.mem_map_of_mem hv)
    cases e
    obtain ⟨_, _, jts, rj, ob, ho, hc, m, hdat⟩ := I.hok _ _ ht
    obtain ⟨u1, u2, rfl, ⟨t1, rfl⟩, t2, rfl⟩ := vals2 rj
    exact ⟨t, ob, t1, t2, m, rfl, ho, hc, hdat⟩
  · have isr : ∀ u ∈ out, ∃ a, u = Value.ref a := fun u m => refs u (h2.perm.mem_iff.mp m)
    have sb : SrtO.Stb (ltP k) (out.map backV) xs := by rw [back]; exact SrtO.Stb.map (ltP_swo k) backV h2
    exact ⟨.ref d, _, I.laid (o := .lst (out.map backV)) (t' := s.toks) keep hd ⟨by rw [sb.len]; exact hz, out, n, vals_back isr, hn⟩, rfl, q _ d (SrtO.srtd_map h1) sb (I.hok.fresh hd)⟩
theorem sortP_p : CaP K (rSortF K) bSortP := by
  intro ρ H st xs ds d Q hs hx e h
  unfold bSortP at e
  split at e
  · obtain ⟨x, rfl, q⟩ := one_inv hx
    obtain ⟨ps, e1, rfl⟩ := map_some e
    obtain ⟨zs, e2, e3⟩ := Option.bind_eq_some_iff.mp e1
    obtain ⟨a, xs, rfl, q1, q2⟩ := seqS_inv hs q e2
    have := asPairs_some e3
    subst this
    obtain ⟨k1, k2⟩ := pairs_at q2
    refine ⟨a, xs, keyP H, rfl, q1, fun x m => ?_, fun ys p srt stb hp => ?_⟩
    · obtain ⟨t, o, e, e5, e6⟩ := pair_inv (k2 x m)
      exact ⟨t, o, e, e5⟩
    · have pm : (ys.map (keyP H)).Perm ps := by rw [← k1]; exact stb.perm.map _
      have sy : (ys.map (keyP H)).Pairwise (fun x y => SrtO.lexB y x = false) := List.pairwise_map.mpr srt
      have ey : ys.map (keyP H) = sortP ps := srt_uniq sy (sortP_srt ps) (pm.trans (sortP_perm ps).symm)
      have dy : DRs K H ρ ys ((sortP ps).map pD) := by
        rw [← ey]
        refine ⟨by simp, fun i x d e1 e2 => ?_⟩
        rw [List.getElem?_map, List.getElem?_map, e1] at e2
        cases e2
        exact k2 x (stb.perm.mem_iff.mp (List.mem_of_getElem? e1))
      obtain ⟨sm, q⟩ := new_lst hs hp dy
      exact h _ _ sm q
  · cases e
end

/-! ### slices -/
abbrev FO := En → Sto → Option (R (Option Int))
def oNo : FO := fun _ st => some (.ok none st)
def oSome (f : FE) : FO := fun env st => bnd (f env st) fun d s1 => match d with
  | .int i => some (.ok (some i) s1)
  | _ => none
def relO : Hp → Mp → Option Int → Option Int → Prop := fun _ _ a b => a = b
def rdO (K : PySem.W.Frag) (E : XK) (f : FO) : TO := rdG relO K E f
abbrev VO (X : Cx) (E : XK) (e : Option Expr) (f : FO) : Prop := PO X e (rdO X.K E f)
theorem PO.imp {X : Cx} {e : Option Expr} {t t' : TO} (h : PO X e t) (i : ∀ σ H Q, t' σ H Q → t σ H Q) : PO X e t' := ⟨fun pins s σ H Q I z => h.run pins s σ H Q I (i σ H Q z)⟩
def cutD (xs : List D) (lo hi : Option Int) : List D := (xs.drop (HT.sIx xs.length 0 lo)).take (HT.sIx xs.length xs.length hi - HT.sIx xs.length 0 lo)
theorem cut_DRs {K : PySem.W.Frag} {H : Hp} {ρ : Mp} {xs : List V} {ds : List D} {lo hi : Option Int} (h : DRs K H ρ xs ds) : DRs K H ρ (cutV xs lo hi) (cutD ds lo hi) := by
  unfold cutV cutD
  rw [h.1]
  exact (h.drop _).take _
def fSlL (a : FE) (lo hi : FO) : FE := fun env st => bnd (a env st) fun d s1 => bnd (lo env s1) fun l s2 => bnd (hi env s2) fun u s3 => (seqS s3 d).map fun xs => .ok (.lst (cutD xs l u)) s3
def fRev (a : FE) : FE := fun env st => bnd (a env st) fun d s1 => (seqS s1 d).map fun xs => .ok (.lst xs.reverse) s1
section
variable {X : Cx} {E : XK} {pos p2 : Pos} {fa : FE} {lo hi : Option Expr} {fl fh : FO} {e : Expr}
theorem o_none : VO X E none oNo := PO.imp po_none fun σ H Q ⟨ρ, env, st, r, w, hf, hQ⟩ => by
  cases hf
  exact hQ.val w.st rfl
theorem o_some (h : VE X E e fa) : VO X E (some e) (oSome fa) := by
  refine PO.imp (po_some h) fun σ H Q ⟨ρ, env, st, r, w, hf, hQ⟩ => ?_
  refine rd_bind w hf hQ fun x dx s1 H1 ρ1 t1 w1 r1 hf hQ => ?_
  split at hf
  · cases hf; cases r1
    exact ⟨_, rfl, hQ.val w1.st rfl⟩
  · cases hf
theorem v_slL (h : VE X E e fa) (hl : VO X E lo fl) (hh : VO X E hi fh) : VE X E (.Subscript e (.Slice lo hi none p2) pos) (fSlL fa fl fh) := by
  refine PE.imp (pe_slice sl_list h hl hh) fun σ H Q ⟨ρ, env, st, r, w, hf, hQ⟩ => ?_
  refine rd_bind w hf hQ fun x dx s1 H1 ρ1 t1 w1 r1 hf hQ => ?_
  refine rd_bind w1 hf hQ fun l dl s2 H2 ρ2 t2 w2 r2 hf hQ => ?_
  refine rd_bind w2 hf hQ fun u du s3 H3 ρ3 t3 w3 r3 hf hQ => ?_
  subst r2; subst r3
  obtain ⟨ds, e1, rfl⟩ := map_some hf
  obtain ⟨a, xs, rfl, q1, q2⟩ := seqS_inv w3.st ((r1.step t2).step t3) e1
  refine ⟨a, xs, rfl, q1, fun p hp => ?_⟩
  obtain ⟨sm, q⟩ := new_lst w3.st hp (cut_DRs q2)
  exact hQ _ _ ρ3 (.same sm) (w3.st.same sm) q
theorem DRs.reverse {K : PySem.W.Frag} {H : Hp} {ρ : Mp} {xs : List V} {ds : List D} (h : DRs K H ρ xs ds) : DRs K H ρ xs.reverse ds.reverse := by
  have l := h.1
  refine ⟨by simp [l], fun i x d e1 e2 => ?_⟩
  have hi : i < xs.length := by simpa using (List.getElem?_eq_some_iff.mp e1).1
  rw [List.getElem?_reverse hi] at e1
  rw [List.getElem?_reverse (by omega), ← l] at e2
  exact h.2 _ x d e1 e2
theorem v_rev {k : Nat} {p1 p3 : Pos} (h : VE X E e fa) : VE X E (.Subscript e (.Slice none none (some (.UnaryOp .USub (.Constant (.int 1) k p1) p2)) p3) pos) (fRev fa) := by
  refine PE.imp (pe_revL h) fun σ H Q ⟨ρ, env, st, r, w, hf, hQ⟩ => ?_
  refine rd_bind w hf hQ fun x dx s1 H1 ρ1 t1 w1 r1 hf hQ => ?_
  obtain ⟨ds, e1, rfl⟩ := map_some hf
  obtain ⟨a, xs, rfl, q1, q2⟩ := seqS_inv w1.st r1 e1
  refine ⟨a, xs, rfl, q1, fun p hp => ?_⟩
  obtain ⟨sm, q⟩ := new_lst w1.st hp q2.reverse
  exact hQ _ _ ρ1 (.same sm) (w1.st.same sm) q
end

/-- xs + ys as a list that will be changed -/
def fCatC (a b : FE) : FE := fun env st => bnd (a env st) fun x s1 => bnd (b env s1) fun y s2 => match seqP s2 x, seqP s2 y with
  | some xs, some ys => if xs.length + ys.length ≤ 1000000 then some (.ok (.ref s2.length) (s2 ++ [.lst (xs ++ ys)])) else none
  | _, _ => none
theorem v_catC {X : Cx} {E : XK} {a b : Expr} {pos : Pos} {fa fb : FE} (ha : VE X E a fa) (hb : VE X E b fb) : VE X E (.BinOp a .Add b pos) (fCatC fa fb) := by
  refine PE.imp (pe_op op_cat ha hb) fun σ H Q ⟨ρ, env, st, r, w, hf, hQ⟩ => ?_
  refine rd_bind w hf hQ fun x dx s1 H1 ρ1 t1 w1 r1 hf hQ => ?_
  refine rd_bind w1 hf hQ fun y dy s2 H2 ρ2 t2 w2 r2 hf hQ => ?_
  split at hf
  · rename_i xs ys e1 e2
    split at hf
    · rename_i hl
      cases hf
      obtain ⟨p, us, rfl, q1, q2⟩ := seqP_inv w2.st (r1.step t2) e1
      obtain ⟨q, ws, rfl, q3, q4⟩ := seqP_inv w2.st r2 e2
      refine ⟨p, q, us, ws, rfl, rfl, q1, q3, le_line (by rw [q2.1, q4.1]; exact hl), fun z hz => ?_⟩
      have s : Step ρ2 H2 (ρ2.add z) (upd H2 z (.lst (us ++ ws))) := .cell hz
      exact hQ _ _ _ s (w2.st.newCell hz ⟨_, upd_same, (q2.append q4).step s⟩) (.ref (cell_ix w2.st))
    · cases hf
  · cases hf

/-! ### stores into lists; methods -/
/-- o[i] = value, o a cell with a list -/
def gSubL (o i : FE) : FG := fun d env st => bnd (o env st) fun x s1 => bnd (i env s1) fun y s2 => match x, y with
  | .ref n, .int k => match s2[n]? with
    | some (.lst xs) => match ixN xs.length k with
      | some j => some (.ok env (s2.set n (.lst (xs.set j d))))
      | none => none
    | _ => none
  | _, _ => none
def cellT : Cell → Option String
  | .lst _ => some "list"
  | .dct _ => some "dict"
  | .dcf _ => none
/-- a method that changes its cell: what it tells, the new cell -/
def fMtC (T : String) (g : Cell → List D → Option (D × Cell)) (o : FE) (a : FA) : FE := fun env st => bnd (o env st) fun x s1 => match x with
  | .ref n => match s1[n]? with
    | some c0 => if cellT c0 = T then bnd (a env s1) fun ds s2 => match s2[n]? with
        | some c => (g c ds).map fun q => .ok q.1 (s2.set n q.2)
        | none => none
      else none
    | none => none
  | _ => none
def mAppend : Cell → List D → Option (D × Cell)
  | .lst xs, [d] => if xs.length ≤ 1000000 then some (.non, .lst (xs ++ [d])) else none
  | _, _ => none
/-- a method of a list that changes nothing -/
def fMtL (g : Sto → List D → List D → Option D) (o : FE) (a : FA) : FE := fun env st => bnd (o env st) fun x s1 => match seqS s1 x with
  | some _ => bnd (a env s1) fun ds s2 => match seqS s2 x with
    | some xs => (g s2 xs ds).map (R.ok · s2)
    | none => none
  | none => none
def mCount (_ : Sto) (xs : List D) : List D → Option D
  | [d] => match fv d, fvs xs with
    | some u, some us => some (.int (us.countP fun y => eqV y u : Nat))
    | _, _ => none
  | _ => none
section
variable {X : Cx} {E : XK} {pos : Pos} {fo fi : FE} {fs : FA} {o i e : Expr} {es : List Expr} {apos cpos : Pos}
theorem g_subL (ho : VE X E o fo) (hi : VE X E i fi) (h : PG X (.Subscript o i pos) (L2.gSub (rdE X.K E fo) (rdE X.K E fi) rSetL)) : VG X E (.Subscript o i pos) (gSubL fo fi) := by
  refine PG.imp h fun v σ H Q ⟨ρ, env, st, d, r, w, hd, hf, hQ⟩ => ?_
  refine rd_bind w hf hQ fun x dx s1 H1 ρ1 t1 w1 r1 hf hQ => ?_
  refine rd_bind w1 hf hQ fun y dy s2 H2 ρ2 t2 w2 r2 hf hQ => ?_
  split at hf
  · rename_i n k _
    split at hf
    · rename_i xs hx
      split at hf
      · rename_i j hj
        cases hf
        obtain ⟨a, rfl, q1⟩ := (r1.step t2).ref_inv
        obtain rfl : y = .int k := by cases r2; rfl
        obtain ⟨us, q2, q3⟩ := w2.st.lstAt q1 hx
        refine ⟨a, us, k, j, rfl, rfl, q2, by rw [q3.1]; exact hj, ?_⟩
        have t3 : Step ρ2 H2 ρ2 (upd H2 a (.lst (us.set j v))) := .write q1 (by rw [q2]; trivial)
        refine hQ σ _ ρ2 t3 (w2.st.write q1 (by rw [q2]; trivial) ⟨_, upd_same, ?_⟩) (w2.en.step t3)
        exact (q3.set ((hd.step t1).step t2) j).step t3
      · cases hf
    · cases hf
  · cases hf
/-- a method's rule and its function on cells -/
def MtP (K : PySem.W.Frag) (T : String) (r : V → List V → Hp → VK → Prop) (g : Cell → List D → Option (D × Cell)) : Prop :=
  ∀ (ρ : Mp) (H : Hp) (st : Sto) (n : Nat) (a : Addr) (c c' : Cell) (xs : List V) (ds : List D) (d : D) (Q : VK), StR K H ρ st → ρ.c[n]? = some a → st[n]? = some c → DRs K H ρ xs ds → g c ds = some (d, c') →
    (∀ v H', Step ρ H ρ H' → StR K H' ρ (st.set n c') → DR K H' ρ v d → Q v H') → r (.ref a) xs H Q
theorem cell_tyV {K : PySem.W.Frag} {H : Hp} {ρ : Mp} {a : Addr} {c : Cell} {T : String} (h : CR K H ρ a c) (e : cellT c = some T) : tyV K T (.ref a) H := by
  cases c with
  | lst ds => obtain ⟨xs, q, _⟩ := h; exact .inl ⟨(Option.some.inj e).symm, xs, .inl (.inl q)⟩
  | dct ds => obtain ⟨xs, q, _⟩ := h; exact .inr (.inr (.inl ⟨(Option.some.inj e).symm, .inl ⟨xs, q⟩⟩))
  | dcf ds => cases e
theorem append_p {K : PySem.W.Frag} : MtP K "list" rAppend mAppend := by
  intro ρ H st n a c c' xs ds d Q hs ha hc hx e h
  unfold mAppend at e
  split at e
  · rename_i ys d1
    split at e
    · rename_i hl
      cases e
      obtain ⟨x, rfl, q⟩ := one_inv hx
      obtain ⟨us, q2, q3⟩ := hs.lstAt ha hc
      refine ⟨a, us, x, rfl, rfl, q2, Nat.lt_of_le_of_lt (m := 1000000) (by rw [q3.1]; exact hl) (by decide), ?_⟩
      have t3 : Step ρ H ρ (upd H a (.lst (us ++ [x]))) := .write ha (by rw [q2]; trivial)
      exact h .non _ t3 (hs.write ha (by rw [q2]; trivial) ⟨_, upd_same, (q3.append (DRs.cons q .nil)).step t3⟩) .non
    · cases e
  · cases e
/-- o.m(..) on a cell -/
theorem v_mtC {T : String} {r : V → List V → Hp → VK → Prop} {g : Cell → List D → Option (D × Cell)} (hp : MtP X.K T r g) (h : PE X e (tBM X.K T r (rdE X.K E fo) (rdA X.K E fs))) : VE X E e (fMtC T g fo fs) := by
  refine PE.imp h fun σ H Q ⟨ρ, env, st, r, w, hf, hQ⟩ => ?_
  refine rd_bind w hf hQ fun x dx s1 H1 ρ1 t1 w1 r1 hf hQ => ?_
  split at hf
  · rename_i n
    split at hf
    · rename_i c0 hc0
      split at hf
      · rename_i hT
        obtain ⟨a, rfl, q1⟩ := r1.ref_inv
        refine ⟨cell_tyV (w1.st.cell n a c0 q1 hc0) hT, ?_⟩
        refine rd_bind w1 hf hQ fun xs ds s2 H2 ρ2 t2 w2 r2 hf hQ => ?_
        split at hf
        · rename_i c hc
          obtain ⟨q, e1, rfl⟩ := map_some hf
          exact hp ρ2 H2 s2 n a c q.2 xs ds q.1 Q w2.st (t2.ix q1) hc r2 e1 fun v H' s ss q => hQ v H' ρ2 s ss q
        · cases hf
      · cases hf
    · cases hf
  · cases hf
theorem v_mtC0 {T : String} {r : V → List V → Hp → VK → Prop} {g : Cell → List D → Option (D × Cell)} (hp : MtP X.K T r g) (h : PE X e (tBM0 X.K T r (rdE X.K E fo))) : VE X E e (fMtC T g fo fNil) := by
  refine PE.imp h fun σ H Q ⟨ρ, env, st, r, w, hf, hQ⟩ => ?_
  refine rd_bind w hf hQ fun x dx s1 H1 ρ1 t1 w1 r1 hf hQ => ?_
  split at hf
  · rename_i n
    split at hf
    · rename_i c0 hc0
      split at hf
      · rename_i hT
        obtain ⟨a, rfl, q1⟩ := r1.ref_inv
        refine ⟨cell_tyV (w1.st.cell n a c0 q1 hc0) hT, ?_⟩
        simp only [fNil, bnd_ok, hc0] at hf
        obtain ⟨q, e1, rfl⟩ := map_some hf
        exact hp ρ1 H1 s1 n a c0 q.2 [] [] q.1 Q w1.st q1 hc0 .nil e1 fun v H' s ss q => hQ v H' ρ1 s ss q
      · cases hf
    · cases hf
  · cases hf
/-- a list's method that changes nothing -/
def MlP (K : PySem.W.Frag) (r : V → List V → Hp → VK → Prop) (g : Sto → List D → List D → Option D) : Prop :=
  ∀ (ρ : Mp) (H : Hp) (st : Sto) (a : Addr) (us xs : List V) (ys ds : List D) (d : D) (Q : VK), StR K H ρ st → SqL K H a us → DRs K H ρ us ys → DRs K H ρ xs ds → g st ys ds = some d →
    (∀ v H', Same H H' → DR K H' ρ v d → Q v H') → r (.ref a) xs H Q
theorem v_mtL {r : V → List V → Hp → VK → Prop} {g : Sto → List D → List D → Option D} (hp : MlP X.K r g) (h : PE X e (tBM X.K "list" r (rdE X.K E fo) (rdA X.K E fs))) : VE X E e (fMtL g fo fs) := by
  refine PE.imp h fun σ H Q ⟨ρ, env, st, r, w, hf, hQ⟩ => ?_
  refine rd_bind w hf hQ fun x dx s1 H1 ρ1 t1 w1 r1 hf hQ => ?_
  split at hf
  · rename_i us0 hu0
    obtain ⟨a, zs, rfl, q1, q2⟩ := seqS_inv w1.st r1 hu0
    refine ⟨.inl ⟨rfl, zs, q1⟩, ?_⟩
    refine rd_bind w1 hf hQ fun xs ds s2 H2 ρ2 t2 w2 r2 hf hQ => ?_
    split at hf
    · rename_i ys hy
      obtain ⟨b, zs2, e, q3, q4⟩ := seqS_inv w2.st (r1.step t2) hy
      cases e
      obtain ⟨d, e1, rfl⟩ := map_some hf
      exact hp ρ2 H2 s2 a zs2 xs ys ds d Q w2.st q3 q4 r2 e1 fun v H' s q => hQ v H' ρ2 (.same s) (w2.st.same s) q
    · cases hf
  · cases hf
def rCntV (K : PySem.W.Frag) : V → List V → Hp → VK → Prop := fun x xs H Q => ∃ (p : Addr) (ys : List V) (y : V), x = .ref p ∧ xs = [y] ∧ SqL K H p ys ∧ flatV y = true ∧ ys.all flatV = true ∧ Q (.int (ys.countP fun z => eqV z y : Nat)) H
theorem count_eqU {x : V} : ∀ {xs : List V} {us : List Value}, Vals xs us → xs.all flatV = true → us.countP (eqU x) = xs.countP fun y => eqV y x
  | _, _, .nil, _ => rfl
  | y :: xs, u :: us, .cons r t, f => by
    rw [List.all_cons, Bool.and_eq_true] at f
    rw [List.countP_cons, List.countP_cons, eqU_of r f.1, count_eqU t f.2]
theorem mt_countV : MtR X "list.count" (rCntV X.K) := by
  intro pins s σ H x xs v us Q I rx rxs h
  obtain ⟨p, ys, y, rfl, rfl, hs, fy, fs, q⟩ := h
  cases rx
  obtain ⟨u, rfl, ru⟩ := rxs.one
  obtain ⟨its, rv, ⟨⟨cls, dd, data, sl⟩, n, ho, hc, hdn, hd⟩, hlen⟩ := I.list hs
  simp only at hc hd
  subst hc hd
  refine call_meets PySem.F.slot_list_count ⟨_, ho, rfl⟩ PySem.F.entry_list_count (PySem.F.args_list_count_2 _ _)
    (SeqAt.list_countAt p its.toArray n dd sl u (eqU y)) ⟨ho, fun w hw => mem_eqAt ru fy rv fs w (by simpa using hw), ?_⟩
  have ec : its.toArray.toList.countP (eqU y) = ys.countP fun z => eqV z y := count_eqU rv fs
  refine ⟨.int (ys.countP fun z => eqV z y : Nat), H, I.tok _, ⟨s.toks, ?_⟩, q⟩
  show Value.int ((its.toArray.toList.countP (eqU y) : Nat) : Int) s.toks = _
  rw [ec]
theorem count_p {K : PySem.W.Frag} : MlP K (rCntV K) mCount := by
  intro ρ H st a us xs ys ds d Q hs hl hu hx e h
  unfold mCount at e
  split at e
  · split at e
    · rename_i u ws e1 e2
      cases e
      obtain ⟨x, rfl, q⟩ := one_inv hx
      obtain ⟨rfl, f⟩ := fv_eq e1 q
      obtain ⟨rfl, f2⟩ := fvs_eq e2 hu
      exact ⟨a, _, _, rfl, rfl, hl, f, f2, h _ H (Same.refl H) (.int _)⟩
    · cases e
  · cases e
end
end Fx
/-! Fx: defs whose calls know that no repr is under way (repr of containers asks it); repr. -/
namespace Fx
open PySem PySem.Spec PyProof.Rows L2

/-- a promise kept where nothing is being shown -/
structure GnOk (P : Program) (w : World) (K : PySem.W.Frag) (mg : Str → Option Value) (base : Heap) (CX : CXT) (k : Nat) (f : Addr) (fd : FuncData) (ps : List Str) (sp : Sp) : Prop where
  many : ∀ vs H Q E, sp vs H Q E → vs.length = ps.length
  go : ∀ (A : Around) (outer : List Env) (s : Shared) (H : Hp) (args : Args) (us : List Value) (vs : List V) (Q : VK) (E : XK), A.guards = some [] → Room k A → Env0 P w K mg base A outer s H →
    BindsTo s fd args (ps.zip us) → Vals vs us → sp vs H Q E → codeAny (model P w) A (.call (.ref f) args) (L2.CR CX outer P w H s Q E) s
section
variable {P : Program} {w : World} {K : PySem.W.Frag} {mg : Str → Option Value} {base : Heap} {CX : CXT} {k : Nat} {f : Addr} {fd : FuncData} {ps : List Str} {sp sp' : Sp}
theorem GnOk.of (F : FnOk P w K mg base CX k f fd ps sp) : GnOk P w K mg base CX k f fd ps sp :=
  { many := F.len, go := fun A outer s H args us vs Q E _ => F.run A outer s H args us vs Q E }
theorem GnOk.imp (F : GnOk P w K mg base CX k f fd ps sp) (h : ∀ vs H Q E, sp' vs H Q E → sp vs H Q E) : GnOk P w K mg base CX k f fd ps sp' :=
  { many := fun vs H Q E q => F.many vs H Q E (h vs H Q E q)
    go := fun A outer s H args us vs Q E hg hr he hb hv hs => F.go A outer s H args us vs Q E hg hr he hb hv (h vs H Q E hs) }
/-- the end of a call, for whoever called -/
theorem end_of {X : Cx} {E : XK} {pins : List (Addr × Obj)} {σ : L2.St} {H : Hp} {s s' : Shared} {Q : VK} {r : Result} (hx : Passes CX X E) (I : Inv X pins σ H s) (h : L2.CR CX X.stack X.prog X.w H s Q E r s') :
    match r with
    | .ok (.ret u) => EP X pins σ Q u s'
    | .ok _ => False
    | .error e => X.xe e s' := by
  match r with
  | .error e => exact hx pins σ H s e s' I h
  | .ok (.ret u) => exact I.after h
  | .ok .next => exact h
  | .ok .brk => exact h
  | .ok .cont => exact h
theorem run_gn {X : Cx} {E : XK} {pins : List (Addr × Obj)} {σ : L2.St} {H : Hp} {s : Shared} {Q : VK} {us : List Value} {vs dvs : List V} {ds : List Value} (F : GnOk X.prog X.w X.K X.mg X.base CX k f fd ps sp) (hr : Room k X.A) (hgd : X.A.guards = some [])
    (hb : Binds X.K fd ps ds) (hd : Vals dvs ds) (hx : Passes CX X E) (I : Inv X pins σ H s) (r : Vals vs us) (h : sp (vs ++ dvs) H Q E) :
    wpAny (model X.prog X.w) X.A (call (.ref f) us) (EP X pins σ Q) X.xe s := by
  have all : Vals (vs ++ dvs) (us ++ ds) := r.append hd
  have many : (us ++ ds).length = ps.length := all.length.symm.trans (F.many _ _ _ _ h)
  have run := F.go X.A X.stack s H ⟨us, []⟩ (us ++ ds) (vs ++ dvs) Q E hgd hr I.env0 (hb s us I.kIn many) all h
  refine wpAny_call (codeAny_mono run fun q s2 hq => ?_)
  have e := end_of hx I hq
  match q with
  | .error _ => exact e
  | .ok (.ret _) => exact e
  | .ok .next => exact e.elim
  | .ok .brk => exact e.elim
  | .ok .cont => exact e.elim
theorem run_gnk {X : Cx} {E : XK} {pins : List (Addr × Obj)} {σ : L2.St} {H : Hp} {s : Shared} {Q : VK} {us ws : List Value} {vs zs : List V} {ks : List Str} {g : List Value → List Value → List Value} {gV : List V → List V → List V}
    (F : GnOk X.prog X.w X.K X.mg X.base CX k f fd ps sp) (hr : Room k X.A) (hgd : X.A.guards = some []) (hb : KBinds X.K fd ps ks g gV) (hx : Passes CX X E) (I : Inv X pins σ H s) (r : Vals vs us) (rz : Vals zs ws) (h : sp (gV vs zs) H Q E) :
    wpAny (model X.prog X.w) X.A (call (.ref f) us (ks.zip ws)) (EP X pins σ Q) X.xe s := by
  have all := hb.rel r rz
  have many : (g us ws).length = ps.length := all.length.symm.trans (F.many _ _ _ _ h)
  have run := F.go X.A X.stack s H ⟨us, ks.zip ws⟩ (g us ws) (gV vs zs) Q E hgd hr I.env0 (hb.to s us ws I.kIn many) all h
  refine wpAny_call (codeAny_mono run fun q s2 hq => ?_)
  have e := end_of hx I hq
  match q with
  | .error _ => exact e
  | .ok (.ret _) => exact e
  | .ok .next => exact e.elim
  | .ok .brk => exact e.elim
  | .ok .cont => exact e.elim
theorem gn_call {X : Cx} {E : XK} {x : Str} {p pos : Pos} {e : Expr} {es : List Expr} {t : TA} {dvs : List V} {ds : List Value} (F : GnOk X.prog X.w X.K X.mg X.base CX k f fd ps sp) (hr : Room k X.A) (hgd : X.A.guards = some []) (hg : Gl X x) (hm : X.mg x = some (.ref f))
    (hk : PySem.W.keepIn X.K (.ref f) = true) (hb : Binds X.K fd ps ds) (hd : Vals dvs ds) (hx : Passes CX X E) (ha : PA X (e :: es) t) (hdb : (x == ("__debug__" : Str)) = false := by decide)
    (he : starEach (e :: es) X.env = (false, eval e X.env) :: starEach es X.env := by rfl) (hpl : (backTo pos (starEach es X.env)).any (·.1) = false := by rfl) : PE X (.Call (.Name x p) (e :: es) [] pos) (tCall sp dvs E t) :=
  ⟨fun pins s σ H Q I h => wpAny_Call_Name_kw (ld_glob I hg hm (PySem.W.callWith_K (h₀ := X.base) I.ok.mod.kin hk
    (thn (ha.run pos pins s σ H _ I h) fun us s1 ⟨vs, H1, I1, r, q⟩ => ⟨I1.kIn, run_gn F hr hgd hb hd hx I1 r q⟩) he hpl) hdb)⟩
theorem gn_call0 {X : Cx} {E : XK} {x : Str} {p pos : Pos} {dvs : List V} {ds : List Value} (F : GnOk X.prog X.w X.K X.mg X.base CX k f fd ps sp) (hr : Room k X.A) (hgd : X.A.guards = some []) (hg : Gl X x) (hm : X.mg x = some (.ref f))
    (hk : PySem.W.keepIn X.K (.ref f) = true) (hb : Binds X.K fd ps ds) (hd : Vals dvs ds) (hx : Passes CX X E) (hdb : (x == ("__debug__" : Str)) = false := by decide) : PE X (.Call (.Name x p) [] [] pos) (tCall sp dvs E tNil) :=
  ⟨fun pins s σ H Q I h => wpAny_Call_Name_kw (ld_glob I hg hm (PySem.W.callWith_K0 I.kIn hk (run_gn (us := []) F hr hgd hb hd hx I .nil h)) hdb)⟩
theorem gn_callK {X : Cx} {E : XK} {x : Str} {p pos : Pos} {e : Expr} {es : List Expr} {kws : List Keyword} {t tk : TA} {ks : List Str} {g : List Value → List Value → List Value} {gV : List V → List V → List V}
    (F : GnOk X.prog X.w X.K X.mg X.base CX k f fd ps sp) (hr : Room k X.A) (hgd : X.A.guards = some []) (hg : Gl X x) (hm : X.mg x = some (.ref f)) (hk : PySem.W.keepIn X.K (.ref f) = true) (hb : KBinds X.K fd ps ks g gV) (hx : Passes CX X E)
    (ha : PA X (e :: es) t) (hkw : PK X kws tk) (hall : (backToKw pos (keywordEach kws X.env)).all (·.1.isSome) = true := by rfl) (hks : (backToKw pos (keywordEach kws X.env)).filterMap (·.1) = ks := by rfl)
    (hdb : (x == ("__debug__" : Str)) = false := by decide) (he : starEach (e :: es) X.env = (false, eval e X.env) :: starEach es X.env := by rfl)
    (hpl : ((backTo pos (starEach (e :: es) X.env)).any (·.1) || (backToKw pos (keywordEach kws X.env)).any (·.1.isNone)) = false := by rfl) : PE X (.Call (.Name x p) (e :: es) kws pos) (tCallK sp gV E t tk) :=
  ⟨fun pins s σ H Q I h => wpAny_Call_Name_kw (ld_glob I hg hm (PySem.W.callWith_KW (h₀ := X.base) I.ok.mod.kin hk hall
    (thn (ha.run pos pins s σ H _ I h) fun us s1 ⟨vs, H1, I1, r, q⟩ => thn (hkw.run pos pins s1 σ H1 _ I1 q) fun ws s2 ⟨zs, H2, I2, rz, q2⟩ =>
      ⟨I2.kIn, (by rw [hks]; exact run_gnk F hr hgd hb hx I2 r rz q2)⟩) hpl he) hdb)⟩

/-- a def by its body, the body knowing that nothing is being shown -/
theorem gn_of {x qual : Str} {st : Stmt} {N : List Str} (F : L2.Fun K x qual st f fd) (S : FnScope N ps (defScope st)) (many : ∀ vs H Q E, sp vs H Q E → vs.length = ps.length)
    (body : ∀ (cdv : Value) (A : Around) (outer : List Env) (s : Shared) (H : Hp) (vs : List V) (Q : VK) (E : XK), A.guards = some [] → Room k (A.deeper (envOfC qual (defScope st) s.heap.objs.size f cdv)) → sp vs H Q E →
      ∃ t, PSs (cxOf CX P w K mg base N qual (defScope st) f cdv A outer s H E) (defBody st) t ∧ t { nx := fun _ H' => Q .non H', rt := Q } (L2.start N vs) H) : GnOk P w K mg base CX (k + 1) f fd ps sp := by
  obtain ⟨oc, od, kV, doc, pm, an, cdv, ct, osl, rfl, lk, hcd⟩ := F.ex
  refine { many := many, go := fun A outer s H args us vs Q E hgd hr e0 hb r hsp => ?_ }
  have KX : K.In s.heap := e0.mod.kin.keeps fun b o e => (e0.bs b o e).1
  have places : ∀ y ∈ ps.zip us, (defScope st).names.lookup y.1 = some .local ∨ ((defScope st).names.lookup y.1 = some .cell ∧ ((cellsFrom (s.heap.objs.size + 1) (defScope st).names []).lookup y.1).isSome = true) := by
    rintro ⟨n, v⟩ hy
    cases S.par n (List.of_mem_zip hy).1 with
    | inl q => exact .inl q
    | inr q => exact .inr ⟨q, PySem.W.cellsFrom_some _ _ _ (.inl q)⟩
  refine codeAny_call_function hr.depth (KX _ _ lk) rfl S.co S.gen rfl (PySem.W.codeRec_of KX hcd) (hb _ _ _ _ (wpAny_newFunctionEnv_cells S.kind places fun env he s1 y => ?_))
  subst he
  obtain ⟨t, ht, hq⟩ := body cdv A outer s H vs Q E hgd (hr.deeper _) hsp
  have I := inv_start (CX := CX) (E := E) (cd := cdv) (f := f) (qual := qual) S hr.hd e0 (many _ _ _ _ hsp) r y
  refine ⟨(e0.mod.nolimit.keeps fun b o e => (e0.bs b o e).1).keeps y.toInCall.keep, codeAny_func (wpAny_mono (ht.run [] s1 (L2.start N vs) H _ I hq) (fun fl s2 hs => ?_) fun e s2 hs => hs)⟩
  match fl with
  | .ret u =>
    obtain ⟨v, σ2, H2, J, rv, q⟩ := hs
    exact ⟨v, H2, J.os, J.bare, J.base, J.hok, rv, q⟩
  | .next =>
    obtain ⟨σ2, H2, J, q⟩ := hs
    exact ⟨V.non, H2, J.os, J.bare, J.base, J.hok, rfl, q⟩
  | .brk => exact hs.elim fun _ ⟨_, _, q⟩ => q.elim
  | .cont => exact hs.elim fun _ ⟨_, _, q⟩ => q.elim
end

/-! ### calls and defs, by data -/
section
variable {X : Cx} {E : XK} {e : Expr} {es : List Expr} {pos p : Pos} {fs : FA}
theorem v_gcall {k n : Nat} {f : Addr} {fd : FuncData} {ps : List Str} {CX : CXT} {F : DF} {x : Str} (G : GnOk X.prog X.w X.K X.mg X.base CX k f fd ps (spF X.K n F)) (hr : Room k X.A) (hgd : X.A.guards = some []) (hg : Gl X x) (hm : X.mg x = some (.ref f)) (hk : PySem.W.keepIn X.K (.ref f) = true) (hb : Binds X.K fd ps [])
    (hx : Passes CX X E) (ha : VA X E (e :: es) fs) (hdb : (x == ("__debug__" : Str)) = false := by decide) (he : starEach (e :: es) X.env = (false, eval e X.env) :: starEach es X.env := by rfl) (hpl : (backTo pos (starEach es X.env)).any (·.1) = false := by rfl) :
    VE X E (.Call (.Name x p) (e :: es) [] pos) (fCall n F fs) := by
  refine PE.imp (gn_call G hr hgd hg hm hk hb .nil hx ha hdb he hpl) fun σ H Q ⟨ρ, env, st, r, w, hf, hQ⟩ => ?_
  refine rd_bind w hf hQ fun xs ds s1 H1 ρ1 t1 w1 r1 hf hQ => ?_
  split at hf
  · rename_i hl
    rw [List.append_nil]
    exact ⟨ρ1, ds, s1, r, r1, w1.st, hl, hf, hQ⟩
  · cases hf
theorem v_gcall0 {k : Nat} {f : Addr} {fd : FuncData} {ps : List Str} {CX : CXT} {F : DF} {x : Str} (G : GnOk X.prog X.w X.K X.mg X.base CX k f fd ps (spF X.K 0 F)) (hr : Room k X.A) (hgd : X.A.guards = some []) (hg : Gl X x) (hm : X.mg x = some (.ref f)) (hk : PySem.W.keepIn X.K (.ref f) = true) (hb : Binds X.K fd ps [])
    (hx : Passes CX X E) (hdb : (x == ("__debug__" : Str)) = false := by decide) : VE X E (.Call (.Name x p) [] [] pos) (fCall 0 F fNil) := by
  refine PE.imp (gn_call0 G hr hgd hg hm hk hb .nil hx hdb) fun σ H Q ⟨ρ, env, st, r, w, hf, hQ⟩ => ?_
  exact ⟨ρ, [], st, r, .nil, w.st, rfl, hf, hQ⟩
end
section
variable {P : Program} {w : World} {K : PySem.W.Frag} {mg : Str → Option Value} {base : Heap}
/-- a def that raises nothing, by its body's function -/
theorem gn_ok {x qual : Str} {st : Stmt} {f : Addr} {fd : FuncData} {N ps : List Str} {k : Nat} {fb : FS} (F : L2.Fun K x qual st f fd) (S : FnScope N ps (defScope st))
    (hb : ∀ (cdv : Value) (A : Around) (outer : List Env) (s : Shared) (H : Hp) (E : XK), A.guards = some [] → Room k (A.deeper (envOfC qual (defScope st) s.heap.objs.size f cdv)) → VSs (cxOf CX0 P w K mg base N qual (defScope st) f cdv A outer s H E).nox E0 (defBody st) fb) :
    GnOk P w K mg base CX0 (k + 1) f fd ps (spF K ps.length (fDef ps.length N.length fb)) := by
  refine gn_of F S (fun vs H Q E ⟨ρ, ds, st, r, h1, h2, h3, _⟩ => h1.1.trans h3) fun cdv A outer s H vs Q E hgd hr ⟨ρ, ds, st, r, h1, h2, h3, h4, h5⟩ => ?_
  refine ⟨_, (hb cdv A outer s H E hgd hr).nox, ?_⟩
  unfold fDef at h4
  split at h4
  · rename_i en s1 e
    cases h4
    exact ⟨ρ, _, st, _, ⟨start_en h1 h3, h2⟩, e, fun σ' H' ρ' t w => h5 .non H' ρ' t w.st .non⟩
  · rename_i d s1 e
    cases h4
    exact ⟨ρ, _, st, _, ⟨start_en h1 h3, h2⟩, e, fun v H' ρ' t w q => h5 v H' ρ' t w q⟩
  · cases h4
end

/-! ### the end of a law -/
section
variable {P : Program} {w : World} {K : PySem.W.Frag} {mg : Str → Option Value} {CX : CXT}
/-- what is tracked ahead of the law's call: the script alone, and only where it is not the module's -/
def tr0 (K : PySem.W.Frag) (a : Addr) (vs : List Value) (ns : List Int) : Hp := fun b =>
  if b = a ∧ K.lookup a = none then some (.frz { cls := .type "list", data := .seq vs.toArray } (.lst (ns.map V.int))) else none
theorem tr0_cases (K : PySem.W.Frag) (a : Addr) (vs : List Value) (ns : List Int) (b : Addr) : tr0 K a vs ns b = none ∨
    (b = a ∧ K.lookup a = none ∧ tr0 K a vs ns b = some (.frz { cls := .type "list", data := .seq vs.toArray } (.lst (ns.map V.int)))) := by
  by_cases h : b = a ∧ K.lookup a = none
  · exact .inr ⟨h.1, h.2, if_pos h⟩
  · exact .inl (if_neg h)
theorem law_end {k : Nat} {fa a : Addr} {fd : FuncData} {x : Str} {sp : Sp} {s₁ : Shared} {vs : List Value} {ns : List Int} {mb : Str → Option Value}
    (KX : K.In s₁.heap) (hns : s₁.heap.Ns mainGlobals mg) (hb : s₁.heap.Ns builtinsNs mb) (hbb : ∀ x : Str, x ≠ "__name__" → mb x = bootBuiltins x) (hlim : s₁.heap.NoLimit) (hg : s₁.gens = #[])
    (ha : s₁.heap.get? a = some { cls := .type "list", data := .seq vs.toArray }) (hi : IntsAre vs ns) (hl : ns.length ≤ sizeLine) (hr : Room k callerA)
    (F : ∀ base : Heap, K.In base → base.Ns mainGlobals mg → GnOk P w K mg base CX k fa fd [x] sp) (bd : ∀ (s : Shared) (u : Value), BindsTo s fd ⟨[u], []⟩ [(x, u)])
    (good : ∀ H : Hp, L2.Only H → SqL K H a (ns.map V.int) → sp [.ref a] H (fun v _ => v = .bl true) fun _ _ _ => False)
    (hCX : ∀ H e s', CX [] H s₁ (fun _ _ _ => False) e s' → False) :
    codeAny (model P w) callerA (.call (.ref fa) ⟨[.ref a], []⟩) (fun r s' => r = .ok (.ret (.bool true)) ∧ OldK s₁.heap s'.heap ∧ s'.os = s₁.os ∧ AllBare s'.gens) s₁ := by
  have rv := L2.vals_ints hi
  have lenV : vs.length = ns.length := hi.length
  have cs := tr0_cases K a vs ns
  -- an untracked object stands in the heap with the script hidden
  have seen : ∀ {b : Addr} {o : Obj}, s₁.heap.get? b = some o → (b = a → K.lookup a ≠ none) → (hidT s₁.heap (tr0 K a vs ns)).get? b = some o := fun {b o} e n => hidT_get e ((cs b).elim id fun z => absurd z.2.1 (n z.1))
  have spaces : ∀ {b : Addr} {m : Str → Option Value}, s₁.heap.Ns b m → (hidT s₁.heap (tr0 K a vs ns)).Ns b m := fun {b m} ⟨o, es, ep, e, d, r⟩ =>
    ⟨o, es, ep, seen e fun q => by
      subst q
      rw [ha] at e
      cases e
      exact absurd d (by simp), d, r⟩
  have kin : K.In (hidT s₁.heap (tr0 K a vs ns)) := fun b o e => seen (KX b o e) fun q => by rw [← q, e]; simp
  have hM : Mod K mg (hidT s₁.heap (tr0 K a vs ns)) := { kin := kin, glob := spaces hns, blt := ⟨mb, spaces hb, hbb⟩, nolimit := let ⟨m, h1, h2⟩ := hlim; ⟨m, spaces h1, h2⟩ }
  have okH : HOk P w (tr0 K a vs ns) s₁.heap := fun b u q => by
    rcases cs b with z | ⟨rfl, _, z⟩
    · rw [z] at q; cases q
    · rw [z] at q
      cases q
      exact ⟨ha, by rw [List.length_map]; exact hl, vs, _, rv, ha⟩
  have e0 : Env0 P w K mg (hidT s₁.heap (tr0 K a vs ns)) callerA [] s₁ (tr0 K a vs ns) :=
    { frames := rfl, mod := hM, bs := fun b o e => of_hidT e, bsz := Nat.le_of_eq (hidT_size _ _), funs := trivial, frf := fun b m => (nomatch m), hok := okH, bare := .of_eq hg }
  have sq : SqL K (tr0 K a vs ns) a (ns.map V.int) := by
    cases hk : K.lookup a with
    | none => exact .inl (.inr ⟨_, if_pos ⟨rfl, hk⟩⟩)
    | some o =>
      have e := KX a o hk
      rw [ha] at e
      cases e
      exact .inr ⟨_, vs.toArray, _, hk, rfl, rfl, rfl, by rw [List.size_toArray, lenV]; exact hl, by simpa using rv⟩
  have only : L2.Only (tr0 K a vs ns) := fun b => (cs b).imp id fun z => ⟨_, _, z.2.2⟩
  refine codeAny_mono ((F _ kin (spaces hns)).go callerA [] s₁ _ ⟨[.ref a], []⟩ [.ref a] [.ref a] _ _ rfl hr e0 (bd s₁ (.ref a)) (.cons rfl .nil) (good _ only sq)) fun r s' h => ?_
  match r with
  | .error e => exact (hCX _ e s' h).elim
  | .ok .next => exact False.elim h
  | .ok .brk => exact False.elim h
  | .ok .cont => exact False.elim h
  | .ok (.ret u) =>
    obtain ⟨v, H', os, bare, un, ok', rel, q⟩ := h
    have q : v = V.bl true := q
    subst q
    have eu : u = Value.bool true := rel
    subst eu
    refine ⟨rfl, .of_keep fun b o e => ?_, os, bare⟩
    rcases cs b with z | ⟨_, _, z⟩
    · exact un.keep b o e z (fun m => by cases m) (fun m => by cases m)
    · have o1 := (okH b _ z).1
      have o2 := (ok' b _ (un.frzs b _ _ z)).1
      exact o2.trans (o1.symm.trans e)
end
theorem walk_gn {l : PySem.W.OpenLaw} {n k : Nat} {q : Program} {loose : List Str} {XP : (Str → Option Value) → Heap → Prop} {YP : World → Heap → Prop} {d : DefRec} {K : Params → PySem.W.Frag} {CX : World → CXT} {sp : World → Sp} {x : Str}
    (hn : l.most = some n) (hn2 : n ≤ sizeLine) (hdf : d.params.defaults = []) (hr : Room k callerA) (hY : ∀ (w : World) (h : Heap), YP w h → (K w.params).In h)
    (F : ∀ (w : World) (mg : Str → Option Value) (fa : Addr) (h : Heap), (K w.params).In h → h.Ns mainGlobals mg → mg d.name = some (.ref fa) →
      ∃ fd : FuncData, (∀ (s : Shared) (u : Value), BindsTo s fd ⟨[u], []⟩ [(x, u)]) ∧
        ∀ base : Heap, (K w.params).In base → base.Ns mainGlobals mg → GnOk l.prog w (K w.params) mg base (CX w) k fa fd [x] (sp w))
    (good : ∀ (w : World) (H : Hp) (a : Addr) (ns : List Int), ns.length ≤ n → (∀ z ∈ ns, Builtin.Int.intBits z ≤ 1048576) → L2.Only H → SqL (K w.params) H a (ns.map V.int) → sp w [.ref a] H (fun v _ => v = .bl true) fun _ _ _ => False)
    (hCX : ∀ (w : World) (H : Hp) (s : Shared) (e : Value) (s' : Shared), CX w [] H s (fun _ _ _ => False) e s' → False) :
    PySem.W.WalkO q loose XP YP l.row.toRowW d [] (fun f vs => PySem.call f vs) := by
  refine Att.attach_callB hn hdf fun w s₀ s₁ mg mb fa o pm cd doc a vs ns G Y ho hd hcd hmg hobj hints hlen hbits hg => ?_
  obtain ⟨fd, bd, hF⟩ := F w mg fa _ (hY w _ Y) G.T.g hmg
  exact law_end (hY w _ Y) G.T.g G.T.b G.T.builtins G.T.nolimit hg hobj hints (Nat.le_trans hlen hn2) hr hF bd (fun H hO hS => good w H a ns hlen hbits hO hS) fun H e s' => hCX w H s₁ e s'
end Fx
/-! Fx: rules as a printer writes them; a def with all that a caller wants. -/
namespace Fx
open PySem PySem.Spec PyProof.Rows L2
section
variable {X : Cx} {E : XK} {e a b c : Expr} {es : List Expr} {pos p : Pos} {fa fb fc fe : FE} {fs : FA} {ft fu : FT} {g : FG} {gs : FGs} {s s1 : Stmt} {ss : List Stmt} {f f1 f2 : FS}
theorem gs_consR (h1 : VG X E e g) (h2 : VGs X E es gs) (hs : (assignEach (e :: es) X.env).map (·.2) = assign e X.env :: (assignEach es X.env).map (·.2) := by rfl) : VGs X E (e :: es) (gsCons g gs) := gs_cons h1 h2 (pgs_cons h1 h2 hs)
theorem g_tupR {k n : Nat} (hc : X.calm = true) (h : VGs X E es gs) (hn : (assignEach es X.env).length = n := by rfl) (hst : (assignEach es X.env).findIdx? (·.1) = none := by rfl) : VG X E (.Tuple es k pos) (gTp n gs) := g_tup (pg_tup hc h hn hst)
theorem g_lstR {k n : Nat} (hc : X.calm = true) (h : VGs X E es gs) (hn : (assignEach es X.env).length = n := by rfl) (hst : (assignEach es X.env).findIdx? (·.1) = none := by rfl) : VG X E (.Tuple es k pos) (gLs n gs) := g_lst (pg_unl hc h hn hst)
theorem s_parR {i j : Nat} {x y : Str} {px py pt : Pos} {kt k2 pt2} (hc : X.calm = true) (hN : X.N.Nodup) (hi : X.N[i]? = some x) (hj : X.N[j]? = some y) (hij : i ≠ j)
    (hx : X.env.scope.names.lookup x = some .local) (hy : X.env.scope.names.lookup y = some .local) (ha : VA X E [a, b] fs)
    (hw : swappedStores [.Tuple [.Name x px, .Name y py] kt pt] (.Tuple [a, b] k2 pt2) X.env = pure (some [x, y]))
    (hs : swapsWithSole [.Tuple [.Name x px, .Name y py] kt pt] (.Tuple [a, b] k2 pt2) pos.line X.env = pure false := by rfl) :
    VS X E (.Assign [.Tuple [.Name x px, .Name y py] kt pt] (.Tuple [a, b] k2 pt2) pos) (fPar i j fs) := s_par (ps_par hc hN hi hj hij hx hy ha hw hs)
/-- a def: called by its name with all its arguments it tells what F tells -/
structure Df (P : Program) (w : World) (K : PySem.W.Frag) (mg : Str → Option Value) (base : Heap) (k : Nat) (x : Str) (n : Nat) (F : DF) : Prop where
  ex : ∃ (f : Addr) (fd : FuncData) (ps : List Str), GnOk P w K mg base CX0 k f fd ps (spF K n F) ∧ mg x = some (.ref f) ∧ PySem.W.keepIn K (.ref f) = true ∧ Binds K fd ps []
theorem v_callD {k n : Nat} {F : DF} {x : Str} (G : Df X.prog X.w X.K X.mg X.base k x n F) (hr : Room k X.A) (hgd : X.A.guards = some []) (hg : Gl X x) (ha : VA X E0 (e :: es) fs) (hdb : (x == ("__debug__" : Str)) = false := by decide)
    (he : starEach (e :: es) X.env = (false, eval e X.env) :: starEach es X.env := by rfl) (hpl : (backTo pos (starEach es X.env)).any (·.1) = false := by rfl) : VE X E0 (.Call (.Name x p) (e :: es) [] pos) (fCall n F fs) := by
  obtain ⟨f, fd, ps, h1, h2, h3, h4⟩ := G.ex
  exact v_gcall h1 hr hgd hg h2 h3 h4 pass0 ha hdb he hpl
theorem v_callD0 {k : Nat} {F : DF} {x : Str} (G : Df X.prog X.w X.K X.mg X.base k x 0 F) (hr : Room k X.A) (hgd : X.A.guards = some []) (hg : Gl X x) (hdb : (x == ("__debug__" : Str)) = false := by decide) : VE X E0 (.Call (.Name x p) [] [] pos) (fCall 0 F fNil) := by
  obtain ⟨f, fd, ps, h1, h2, h3, h4⟩ := G.ex
  exact v_gcall0 h1 hr hgd hg h2 h3 h4 pass0 hdb
end
section
variable {P : Program} {w : World} {K : PySem.W.Frag} {mg : Str → Option Value} {base : Heap}
theorem df_ok {x qual : Str} {st : Stmt} {f : Addr} {fd : FuncData} {N ps : List Str} {k n m : Nat} {fb : FS} (F : Fun K x qual st f fd) (hm : mg x = some (.ref f)) (bi : Binds K fd ps []) (S : FnScope N ps (defScope st)) (hn : ps.length = n) (hN : N.length = m)
    (hb : ∀ (cdv : Value) (A : Around) (outer : List Env) (s : Shared) (H : Hp) (E : XK), A.guards = some [] → Room k (A.deeper (envOfC qual (defScope st) s.heap.objs.size f cdv)) → VSs (cxOf CX0 P w K mg base N qual (defScope st) f cdv A outer s H E).nox E0 (defBody st) fb) :
    Df P w K mg base (k + 1) x n (fDef n m fb) := by
  subst hn; subst hN
  exact ⟨f, fd, ps, gn_ok F S hb, hm, F.kp, bi⟩
theorem df_imp {k n : Nat} {x : Str} {F G : DF} (h : Df P w K mg base k x n F)
    (e : ∀ ds st r, ds.length = n → D.oks st.length ds = true → StOk st → G ds st = some r → ∃ d s more, r = .ok d s ∧ F ds st = some (.ok d (s ++ more)) ∧ (more = [] ∨ (st.length ≤ s.length ∧ D.ok s.length d = true ∧ StOk s))) : Df P w K mg base k x n G := by
  obtain ⟨f, fd, ps, h1, h2, h3, h4⟩ := h.ex
  exact ⟨f, fd, ps, h1.imp (spF_le e), h2, h3, h4⟩
/-- the same without a store in sight -/
theorem df_eq {k n : Nat} {x : Str} {F G : DF} (h : Df P w K mg base k x n F) (e : ∀ ds st r, ds.length = n → G ds st = some r → F ds st = some r ∧ ∃ d s, r = .ok d s) : Df P w K mg base k x n G :=
  df_imp h fun ds st r hn _ _ hg => by
    obtain ⟨h1, d, s, rfl⟩ := e ds st r hn hg
    exact ⟨d, s, [], rfl, by rw [List.append_nil]; exact h1, .inl rfl⟩
end
/-- turns enough for Euclid -/
def fuelGcd (env : En) (i : Nat) : Nat := match env[i]? with
  | some (some (.int j)) => j.natAbs + 1
  | _ => 0
end Fx
/-! Fx: how the combinators are worked out (for simp), loops by invariants. -/
namespace Fx
open PySem PySem.Spec PyProof.Rows L2
section
variable {env : En} {st : Sto}
@[simp] theorem ap_var {i : Nat} : fVar i env st = (match env[i]? with | some (some d) => some (.ok d st) | _ => none) := rfl
@[simp] theorem ap_c {d : D} : fC d env st = some (.ok d st) := rfl
@[simp] theorem ap_op {g : Sto → D → D → Option D} {a b : FE} : fOp g a b env st = bnd (a env st) fun x s1 => bnd (b env s1) fun y s2 => (g s2 x y).map (R.ok · s2) := rfl
@[simp] theorem ap_un {g : Sto → D → Option D} {a : FE} : fUn g a env st = bnd (a env st) fun x s1 => (g s1 x).map (R.ok · s1) := rfl
@[simp] theorem ap_if {t : FT} {a b : FE} : fIf t a b env st = bnd (t env st) fun c s1 => if c = true then a env s1 else b env s1 := rfl
@[simp] theorem ap_nil : fNil env st = some (.ok [] st) := rfl
@[simp] theorem ap_cons {a : FE} {r : FA} : fCons a r env st = bnd (a env st) fun x s1 => bnd (r env s1) fun xs s2 => some (.ok (x :: xs) s2) := rfl
@[simp] theorem ap_tup {a : FA} : fTup a env st = bnd (a env st) fun xs s1 => if xs.length ≤ 1000 then some (.ok (.tup xs) s1) else none := rfl
@[simp] theorem ap_lst {a : FA} : fLst a env st = bnd (a env st) fun xs s1 => if xs.length ≤ 1000 then some (.ok (.lst xs) s1) else none := rfl
@[simp] theorem ap_lstC {a : FA} : fLstC a env st = bnd (a env st) fun xs s1 => if xs.length ≤ 1000 then some (.ok (.ref s1.length) (s1 ++ [.lst xs])) else none := rfl
@[simp] theorem ap_tV {a : FE} : tV a env st = bnd (a env st) fun x s1 => match x with | .bl b => some (.ok b s1) | _ => none := rfl
@[simp] theorem ap_and2 {a b : FT} : tAnd2 a b env st = bnd (a env st) fun c s1 => if c = true then b env s1 else some (.ok false s1) := rfl
@[simp] theorem ap_or2 {a b : FT} : tOr2 a b env st = bnd (a env st) fun c s1 => if c = true then some (.ok true s1) else b env s1 := rfl
@[simp] theorem ap_not1 {a : FT} : tNot1 a env st = bnd (a env st) fun c s1 => some (.ok (!c) s1) := rfl
@[simp] theorem ap_and {a b : FE} : fAnd a b env st = bnd (a env st) fun x s1 => match x with | .bl c => if c = true then b env s1 else some (.ok (.bl false) s1) | _ => none := rfl
@[simp] theorem ap_or {a b : FE} : fOr a b env st = bnd (a env st) fun x s1 => match x with | .bl c => if c = true then some (.ok (.bl true) s1) else b env s1 | _ => none := rfl
@[simp] theorem ap_not {a : FE} : fNot a env st = bnd (a env st) fun x s1 => match x with | .bl c => some (.ok (.bl (!c)) s1) | _ => none := rfl
@[simp] theorem ap_pass : fPass env st = some (.nx env st) := rfl
@[simp] theorem ap_seq {a b : FS} : fSeq a b env st = (match a env st with | some (.nx e1 s1) => b e1 s1 | r => r) := rfl
@[simp] theorem ap_ret {e : FE} : fRet e env st = sb (e env st) fun d s1 => some (.rt d s1) := rfl
@[simp] theorem ap_retN : fRetN env st = some (.rt .non st) := rfl
@[simp] theorem ap_expr {e : FE} : fExpr e env st = sb (e env st) fun _ s1 => some (.nx env s1) := rfl
@[simp] theorem ap_break : fBreak env st = some (.bk env st) := rfl
@[simp] theorem ap_cont : fCont env st = some (.ct env st) := rfl
@[simp] theorem ap_ifS {t : FT} {a b : FS} : fIfS t a b env st = sb (t env st) fun c s1 => if c = true then a env s1 else b env s1 := rfl
@[simp] theorem ap_set {i : Nat} {e : FE} : fSet i e env st = sb (e env st) fun d s1 => some (.nx (env.set i (some d)) s1) := rfl
@[simp] theorem ap_par {i j : Nat} {a : FA} : fPar i j a env st = sb (a env st) fun ds s1 => match ds with | [x, y] => some (.nx ((env.set i (some x)).set j (some y)) s1) | _ => none := rfl
@[simp] theorem ap_asg {e : FE} {g : FG} : fAsg e g env st = sb (e env st) fun d s1 => sb (g d env s1) fun env2 s2 => some (.nx env2 s2) := rfl
@[simp] theorem ap_nm {i : Nat} {d : D} : gNm i d env st = some (.ok (env.set i (some d)) st) := rfl
@[simp] theorem ap_gsNil : gsNil [] env st = some (.ok env st) := rfl
@[simp] theorem ap_gsCons {g : FG} {h : FGs} {d : D} {r : List D} : gsCons g h (d :: r) env st = bnd (g d env st) fun env1 s1 => h r env1 s1 := rfl
@[simp] theorem ap_gTp {n : Nat} {g : FGs} {ds : List D} : gTp n g (.tup ds) env st = if ds.length = n then g ds env st else none := rfl
@[simp] theorem ap_gTpf {n : Nat} {g : FGs} {ds : List D} : gTp n g (.frt ds) env st = if ds.length = n then g ds env st else none := rfl
@[simp] theorem ap_gLs {n : Nat} {g : FGs} {ds : List D} : gLs n g (.lst ds) env st = if ds.length = n then g ds env st else none := rfl
@[simp] theorem ap_for {fi : FI} {g : FG} {body : FS} : fFor fi g body env st = sb (fi env st) fun items s1 => forL g body items env s1 := rfl
@[simp] theorem ap_while {m : En → Sto → Nat} {t : FT} {body : FS} : fWhile m t body env st = whL t body (m env st) env st := rfl
@[simp] theorem ap_iLst {a : FE} : iLst a env st = bnd (a env st) fun d s1 => (seqL d).map (R.ok · s1) := rfl
@[simp] theorem ap_iTp {a : FE} : iTp a env st = bnd (a env st) fun d s1 => (seqT d).map (R.ok · s1) := rfl
@[simp] theorem ap_iRg1 {fs : FA} : iRg1 fs env st = bnd (fs env st) fun ds s1 => match ds with | [.int j] => if -(2 ^ 62) ≤ j ∧ j < 2 ^ 62 then some (.ok (intsFrom 0 j.toNat) s1) else none | _ => none := rfl
@[simp] theorem ap_call {n : Nat} {F : DF} {a : FA} : fCall n F a env st = bnd (a env st) fun ds s1 => if ds.length = n then F ds s1 else none := rfl
@[simp] theorem ap_ca {g : Sto → List D → Option D} {a : FA} : fCa g a env st = bnd (a env st) fun ds s1 => (g s1 ds).map (R.ok · s1) := rfl
@[simp] theorem ap_slL {a : FE} {lo hi : FO} : fSlL a lo hi env st = bnd (a env st) fun d s1 => bnd (lo env s1) fun l s2 => bnd (hi env s2) fun u s3 => (seqS s3 d).map fun xs => .ok (.lst (cutD xs l u)) s3 := rfl
@[simp] theorem ap_rev {a : FE} : fRev a env st = bnd (a env st) fun d s1 => (seqS s1 d).map fun xs => .ok (.lst xs.reverse) s1 := rfl
@[simp] theorem ap_oNo : oNo env st = some (.ok none st) := rfl
@[simp] theorem ap_oSome {f : FE} : oSome f env st = bnd (f env st) fun d s1 => match d with | .int i => some (.ok (some i) s1) | _ => none := rfl
@[simp] theorem ap_subL {o i : FE} {d : D} : gSubL o i d env st = bnd (o env st) fun x s1 => bnd (i env s1) fun y s2 => match x, y with
  | .ref n, .int k => match s2[n]? with
    | some (.lst xs) => match ixN xs.length k with
      | some j => some (.ok env (s2.set n (.lst (xs.set j d))))
      | none => none
    | _ => none
  | _, _ => none := rfl
@[simp] theorem ap_mtC {T : String} {g : Cell → List D → Option (D × Cell)} {o : FE} {a : FA} : fMtC T g o a env st = bnd (o env st) fun x s1 => match x with
  | .ref n => match s1[n]? with
    | some c0 => if cellT c0 = some T then bnd (a env s1) fun ds s2 => match s2[n]? with
        | some c => (g c ds).map fun q => .ok q.1 (s2.set n q.2)
        | none => none
      else none
    | none => none
  | _ => none := rfl
@[simp] theorem ap_mtL {g : Sto → List D → List D → Option D} {o : FE} {a : FA} : fMtL g o a env st = bnd (o env st) fun x s1 => match seqS s1 x with
  | some _ => bnd (a env s1) fun ds s2 => match seqS s2 x with
    | some xs => (g s2 xs ds).map (R.ok · s2)
    | none => none
  | none => none := rfl
@[simp] theorem ap_lc {fi : FI} {g : FG} {ft : FT} {fe : FE} {vs : List Nat} : fLc fi g ft fe vs env st = bnd (lcF fi g ft fe vs env st) fun ds s1 => some (.ok (.lst ds) s1) := rfl
@[simp] theorem ap_lcC {fi : FI} {g : FG} {ft : FT} {fe : FE} {vs : List Nat} : fLcC fi g ft fe vs env st = bnd (lcF fi g ft fe vs env st) fun ds s1 => some (.ok (.ref s1.length) (s1 ++ [.lst ds])) := rfl
@[simp] theorem ap_lcF {fi : FI} {g : FG} {ft : FT} {fe : FE} {vs : List Nat} : lcF fi g ft fe vs env st = bnd (fi env st) fun items s1 => if items.length ≤ 100000 then lcL g ft fe (wipeD env vs) items s1 else none := rfl
@[simp] theorem ap_tYes : tYes1 env st = some (.ok true st) := rfl
@[simp] theorem ap_lcL0 {g : FG} {ft : FT} {fe : FE} : lcL g ft fe env [] st = some (.ok [] st) := rfl
@[simp] theorem ap_lcL1 {g : FG} {ft : FT} {fe : FE} {d : D} {ds : List D} : lcL g ft fe env (d :: ds) st = bnd (noX (g d env st)) fun env1 s1 => bnd (noX (ft env1 s1)) fun c s2 =>
    if c = true then bnd (noX (fe env1 s2)) fun y s3 => bnd (lcL g ft fe env ds s3) fun ys s4 => some (.ok (y :: ys) s4)
    else lcL g ft fe env ds s2 := rfl
@[simp] theorem noX_ok' {α : Type} {a : α} {s : Sto} : noX (some (.ok a s)) = some (.ok a s) := rfl
@[simp] theorem noX_none {α : Type} : noX (none : Option (R α)) = none := rfl
@[simp] theorem wipeD_nil : wipeD env [] = env := rfl
@[simp] theorem wipeD_cons {v : Nat} {vs : List Nat} : wipeD env (v :: vs) = (wipeD env vs).set v none := rfl
@[simp] theorem ap_catC {a b : FE} : fCatC a b env st = bnd (a env st) fun x s1 => bnd (b env s1) fun y s2 => match seqP s2 x, seqP s2 y with
  | some xs, some ys => if xs.length + ys.length ≤ 1000000 then some (.ok (.ref s2.length) (s2 ++ [.lst (xs ++ ys)])) else none
  | _, _ => none := rfl
theorem ap_def {n N : Nat} {fb : FS} {ds : List D} : fDef n N fb ds st = match fb (ds.map some ++ List.replicate (N - n) none) st with
  | some (.nx _ s) => some (.ok .non s)
  | some (.rt d s) => some (.ok d s)
  | _ => none := rfl
theorem def_rt {n N : Nat} {fb : FS} {ds : List D} {d : D} {s : Sto} (he : ds.map some ++ List.replicate (N - n) none = env) (h : fb env st = some (.rt d s)) : fDef n N fb ds st = some (.ok d s) := by
  unfold fDef
  rw [he, h]
theorem def_nx {n N : Nat} {fb : FS} {ds : List D} {e2 : En} {s : Sto} (he : ds.map some ++ List.replicate (N - n) none = env) (h : fb env st = some (.nx e2 s)) : fDef n N fb ds st = some (.ok .non s) := by
  unfold fDef
  rw [he, h]
theorem seq_nx {a b : FS} {e1 : En} {s1 : Sto} (h : a env st = some (.nx e1 s1)) : fSeq a b env st = b e1 s1 := by
  unfold fSeq
  rw [h]
theorem seq_rt {a b : FS} {d : D} {s1 : Sto} (h : a env st = some (.rt d s1)) : fSeq a b env st = some (.rt d s1) := by
  unfold fSeq
  rw [h]
end
/-- a loop that comes to its end -/
theorem forL_all {g : FG} {body : FS} (I : En → Sto → Prop) : ∀ {ds : List D} {env : En} {st : Sto},
    (∀ d ∈ ds, ∀ env st, I env st → ∃ env1 s1, g d env st = some (.ok env1 s1) ∧ ∃ env2 s2, (body env1 s1 = some (.nx env2 s2) ∨ body env1 s1 = some (.ct env2 s2)) ∧ I env2 s2) →
    I env st → ∃ env2 s2, forL g body ds env st = some (.nx env2 s2) ∧ I env2 s2
  | [], env, st, _, h0 => ⟨env, st, rfl, h0⟩
  | d :: ds, env, st, h, h0 => by
    obtain ⟨env1, s1, e1, env2, s2, e2, h2⟩ := h d List.mem_cons_self env st h0
    obtain ⟨env3, s3, e3, h3⟩ := forL_all I (ds := ds) (fun d m => h d (List.mem_cons_of_mem _ m)) h2
    refine ⟨env3, s3, ?_, h3⟩
    unfold forL
    rw [e1, sb_ok]
    rcases e2 with e2 | e2 <;> rw [e2] <;> exact e3
end Fx
/-! Fx: exact numbers (tuples of a top and a bottom) as rationals. -/
namespace Fx
open PySem PySem.Spec PyProof.Rows L2

def rD (q : Rat) : D := .tup [.int q.num, .int q.den]
def decR : D → Option Rat
  | .tup [.int a, .int b] => if 0 < b ∧ Int.gcd a b = 1 then some (Rat.divInt a b) else none
  | _ => none
theorem divInt_low {a b : Int} (h : 0 < b) (g : Int.gcd a b = 1) : (Rat.divInt a b).num = a ∧ ((Rat.divInt a b).den : Int) = b := by
  have g' : b.gcd a = 1 := by rw [Int.gcd_comm]; exact g
  rw [Rat.num_divInt, Rat.den_divInt, g', if_neg (by omega), Int.sign_eq_one_of_pos h]
  refine ⟨by simp, ?_⟩
  rw [Nat.div_one]
  omega
theorem decR_some {d : D} {q : Rat} (h : decR d = some q) : d = rD q := by
  unfold decR at h
  split at h
  · rename_i a b
    split at h
    · rename_i hc
      cases h
      obtain ⟨e1, e2⟩ := divInt_low hc.1 hc.2
      unfold rD
      rw [e1, e2]
    · cases h
  · cases h
theorem rat_gcd (q : Rat) : Int.gcd q.num q.den = 1 := by
  have := q.reduced
  unfold Nat.Coprime at this
  rw [Int.gcd_eq_natAbs_gcd_natAbs]
  exact this
theorem rat_den_pos (q : Rat) : (0 : Int) < (q.den : Int) := by have := q.den_pos; omega
@[simp] theorem decR_rD (q : Rat) : decR (rD q) = some q := by
  show (if 0 < (q.den : Int) ∧ Int.gcd q.num q.den = 1 then some (Rat.divInt q.num q.den) else none) = _
  rw [if_pos ⟨rat_den_pos q, rat_gcd q⟩, Rat.num_divInt_den]
/-- small enough to be reckoned with -/
def Rs (q : Rat) : Prop := q.num.natAbs.log2 < 4000 ∧ q.den.log2 < 4000
instance (q : Rat) : Decidable (Rs q) := inferInstanceAs (Decidable (_ ∧ _))
/-- by powers of two -/
def Rz (n : Nat) (q : Rat) : Prop := q.num.natAbs < 2 ^ n ∧ q.den < 2 ^ n
theorem log2_lt {a n : Nat} (h : a < 2 ^ n) (hn : 0 < n) : a.log2 < n := PySem.Flt.log2_lt_of hn h
theorem lt_of_log2 {a n : Nat} (h : a.log2 < n) : a < 2 ^ n := Nat.lt_of_lt_of_le Nat.lt_log2_self (Nat.pow_le_pow_right (by decide) h)
theorem Rz.rs {n : Nat} {q : Rat} (h : Rz n q) (h0 : 0 < n) (hn : n ≤ 4000) : Rs q := ⟨Nat.lt_of_lt_of_le (log2_lt h.1 h0) hn, Nat.lt_of_lt_of_le (log2_lt h.2 h0) hn⟩
set_option exponentiation.threshold 5000 in
theorem Rs.rz {q : Rat} (h : Rs q) : Rz 4000 q := ⟨lt_of_log2 h.1, lt_of_log2 h.2⟩
theorem Rz.mono {n m : Nat} {q : Rat} (h : Rz n q) (l : n ≤ m) : Rz m q := ⟨Nat.lt_of_lt_of_le h.1 (Nat.pow_le_pow_right (by decide) l), Nat.lt_of_lt_of_le h.2 (Nat.pow_le_pow_right (by decide) l)⟩
theorem Sz.of {i : Int} {n : Nat} (h : i.natAbs < 2 ^ n) (h0 : 0 < n) (l : n ≤ 60000000) : Sz i := Nat.lt_of_lt_of_le (log2_lt h h0) l
theorem mul_lt {i j : Int} {a b : Nat} (ha : i.natAbs < 2 ^ a) (hb : j.natAbs < 2 ^ b) : (i * j).natAbs < 2 ^ (a + b) := wide_lt ha hb
theorem add_lt {i j : Int} {a : Nat} (ha : i.natAbs < 2 ^ a) (hb : j.natAbs < 2 ^ a) : (i + j).natAbs < 2 ^ (a + 1) := by
  have : 2 ^ (a + 1) = 2 ^ a + 2 ^ a := by rw [Nat.pow_succ]; omega
  omega
theorem sub_lt {i j : Int} {a : Nat} (ha : i.natAbs < 2 ^ a) (hb : j.natAbs < 2 ^ a) : (i - j).natAbs < 2 ^ (a + 1) := by
  have : 2 ^ (a + 1) = 2 ^ a + 2 ^ a := by rw [Nat.pow_succ]; omega
  omega
theorem Rz.den {n : Nat} {q : Rat} (h : Rz n q) : (q.den : Int).natAbs < 2 ^ n := by simpa using h.2
theorem divInt_small {a b : Int} (hb : b ≠ 0) : (Rat.divInt a b).num.natAbs ≤ a.natAbs ∧ (Rat.divInt a b).den ≤ b.natAbs := by
  rw [Rat.num_divInt, Rat.den_divInt, if_neg hb]
  refine ⟨?_, Nat.div_le_self _ _⟩
  have h : (b.sign * a / ((b.gcd a : Nat) : Int)).natAbs ≤ (b.sign * a).natAbs := by
    rw [Int.natAbs_ediv_of_dvd]
    · exact Nat.div_le_self _ _
    · exact Int.dvd_mul_of_dvd_right (Int.gcd_dvd_right ..)
  refine Nat.le_trans h ?_
  rw [Int.natAbs_mul]
  have : b.sign.natAbs ≤ 1 := by
    rcases Int.lt_trichotomy b 0 with h | h | h
    · rw [Int.sign_eq_neg_one_of_neg h]; decide
    · exact absurd h hb
    · rw [Int.sign_eq_one_of_pos h]; decide
  calc b.sign.natAbs * a.natAbs ≤ 1 * a.natAbs := Nat.mul_le_mul_right _ this
    _ = a.natAbs := Nat.one_mul _
theorem Rz.divInt {n : Nat} {a b : Int} (ha : a.natAbs < 2 ^ n) (hb : b.natAbs < 2 ^ n) (h : b ≠ 0) : Rz n (Rat.divInt a b) :=
  ⟨Nat.lt_of_le_of_lt (divInt_small h).1 ha, Nat.lt_of_le_of_lt (divInt_small h).2 hb⟩
theorem add_eq (p q : Rat) : p + q = Rat.divInt (p.num * q.den + q.num * p.den) (p.den * q.den) := by
  have h1 := rat_den_pos p
  have h2 := rat_den_pos q
  conv => lhs; rw [← Rat.num_divInt_den p, ← Rat.num_divInt_den q]
  rw [Rat.divInt_add_divInt _ _ (by omega) (by omega)]
theorem sub_eq (p q : Rat) : p - q = Rat.divInt (p.num * q.den - q.num * p.den) (p.den * q.den) := by
  have h1 := rat_den_pos p
  have h2 := rat_den_pos q
  conv => lhs; rw [← Rat.num_divInt_den p, ← Rat.num_divInt_den q]
  rw [Rat.divInt_sub_divInt _ _ (by omega) (by omega)]
theorem mul_eq (p q : Rat) : p * q = Rat.divInt (p.num * q.num) (p.den * q.den) := by
  conv => lhs; rw [← Rat.num_divInt_den p, ← Rat.num_divInt_den q]
  rw [Rat.divInt_mul_divInt]
theorem div_eq (p q : Rat) : p / q = Rat.divInt (p.num * q.den) (p.den * q.num) := by
  rw [Rat.div_def]
  conv => lhs; rw [← Rat.num_divInt_den p, ← Rat.num_divInt_den q]
  rw [Rat.inv_divInt, Rat.divInt_mul_divInt]
theorem den_mul_ne (p q : Rat) : (p.den * q.den : Int) ≠ 0 := by
  have h1 := rat_den_pos p
  have h2 := rat_den_pos q
  exact Int.ne_of_gt (Int.mul_pos h1 h2)
theorem Rz.add {n : Nat} {p q : Rat} (hp : Rz n p) (hq : Rz n q) : Rz (n + n + 1) (p + q) := by
  rw [add_eq]
  refine Rz.divInt (add_lt (mul_lt hp.1 hq.den) (mul_lt hq.1 hp.den)) ?_ (den_mul_ne p q)
  exact Nat.lt_of_lt_of_le (mul_lt hp.den hq.den) (Nat.pow_le_pow_right (by decide) (by omega))
theorem Rz.sub {n : Nat} {p q : Rat} (hp : Rz n p) (hq : Rz n q) : Rz (n + n + 1) (p - q) := by
  rw [sub_eq]
  refine Rz.divInt (sub_lt (mul_lt hp.1 hq.den) (mul_lt hq.1 hp.den)) ?_ (den_mul_ne p q)
  exact Nat.lt_of_lt_of_le (mul_lt hp.den hq.den) (Nat.pow_le_pow_right (by decide) (by omega))
theorem Rz.mul {n : Nat} {p q : Rat} (hp : Rz n p) (hq : Rz n q) : Rz (n + n + 1) (p * q) := by
  rw [mul_eq]
  refine Rz.divInt ?_ ?_ (den_mul_ne p q)
  · exact Nat.lt_of_lt_of_le (mul_lt hp.1 hq.1) (Nat.pow_le_pow_right (by decide) (by omega))
  · exact Nat.lt_of_lt_of_le (mul_lt hp.den hq.den) (Nat.pow_le_pow_right (by decide) (by omega))
theorem Rz.div {n : Nat} {p q : Rat} (hp : Rz n p) (hq : Rz n q) (h : q ≠ 0) : Rz (n + n + 1) (p / q) := by
  rw [div_eq]
  have hn : q.num ≠ 0 := fun e => h (Rat.num_eq_zero.mp e)
  have h1 := rat_den_pos p
  refine Rz.divInt ?_ ?_ (Int.mul_ne_zero (by omega) hn)
  · exact Nat.lt_of_lt_of_le (mul_lt hp.1 hq.den) (Nat.pow_le_pow_right (by decide) (by omega))
  · exact Nat.lt_of_lt_of_le (mul_lt hp.den hq.1) (Nat.pow_le_pow_right (by decide) (by omega))
/-! Euclid, as Python does it -/
theorem gcd_fmod (a b : Int) : Int.gcd b (a.fmod b) = Int.gcd a b := by
  rw [Int.fmod_def]
  rw [show a - b * a.fdiv b = a + b * (-(a.fdiv b)) by rw [Int.mul_neg]; omega]
  rw [Int.gcd_comm a b, Int.gcd_add_mul_left_right]
theorem fmod_small (a b : Int) (h : b ≠ 0) : (a.fmod b).natAbs < b.natAbs := by
  have pos : ∀ (a b : Int), 0 < b → (a.fmod b).natAbs < b.natAbs := fun a b h => by
    have h1 := Int.fmod_nonneg_of_pos a h
    have h2 := Int.fmod_lt_of_pos a h
    omega
  rcases Int.lt_or_gt_of_ne h with h | h
  · have e := Int.neg_fmod_neg (-a) (-b)
    rw [Int.neg_neg, Int.neg_neg] at e
    rw [e, Int.natAbs_neg, ← Int.natAbs_neg b]
    exact pos _ _ (by omega)
  · exact pos a b h
@[simp] theorem dNe_int {st : Sto} {a b : Int} : dNe st (.int a) (.int b) = some (.bl (!(a == b))) := by
  simp [dNe, pdS, pd, SeqAt.shaped, PyData.canLay0, PyData.depth, PyData.eqv]
@[simp] theorem dEq_int {st : Sto} {a b : Int} : dEq st (.int a) (.int b) = some (.bl (a == b)) := by
  simp [dEq, pdS, pd, SeqAt.shaped, PyData.canLay0, PyData.depth, PyData.eqv]
theorem eqv_rat (p q : Rat) : PyData.eqv (.tuple [.int p.num, .int p.den]) (.tuple [.int q.num, .int q.den]) = decide (p = q) := by
  simp only [PyData.eqv, PyData.eqvAll, Bool.and_true]
  by_cases h : p = q
  · subst h; simp
  · rw [decide_eq_false h]
    by_cases h1 : p.num = q.num
    · have h2 : ¬ (p.den : Int) = q.den := fun e => h (Rat.ext h1 (by omega))
      simp [h1, h2]
    · simp [h1]
@[simp] theorem dEq_rD {st : Sto} {p q : Rat} : dEq st (rD p) (rD q) = some (.bl (decide (p = q))) := by
  show (match some (PyData.tuple [.int p.num, .int p.den]), some (PyData.tuple [.int q.num, .int q.den]) with
    | some a, some b => if SeqAt.shaped a = true ∧ SeqAt.shaped b = true then some (D.bl (PyData.eqv a b)) else none
    | _, _ => none) = _
  simp only
  rw [eqv_rat, if_pos ⟨rfl, rfl⟩]
@[simp] theorem dNe_rD {st : Sto} {p q : Rat} : dNe st (rD p) (rD q) = some (.bl (!decide (p = q))) := by
  show (match some (PyData.tuple [.int p.num, .int p.den]), some (PyData.tuple [.int q.num, .int q.den]) with
    | some a, some b => if SeqAt.shaped a = true ∧ SeqAt.shaped b = true then some (D.bl (!PyData.eqv a b)) else none
    | _, _ => none) = _
  simp only
  rw [eqv_rat, if_pos ⟨rfl, rfl⟩]
theorem rD_nat (i : Int) : D.tup [.int i, .int 1] = rD (i : Rat) := by simp [rD]
theorem log2_mono {a b : Nat} (h : a ≤ b) : a.log2 ≤ b.log2 := by
  by_cases h0 : a = 0
  · subst h0; simp
  · rw [Nat.le_log2 (by omega)]
    exact Nat.le_trans (Nat.log2_self_le h0) h
theorem low_pos (t b : Int) (h : 0 < b) : t.fdiv (Int.gcd t b : Nat) = (Rat.divInt t b).num ∧ b.fdiv (Int.gcd t b : Nat) = (Rat.divInt t b).den := by
  rw [Rat.num_divInt, Rat.den_divInt, if_neg (by omega), Int.sign_eq_one_of_pos h, Int.one_mul, Int.gcd_comm b t]
  rw [Int.fdiv_eq_ediv_of_dvd (Int.gcd_dvd_left ..), Int.fdiv_eq_ediv_of_dvd (Int.gcd_dvd_right ..)]
  refine ⟨rfl, ?_⟩
  have : (b.natAbs : Int) = b := by omega
  rw [Int.natCast_ediv, this]
theorem low_neg (t b : Int) (h : b < 0) : t.fdiv (-(Int.gcd t b : Nat)) = (Rat.divInt t b).num ∧ b.fdiv (-(Int.gcd t b : Nat)) = (Rat.divInt t b).den := by
  rw [Rat.num_divInt, Rat.den_divInt, if_neg (by omega), Int.sign_eq_neg_one_of_neg h, Int.gcd_comm b t]
  rw [Int.fdiv_eq_ediv_of_dvd (Int.neg_dvd.mpr (Int.gcd_dvd_left ..)), Int.fdiv_eq_ediv_of_dvd (Int.neg_dvd.mpr (Int.gcd_dvd_right ..)), Int.ediv_neg, Int.ediv_neg]
  refine ⟨by rw [Int.neg_one_mul, Int.neg_ediv_of_dvd (Int.gcd_dvd_left ..)], ?_⟩
  have : (b.natAbs : Int) = -b := by omega
  rw [Int.natCast_ediv, this, Int.neg_ediv_of_dvd (Int.gcd_dvd_right ..)]
theorem gcd_ok {t b : Int} (hb : b ≠ 0) (hl : b.natAbs.log2 < 8500) : ((Int.gcd t b : Nat) : Int) ≠ 0 ∧ ((Int.gcd t b : Nat) : Int).natAbs.log2 < 9000 := by
  have h1 : 0 < Int.gcd t b := Int.gcd_pos_of_ne_zero_right _ hb
  refine ⟨by omega, ?_⟩
  have h2 : Int.gcd t b ≤ b.natAbs := Nat.le_of_dvd (by omega) (Int.gcd_eq_natAbs_gcd_natAbs t b ▸ Nat.gcd_dvd_right _ _)
  have := log2_mono h2
  simp only [Int.natAbs_natCast]
  omega
theorem dDiv_ok {st : Sto} {i j : Int} (h : j ≠ 0) (l : j.natAbs.log2 < 9000) : dDiv st (.int i) (.int j) = some (.int (i.fdiv j)) := if_pos ⟨h, l⟩
theorem dMul_ok {st : Sto} {i j : Int} (h : Sz i) (l : Sz j) : dMul st (.int i) (.int j) = some (.int (i * j)) := if_pos ⟨h, l⟩
theorem Rs.sz {q : Rat} (h : Rs q) : Sz q.num ∧ Sz q.den := by
  unfold Rs at h
  unfold Sz
  simp only [Int.natAbs_natCast]
  omega
set_option exponentiation.threshold 10000 in
theorem Rs.dd {p q : Rat} (h : Rs p) (k : Rs q) : ((p.den : Int) * q.den).natAbs.log2 < 8500 := by
  have := mul_lt h.rz.den k.rz.den
  exact Nat.lt_of_lt_of_le (log2_lt this (by decide)) (by decide)
set_option exponentiation.threshold 10000 in
theorem Rs.dn {p q : Rat} (h : Rs p) (k : Rs q) : ((p.den : Int) * q.num).natAbs.log2 < 8500 := by
  have := mul_lt h.rz.den k.rz.1
  exact Nat.lt_of_lt_of_le (log2_lt this (by decide)) (by decide)
theorem ix_rD0 {st : Sto} {q : Rat} : dIx st (rD q) (.int 0) = some (.int q.num) := rfl
theorem ix_rD1 {st : Sto} {q : Rat} : dIx st (rD q) (.int 1) = some (.int q.den) := rfl
@[simp] theorem kitB_int_int : kitB "int" "int" = some true := by decide +kernel
@[simp] theorem kitB_bool_int : kitB "bool" "int" = some true := by decide +kernel
@[simp] theorem kitB_tuple_int : kitB "tuple" "int" = some false := by decide +kernel
@[simp] theorem kitB_str_int : kitB "str" "int" = some false := by decide +kernel
@[simp] theorem kitB_list_int : kitB "list" "int" = some false := by decide +kernel
@[simp] theorem kitB_dict_int : kitB "dict" "int" = some false := by decide +kernel
@[simp] theorem kitB_NoneType_int : kitB "NoneType" "int" = some false := by decide +kernel
@[simp] theorem kitB_int_bool : kitB "int" "bool" = some false := by decide +kernel
@[simp] theorem kitB_bool_bool : kitB "bool" "bool" = some true := by decide +kernel
@[simp] theorem kitB_tuple_bool : kitB "tuple" "bool" = some false := by decide +kernel
@[simp] theorem kitB_str_bool : kitB "str" "bool" = some false := by decide +kernel
@[simp] theorem kitB_list_bool : kitB "list" "bool" = some false := by decide +kernel
@[simp] theorem kitB_dict_bool : kitB "dict" "bool" = some false := by decide +kernel
@[simp] theorem kitB_NoneType_bool : kitB "NoneType" "bool" = some false := by decide +kernel
@[simp] theorem kitB_int_tuple : kitB "int" "tuple" = some false := by decide +kernel
@[simp] theorem kitB_bool_tuple : kitB "bool" "tuple" = some false := by decide +kernel
@[simp] theorem kitB_tuple_tuple : kitB "tuple" "tuple" = some true := by decide +kernel
@[simp] theorem kitB_str_tuple : kitB "str" "tuple" = some false := by decide +kernel
@[simp] theorem kitB_list_tuple : kitB "list" "tuple" = some false := by decide +kernel
@[simp] theorem kitB_dict_tuple : kitB "dict" "tuple" = some false := by decide +kernel
@[simp] theorem kitB_NoneType_tuple : kitB "NoneType" "tuple" = some false := by decide +kernel
@[simp] theorem seqLT_tup {st : Sto} {xs : List D} : seqLT st (.tup xs) = some xs := rfl
@[simp] theorem seqLT_lst {st : Sto} {xs : List D} : seqLT st (.lst xs) = some xs := rfl
@[simp] theorem seqLT_frz {st : Sto} {xs : List D} : seqLT st (.frz xs) = some xs := rfl
@[simp] theorem seqL_lst {xs : List D} : seqL (.lst xs) = some xs := rfl
@[simp] theorem seqT_tup {xs : List D} : seqT (.tup xs) = some xs := rfl
@[simp] theorem seqS_lst {st : Sto} {xs : List D} : seqS st (.lst xs) = some xs := rfl
@[simp] theorem seqS_frz {st : Sto} {xs : List D} : seqS st (.frz xs) = some xs := rfl
@[simp] theorem seqP_lst {st : Sto} {xs : List D} : seqP st (.lst xs) = some xs := rfl
@[simp] theorem asBls_nil : asBls [] = some [] := rfl
@[simp] theorem asBls_cons {b : Bool} {ds : List D} : asBls (.bl b :: ds) = (asBls ds).map (b :: ·) := rfl
/-- the loop of Euclid over two slots -/
theorem gcd_loop (a b : Int) : ∀ (n : Nat) (st : Sto), b.natAbs < n → ∃ c : Int, whL (tV (fOp dNe (fVar 1) (fC (.int 0)))) (fPar 0 1 (fCons (fVar 1) (fCons (fOp dMod (fVar 0) (fVar 1)) fNil))) n [some (.int a), some (.int b)] st = some (.nx [some (.int c), some (.int 0)] st) ∧ c.natAbs = Int.gcd a b := by
  intro n
  induction n generalizing a b with
  | zero => intro st h; omega
  | succ n ih =>
    intro st h
    unfold whL
    by_cases hb : b = 0
    · subst hb
      exact ⟨a, by simp, by simp⟩
    · have hs := fmod_small a b hb
      obtain ⟨c, h1, h2⟩ := ih b (a.fmod b) st (by omega)
      refine ⟨c, ?_, by rw [h2, gcd_fmod]⟩
      simp [dMod, hb, h1]
/-- .. over slots further on, the others kept -/
theorem gcd_loop2 (x y z : Option D) (a b : Int) : ∀ (n : Nat) (st : Sto), b.natAbs < n → ∃ c : Int, whL (tV (fOp dNe (fVar 3) (fC (.int 0)))) (fPar 2 3 (fCons (fVar 3) (fCons (fOp dMod (fVar 2) (fVar 3)) fNil))) n [x, y, some (.int a), some (.int b), z] st = some (.nx [x, y, some (.int c), some (.int 0), z] st) ∧ c.natAbs = Int.gcd a b ∧ (0 ≤ a → 0 ≤ b → 0 ≤ c) := by
  intro n
  induction n generalizing a b with
  | zero => intro st h; omega
  | succ n ih =>
    intro st h
    unfold whL
    by_cases hb : b = 0
    · subst hb
      exact ⟨a, by simp, by simp, fun h _ => h⟩
    · have hs := fmod_small a b hb
      obtain ⟨c, h1, h2, h3⟩ := ih b (a.fmod b) st (by omega)
      refine ⟨c, ?_, by rw [h2, gcd_fmod], fun ha hb' => h3 hb' (Int.fmod_nonneg_of_pos a (by omega))⟩
      simp [dMod, hb, h1]
end Fx
/-! Fx: dicts in cells, what repr shows, walks over either kind of sequence. -/
namespace Fx
open PySem PySem.Spec PyProof.Rows L2

/-! ### the pairs of a dict -/
def keyD : Key → D
  | .inl i => .int i
  | .inr x => .str x
def dKey : D → Option Key
  | .int i => some (.inl i)
  | .str x => some (.inr x)
  | _ => none
section
variable {α β : Type}
def valA (kvs : List (Key × α)) (k : Key) : Option α := (kvs.find? fun kv => decide (kv.1 = k)).map (·.2)
def putA (kvs : List (Key × α)) (k : Key) (v : α) : List (Key × α) :=
  if (kvs.any fun kv => decide (kv.1 = k)) = true then kvs.map (fun kv => if kv.1 = k then (kv.1, v) else kv) else kvs ++ [(k, v)]
def mergeA (kvs more : List (Key × α)) : List (Key × α) := more.foldl (fun acc kv => putA acc kv.1 kv.2) kvs
theorem valA_nil {k : Key} : valA ([] : List (Key × α)) k = none := rfl
theorem valA_cons {p : Key × α} {r : List (Key × α)} {k : Key} : valA (p :: r) k = if p.1 = k then some p.2 else valA r k := by
  unfold valA
  by_cases h : p.1 = k <;> simp [List.find?_cons, h]
theorem valA_any (k : Key) : ∀ kvs : List (Key × α), (kvs.any fun kv => decide (kv.1 = k)) = (valA kvs k).isSome
  | [] => rfl
  | p :: r => by
    rw [List.any_cons, valA_cons, valA_any k r]
    by_cases h : p.1 = k <;> simp [h]
theorem valA_put {kvs : List (Key × α)} {k j : Key} {v : α} : valA (putA kvs k v) j = if j = k then some v else valA kvs j := by
  unfold putA
  rw [valA_any]
  split
  · rename_i h
    induction kvs with
    | nil => cases h
    | cons p r ih =>
      rw [List.map_cons, valA_cons, valA_cons]
      rw [valA_cons] at h
      by_cases hp : p.1 = k
      · rw [if_pos hp]
        by_cases hj : j = k
        · subst hj
          simp [hp]
        · have : ¬ p.1 = j := fun e => hj (by rw [← e, hp])
          simp only [if_neg this, if_neg hj]
          have : ∀ r : List (Key × α), valA (r.map fun kv => if kv.1 = k then (kv.1, v) else kv) j = valA r j := by
            intro r
            induction r with
            | nil => rfl
            | cons q r ih =>
              rw [List.map_cons, valA_cons, valA_cons, ih]
              by_cases hq : q.1 = k
              · rw [if_pos hq]
                have : ¬ q.1 = j := fun e => hj (by rw [← e, hq])
                simp only [if_neg this]
              · rw [if_neg hq]
          rw [this]
      · rw [if_neg hp] at h ⊢
        rw [ih h]
        by_cases hj : j = k
        · subst hj
          simp [hp]
        · simp only [if_neg hj]
  · rename_i h0
    have h : valA kvs k = none := by
      cases q : valA kvs k with
      | none => rfl
      | some _ => rw [q] at h0; exact absurd rfl h0
    clear h0
    induction kvs with
    | nil =>
      rw [List.nil_append, valA_cons, valA_nil]
      by_cases hj : j = k
      · subst hj; simp
      · have : ¬ k = j := fun e => hj e.symm
        simp [hj, this]
    | cons p r ih =>
      rw [valA_cons] at h
      by_cases hp : p.1 = k
      · rw [if_pos hp] at h; cases h
      · rw [if_neg hp] at h
        rw [List.cons_append, valA_cons, valA_cons, ih h]
        by_cases hj : j = k
        · subst hj
          simp [hp]
        · simp only [if_neg hj]
theorem putA_length (kvs : List (Key × α)) (k : Key) (v : α) : (putA kvs k v).length ≤ kvs.length + 1 := by
  unfold putA
  split <;> simp
theorem mergeA_length : ∀ (more kvs : List (Key × α)), (mergeA kvs more).length ≤ kvs.length + more.length
  | [], kvs => Nat.le_refl _
  | p :: r, kvs => by
    have := mergeA_length r (putA kvs p.1 p.2)
    have h2 := putA_length kvs p.1 p.2
    show (mergeA (putA kvs p.1 p.2) r).length ≤ _
    simp only [List.length_cons]
    omega
end
theorem valV_valA {kvs : List (Key × V)} {k : Key} : valV kvs k = valA kvs k := rfl
theorem putK_putA {kvs : List (Key × V)} {k : Key} {v : V} : putK kvs k v = putA kvs k v := rfl
section
variable {K : PySem.W.Frag} {H H' : Hp} {ρ ρ' : Mp} {v : V} {d : D} {xs : List (Key × V)} {ds : List (Key × D)} {st : Sto}
theorem DRk.nil : DRk K H ρ [] [] := ⟨rfl, fun i x d e _ => by simp at e⟩
theorem DRk.cons {x : Key × V} {y : Key × D} (k : x.1 = y.1) (h : DR K H ρ x.2 y.2) (t : DRk K H ρ xs ds) : DRk K H ρ (x :: xs) (y :: ds) := by
  refine ⟨by simp [t.1], fun i x' d' e1 e2 => ?_⟩
  cases i with
  | zero => simp at e1 e2; subst e1; subst e2; exact ⟨k, h⟩
  | succ i => exact t.2 i x' d' (by simpa using e1) (by simpa using e2)
theorem DRk.cons_inv {y : Key × D} (h : DRk K H ρ xs (y :: ds)) : ∃ x r, xs = x :: r ∧ x.1 = y.1 ∧ DR K H ρ x.2 y.2 ∧ DRk K H ρ r ds := by
  cases xs with
  | nil => have := h.1; simp at this
  | cons x r =>
    have := h.2 0 x y rfl rfl
    exact ⟨x, r, rfl, this.1, this.2, by simpa using h.1, fun i x' d' e1 e2 => h.2 (i + 1) x' d' (by simpa using e1) (by simpa using e2)⟩
theorem DRk.nil_inv (h : DRk K H ρ xs []) : xs = [] := by
  have := h.1
  cases xs with
  | nil => rfl
  | cons x xs => simp at this
theorem DRk.keys : ∀ {ds : List (Key × D)} {xs : List (Key × V)}, DRk K H ρ xs ds → xs.map (·.1) = ds.map (·.1)
  | [], xs, h => by rw [h.nil_inv]; rfl
  | y :: ds, xs, h => by
    obtain ⟨x, r, rfl, e, _, t⟩ := h.cons_inv
    rw [List.map_cons, List.map_cons, e, DRk.keys t]
theorem DRk.val {k : Key} : ∀ {ds : List (Key × D)} {xs : List (Key × V)}, DRk K H ρ xs ds → (∃ v d, valA xs k = some v ∧ valA ds k = some d ∧ DR K H ρ v d) ∨ (valA xs k = none ∧ valA ds k = none)
  | [], xs, h => by rw [h.nil_inv]; exact .inr ⟨rfl, rfl⟩
  | y :: ds, xs, h => by
    obtain ⟨x, r, rfl, e, q, t⟩ := h.cons_inv
    rw [valA_cons, valA_cons, e]
    by_cases hk : y.1 = k
    · simp only [if_pos hk]
      exact .inl ⟨_, _, rfl, rfl, q⟩
    · simp only [if_neg hk]
      exact t.val
theorem DRk.repl {k : Key} (hv : DR K H ρ v d) : ∀ {ds : List (Key × D)} {xs : List (Key × V)}, DRk K H ρ xs ds → DRk K H ρ (xs.map fun kv => if kv.1 = k then (kv.1, v) else kv) (ds.map fun kv => if kv.1 = k then (kv.1, d) else kv)
  | [], xs, h => by rw [h.nil_inv]; exact .nil
  | y :: ds, xs, h => by
    obtain ⟨x, r, rfl, e, q, t⟩ := h.cons_inv
    rw [List.map_cons, List.map_cons, e]
    by_cases hk : y.1 = k
    · simp only [if_pos hk]
      exact .cons rfl hv (DRk.repl hv t)
    · simp only [if_neg hk]
      exact .cons e q (DRk.repl hv t)
theorem DRk.snoc {k : Key} (hv : DR K H ρ v d) : ∀ {ds : List (Key × D)} {xs : List (Key × V)}, DRk K H ρ xs ds → DRk K H ρ (xs ++ [(k, v)]) (ds ++ [(k, d)])
  | [], xs, h => by rw [h.nil_inv]; exact .cons rfl hv .nil
  | y :: ds, xs, h => by
    obtain ⟨x, r, rfl, e, q, t⟩ := h.cons_inv
    exact .cons e q (DRk.snoc hv t)
theorem DRk.put {k : Key} (h : DRk K H ρ xs ds) (hv : DR K H ρ v d) : DRk K H ρ (putA xs k v) (putA ds k d) := by
  have e : (xs.any fun kv => decide (kv.1 = k)) = (ds.any fun kv => decide (kv.1 = k)) := by
    rw [valA_any, valA_any]
    rcases h.val (k := k) with ⟨_, _, e1, e2, _⟩ | ⟨e1, e2⟩ <;> rw [e1, e2] <;> rfl
  unfold putA
  rw [e]
  split
  · exact h.repl hv
  · exact h.snoc hv
theorem DRk.merge : ∀ {es : List (Key × D)} {ys : List (Key × V)} {ds : List (Key × D)} {xs : List (Key × V)}, DRk K H ρ ys es → DRk K H ρ xs ds → DRk K H ρ (mergeA xs ys) (mergeA ds es)
  | [], ys, ds, xs, h, t => by rw [h.nil_inv]; exact t
  | y :: es, ys, ds, xs, h, t => by
    obtain ⟨x, r, rfl, e, q, h⟩ := h.cons_inv
    show DRk K H ρ (mergeA (putA xs x.1 x.2) r) (mergeA (putA ds y.1 y.2) es)
    rw [e]
    exact DRk.merge h (t.put q)
/-- the dict that d is -/
def dctOf (st : Sto) : D → Option (List (Key × D))
  | .ref n => match st[n]? with
    | some (.dct k) => some k
    | some (.dcf k) => some k
    | _ => none
  | _ => none
theorem dctOf_inv (s : StR K H ρ st) (h : DR K H ρ v d) {kvs : List (Key × D)} (e : dctOf st d = some kvs) : ∃ a xs, v = .ref a ∧ Rd H a (.dK xs) ∧ DRk K H ρ xs kvs := by
  cases h <;> first | cases e | skip
  rename_i n a h
  unfold dctOf at e
  simp only at e
  split at e
  · rename_i k hk
    cases e
    obtain ⟨xs, q1, q2⟩ := s.cell _ _ _ h hk
    exact ⟨a, xs, rfl, .inl q1, q2⟩
  · rename_i k hk
    cases e
    obtain ⟨o, xs, q1, q2⟩ := s.cell _ _ _ h hk
    exact ⟨a, xs, rfl, .inr ⟨o, q1⟩, q2⟩
  · cases e
theorem dKey_eq {k : Key} (h : DR K H ρ v d) (e : dKey d = some k) : v = kV k := by
  cases h <;> first | cases e | skip
  · rfl
  · rfl
theorem keyD_dr {k : Key} : DR K H ρ (kV k) (keyD k) := by
  cases k
  · exact .int _
  · exact .str _
end

/-! ### expressions and statements on dicts -/
def fDctC : FE := fun _ st => some (.ok (.ref st.length) (st ++ [.dct []]))
def fGetK (a b : FE) : FE := fun env st => bnd (a env st) fun x s1 => bnd (b env s1) fun y s2 => match dctOf s2 x, dKey y with
  | some kvs, some k => (valA kvs k).map (R.ok · s2)
  | _, _ => none
def isDct (st : Sto) (d : D) : Bool := (dctOf st d).isSome
def fGet1 (a b : FE) : FE := fun env st => bnd (a env st) fun x s1 => if isDct s1 x = true then bnd (b env s1) fun y s2 => match dctOf s2 x, dKey y with
  | some kvs, some k => some (.ok ((valA kvs k).getD .non) s2)
  | _, _ => none else none
def fGet2 (a b c : FE) : FE := fun env st => bnd (a env st) fun x s1 => if isDct s1 x = true then bnd (b env s1) fun y s2 => bnd (c env s2) fun z s3 => match dctOf s3 x, dKey y with
  | some kvs, some k => some (.ok ((valA kvs k).getD z) s3)
  | _, _ => none else none
def fPutK (a b c : FE) : FS := fun env st => sb (c env st) fun v s1 => sb (a env s1) fun x s2 => sb (b env s2) fun y s3 => match x, dKey y with
  | .ref n, some k => match s3[n]? with
    | some (.dct kvs) => if kvs.length ≤ 1000000 then some (.nx env (s3.set n (.dct (putA kvs k v)))) else none
    | _ => none
  | _, _ => none
section
variable {X : Cx} {E : XK} {e o i a b value : Expr} {es : List Expr} {pos pos' p apos cpos : Pos} {fa fb fc : FE} {fs : FA} {K : PySem.W.Frag}
theorem v_dctC : VE X E (.Dict [] [] pos) fDctC := by
  refine PE.imp pe_dnewK fun σ H Q ⟨ρ, env, st, r, w, hf, hQ⟩ => ?_
  cases hf
  refine fun p hp => ?_
  have s : Step ρ H (ρ.add p) (upd H p (.dK [])) := .cell hp
  exact hQ _ _ _ s (w.st.newCell hp ⟨[], upd_same, .nil⟩) (.ref (cell_ix w.st))
theorem v_getK (hu : X.A.units + 1 < cLine) (ha : VE X E o fa) (hb : VE X E i fb) (hs : NoSl i) : VE X E (.Subscript o i pos) (fGetK fa fb) := by
  refine PE.imp (pe_dget hu ha hb hs) fun σ H Q ⟨ρ, env, st, r, w, hf, hQ⟩ => ?_
  refine rd_bind w hf hQ fun x dx s1 H1 ρ1 t1 w1 r1 hf hQ => ?_
  refine rd_bind w1 hf hQ fun y dy s2 H2 ρ2 t2 w2 r2 hf hQ => ?_
  split at hf
  · rename_i kvs k e1 e2
    obtain ⟨d, e3, rfl⟩ := map_some hf
    obtain ⟨a, xs, rfl, q1, q2⟩ := dctOf_inv w2.st (r1.step t2) e1
    have := dKey_eq r2 e2
    subst this
    rcases q2.val (k := k) with ⟨v, d', e4, e5, e6⟩ | ⟨e4, e5⟩
    · rw [e3] at e5
      cases e5
      exact ⟨a, v, rfl, .inl ⟨xs, k, q1, rfl, by rw [valV_valA, e4]⟩, hQ.val w2.st e6⟩
    · rw [e3] at e5; cases e5
  · cases hf
theorem isD_of {H : Hp} {ρ : Mp} {st : Sto} {v : V} {d : D} (s : StR K H ρ st) (r : DR K H ρ v d) (e : isDct st d = true) : ∃ a, v = .ref a ∧ IsD H a := by
  unfold isDct at e
  obtain ⟨kvs, e⟩ := Option.isSome_iff_exists.mp e
  obtain ⟨a, xs, rfl, q, _⟩ := dctOf_inv s r e
  exact ⟨a, rfl, .inl ⟨xs, q⟩⟩
theorem v_get1 (hu : X.A.units + 1 < cLine) (ho : VE X E o fa) (ha : VE X E a fb) (m : M1 X o "get" apos a cpos) : VE X E (.Call (.Attribute o "get" apos) [a] [] cpos) (fGet1 fa fb) := by
  refine PE.imp (pe_dget1 hu ho ha m) fun σ H Q ⟨ρ, env, st, r, w, hf, hQ⟩ => ?_
  refine rd_bind w hf hQ fun x dx s1 H1 ρ1 t1 w1 r1 hf hQ => ?_
  split at hf
  case isFalse => cases hf
  rename_i hd
  obtain ⟨q, rfl, isd⟩ := isD_of w1.st r1 hd
  refine ⟨q, rfl, isd, ?_⟩
  refine rd_bind w1 hf hQ fun y dy s2 H2 ρ2 t2 w2 r2 hf hQ => ?_
  split at hf
  · rename_i kvs k e1 e2
    cases hf
    obtain ⟨a, xs, ea, q1, q2⟩ := dctOf_inv w2.st (r1.step t2) e1
    cases ea
    have := dKey_eq r2 e2
    subst this
    refine ⟨valV xs k, .inl ⟨xs, k, q1, rfl, rfl⟩, ?_⟩
    rcases q2.val (k := k) with ⟨v, d', e4, e5, e6⟩ | ⟨e4, e5⟩
    · rw [valV_valA, e4]; rw [e5] at hQ
      exact hQ.val w2.st e6
    · rw [valV_valA, e4]; rw [e5] at hQ
      exact hQ.val w2.st .non
  · cases hf
theorem v_get2 (hu : X.A.units + 1 < cLine) (ho : VE X E o fa) (ha : VE X E a fb) (hb : VE X E b fc) (m : M2 X o "get" apos a b cpos) : VE X E (.Call (.Attribute o "get" apos) [a, b] [] cpos) (fGet2 fa fb fc) := by
  refine PE.imp (pe_dget2 hu ho ha hb m) fun σ H Q ⟨ρ, env, st, r, w, hf, hQ⟩ => ?_
  refine rd_bind w hf hQ fun x dx s1 H1 ρ1 t1 w1 r1 hf hQ => ?_
  split at hf
  case isFalse => cases hf
  rename_i hd
  obtain ⟨q, rfl, isd⟩ := isD_of w1.st r1 hd
  refine ⟨q, rfl, isd, ?_⟩
  refine rd_bind w1 hf hQ fun y dy s2 H2 ρ2 t2 w2 r2 hf hQ => ?_
  refine rd_bind w2 hf hQ fun z dz s3 H3 ρ3 t3 w3 r3 hf hQ => ?_
  split at hf
  · rename_i kvs k e1 e2
    cases hf
    obtain ⟨a, xs, ea, q1, q2⟩ := dctOf_inv w3.st (r1.step (t2.trans t3)) e1
    cases ea
    have := dKey_eq r2 e2
    subst this
    refine ⟨valV xs k, .inl ⟨xs, k, q1, rfl, rfl⟩, ?_⟩
    rcases q2.val (k := k) with ⟨v, d', e4, e5, e6⟩ | ⟨e4, e5⟩
    · rw [valV_valA, e4]; rw [e5] at hQ
      exact hQ.val w3.st e6
    · rw [valV_valA, e4]; rw [e5] at hQ
      exact hQ.val w3.st r3
  · cases hf
theorem s_putK (hu : X.A.units + 1 < cLine) (ho : VE X E o fa) (hi : VE X E i fb) (hv : VE X E value fc) (hs : swapsWith value (some (.Subscript o i pos')) pos.line X.env = pure false := by rfl) :
    VS X E (.Assign [.Subscript o i pos'] value pos) (fPutK fa fb fc) := by
  refine PS.imp (ps_dput hu ho hi hv hs) fun Dn σ H ⟨ρ, env, st, r, w, hf, hQ⟩ => ?_
  refine rd_sb w hf hQ fun u du s1 H1 ρ1 t1 w1 r1 hf hQ => ?_
  refine rd_sb w1 hf hQ fun x dx s2 H2 ρ2 t2 w2 r2 hf hQ => ?_
  refine rd_sb w2 hf hQ fun y dy s3 H3 ρ3 t3 w3 r3 hf hQ => ?_
  cases e1 : dKey dy with
  | none => rw [e1] at hf; cases dx <;> cases hf
  | some k =>
    rw [e1] at hf
    cases dx <;> first | cases hf | skip
    rename_i n
    simp only at hf
    split at hf
    · rename_i kvs hk
      split at hf
      · rename_i hl
        cases hf
        obtain ⟨a, rfl, q1⟩ := (r2.step t3).ref_inv
        obtain ⟨xs, q2, q3⟩ := w3.st.dctAt q1 hk
        have := dKey_eq r3 e1
        subst this
        have nf : NoFz (H3 a) := by rw [q2]; trivial
        have t4 : Step ρ3 H3 ρ3 (upd H3 a (.dK (putK xs k u))) := .write q1 nf
        refine ⟨a, _, rfl, .inl ⟨xs, k, q2, rfl, ?_, rfl⟩, ?_⟩
        · exact Nat.lt_of_le_of_lt (m := 1000000) (by rw [q3.1]; exact hl) (by decide)
        · exact hQ σ _ ρ3 t4 ⟨w3.en.step t4, w3.st.write q1 nf ⟨_, upd_same, (DRk.put q3 ((r1.step t2).step t3)).step t4⟩⟩
      · cases hf
    · cases hf
end
end Fx
/-! Fx: sorted(d), dict(..), walks over dicts, repr. -/
namespace Fx
open PySem PySem.Spec PyProof.Rows L2

/-! ### sorted texts -/
def leS (a b : Str) : Bool := !ltCps b.cps.toList a.cps.toList
def sortS (ks : List Str) : List Str := ks.mergeSort leS
theorem leS_iff {a b : Str} : leS a b = true ↔ ¬ b.cps.toList < a.cps.toList := by
  unfold leS
  rw [ltCps_eq]
  simp
theorem leS_trans (a b c : Str) (h1 : leS a b = true) (h2 : leS b c = true) : leS a c = true :=
  leS_iff.mpr (List.le_trans (leS_iff.mp h1) (leS_iff.mp h2))
theorem leS_total (a b : Str) : (leS a b || leS b a) = true := by
  rw [Bool.or_eq_true, leS_iff, leS_iff]
  exact List.le_total _ _
theorem leS_anti {a b : Str} (h1 : leS a b = true) (h2 : leS b a = true) : a = b := by
  have h := List.le_antisymm (leS_iff.mp h1) (leS_iff.mp h2)
  obtain ⟨⟨a⟩⟩ := a
  obtain ⟨⟨b⟩⟩ := b
  exact congrArg _ (congrArg _ h)
theorem risingS_all : ∀ {l : List Str} {p : Str}, risingS p l = true → (∀ x ∈ l, leS p x = true) ∧ l.Pairwise fun a b => leS a b = true
  | [], p, _ => ⟨fun _ m => (nomatch m), List.Pairwise.nil⟩
  | x :: r, p, h => by
    unfold risingS at h
    obtain ⟨h1, h2⟩ := Bool.and_eq_true_iff.mp h
    obtain ⟨q1, q2⟩ := risingS_all h2
    refine ⟨fun y m => ?_, List.pairwise_cons.mpr ⟨q1, q2⟩⟩
    rcases List.mem_cons.mp m with rfl | m
    · exact h1
    · exact leS_trans _ _ _ h1 (q1 y m)
theorem sortedS_pw {l : List Str} (h : sortedS l = true) : l.Pairwise fun a b => leS a b = true := by
  cases l with
  | nil => exact List.Pairwise.nil
  | cons x r =>
    obtain ⟨q1, q2⟩ := risingS_all (show risingS x r = true from h)
    exact List.pairwise_cons.mpr ⟨q1, q2⟩
theorem sortS_uniq {ys ks : List Str} (p : ys.Perm ks) (h : ys.Pairwise fun a b => leS a b = true) : ys = sortS ks :=
  List.Perm.eq_of_pairwise (le := fun a b => leS a b = true) (fun a b _ _ h1 h2 => leS_anti h1 h2) h (List.pairwise_mergeSort leS_trans leS_total ks) (p.trans (List.mergeSort_perm ks leS).symm)
/-- the keys, all texts -/
def keysS : List (Key × D) → Option (List Str)
  | [] => some []
  | (.inr x, _) :: r => (keysS r).map (x :: ·)
  | (.inl _, _) :: _ => none
theorem keysS_eq : ∀ {kvs : List (Key × D)} {ks : List Str}, keysS kvs = some ks → kvs.map (·.1) = ks.map Sum.inr
  | [], ks, h => by cases h; rfl
  | (.inr x, d) :: r, ks, h => by
    obtain ⟨zs, e, rfl⟩ := map_some (show (keysS r).map (x :: ·) = some ks from h)
    rw [List.map_cons, List.map_cons, keysS_eq e]
  | (.inl i, d) :: r, ks, h => by cases h
def bSortK (st : Sto) : List D → Option D
  | [d] => (dctOf st d).bind fun kvs => (keysS kvs).bind fun ks => if ks.length < 64 then some (.lst ((sortS ks).map .str)) else none
  | _ => none
def rSortK : List V → Hp → VK → Prop := fun xs H Q => ∃ (a : Addr) (kvs : List (Key × V)) (ks : List Str), xs = [.ref a] ∧ Rd H a (.dK kvs) ∧ kvs.map (·.1) = ks.map Sum.inr ∧ ks.length < 64 ∧
    ∀ ys p, ys.Perm ks → sortedS ys = true → H p = none → Q (.ref p) (upd H p (.lst (ys.map V.str)))
theorem call_sortK {X : Cx} (hc : X.calm = true) : CallR X (.builtin "sorted") rSortK := call_sortedD hc
theorem strs_dr {K : PySem.W.Frag} {H : Hp} {ρ : Mp} : ∀ l : List Str, DRs K H ρ (l.map V.str) (l.map D.str)
  | [] => .nil
  | x :: l => .cons (.str x) (strs_dr l)
theorem sortK_p {K : PySem.W.Frag} : CaP K rSortK bSortK := by
  intro ρ H st xs ds d Q hs hx e h
  unfold bSortK at e
  split at e
  · obtain ⟨x, rfl, q⟩ := one_inv hx
    obtain ⟨kvs, e1, e⟩ := Option.bind_eq_some_iff.mp e
    obtain ⟨ks, e2, e⟩ := Option.bind_eq_some_iff.mp e
    split at e
    · rename_i hl
      cases e
      obtain ⟨a, ws, rfl, q1, q2⟩ := dctOf_inv hs q e1
      refine ⟨a, ws, ks, rfl, q1, by rw [q2.keys, keysS_eq e2], hl, fun ys p pm sr hp => ?_⟩
      have := sortS_uniq pm (sortedS_pw sr)
      subst this
      obtain ⟨sm, q⟩ := new_lst hs hp (strs_dr (K := K) (H := H) (ρ := ρ) (sortS ks))
      exact h _ _ sm q
    · cases e
  · cases e

/-! ### dict(..) -/
def asPr : D → Option (Key × D)
  | .tup [k, v] => (dKey k).map fun k => (k, v)
  | .frt [k, v] => (dKey k).map fun k => (k, v)
  | _ => none
def asPrs : List D → Option (List (Key × D))
  | [] => some []
  | d :: ds => (asPr d).bind fun p => (asPrs ds).map (p :: ·)
def fNewD (g : Sto → List D → Option (List (Key × D))) (a : FA) : FE := fun env st => bnd (a env st) fun ds s1 => (g s1 ds).map fun kvs => .ok (.ref s1.length) (s1 ++ [.dct kvs])
def CdP (K : PySem.W.Frag) (r : List V → Hp → VK → Prop) (g : Sto → List D → Option (List (Key × D))) : Prop := ∀ (ρ : Mp) (H : Hp) (st : Sto) (xs : List V) (ds : List D) (kvs : List (Key × D)) (Q : VK), StR K H ρ st → DRs K H ρ xs ds → g st ds = some kvs →
  (∀ p ys, H p = none → DRk K H ρ ys kvs → Q (.ref p) (upd H p (.dK ys))) → r xs H Q
section
variable {X : Cx} {E : XK} {pos p : Pos} {fs : FA} {e : Expr} {es : List Expr} {K : PySem.W.Frag}
theorem v_newD {r : List V → Hp → VK → Prop} {g : Sto → List D → Option (List (Key × D))} (hc : CallR X (.type "dict") r) (hr : CdP X.K r g) (hg : Gl X "dict") (hm : X.mg "dict" = none) (hv : bootBuiltins "dict" = some (.type "dict")) (ha : VA X E (e :: es) fs)
    (he : starEach (e :: es) X.env = (false, eval e X.env) :: starEach es X.env := by rfl) (hpl : (backTo pos (starEach es X.env)).any (·.1) = false := by rfl) : VE X E (.Call (.Name "dict" p) (e :: es) [] pos) (fNewD g fs) := by
  refine PE.imp (pe_callTy hc hg hm hv ha (by decide) (by decide) he hpl) fun σ H Q ⟨ρ, env, st, r, w, hf, hQ⟩ => ?_
  refine rd_bind w hf hQ fun xs ds s1 H1 ρ1 t1 w1 r1 hf hQ => ?_
  obtain ⟨kvs, e1, rfl⟩ := map_some hf
  refine hr ρ1 H1 s1 xs ds kvs Q w1.st r1 e1 fun p ys hp hk => ?_
  have s : Step ρ1 H1 (ρ1.add p) (upd H1 p (.dK ys)) := .cell hp
  exact hQ _ _ _ s (w1.st.newCell hp ⟨ys, upd_same, hk.step s⟩) (.ref (cell_ix w1.st))
def bDictD (st : Sto) : List D → Option (List (Key × D))
  | [d] => dctOf st d
  | _ => none
theorem dictD_p : CdP K (fun xs H Q => ∃ (a : Addr) (kvs : List (Key × V)), xs = [.ref a] ∧ Rd H a (.dK kvs) ∧ ∀ p, H p = none → Q (.ref p) (upd H p (.dK kvs))) bDictD := by
  intro ρ H st xs ds kvs Q hs hx e h
  unfold bDictD at e
  split at e
  · obtain ⟨x, rfl, q⟩ := one_inv hx
    obtain ⟨a, ws, rfl, q1, q2⟩ := dctOf_inv hs q e
    exact ⟨a, ws, rfl, q1, fun p hp => h p ws hp q2⟩
  · cases e
def bDictL (st : Sto) : List D → Option (List (Key × D))
  | [d] => ((seqS st d).bind asPrs).map (mergeA [])
  | _ => none
theorem asPr_inv {H : Hp} {ρ : Mp} {v : V} {d : D} {q : Key × D} (h : DR K H ρ v d) (e : asPr d = some q) : ∃ (p : Addr) (u : V), v = .ref p ∧ SqT K H p [kV q.1, u] ∧ DR K H ρ u q.2 := by
  unfold asPr at e
  split at e
  · obtain ⟨k, e1, rfl⟩ := map_some e
    obtain ⟨a, us, rfl, q1, q2⟩ := h.tup_inv
    obtain ⟨u, w, rfl, q3, q4⟩ := two_inv q2
    rw [dKey_eq q3 e1] at q1
    exact ⟨a, w, rfl, q1.seq, q4⟩
  · obtain ⟨k, e1, rfl⟩ := map_some e
    obtain ⟨a, us, rfl, q1, q2⟩ := h.frt_inv
    obtain ⟨u, w, rfl, q3, q4⟩ := two_inv q2
    rw [dKey_eq q3 e1] at q1
    exact ⟨a, w, rfl, q1.seq, q4⟩
  · cases e
theorem asPrs_inv {H : Hp} {ρ : Mp} : ∀ {ds : List D} {vs : List V} {qs : List (Key × D)}, DRs K H ρ vs ds → asPrs ds = some qs → ∃ (ps : List Addr) (kvs : List (Key × V)), vs = ps.map V.ref ∧ Paired (fun p kv => SqT K H p [kV kv.1, kv.2]) ps kvs ∧ DRk K H ρ kvs qs
  | [], vs, qs, h, e => by cases e; rw [h.nil_inv]; exact ⟨[], [], rfl, .nil, .nil⟩
  | d :: ds, vs, qs, h, e => by
    obtain ⟨q, e1, e⟩ := Option.bind_eq_some_iff.mp (show (asPr d).bind _ = some qs from e)
    obtain ⟨rs, e2, rfl⟩ := map_some e
    obtain ⟨x, xs, rfl, q1, q2⟩ := h.cons_inv
    obtain ⟨p, u, rfl, q3, q4⟩ := asPr_inv q1 e1
    obtain ⟨ps, kvs, rfl, q5, q6⟩ := asPrs_inv q2 e2
    exact ⟨p :: ps, (q.1, u) :: kvs, rfl, .cons q3 q5, .cons rfl q4 q6⟩
def rDictL (K : PySem.W.Frag) : List V → Hp → VK → Prop := fun xs H Q => ∃ (a : Addr) (ps : List Addr) (kvs : List (Key × V)), xs = [.ref a] ∧ SqL K H a (ps.map V.ref) ∧ Paired (fun p kv => SqT K H p [kV kv.1, kv.2]) ps kvs ∧
    ∀ p, H p = none → Q (.ref p) (upd H p (.dK (mergeK [] kvs)))
theorem dictL_p : CdP K (rDictL K) bDictL := by
  intro ρ H st xs ds kvs Q hs hx e h
  unfold bDictL at e
  split at e
  · obtain ⟨x, rfl, q⟩ := one_inv hx
    obtain ⟨qs, e1, rfl⟩ := map_some e
    obtain ⟨zs, e2, e3⟩ := Option.bind_eq_some_iff.mp e1
    obtain ⟨a, ws, rfl, q1, q2⟩ := seqS_inv hs q e2
    obtain ⟨ps, kvs, rfl, q3, q4⟩ := asPrs_inv q2 e3
    exact ⟨a, ps, kvs, rfl, q1, q3, fun p hp => h p _ hp (DRk.merge q4 .nil)⟩
  · cases e
/-- dict(t), t a tuple of pairs whose object is known -/
def rDictT (K : PySem.W.Frag) : List V → Hp → VK → Prop := fun xs H Q => ∃ (a : Addr) (o : Obj) (ps : List Addr) (kvs : List (Key × V)), xs = [.ref a] ∧ H a = some (.frz o (.tup (ps.map V.ref))) ∧ o.dict = none ∧ Paired (fun p kv => SqT K H p [kV kv.1, kv.2]) ps kvs ∧
    ∀ p, H p = none → Q (.ref p) (upd H p (.dK (mergeK [] kvs)))
theorem keyed_pairs {pins : List (Addr × Obj)} {σ : L2.St} {H : Hp} {s : Shared} (I : Inv X pins σ H s) : ∀ {ps : List Addr} {kvs : List (Key × V)}, Paired (fun p kv => SqT X.K H p [kV kv.1, kv.2]) ps kvs →
    ∃ qs : List (Key × Value × Value), KV kvs (qs.map fun q => (q.1, q.2.2)) ∧ Paired (fun p (q : Key × Value × Value) => IsTup s.heap p #[q.2.1, q.2.2] ∧ keyIs q.1 q.2.1 = true) ps qs
  | _, _, .nil => ⟨[], .nil, .nil⟩
  | _, _, .cons (b := kv) h t => by
    obtain ⟨qs, r1, r2⟩ := keyed_pairs I t
    obtain ⟨its, rv, ht, _⟩ := I.tuple h
    obtain ⟨u, y, rfl, ru, ry⟩ := vals2 rv
    exact ⟨(kv.1, u, y) :: qs, .cons ⟨rfl, ry⟩ r1, .cons ⟨ht, kV_is (P := X.prog) (w := X.w) ru⟩ r2⟩
theorem call_dictT (hc : X.calm = true) : CallR X (.type "dict") (rDictT X.K) := by
  rintro pins s σ H xs us Q I r ⟨a, o, ps, kvs, rfl, ha, ho, hp, q⟩
  obtain ⟨u, rfl, ru⟩ := vals1 r
  obtain rfl : u = Value.ref a := ru
  obtain ⟨hget, hz, its, rv, ob, hob, hcl, n, hdat⟩ := I.hok _ _ ha
  rw [hget] at hob
  cases hob
  have := refs_at rv
  subst this
  rw [List.length_map] at hz
  obtain ⟨qs, r1, r2⟩ := keyed_pairs I hp
  have len : ps.length = qs.length := Paired.length r2
  have arg := PairArg.tuple (prog := X.prog) (w := X.w) a (ps.map Value.ref).toArray (fun j => ps.getD j 0) (qs.map (·.2))
  refine call_dict_pairs (knd := mixKind X.prog X.w) (kvs := qs.map fun q => (q.1, q.2.2)) arg (I.ok.hd hc) ⟨⟨o, n, hget, hcl, ho, hdat⟩, by simp [len], fun j k v e => ?_⟩ ⟨by simp, fun i key v e => ?_⟩ (by simpa [← len] using hz) fun h' tk hd' keep => ?_
  · rw [List.getElem?_map] at e
    cases e2 : qs[j]? with
    | none => rw [e2] at e; cases e
    | some z =>
      rw [e2] at e
      have e : z.2 = (k, v) := Option.some.inj e
      obtain ⟨b, e3, e4, e5⟩ : ∃ b, ps[j]? = some b ∧ IsTup s.heap b #[z.2.1, z.2.2] ∧ keyIs z.1 z.2.1 = true := by
        have hj : j < ps.length := by rw [len]; exact (List.getElem?_eq_some_iff.mp e2).1
        obtain ⟨y, e6, e7⟩ := paired_get r2 (List.getElem?_eq_getElem hj)
        rw [e2] at e6
        cases e6
        exact ⟨_, List.getElem?_eq_getElem hj, e7⟩
      refine ⟨by simp [e3], .inl ?_⟩
      have : ps.getD j 0 = b := by simp [e3]
      show s.heap.IsTuple (ps.getD j 0) #[k, v]
      rw [this]
      rw [e] at e4
      exact e4
  · rw [PairRel, List.getElem?_map] at e
    cases e2 : qs[i]? with
    | none => rw [e2] at e; cases e
    | some z =>
      rw [e2] at e
      have e : z.2 = (key, v) := Option.some.inj e
      have hj : i < ps.length := by rw [len]; exact (List.getElem?_eq_some_iff.mp e2).1
      obtain ⟨y, e6, e7, e8⟩ := paired_get r2 (List.getElem?_eq_getElem hj)
      rw [e2] at e6
      cases e6
      rw [e] at e8
      exact ⟨z.1, by rw [List.getElem?_map, e2]; simp [e], e8⟩
  · have hm : (s.heap.objs.size == sysModules) = false := beq_eq_false_iff_ne.mpr (Nat.ne_of_gt I.big)
    have hlen : (mergeK [] kvs).length ≤ sizeLine := by
      have := length_mergeK kvs []
      have h2 : kvs.length = ps.length := (Paired.length hp).symm
      simp only [List.length_nil] at this
      omega
    exact ⟨.ref s.heap.objs.size, _, I.laid (o := .dK (mergeK [] kvs)) (t' := tk) (fun b o e => keep b o (by simp) e) (Nat.le_refl _) ⟨hlen, hm, merged [] (qs.map fun q => (q.1, q.2.2)), KV.merge r1 .nil, hd'⟩, rfl, q _ (I.hok.fresh (Nat.le_refl _))⟩
def bDictT (st : Sto) : List D → Option (List (Key × D))
  | [.tup ds] => (asPrs ds).map (mergeA [])
  | _ => none
theorem dictT_p : CdP K (rDictT K) bDictT := by
  intro ρ H st xs ds kvs Q hs hx e h
  unfold bDictT at e
  split at e
  · obtain ⟨x, rfl, q⟩ := one_inv hx
    obtain ⟨qs, e1, rfl⟩ := map_some e
    obtain ⟨a, ws, rfl, ⟨n, o, q1, q5⟩, q2⟩ := q.tup_inv
    obtain ⟨ps, kvs, rfl, q3, q4⟩ := asPrs_inv q2 e1
    exact ⟨a, o, ps, kvs, rfl, q1, q5, q3, fun p hp => h p _ hp (DRk.merge q4 .nil)⟩
  · cases e
end

/-! ### walks -/
/-- a list or a tuple -/
def iAny (fa : FE) : FI := fun env st => bnd (fa env st) fun d s1 => match seqL d with
  | some xs => some (.ok xs s1)
  | none => (seqT d).map (R.ok · s1)
/-- the dict walked is locked for good -/
def lockC (n : Nat) (st : Sto) : Option (List (Key × D) × Sto) := match st[n]? with
  | some (.dct kvs) => some (kvs, st.set n (.dcf kvs))
  | some (.dcf kvs) => some (kvs, st)
  | _ => none
def lockD (d : D) (st : Sto) : Option (List (Key × D) × Sto) := match d with
  | .ref n => lockC n st
  | _ => none
def iItems (fa : FE) : FI := fun env st => bnd (fa env st) fun d s1 => (lockD d s1).map fun z => .ok (z.1.map fun p => .frt [keyD p.1, p.2]) z.2
def iKeys (fa : FE) : FI := fun env st => bnd (fa env st) fun d s1 => (lockD d s1).map fun z => .ok (z.1.map fun p => keyD p.1) z.2
section
variable {X : Cx} {E : XK} {pos p apos cpos : Pos} {fa : FE} {e tg a b : Expr}
theorem i_any (h : VE X E e fa) : VI X E tg e (iAny fa) := by
  refine ⟨fun pins s σ H R I ⟨ρ, env, st, r, w, hf, hQ⟩ => ?_⟩
  have hf0 : bnd (fa env st) (fun d s1 => match seqL d with | some xs => some (Fx.R.ok xs s1) | none => (seqT d).map (Fx.R.ok · s1)) = some r := hf
  rcases bnd_some hf0 with ⟨d, s1, e1, e2⟩ | ⟨ex, s1, e1, e2⟩
  · cases q : seqL d with
    | some xs =>
      rw [q] at e2
      exact (i_list (tg := tg) h).run pins s σ H R I ⟨ρ, env, st, r, w, by unfold iLst; rw [e1, bnd_ok, q]; exact e2, hQ⟩
    | none =>
      rw [q] at e2
      exact (i_tup (tg := tg) h).run pins s σ H R I ⟨ρ, env, st, r, w, by unfold iTp; rw [e1, bnd_ok]; exact e2, hQ⟩
  · exact (i_list (tg := tg) h).run pins s σ H R I ⟨ρ, env, st, r, w, by unfold iLst; rw [e1, bnd_exc, e2], hQ⟩
/-- what an expression tells may be locked -/
def tLk (t : TE) : TE := fun σ H Q => t σ H fun x H1 => (∃ d u, x = .ref d ∧ H1 d = some u ∧ Mut (some u) ∧ ∀ od, Q x (upd H1 d (.frz od u))) ∨ Q x H1
theorem pe_lk {t : TE} (h : PE X e t) : PE X e (tLk t) := by
  refine ⟨fun pins s σ H Q I hq => thn (h.run pins s σ H _ I hq) fun v s1 ⟨x, H1, I1, rx, q⟩ => ?_⟩
  rcases q with ⟨d, u, rfl, hd, mu, q⟩ | q
  · obtain ⟨od, I2⟩ := I1.lock hd mu
    exact ⟨_, _, I2, rx, q od⟩
  · exact ⟨x, H1, I1, rx, q⟩
theorem lk_rd {α β : Type} {rel2 : Hp → Mp → β → α → Prop} {σ : L2.St} {H : Hp} {ρ : Mp} {env : En} {st : Sto} {k : List (Key × D) → α} {r : R α} {Q : β → Hp → Prop} {Qv : VK} (w : Wd X.K H ρ σ env st)
    (hf : bnd (fa env st) (fun d s1 => (lockD d s1).map fun z => Fx.R.ok (k z.1) z.2) = some r) (hQ : Fin rel2 X.K E ρ H Q r)
    (cont : ∀ a o xs kvs H1 ρ1 s1, Step ρ H ρ1 H1 → StR X.K H1 ρ1 s1 → H1 a = some (.frz o (.dK xs)) → DRk X.K H1 ρ1 xs kvs → r = .ok (k kvs) s1 → Qv (.ref a) H1) : tLk (rdE X.K E fa) σ H Qv := by
  refine rd_bind w hf hQ fun x dx s1 H1 ρ1 t1 w1 r1 hf hQ => ?_
  obtain ⟨⟨kvs, s2⟩, e1, rfl⟩ := map_some hf
  cases r1 <;> first | cases e1 | skip
  rename_i n a h
  unfold lockD lockC at e1
  simp only at e1
  split at e1
  · rename_i ks hk
    cases e1
    obtain ⟨xs, q1, q2⟩ := w1.st.dctAt h hk
    refine .inl ⟨a, _, rfl, q1, trivial, fun od => ?_⟩
    have nf : NoFz (H1 a) := by rw [q1]; trivial
    have t2 : Step ρ1 H1 ρ1 (upd H1 a (.frz od (.dK xs))) := .write h nf
    exact cont a od xs _ _ ρ1 _ (t1.trans t2) (w1.st.write h nf (c := .dcf kvs) ⟨od, xs, upd_same, q2.step t2⟩) upd_same (q2.step t2) rfl
  · rename_i ks hk
    cases e1
    obtain ⟨o, xs, q1, q2⟩ := w1.st.cell _ _ _ h hk
    exact .inr (cont a o xs _ _ ρ1 _ t1 w1.st q1 q2 rfl)
  · cases e1
theorem DRk.get {K : PySem.W.Frag} {H : Hp} {ρ : Mp} {xs : List (Key × V)} {ds : List (Key × D)} (h : DRk K H ρ xs ds) {i : Nat} {q : Key × D} (e : ds[i]? = some q) : ∃ v, xs[i]? = some (q.1, v) ∧ DR K H ρ v q.2 := by
  have hi : i < xs.length := by rw [h.1]; exact (List.getElem?_eq_some_iff.mp e).1
  obtain ⟨e1, e2⟩ := h.2 i _ _ (List.getElem?_eq_getElem hi) e
  exact ⟨_, by rw [List.getElem?_eq_getElem hi, ← e1], e2⟩
theorem i_keys (h : VE X E e fa) : VI X E tg e (Fx.iKeys fa) := by
  refine PI.imp (pi_keys (pe_lk h)) fun σ H Q ⟨ρ, env, st, r, w, hf, hQ⟩ => ?_
  refine lk_rd (fa := fa) (k := fun z : List (Key × D) => z.map fun p : Key × D => keyD p.1) w hf hQ fun a o xs kvs H1 ρ1 s1 t1 hs1 ha hk er => ?_
  subst er
  refine ⟨a, o, rfl, .inl ⟨xs, ha, hQ _ H1 ρ1 t1 hs1 fun ρ2 H2 st2 t2 hs2 => ⟨fun i d hd => ?_, fun i hi => ⟨t2.fz _ _ _ ha, by rw [hk.1]; simpa using hi⟩⟩⟩⟩
  rw [List.getElem?_map] at hd
  obtain ⟨z, e1, rfl⟩ := map_some hd
  obtain ⟨v, e2, e3⟩ := hk.get e1
  refine ⟨⟨t2.fz _ _ _ ha, (List.getElem?_eq_some_iff.mp e2).1⟩, fun x H' hy => ?_⟩
  obtain ⟨rfl, k, v', e4, rfl⟩ := hy
  rw [e2] at e4
  cases e4
  exact ⟨Same.refl _, keyD_dr⟩
theorem i_items {elts : List Expr} {kk : Nat} {tpos : Pos} (h : VE X E e fa) (hbase : attributeBase e "items" X.env (eval e X.env) = eval e X.env := by rfl) (hline : (apos.endLine == cpos.line) = true := by rfl) :
    VI X E (.Tuple elts kk tpos) (.Call (.Attribute e "items" apos) [] [] cpos) (Fx.iItems fa) := by
  refine PI.imp (pi_items (pe_lk h) hbase hline) fun σ H Q ⟨ρ, env, st, r, w, hf, hQ⟩ => ?_
  refine lk_rd (fa := fa) (k := fun z : List (Key × D) => z.map fun p : Key × D => D.frt [keyD p.1, p.2]) w hf hQ fun a o xs kvs H1 ρ1 s1 t1 hs1 ha hk er => ?_
  subst er
  refine ⟨a, o, xs, rfl, ha, hQ _ H1 ρ1 t1 hs1 fun ρ2 H2 st2 t2 hs2 => ⟨fun i d hd => ?_, fun i hi => ⟨t2.fz _ _ _ ha, by rw [hk.1]; simpa using hi⟩⟩⟩
  rw [List.getElem?_map] at hd
  obtain ⟨z, e1, rfl⟩ := map_some hd
  obtain ⟨v, e2, e3⟩ := hk.get e1
  refine ⟨⟨t2.fz _ _ _ ha, (List.getElem?_eq_some_iff.mp e2).1⟩, fun x H' hy => ?_⟩
  obtain ⟨T, k, v', e4, rfl, hT, rfl⟩ := hy
  rw [e2] at e4
  cases e4
  obtain ⟨sm, q⟩ := new_frt hs2 hT (.cons (keyD_dr (k := z.1)) (.cons (e3.far t2) .nil))
  exact ⟨sm, q⟩
end

/-! ### repr -/
theorem _root_.L2.Room.u1 {k : Nat} {A : Around} (r : Room k A) : A.units + 1 < cLine := by have := r.un; omega
theorem _root_.L2.Room.u100 {k : Nat} {A : Around} (r : Room k A) : A.units + 100 < cLine := by have := r.un; omega
def bRepr (st : Sto) : List D → Option D
  | [d] => match pdS st d with
    | some e => if SeqAt.shaped e = true ∧ e.showable = true ∧ e.shown.length ≤ 1000000 then some (.str e.shown) else none
    | none => none
  | _ => none
def rRepr (K : PySem.W.Frag) : List V → Hp → VK → Prop := fun xs H Q => ∃ x e, xs = [x] ∧ Dp K H x e ∧ SeqAt.shaped e = true ∧ e.showable = true ∧ e.shown.length ≤ sizeLine ∧ Q (.str e.shown) H
theorem call_repr {X : Cx} (hgd : X.A.guards = some []) (hu : X.A.units + 100 < cLine) : CallR X (.builtin "repr") (rRepr X.K) := by
  rintro pins s σ H xs us Q I r ⟨x, e, rfl, hd, sh, so, sz, q⟩
  obtain ⟨u, rfl, ru⟩ := vals1 r
  obtain ⟨as, rd⟩ := Dp.reads I e x u hd ru
  have nd : e.hasDict = true → sysModules ∉ as := PyData.noDict_hsm (PyData.hasDict_of_canLay e (SeqAt.canLay_of_shaped sh))
  have dp := SeqAt.depth_of_shaped sh
  cases u with
  | ref a => exact repr_of_reads' rd so nd hgd (by omega) (fun b o e => e) (fun h' t tk keep => ⟨.str e.shown, H, I.kept (t' := tk) keep, ⟨t, rfl⟩, q⟩) sz
  | none => cases rd; exact PySem.P.repr_of_none ⟨.str _, H, I.tok _, ⟨_, rfl⟩, q⟩
  | bool b => cases rd; exact PySem.P.repr_of_bool ⟨.str _, H, I.tok _, ⟨_, rfl⟩, q⟩
  | int i t => cases rd; exact PySem.P.repr_of_int (of_decide_eq_true so) ⟨.str _, H, I.tok _, ⟨_, rfl⟩, q⟩
  | str x t => cases rd; exact PySem.P.repr_of_str ⟨.str _, H, I.tok _, ⟨_, rfl⟩, q⟩ sz
  | _ => cases rd
theorem repr_p {K : PySem.W.Frag} : CaP K (rRepr K) bRepr := by
  intro ρ H st xs ds d Q hs hx e h
  unfold bRepr at e
  split at e
  · obtain ⟨x, rfl, q⟩ := one_inv hx
    split at e
    · rename_i pe he
      split at e
      · rename_i hc
        cases e
        exact ⟨x, pe, rfl, pdS_dp hs he q, hc.1, hc.2.1, le_line hc.2.2, h _ H (Same.refl H) (.str _)⟩
      · cases e
    · cases e
  · cases e

/-! ### texts compared -/
def dEqS (_ : Sto) (x y : D) : Option D := match x, y with
  | .str a, .str b => some (.bl (decide (a = b)))
  | _, _ => none
def dNeS (_ : Sto) (x y : D) : Option D := match x, y with
  | .str a, .str b => some (.bl (!decide (a = b)))
  | _, _ => none
theorem strV_dec {a b : Str} : decide (V.str a = V.str b) = decide (a = b) := by
  by_cases h : a = b <;> simp [h]
theorem eqS_p {K : PySem.W.Frag} : OpP K rEq dEqS := by
  intro ρ H st x y dx dy d Q hs hx hy e h
  unfold dEqS at e
  split at e
  · cases e; cases hx; cases hy
    exact ⟨rfl, h _ H (Same.refl H) (by rw [strV_dec]; exact .bl _)⟩
  · cases e
theorem neS_p {K : PySem.W.Frag} : OpP K rNe dNeS := by
  intro ρ H st x y dx dy d Q hs hx hy e h
  unfold dNeS at e
  split at e
  · cases e; cases hx; cases hy
    exact ⟨rfl, h _ H (Same.refl H) (by rw [strV_dec]; exact .bl _)⟩
  · cases e

/-! ### a def's cells that nobody knows any more are dropped -/
open Classical in
noncomputable def cl (F : DF) : DF := fun ds st => match F ds st with
  | some (.ok d s) => if st.length ≤ s.length ∧ D.ok st.length d = true ∧ ∀ (i : Nat) (c : Cell), i < st.length → s[i]? = some c → st[i]? = some c ∨ c.ok st.length = true then some (.ok d (s.take st.length)) else none
  | _ => none
theorem df_cl {P : Program} {w : World} {K : PySem.W.Frag} {mg : Str → Option Value} {base : Heap} {k n : Nat} {x : Str} {F : DF} (h : Df P w K mg base k x n F) : Df P w K mg base k x n (cl F) := by
  refine df_imp h fun ds st r hn ho hs hg => ?_
  unfold cl at hg
  split at hg
  · rename_i d s e
    split at hg
    · rename_i c
      obtain ⟨c1, c2, c3⟩ := c
      cases hg
      have len : (s.take st.length).length = st.length := by rw [List.length_take]; omega
      refine ⟨d, s.take st.length, s.drop st.length, rfl, by rw [List.take_append_drop]; exact e, .inr ⟨by omega, by rw [len]; exact c2, fun c m => ?_⟩⟩
      rw [len]
      obtain ⟨i, e1⟩ := List.getElem?_of_mem m
      have hi : i < st.length := by have := (List.getElem?_eq_some_iff.mp e1).1; omega
      rw [List.getElem?_take, if_pos hi] at e1
      rcases c3 i c hi e1 with z | z
      · exact hs c (List.mem_of_getElem? z)
      · exact z
    · cases hg
  · cases hg
theorem cl_pure {F : DF} {ds : List D} {st more : Sto} {d : D} (e : F ds st = some (.ok d (st ++ more))) (h : D.ok st.length d = true) : cl F ds st = some (.ok d st) := by
  unfold cl
  rw [e]
  simp only
  rw [if_pos ⟨by simp, h, fun i c hi q => .inl (by rw [List.getElem?_append_left hi] at q; exact q)⟩, List.take_left]
theorem cl_set {F : DF} {ds : List D} {st more : Sto} {d : D} {p : Nat} {c2 : Cell} (e : F ds st = some (.ok d (st.set p c2 ++ more))) (h : D.ok st.length d = true) (hc : c2.ok st.length = true) : cl F ds st = some (.ok d (st.set p c2)) := by
  unfold cl
  rw [e]
  simp only
  rw [if_pos]
  · rw [show st.length = (st.set p c2).length by simp, List.take_left]
  · refine ⟨by simp, h, fun i c hi q => ?_⟩
    rw [List.getElem?_append_left (by simpa using hi)] at q
    by_cases hp : p = i
    · subst hp
      rw [List.getElem?_set_self hi] at q
      cases q
      exact .inr hc
    · rw [List.getElem?_set_ne hp] at q
      exact .inl q
end Fx
/-! Fx: how dicts and repr are worked out. -/
namespace Fx
open PySem PySem.Spec PyProof.Rows L2
section
variable {env : En} {st : Sto}
theorem dAdd_int {i j : Int} : dAdd st (.int i) (.int j) = some (.int (i + j)) := rfl
@[simp] theorem ap_dctC : fDctC env st = some (.ok (.ref st.length) (st ++ [.dct []])) := rfl
@[simp] theorem ap_getK {a b : FE} : fGetK a b env st = bnd (a env st) fun x s1 => bnd (b env s1) fun y s2 => match dctOf s2 x, dKey y with
  | some kvs, some k => (valA kvs k).map (Fx.R.ok · s2)
  | _, _ => none := rfl
@[simp] theorem ap_get1 {a b : FE} : fGet1 a b env st = bnd (a env st) fun x s1 => if isDct s1 x = true then bnd (b env s1) fun y s2 => match dctOf s2 x, dKey y with
  | some kvs, some k => some (.ok ((valA kvs k).getD .non) s2)
  | _, _ => none else none := rfl
@[simp] theorem ap_get2 {a b c : FE} : fGet2 a b c env st = bnd (a env st) fun x s1 => if isDct s1 x = true then bnd (b env s1) fun y s2 => bnd (c env s2) fun z s3 => match dctOf s3 x, dKey y with
  | some kvs, some k => some (.ok ((valA kvs k).getD z) s3)
  | _, _ => none else none := rfl
@[simp] theorem ap_putK {a b c : FE} : fPutK a b c env st = sb (c env st) fun v s1 => sb (a env s1) fun x s2 => sb (b env s2) fun y s3 => match x, dKey y with
  | .ref n, some k => match s3[n]? with
    | some (.dct kvs) => if kvs.length ≤ 1000000 then some (.nx env (s3.set n (.dct (putA kvs k v)))) else none
    | _ => none
  | _, _ => none := rfl
@[simp] theorem ap_newD {g : Sto → List D → Option (List (Key × D))} {a : FA} : fNewD g a env st = bnd (a env st) fun ds s1 => (g s1 ds).map fun kvs => .ok (.ref s1.length) (s1 ++ [.dct kvs]) := rfl
@[simp] theorem ap_iAny {a : FE} : iAny a env st = bnd (a env st) fun d s1 => match seqL d with
  | some xs => some (.ok xs s1)
  | none => (seqT d).map (Fx.R.ok · s1) := rfl
@[simp] theorem ap_iItems {a : FE} : Fx.iItems a env st = bnd (a env st) fun d s1 => (lockD d s1).map fun z => .ok (z.1.map fun p => .frt [keyD p.1, p.2]) z.2 := rfl
@[simp] theorem ap_iKeys {a : FE} : Fx.iKeys a env st = bnd (a env st) fun d s1 => (lockD d s1).map fun z => .ok (z.1.map fun p => keyD p.1) z.2 := rfl
@[simp] theorem dKey_str {x : Str} : dKey (.str x) = some (.inr x) := rfl
@[simp] theorem dKey_int {i : Int} : dKey (.int i) = some (.inl i) := rfl
@[simp] theorem keyD_str {x : Str} : keyD (.inr x) = .str x := rfl
@[simp] theorem keyD_int {x : Int} : keyD (.inl x) = .int x := rfl
/-! a cell at the end of the store -/
@[simp] theorem last_get {c : Cell} : (st ++ [c])[st.length]? = some c := by rw [List.getElem?_append_right (Nat.le_refl _)]; simp
@[simp] theorem last_set {c d : Cell} : (st ++ [c]).set st.length d = st ++ [d] := by rw [List.set_append_right _ _ (Nat.le_refl _)]; simp
theorem dctOf_at {n : Nat} {k : List (Key × D)} (h : st[n]? = some (.dct k)) : dctOf st (.ref n) = some k := by simp only [dctOf, h]
theorem dctOf_atf {n : Nat} {k : List (Key × D)} (h : st[n]? = some (.dcf k)) : dctOf st (.ref n) = some k := by simp only [dctOf, h]
@[simp] theorem last_dct {k : List (Key × D)} : dctOf (st ++ [.dct k]) (.ref st.length) = some k := dctOf_at last_get
theorem isDct_of {d : D} {k : List (Key × D)} (h : dctOf st d = some k) : isDct st d = true := by unfold isDct; rw [h]; rfl
@[simp] theorem last_isDct {k : List (Key × D)} : isDct (st ++ [.dct k]) (.ref st.length) = true := isDct_of last_dct
end
section
variable {α β : Type}
theorem valA_map (f : α → β) (k : Key) : ∀ m : List (Key × α), valA (m.map fun p => (p.1, f p.2)) k = (valA m k).map f
  | [] => rfl
  | p :: r => by
    rw [List.map_cons, valA_cons, valA_cons, valA_map f k r]
    by_cases h : p.1 = k <;> simp [h]
theorem putA_map (f : α → β) (k : Key) (v : α) (m : List (Key × α)) : putA (m.map fun p => (p.1, f p.2)) k (f v) = (putA m k v).map fun p => (p.1, f p.2) := by
  unfold putA
  rw [List.any_map]
  have e : ((fun kv : Key × β => decide (kv.1 = k)) ∘ fun p : Key × α => (p.1, f p.2)) = fun kv => decide (kv.1 = k) := rfl
  rw [e]
  split
  · rw [List.map_map, List.map_map]
    apply List.map_congr_left
    intro p _
    simp only [Function.comp]
    by_cases h : p.1 = k <;> simp [h]
  · rw [List.map_append]; rfl
theorem mergeA_map (f : α → β) : ∀ (more m : List (Key × α)), mergeA (m.map fun p => (p.1, f p.2)) (more.map fun p => (p.1, f p.2)) = (mergeA m more).map fun p => (p.1, f p.2)
  | [], m => rfl
  | p :: r, m => by
    show mergeA (putA (m.map fun p => (p.1, f p.2)) p.1 (f p.2)) (r.map fun p => (p.1, f p.2)) = _
    rw [putA_map, mergeA_map f r]
    rfl
theorem valA_none {m : List (Key × α)} {k : Key} : valA m k = none ↔ k ∉ m.map (·.1) := by
  induction m with
  | nil => simp [valA_nil]
  | cons p r ih =>
    rw [valA_cons, List.map_cons, List.mem_cons, not_or]
    by_cases h : p.1 = k
    · simp [h]
    · rw [if_neg h, ih]
      exact ⟨fun q => ⟨fun e => h e.symm, q⟩, fun q => q.2⟩
theorem valA_some {m : List (Key × α)} {k : Key} (h : (valA m k).isSome = true) : k ∈ m.map (·.1) := by
  by_cases q : k ∈ m.map (·.1)
  · exact q
  · rw [valA_none.mpr q] at h; cases h
theorem putA_keys {m : List (Key × α)} {k : Key} {v : α} : (putA m k v).map (·.1) = if (valA m k).isSome = true then m.map (·.1) else m.map (·.1) ++ [k] := by
  unfold putA
  rw [valA_any]
  split
  · rw [List.map_map]
    apply List.map_congr_left
    intro p _
    simp only [Function.comp]
    by_cases h : p.1 = k <;> simp [h]
  · rw [List.map_append]; rfl
end
/-! ### dicts from texts to ints -/
abbrev MI := List (Key × Int)
def dI (m : MI) : List (Key × D) := m.map fun p => (p.1, .int p.2)
def at0 (m : MI) (x : Str) : Int := (valA m (.inr x)).getD 0
/-- the keys are texts of L, each once -/
structure Kd (L : List Str) (m : MI) : Prop where
  nd : (m.map (·.1)).Nodup
  str : ∀ k ∈ m.map (·.1), ∃ x ∈ L, k = .inr x
theorem Kd.nil {L : List Str} : Kd L [] := ⟨List.nodup_nil, fun _ m => by cases m⟩
theorem Kd.put {L : List Str} {m : MI} {x : Str} {i : Int} (h : Kd L m) (hx : x ∈ L) : Kd L (putA m (.inr x) i) := by
  constructor
  · rw [putA_keys]
    split
    · exact h.nd
    · rename_i n
      rw [List.nodup_append]
      refine ⟨h.nd, by simp, fun a ha b hb e => n ?_⟩
      rw [List.mem_singleton.mp hb] at e
      subst e
      cases q : valA m (.inr x) with
      | none => exact absurd ha (valA_none.mp q)
      | some _ => rfl
  · intro k hk
    rw [putA_keys] at hk
    split at hk
    · exact h.str k hk
    · rcases List.mem_append.mp hk with q | q
      · exact h.str k q
      · exact ⟨x, hx, List.mem_singleton.mp q⟩
theorem at0_put {m : MI} {x y : Str} {i : Int} : at0 (putA m (.inr x) i) y = if y = x then i else at0 m y := by
  unfold at0
  rw [valA_put]
  by_cases h : y = x
  · subst h; simp
  · have : ¬ (Sum.inr y : Key) = .inr x := fun e => h (Sum.inr.inj e)
    simp [h, this]
def ksOf (m : MI) : List Str := m.filterMap fun p => match p.1 with
  | .inr x => some x
  | .inl _ => none
theorem ks_some {L : List Str} : ∀ {m : MI}, (∀ k ∈ m.map (·.1), ∃ x ∈ L, k = .inr x) → keysS (dI m) = some (ksOf m) ∧ m.map (·.1) = (ksOf m).map Sum.inr
  | [], _ => ⟨rfl, rfl⟩
  | (.inl i, v) :: r, h => by
    obtain ⟨x, _, e⟩ := h (.inl i) (by simp)
    cases e
  | (.inr y, v) :: r, h => by
    obtain ⟨e1, e2⟩ := ks_some (L := L) (m := r) fun k hk => h k (List.mem_cons_of_mem _ hk)
    refine ⟨?_, ?_⟩
    · show (keysS (dI r)).map (y :: ·) = _
      rw [e1]; rfl
    · rw [List.map_cons, e2]; rfl
theorem Kd.sorted {L : List Str} {m : MI} (h : Kd L m) (hL : L.Pairwise fun a b => leS a b = true) (hn : L.Nodup) : keysS (dI m) = some (ksOf m) ∧ (ksOf m).length ≤ L.length ∧ sortS (ksOf m) = L.filter fun x => (valA m (.inr x)).isSome := by
  obtain ⟨e1, e2⟩ := ks_some h.str
  have nd : (ksOf m).Nodup := by
    have := h.nd
    rw [e2] at this
    exact (List.pairwise_map.mp this).imp fun h e => h (by rw [e])
  have mem : ∀ x, x ∈ ksOf m ↔ (x ∈ L ∧ (valA m (.inr x)).isSome = true) := fun x => by
    have q : x ∈ ksOf m ↔ (Sum.inr x : Key) ∈ m.map (·.1) := by rw [e2]; simp
    rw [q]
    constructor
    · intro z
      obtain ⟨y, hy, e⟩ := h.str _ z
      cases e
      refine ⟨hy, ?_⟩
      cases w : valA m (.inr x) with
      | none => exact absurd z (valA_none.mp w)
      | some _ => rfl
    · rintro ⟨_, z⟩
      by_cases w : (Sum.inr x : Key) ∈ m.map (·.1)
      · exact w
      · rw [valA_none.mpr w] at z; cases z
  have e3 : sortS (ksOf m) = L.filter fun x => (valA m (.inr x)).isSome := by
    refine (sortS_uniq ?_ (hL.filter _)).symm
    refine (List.perm_ext_iff_of_nodup (hn.filter _) nd).mpr fun x => ?_
    rw [List.mem_filter, mem]
  refine ⟨e1, ?_, e3⟩
  rw [← (List.mergeSort_perm (ksOf m) leS).length_eq]
  show (sortS (ksOf m)).length ≤ _
  rw [e3]
  exact List.length_filter_le _ _
/-- sorted(d) -/
theorem Kd.sortK {L : List Str} {m : MI} {st : Sto} {d : D} (h : Kd L m) (hL : L.Pairwise fun a b => leS a b = true) (hn : L.Nodup) (h64 : L.length < 64) (e : dctOf st d = some (dI m)) : bSortK st [d] = some (.lst ((L.filter fun x => (valA m (.inr x)).isSome).map .str)) := by
  obtain ⟨e1, e2, e3⟩ := h.sorted hL hn
  show (dctOf st d).bind _ = _
  rw [e]
  show (keysS (dI m)).bind _ = _
  rw [e1]
  show (if (ksOf m).length < 64 then some (D.lst ((sortS (ksOf m)).map .str)) else none) = _
  rw [if_pos (by omega), e3]
theorem valA_dI {m : MI} {k : Key} : valA (dI m) k = (valA m k).map .int := valA_map D.int k m
theorem putA_dI {m : MI} {k : Key} {i : Int} : putA (dI m) k (.int i) = dI (putA m k i) := putA_map D.int k i m
theorem dI_length {m : MI} : (dI m).length = m.length := List.length_map ..
theorem Kd.len {L : List Str} {m : MI} (h : Kd L m) (hL : L.Pairwise fun a b => leS a b = true) (hn : L.Nodup) : m.length ≤ L.length := by
  have e : m.length = (m.map (·.1)).length := by simp
  obtain ⟨e1, e2, e3⟩ := h.sorted hL hn
  rw [e, (ks_some h.str).2, List.length_map]
  exact e2
theorem at0_some {m : MI} {x : Str} (h : (valA m (.inr x)).isSome = true) : valA m (.inr x) = some (at0 m x) := by
  unfold at0
  obtain ⟨v, e⟩ := Option.isSome_iff_exists.mp h
  rw [e]; rfl
theorem at0_no {m : MI} {x : Str} (h : ¬ (valA m (.inr x)).isSome = true) : at0 m x = 0 := by
  unfold at0
  cases q : valA m (.inr x) with
  | none => rfl
  | some v => rw [q] at h; exact absurd rfl h
/-- a comprehension over known items that keeps the store -/
theorem lcL_fun {α : Type} {g : FG} {ft : FT} {fe : FE} {env : En} {st : Sto} {h : α → D} {b : α → Bool} {d : α → D} : ∀ {xs : List α},
    (∀ x ∈ xs, ∃ env1, g (h x) env st = some (.ok env1 st) ∧ ft env1 st = some (.ok (b x) st) ∧ (b x = true → fe env1 st = some (.ok (d x) st))) → lcL g ft fe env (xs.map h) st = some (.ok ((xs.filter b).map d) st)
  | [], _ => rfl
  | x :: xs, H => by
    obtain ⟨env1, e1, e2, e3⟩ := H x List.mem_cons_self
    have ih := lcL_fun (xs := xs) fun y m => H y (List.mem_cons_of_mem _ m)
    rw [List.map_cons, ap_lcL1, e1, noX_ok', bnd_ok, e2, noX_ok', bnd_ok]
    cases q : b x with
    | true =>
      rw [if_pos rfl, e3 q, noX_ok', bnd_ok, ih, bnd_ok, List.filter_cons_of_pos q, List.map_cons]
    | false => rw [if_neg (by simp), ih, List.filter_cons_of_neg (by rw [q]; simp)]
/-- the items of a list or a tuple -/
def seqAny (d : D) : Option (List D) := match seqL d with
  | some xs => some xs
  | none => seqT d
theorem any_eq {fa : FE} {env : En} {st s1 : Sto} {d : D} {xs : List D} (h : fa env st = some (.ok d s1)) (e : seqAny d = some xs) : iAny fa env st = some (.ok xs s1) := by
  unfold iAny
  rw [h, bnd_ok]
  unfold seqAny at e
  cases q : seqL d with
  | some ys => rw [q] at e; cases e; rfl
  | none => rw [q] at e; simp only at e ⊢; rw [e]; rfl
/-! ### repr -/
theorem repr_str {st : Sto} {d : D} {e : PyData} (h : pdS st d = some e) (h1 : SeqAt.shaped e = true) (h2 : e.showable = true) (h3 : e.shown.length ≤ 1000000) : bRepr st [d] = some (.str e.shown) := by
  unfold bRepr
  simp only [h]
  rw [if_pos ⟨h1, h2, h3⟩]
theorem neS_same {st : Sto} {x : Str} : dNeS st (.str x) (.str x) = some (.bl false) := by
  show some (D.bl (!decide (x = x))) = _
  simp
theorem eqS_same {st : Sto} {x : Str} : dEqS st (.str x) (.str x) = some (.bl true) := by
  show some (D.bl (decide (x = x))) = _
  simp
theorem ne_same {st : Sto} {x y : D} {e : PyData} (h1 : pdS st x = some e) (h2 : pdS st y = some e) (h : SeqAt.shaped e = true) : dNe st x y = some (.bl false) := by
  unfold dNe
  rw [h1, h2]
  simp only
  rw [if_pos ⟨h, h⟩, SeqAt.eqv_refl e (SeqAt.canLay_of_shaped h)]
  rfl

/-! ### a law that goes through its script -/
def rangeG : FA := fCons (fCa bMax2 (fCons (fC (.int 1)) (fCons (fCa bMin2 (fCons (fCa bLen (fCons (fVar 0) fNil)) (fCons (fC (.int 30)) fNil))) fNil))) fNil
theorem seqLT_fz {xs : List D} {st : Sto} : seqLT st (.frz xs) = some xs := rfl
theorem rangeG_eq (ns : List Int) (r : En) (st : Sto) : ∃ M : Nat, M ≤ 30 ∧ rangeG (some (.frz (ns.map D.int)) :: r) st = some (.ok [.int M] st) := by
  have hM : ∃ M : Nat, M ≤ 30 ∧ (if (if (30 : Int) < (ns.length : Int) then (30 : Int) else ns.length) > 1 then (if (30 : Int) < (ns.length : Int) then (30 : Int) else ns.length) else 1) = (M : Int) := by
    by_cases h : (30 : Int) < ns.length
    · exact ⟨30, by omega, by rw [if_pos h]; rfl⟩
    · rw [if_neg h]
      by_cases h2 : (ns.length : Int) > 1
      · exact ⟨ns.length, by omega, by rw [if_pos h2]⟩
      · exact ⟨1, by omega, by rw [if_neg h2]; rfl⟩
  obtain ⟨M, h1, h2⟩ := hM
  refine ⟨M, h1, ?_⟩
  unfold rangeG
  simp only [ap_cons, ap_nil, ap_ca, ap_c, ap_var, List.getElem?_cons_zero, bnd_ok, bLen, seqLT_fz, Option.map_some, bMin2, bMax2, List.length_map, h2]
theorem law_done {n : Nat} {body : FS} {ns : List Int}
    (H : ∀ k : Nat, k < 63 → ∀ r : En, r.length = n → ∀ st, ∃ r2 s2, body (some (.frz (ns.map D.int)) :: some (.int k) :: r) st = some (.nx (some (.frz (ns.map D.int)) :: r2) s2) ∧ r2.length = n + 1) :
    ∃ env2 s2, fFor (iRg1 rangeG) (gNm 1) body (some (.frz (ns.map D.int)) :: List.replicate (n + 1) none) [] = some (.nx env2 s2) := by
  obtain ⟨M, h1, h2⟩ := rangeG_eq ns (List.replicate (n + 1) none) []
  have c1 : -(2 ^ 62 : Int) ≤ (M : Int) ∧ (M : Int) < 2 ^ 62 := by constructor <;> omega
  obtain ⟨env2, s2, e, _⟩ := forL_all (g := gNm 1) (body := body) (fun env _ => ∃ r, env = some (.frz (ns.map D.int)) :: r ∧ r.length = n + 1) (ds := Fx.intsFrom 0 M) (env := some (.frz (ns.map D.int)) :: List.replicate (n + 1) none) (st := [])
    (fun d hd env st2 hI => by
      obtain ⟨r, rfl, hr⟩ := hI
      obtain ⟨k, hk, rfl⟩ : ∃ k : Nat, k < 63 ∧ d = .int k := by
        unfold Fx.intsFrom at hd
        obtain ⟨k, h1, h2⟩ := List.mem_map.mp hd
        exact ⟨k, by have := List.mem_range.mp h1; omega, by rw [← h2]; simp⟩
      cases r with
      | nil => simp at hr
      | cons x r =>
        obtain ⟨r2, s2, e, h⟩ := H k hk r (by simpa using hr) st2
        exact ⟨_, _, ap_nm, _, _, .inl e, r2, rfl, h⟩)
    ⟨_, rfl, by simp⟩
  refine ⟨env2, s2, ?_⟩
  rw [ap_for, ap_iRg1, h2, bnd_ok]
  simp only [if_pos c1, sb_ok, Int.toNat_natCast]
  exact e
theorem law_spF {K : PySem.W.Frag} {H : Hp} {a : Addr} {ns : List Int} {F : DF} (hbits : ∀ z ∈ ns, Builtin.Int.intBits z ≤ 1048576) (hS : SqL K H a (ns.map V.int))
    (h : ∀ N : Nat, N ≤ 1048577 → (∀ z ∈ ns, z.natAbs < 2 ^ N) → ∃ s2, F [.frz (ns.map D.int)] [] = some (.ok (.bl true) s2)) :
    spF K 1 F [.ref a] H (fun v _ => v = .bl true) fun _ _ _ => False := by
  obtain ⟨N, hN⟩ : ∃ N : Nat, N = 1048577 := ⟨_, rfl⟩
  have hb : ∀ z ∈ ns, z.natAbs < 2 ^ N := fun z m => by
    have h := hbits z m
    unfold Builtin.Int.intBits at h
    split at h
    · rename_i h0
      have : z = 0 := by simpa using h0
      rw [this]; exact Nat.pow_pos (by decide)
    · exact Fx.lt_of_log2 (by omega)
  obtain ⟨s2, e⟩ := h N (by omega) hb
  have hz : ZxL K H ⟨[], []⟩ a (ns.map V.int) := hS.elim (fun z => .inl ⟨fun m => m.elim (fun z => (nomatch z)) (fun z => (nomatch z)), z⟩) fun z => .inr (.inr z)
  refine ⟨⟨[], []⟩, [.frz (ns.map D.int)], [], _, DRs.cons (.frz hz (by simp) fun i x d e1 e2 => ?_) .nil, ⟨rfl, List.Pairwise.nil, fun n a c e => by simp at e, fun a m => (nomatch m)⟩, rfl, e, fun v H' ρ' _ _ h => ?_⟩
  · rw [List.getElem?_map] at e1 e2
    cases q : ns[i]? with
    | none => rw [q] at e1; cases e1
    | some n =>
      rw [q] at e1 e2
      cases e1; cases e2
      exact .int n
  · cases h; rfl
end Fx
/-! Fx: a dict's display, repr of lists with dicts. -/
namespace Fx
open PySem PySem.Spec PyProof.Rows L2

/-! ### {k: v} -/
def fDisp1 (a b : FE) : FE := fun env st => bnd (a env (st ++ [.dct []])) fun x s1 => bnd (b env s1) fun y s2 => match dKey x, s2[st.length]? with
  | some k, some (.dct []) => some (.ok (.ref st.length) (s2.set st.length (.dct [(k, y)])))
  | _, _ => none
section
variable {X : Cx} {E : XK} {a b : Expr} {fa fb : FE} {pos : Pos}
theorem v_disp1 (ha : VE X E a fa) (hb : VE X E b fb) : VE X E (.Dict [some a] [b] pos) (fDisp1 fa fb) := by
  refine PE.imp (pe_disp (pps_cons ha hb pps_nil) rfl rfl (by simp) (show (1 : Nat) ≤ 15 by decide)) fun σ H Q ⟨ρ, env, st, r, w, hf, hQ⟩ => ?_
  intro p hp
  have s0 : Step ρ H (ρ.add p) (upd H p (.dK [])) := .cell hp
  have w0 : Wd X.K (upd H p (.dK [])) (ρ.add p) σ env (st ++ [.dct []]) := ⟨w.en.step s0, w.st.newCell hp ⟨[], upd_same, .nil⟩⟩
  have hp0 : (ρ.add p).c[st.length]? = some p := cell_ix w.st
  refine rd_bind w0 hf (hQ.step s0) fun x dx s1 H1 ρ1 t1 w1 r1 hf hQ => ?_
  refine rd_bind w1 hf hQ fun y dy s2 H2 ρ2 t2 w2 r2 hf hQ => ?_
  split at hf
  · rename_i k e1 e2
    cases hf
    have hp2 : ρ2.c[st.length]? = some p := t2.ix (t1.ix hp0)
    obtain ⟨xs, q1, q2⟩ := w2.st.dctAt hp2 e2
    have := q2.nil_inv
    subst this
    have hk := dKey_eq r1 e1
    subst hk
    have nf : NoFz (H2 p) := by rw [q1]; trivial
    have t3 : Step ρ2 H2 ρ2 (upd H2 p (.dK [(k, y)])) := .write hp2 nf
    refine ⟨q1, [(k, y)], rfl, (show (1 : Nat) ≤ 15 by decide), ?_⟩
    exact hQ _ _ ρ2 t3 (w2.st.write hp2 nf ⟨_, upd_same, .cons rfl (r2.step t3) .nil⟩) (.ref hp2)
  · cases hf
end

/-! ### repr([..]) with dicts among the items -/
mutual
/-- of tuples alone -/
def flatP : PyData → Bool
  | .none => true
  | .bool _ => true
  | .int _ => true
  | .str _ => true
  | .tuple xs => flatPs xs
  | .list _ => false
  | .dict _ => false
def flatPs : List PyData → Bool
  | [] => true
  | x :: xs => flatP x && flatPs xs
end
mutual
theorem flat_as {h : Heap} : ∀ {e : PyData} {u : Value} {as : List Addr}, flatP e = true → Reads h u e as → as = []
  | .none, _, _, _, r => by cases r; rfl
  | .bool _, _, _, _, r => by cases r; rfl
  | .int _, _, _, _, r => by cases r; rfl
  | .str _, _, _, _, r => by cases r; rfl
  | .tuple xs, _, _, f, r => by
    cases r with
    | tuple h1 h2 h3 h4 => exact flats_as (show flatPs xs = true from f) h4
  | .list _, _, _, f, _ => by cases f
  | .dict _, _, _, f, _ => by cases f
theorem flats_as {h : Heap} : ∀ {es : List PyData} {us : List Value} {as : List Addr}, flatPs es = true → ReadsAll h us es as → as = []
  | [], _, _, _, r => by cases r; rfl
  | e :: es, _, _, f, r => by
    obtain ⟨f1, f2⟩ := Bool.and_eq_true_iff.mp (show (flatP e && flatPs es) = true from f)
    cases r with
    | cons r1 r2 => rw [flat_as f1 r1, flats_as f2 r2]; rfl
end
def kP : Key → PyData
  | .inl i => .int i
  | .inr x => .str x
/-- an item: of tuples alone, or a dict of such -/
inductive Sh (K : PySem.W.Frag) (H : Hp) : V → PyData → Prop
  | flat {v : V} {e : PyData} (h : Dp K H v e) (f : flatP e = true) : Sh K H v e
  | dct {a : Addr} {kvs : List (Key × V)} {ds : List PyData} (h : Rd H a (.dK kvs)) (d : DpAll K H (kvs.map (·.2)) ds) (f : flatPs ds = true) : Sh K H (.ref a) (.dict ((kvs.map fun p => kP p.1).zip ds))
inductive ShAll (K : PySem.W.Frag) (H : Hp) : List V → List PyData → Prop
  | nil : ShAll K H [] []
  | cons {v : V} {vs : List V} {e : PyData} {es : List PyData} (h : Sh K H v e) (t : ShAll K H vs es) : ShAll K H (v :: vs) (e :: es)
section
variable {X : Cx} {pins : List (Addr × Obj)} {σ : L2.St} {H : Hp} {s : Shared}
theorem keys_reads {h : Heap} : ∀ {kvs : List (Key × Value)} {es : List DictEntry}, PySem.Pairs (mixKind X.prog X.w) es kvs → ReadsAll h (es.map (·.key)) (kvs.map fun p => kP p.1) [] ∧ es.map (·.val) = kvs.map (·.2)
  | _, _, .nil => ⟨.nil, rfl⟩
  | _, _, .cons (e := e) (kv := kv) h1 h2 t => by
    obtain ⟨r1, r2⟩ := keys_reads t
    obtain ⟨k, v⟩ := kv
    refine ⟨?_, by rw [List.map_cons, List.map_cons, h2, r2]⟩
    have hk : keyIs k e.key = true := h1
    have : Reads h e.key (kP k) [] := by
      rcases keyIs_shape hk with ⟨i, t, rfl, e1⟩ | ⟨x, t, rfl, e1⟩
      · rw [e1]; exact .int i t
      · rw [e1]; exact .str x t
    exact .cons (as := []) (bs := []) this r1
theorem kv_vals : ∀ {kvs : List (Key × V)} {vs : List (Key × Value)}, KV kvs vs → Vals (kvs.map (·.2)) (vs.map (·.2)) ∧ kvs.map (·.1) = vs.map (·.1)
  | _, _, .nil => ⟨.nil, rfl⟩
  | _, _, .cons h t => by
    obtain ⟨r1, r2⟩ := kv_vals t
    exact ⟨.cons h.2 r1, by rw [List.map_cons, List.map_cons, h.1, r2]⟩
theorem Sh.reads (I : Inv X pins σ H s) {v : V} {e : PyData} {u : Value} (h : Sh X.K H v e) (r : RelV v u) : ∃ as, Reads s.heap u e as ∧ sysModules ∉ as := by
  cases h with
  | flat h f =>
    obtain ⟨as, q⟩ := Dp.reads I e v u h r
    have := flat_as f q
    subst this
    exact ⟨[], q, by simp⟩
  | @dct a kvs ds hd d f =>
    obtain rfl : u = Value.ref a := r
    obtain ⟨hz, hm, vs, kv, o, es, ep, hget, hx, hdat, hks, prs, nd⟩ := dk_rd I.hok hd
    obtain ⟨rv, rk⟩ := kv_vals kv
    obtain ⟨k1, k2⟩ := keys_reads (X := X) (h := s.heap) prs
    obtain ⟨as, q⟩ := Dp.readsAll I ds _ _ d rv
    have := flats_as f q
    subst this
    have lens : (kvs.map fun p => kP p.1).length = ds.length := by
      have h1 : ∀ {ds : List PyData} {vs : List V}, DpAll X.K H vs ds → vs.length = ds.length := by
        intro ds
        induction ds with
        | nil => intro vs h; cases h; rfl
        | cons d ds ih => intro vs h; cases h with | cons _ t => rw [List.length_cons, List.length_cons, ih t]
      have := h1 d
      rw [List.length_map] at this ⊢
      exact this
    refine ⟨a :: [] ++ [], Reads.dict hget hx.1 hdat ?_ ?_, ?_⟩
    · rw [List.map_fst_zip (by omega)]
      have : (kvs.map fun p => kP p.1) = vs.map fun p => kP p.1 := by
        have e1 : (kvs.map fun p => kP p.1) = (kvs.map (·.1)).map kP := by rw [List.map_map]; rfl
        have e2 : (vs.map fun p => kP p.1) = (vs.map (·.1)).map kP := by rw [List.map_map]; rfl
        rw [e1, e2, rk]
      rw [this]
      exact k1
    · rw [List.map_snd_zip (by omega), k2]
      exact q
    · simp
      exact fun e => (beq_eq_false_iff_ne.mp hm) e.symm
theorem ShAll.reads (I : Inv X pins σ H s) : ∀ {vs : List V} {es : List PyData} {us : List Value}, ShAll X.K H vs es → Vals vs us → ∃ as, ReadsAll s.heap us es as ∧ sysModules ∉ as
  | _, _, _, .nil, .nil => ⟨[], .nil, by simp⟩
  | _, _, _, .cons h t, .cons r rs => by
    obtain ⟨as, q1, n1⟩ := h.reads I r
    obtain ⟨bs, q2, n2⟩ := ShAll.reads I t rs
    exact ⟨as ++ bs, .cons q1 q2, fun m => (List.mem_append.mp m).elim n1 n2⟩
end
/-- a new list, and that it is not the table of modules -/
def LX (p : Addr) (xs : List V) (h : Heap) : Prop := (p == sysModules) = false ∧ ∃ its : List Value, Vals xs its ∧ h.get? p = some { cls := .type "list", data := .seq its.toArray }
def tLstX (t : TA) : TE := fun σ H Q => t σ H fun xs H1 => xs.length ≤ sizeLine ∧ ∀ p, H1 p = none → Q (.ref p) (upd H1 p (.ext (LX p xs)))
section
variable {X : Cx} {E : XK} {es : List Expr} {pos p pos' : Pos} {t : TA} {fs : FA}
theorem pe_lstX (h : PA X es t) : PE X (.List es pos) (tLstX t) := by
  refine ⟨fun pins s σ H Q I hq => ?_⟩
  refine wpAny_List_spliced (thn (h.run pos pins s σ H _ I hq) fun us s1 ⟨xs, H1, I1, r, z, q⟩ => ⟨by rw [← r.length]; exact z, ?_⟩)
  have hm : (s1.heap.objs.size == sysModules) = false := beq_eq_false_iff_ne.mpr (Nat.ne_of_gt I1.big)
  exact ⟨.ref s1.heap.objs.size, _, I1.laid (o := .ext (LX s1.heap.objs.size xs)) (t' := s1.toks) (fun b u e => Heap.get?_push_of_some _ e) (Nat.le_refl _)
    ⟨⟨hm, us, r, Heap.get?_push_size _ rfl⟩, ⟨_, Heap.get?_push_size _ rfl⟩, fun h1 h2 ⟨a, its, b, c⟩ k => ⟨a, its, b, k _ c⟩⟩, rfl, q _ (I1.hok.fresh (Nat.le_refl _))⟩
def rReprX (K : PySem.W.Frag) : List V → Hp → VK → Prop := fun xs H Q => ∃ a ys es, xs = [.ref a] ∧ H a = some (.ext (LX a ys)) ∧ ShAll K H ys es ∧ PyData.showableAll es = true ∧ PyData.depthAll es ≤ 60 ∧ (PyData.shown (.list es)).length ≤ sizeLine ∧ Q (.str (PyData.shown (.list es))) H
theorem call_reprX (hgd : X.A.guards = some []) (hu : X.A.units + 100 < cLine) : CallR X (.builtin "repr") (rReprX X.K) := by
  rintro pins s σ H xs us Q I r ⟨a, ys, es, rfl, ha, sh, so, dp, sz, q⟩
  obtain ⟨u, rfl, ru⟩ := vals1 r
  obtain rfl : u = Value.ref a := ru
  obtain ⟨⟨hm, its, rv, hget⟩, _, _⟩ := I.hok _ _ ha
  obtain ⟨as, ra, na⟩ := sh.reads I rv
  have rd : Reads s.heap (.ref a) (.list es) (a :: as) := .list hget rfl rfl (by simpa using ra)
  have ns : sysModules ∉ a :: as := fun m => by
    rcases List.mem_cons.mp m with z | z
    · exact beq_eq_false_iff_ne.mp hm z.symm
    · exact na z
  refine repr_of_reads' rd so (fun _ => ns) hgd ?_ (fun b o e => e) (fun h' t tk keep => ⟨.str _, H, I.kept (t' := tk) keep, ⟨t, rfl⟩, q⟩) sz
  show X.A.units + (PyData.depthAll es + 1 + 1) < cLine
  omega
/-- an item as what is shown -/
def shD (st : Sto) (d : D) : Option PyData := match dctOf st d with
  | some kvs => (pds (kvs.map (·.2))).bind fun ds => if flatPs ds = true then some (.dict ((kvs.map fun p => kP p.1).zip ds)) else none
  | none => (pd d).bind fun e => if flatP e = true then some e else none
def shDs (st : Sto) : List D → Option (List PyData)
  | [] => some []
  | d :: ds => (shD st d).bind fun e => (shDs st ds).map (e :: ·)
def fReprX (fs : FA) : FE := fun env st => bnd (fs env st) fun ds s1 => match shDs s1 ds with
  | some es => if ds.length ≤ 1000 ∧ PyData.showableAll es = true ∧ PyData.depthAll es ≤ 60 ∧ (PyData.shown (.list es)).length ≤ 10000000 then some (.ok (.str (PyData.shown (.list es))) s1) else none
  | none => none
theorem shD_sh {K : PySem.W.Frag} {H : Hp} {ρ : Mp} {st : Sto} {v : V} {d : D} {e : PyData} (s : StR K H ρ st) (h : shD st d = some e) (r : DR K H ρ v d) : Sh K H v e := by
  unfold shD at h
  split at h
  · rename_i kvs hk
    obtain ⟨ds, e1, h⟩ := Option.bind_eq_some_iff.mp h
    split at h
    · rename_i f
      cases h
      obtain ⟨a, xs, rfl, q1, q2⟩ := dctOf_inv s r hk
      have hv : ∀ {kvs : List (Key × D)} {xs : List (Key × V)}, DRk K H ρ xs kvs → DRs K H ρ (xs.map (·.2)) (kvs.map (·.2)) := by
        intro kvs
        induction kvs with
        | nil => intro xs h; rw [h.nil_inv]; exact .nil
        | cons y kvs ih =>
          intro xs h
          obtain ⟨x, r, rfl, _, q, t⟩ := h.cons_inv
          exact .cons q (ih t)
      have e2 : (kvs.map fun p => kP p.1) = xs.map fun p => kP p.1 := by
        have e1 : (kvs.map fun p => kP p.1) = (kvs.map (·.1)).map kP := by rw [List.map_map]; rfl
        have e2 : (xs.map fun p => kP p.1) = (xs.map (·.1)).map kP := by rw [List.map_map]; rfl
        rw [e1, e2, q2.keys]
      rw [e2]
      exact .dct q1 (pds_dp e1 (hv q2)) f
    · cases h
  · obtain ⟨e2, e1, h⟩ := Option.bind_eq_some_iff.mp h
    split at h
    · rename_i f
      cases h
      exact .flat (pd_dp e1 r) f
    · cases h
theorem shDs_sh {K : PySem.W.Frag} {H : Hp} {ρ : Mp} {st : Sto} (s : StR K H ρ st) : ∀ {ds : List D} {vs : List V} {es : List PyData}, shDs st ds = some es → DRs K H ρ vs ds → ShAll K H vs es
  | [], _, _, h, r => by cases h; rw [r.nil_inv]; exact .nil
  | d :: ds, _, _, h, r => by
    obtain ⟨e, e1, h⟩ := Option.bind_eq_some_iff.mp (show (shD st d).bind _ = some _ from h)
    obtain ⟨es, e2, rfl⟩ := map_some h
    obtain ⟨x, xs, rfl, q1, q2⟩ := r.cons_inv
    exact .cons (shD_sh s e1 q1) (shDs_sh s e2 q2)
theorem v_reprX (hgd : X.A.guards = some []) (hu : X.A.units + 100 < cLine) (hg : Gl X "repr") (hm : X.mg "repr" = none) (hv : bootBuiltins "repr" = some (.builtin "repr")) (ha : VA X E es fs)
    (he : starEach [Expr.List es pos'] X.env = (false, eval (Expr.List es pos') X.env) :: starEach [] X.env := by rfl) (hpl : (backTo pos (starEach [] X.env)).any (·.1) = false := by rfl) :
    VE X E (.Call (.Name "repr" p) [.List es pos'] [] pos) (fReprX fs) := by
  have arg : PA X [Expr.List es pos'] (tCons (tLstX (rdA X.K E fs)) tNil) := pa_cons (pe_lstX ha) pa_nil he
  refine PE.imp (pe_callB (call_reprX hgd hu) hg hm hv arg (by decide) (by decide) he hpl) fun σ H Q ⟨ρ, env, st, r, w, hf, hQ⟩ => ?_
  refine rd_bind w hf hQ fun xs ds s1 H1 ρ1 t1 w1 r1 hf hQ => ?_
  split at hf
  · rename_i es' e1
    split at hf
    · rename_i c
      cases hf
      refine ⟨Nat.le_trans (by rw [r1.1]; exact c.1) (by decide), fun p hp => ?_⟩
      have sm := Fx.same_upd (o := .ext (LX p xs)) hp
      have st2 := w1.st.same sm
      exact ⟨p, xs, es', rfl, upd_same, shDs_sh st2 e1 (r1.step (.same sm)), c.2.1, c.2.2.1, Nat.le_trans c.2.2.2 (by decide), hQ _ _ ρ1 (.same sm) st2 (.str _)⟩
    · cases hf
  · cases hf
end
end Fx
namespace L_k08
open PySem PySem.Spec PyProof.Rows L2 Fx
def topS (i : Nat) : Stmt := PySem.Challenge.pw_fewestsent_k08_names_put_in_and_worths.main.body.getD i (.Pass ⟨0, 0, 0, 0⟩)
/-- what the built-in names and the constants are -/
structure Bi (mg : Str → Option Value) : Prop where
  dict : mg "dict" = none
  int : mg "int" = none
  len : mg "len" = none
  max : mg "max" = none
  min : mg "min" = none
  range : mg "range" = none
  repr : mg "repr" = none
  sorted : mg "sorted" = none
  sum : mg "sum" = none
  tuple : mg "tuple" = none
section
variable {P : Program} {w : World} {K : PySem.W.Frag} {mg : Str → Option Value} {base : Heap}
abbrev s_constant : Stmt := topS 1
theorem sc_constant : FnScope ["number"] ["number"] (defScope s_constant) := ⟨rfl, rfl, rfl, by decide +kernel, rfl, by decide +kernel, by decide +kernel⟩
noncomputable def F_constant : DF := fDef 1 1 ((fRet (fTup (fCons (fVar 0) (fCons (fTup fNil) fNil)))))
theorem d_constant (B : Bi mg)  {f : Addr} {fd : FuncData} (F : L2.Fun K "constant" "constant" s_constant f fd) (hm : mg "constant" = some (.ref f)) (bi : Binds K fd ["number"] []) : Df P w K mg base 1 "constant" 1 F_constant := by
  refine df_ok F hm bi sc_constant rfl rfl fun cdv A outer s H E hgd hr => ?_
  exact (ss_one (s_ret (v_tup (a_cons (v_var (pv 0)) (a_cons (v_tup a_nil) a_nil)))))
abbrev s_of_name : Stmt := topS 2
theorem sc_of_name : FnScope ["name"] ["name"] (defScope s_of_name) := ⟨rfl, rfl, rfl, by decide +kernel, rfl, by decide +kernel, by decide +kernel⟩
noncomputable def F_of_name : DF := fDef 1 1 ((fRet (fTup (fCons (fC (.int 0)) (fCons (fTup (fCons (fTup (fCons (fVar 0) (fCons (fC (.int 1)) fNil))) fNil)) fNil)))))
theorem d_of_name (B : Bi mg)  {f : Addr} {fd : FuncData} (F : L2.Fun K "of_name" "of_name" s_of_name f fd) (hm : mg "of_name" = some (.ref f)) (bi : Binds K fd ["name"] []) : Df P w K mg base 1 "of_name" 1 F_of_name := by
  refine df_ok F hm bi sc_of_name rfl rfl fun cdv A outer s H E hgd hr => ?_
  exact (ss_one (s_ret (v_tup (a_cons v_int (a_cons (v_tup (a_cons (v_tup (a_cons (v_var (pv 0)) (a_cons v_int a_nil))) a_nil)) a_nil)))))
abbrev s_gathered : Stmt := topS 3
theorem sc_gathered : FnScope ["const", "pairs", "known", "name", "many"] ["const", "pairs"] (defScope s_gathered) := ⟨rfl, rfl, rfl, by decide +kernel, rfl, by decide +kernel, by decide +kernel⟩
noncomputable def F_gathered : DF := fDef 2 5 ((fSeq (fSet 2 fDctC)
  (fSeq (fFor (iAny (fVar 1)) (gTp 2 (gsCons (gNm 3) (gsCons (gNm 4) gsNil)))
  (fPutK (fVar 2) (fVar 3) (fOp dAdd (fGet2 (fVar 2) (fVar 3) (fC (.int 0))) (fVar 4))))
  (fRet (fTup (fCons (fVar 0) (fCons (fCa bTuple (fCons (fLc (iLst (fCa bSortK (fCons (fVar 2) fNil))) (gNm 3) (tV (fOp dNe (fGetK (fVar 2) (fVar 3)) (fC (.int 0)))) (fTup (fCons (fVar 3) (fCons (fGetK (fVar 2) (fVar 3)) fNil))) [3]) fNil)) fNil)))))))
theorem d_gathered (B : Bi mg)  {f : Addr} {fd : FuncData} (F : L2.Fun K "gathered" "gathered" s_gathered f fd) (hm : mg "gathered" = some (.ref f)) (bi : Binds K fd ["const", "pairs"] []) : Df P w K mg base 1 "gathered" 2 F_gathered := by
  refine df_ok F hm bi sc_gathered rfl rfl fun cdv A outer s H E hgd hr => ?_
  exact (ss_cons (s_set (i := 2) sc_gathered.nd rfl (.inr rfl) v_dctC)
  (ss_cons (s_for PassesOwn.never rfl (i_any (v_var (pv 1))) (g_tupR rfl (gs_consR (g_name (i := 3) sc_gathered.nd rfl (.inl rfl)) (gs_consR (g_name (i := 4) sc_gathered.nd rfl (.inl rfl)) gs_nil)))
  (ss_one (s_putK hr.u1 (v_var (pv 2)) (v_var (pv 3)) (v_op op_addA add_p (v_get2 hr.u1 (v_var (pv 2)) (v_var (pv 3)) v_int ⟨rfl, rfl, rfl, rfl⟩) (v_var (pv 4))))))
  (ss_one (s_ret (v_tup (a_cons (v_var (pv 0)) (a_cons (v_callTy call_tupP tuple_p (by rfl) B.tuple (by decide +kernel) (a_cons (v_lc (own := [("name", 3)]) (t := L2.gName 3) rfl sc_gathered.nd (i_list (v_callB (call_sortK rfl) sortK_p (by rfl) B.sorted (by decide +kernel) (a_cons (v_var (pv 2)) a_nil))) (blkOk_by (N := ["const", "pairs", "known", "name", "many"]) (sc := defScope s_gathered) (by decide +kernel)) (fun _ _ _ _ _ => (pg_name (i := 3) sc_gathered.nd rfl (Or.inl rfl))) (own_name (by decide)) (fun _ _ _ _ _ => (pts1 (tv_cmp (op_neD hr.units) ne_p (v_getK hr.u1 (v_var (pv 2)) (v_var (pv 3)) (fun _ _ => rfl)) v_int (nomark _)))) (fun _ _ _ _ _ => (v_tup (a_cons (v_var (pv 3)) (a_cons (v_getK hr.u1 (v_var (pv 2)) (v_var (pv 3)) (fun _ _ => rfl)) a_nil))))) a_nil)) a_nil)))))))
abbrev s_added : Stmt := topS 4
theorem sc_added : FnScope ["one", "other"] ["one", "other"] (defScope s_added) := ⟨rfl, rfl, rfl, by decide +kernel, rfl, by decide +kernel, by decide +kernel⟩
noncomputable def F_added : DF := fDef 2 2 ((fRet (fCall 2 (cl F_gathered) (fCons (fOp dAdd (fOp dIx (fVar 0) (fC (.int 0))) (fOp dIx (fVar 1) (fC (.int 0)))) (fCons (fOp dAdd (fOp dIx (fVar 0) (fC (.int 1))) (fOp dIx (fVar 1) (fC (.int 1)))) fNil)))))
theorem d_added (B : Bi mg) (g_gathered : Df P w K mg base 1 "gathered" 2 (cl F_gathered)) {f : Addr} {fd : FuncData} (F : L2.Fun K "added" "added" s_added f fd) (hm : mg "added" = some (.ref f)) (bi : Binds K fd ["one", "other"] []) : Df P w K mg base 2 "added" 2 F_added := by
  refine df_ok F hm bi sc_added rfl rfl fun cdv A outer s H E hgd hr => ?_
  exact (ss_one (s_ret (v_callD g_gathered hr hgd (by rfl) (a_cons (v_op op_addA add_p (v_ix ix_lt ix_p (v_var (pv 0)) v_int (fun _ _ => rfl)) (v_ix ix_lt ix_p (v_var (pv 1)) v_int (fun _ _ => rfl))) (a_cons (v_op op_addA add_p (v_ix ix_lt ix_p (v_var (pv 0)) v_int (fun _ _ => rfl)) (v_ix ix_lt ix_p (v_var (pv 1)) v_int (fun _ _ => rfl))) a_nil)))))
abbrev s_scaled : Stmt := topS 5
theorem sc_scaled : FnScope ["term", "many", "name", "own"] ["term", "many"] (defScope s_scaled) := ⟨rfl, rfl, rfl, by decide +kernel, rfl, by decide +kernel, by decide +kernel⟩
noncomputable def F_scaled : DF := fDef 2 4 ((fRet (fCall 2 (cl F_gathered) (fCons (fOp dMul (fOp dIx (fVar 0) (fC (.int 0))) (fVar 1)) (fCons (fLc (iTp (fOp dIx (fVar 0) (fC (.int 1)))) (gTp 2 (nmsF [2, 3])) tYes1 (fTup (fCons (fVar 2) (fCons (fOp dMul (fVar 3) (fVar 1)) fNil))) [2, 3]) fNil)))))
theorem d_scaled (B : Bi mg) (g_gathered : Df P w K mg base 1 "gathered" 2 (cl F_gathered)) {f : Addr} {fd : FuncData} (F : L2.Fun K "scaled" "scaled" s_scaled f fd) (hm : mg "scaled" = some (.ref f)) (bi : Binds K fd ["term", "many"] []) : Df P w K mg base 2 "scaled" 2 F_scaled := by
  refine df_ok F hm bi sc_scaled rfl rfl fun cdv A outer s H E hgd hr => ?_
  exact (ss_one (s_ret (v_callD g_gathered hr hgd (by rfl) (a_cons (v_op op_mulX mul_p (v_ix ix_lt ix_p (v_var (pv 0)) v_int (fun _ _ => rfl)) (v_var (pv 1))) (a_cons (v_lc (own := [("name", 2), ("own", 3)]) (t := L2.gTup K 2 (nmsG [2, 3])) rfl sc_scaled.nd (i_tup (v_ix ix_lt ix_p (v_var (pv 0)) v_int (fun _ _ => rfl))) (blkOk_by (N := ["term", "many", "name", "own"]) (sc := defScope s_scaled) (by decide +kernel)) (fun _ _ _ _ _ => (pg_tup rfl (pgs_cons (pg_name (i := 2) sc_scaled.nd rfl (Or.inl rfl)) (pgs_cons (pg_name (i := 3) sc_scaled.nd rfl (Or.inl rfl)) pgs_nil)))) (own_tup (is := [2, 3]) (by decide)) (fun _ _ _ _ _ => pts0) (fun _ _ _ _ _ => (v_tup (a_cons (v_var (pv 2)) (a_cons (v_op op_mulX mul_p (v_var (pv 3)) (v_var (pv 1))) a_nil))))) a_nil)))))
abbrev s_put_in : Stmt := topS 6
theorem sc_put_in : FnScope ["term", "by", "found", "name", "many"] ["term", "by"] (defScope s_put_in) := ⟨rfl, rfl, rfl, by decide +kernel, rfl, by decide +kernel, by decide +kernel⟩
noncomputable def F_put_in : DF := fDef 2 5 ((fSeq (fSet 2 (fCall 1 F_constant (fCons (fOp dIx (fVar 0) (fC (.int 0))) fNil)))
  (fSeq (fFor (iTp (fOp dIx (fVar 0) (fC (.int 1)))) (gTp 2 (gsCons (gNm 3) (gsCons (gNm 4) gsNil)))
  (fSet 2 (fCall 2 F_added (fCons (fVar 2) (fCons (fCall 2 F_scaled (fCons (fGet2 (fVar 1) (fVar 3) (fCall 1 F_of_name (fCons (fVar 3) fNil))) (fCons (fVar 4) fNil))) fNil)))))
  (fRet (fVar 2)))))
theorem d_put_in (B : Bi mg) (g_constant : Df P w K mg base 1 "constant" 1 F_constant) (g_added : Df P w K mg base 2 "added" 2 F_added) (g_scaled : Df P w K mg base 2 "scaled" 2 F_scaled) (g_of_name : Df P w K mg base 1 "of_name" 1 F_of_name) {f : Addr} {fd : FuncData} (F : L2.Fun K "put_in" "put_in" s_put_in f fd) (hm : mg "put_in" = some (.ref f)) (bi : Binds K fd ["term", "by"] []) : Df P w K mg base 3 "put_in" 2 F_put_in := by
  refine df_ok F hm bi sc_put_in rfl rfl fun cdv A outer s H E hgd hr => ?_
  exact (ss_cons (s_set (i := 2) sc_put_in.nd rfl (.inl rfl) (v_callD g_constant (hr.mono (by decide)) hgd (by rfl) (a_cons (v_ix ix_lt ix_p (v_var (pv 0)) v_int (fun _ _ => rfl)) a_nil)))
  (ss_cons (s_for PassesOwn.never rfl (i_tup (v_ix ix_lt ix_p (v_var (pv 0)) v_int (fun _ _ => rfl))) (g_tupR rfl (gs_consR (g_name (i := 3) sc_put_in.nd rfl (.inl rfl)) (gs_consR (g_name (i := 4) sc_put_in.nd rfl (.inl rfl)) gs_nil)))
  (ss_one (s_set (i := 2) sc_put_in.nd rfl (.inl rfl) (v_callD g_added hr hgd (by rfl) (a_cons (v_var (pv 2)) (a_cons (v_callD g_scaled hr hgd (by rfl) (a_cons (v_get2 hr.u1 (v_var (pv 1)) (v_var (pv 3)) (v_callD g_of_name (hr.mono (by decide)) hgd (by rfl) (a_cons (v_var (pv 3)) a_nil)) ⟨rfl, rfl, rfl, rfl⟩) (a_cons (v_var (pv 4)) a_nil))) a_nil))))))
  (ss_one (s_ret (v_var (pv 2))))))
abbrev s_worth_of : Stmt := topS 7
theorem sc_worth_of : FnScope ["term", "numbers", "name", "many"] ["term", "numbers"] (defScope s_worth_of) := ⟨rfl, rfl, rfl, by decide +kernel, rfl, by decide +kernel, by decide +kernel⟩
noncomputable def F_worth_of : DF := fDef 2 4 ((fRet (fOp dAdd (fOp dIx (fVar 0) (fC (.int 0))) (fCa bSum (fCons (fLc (iTp (fOp dIx (fVar 0) (fC (.int 1)))) (gTp 2 (nmsF [2, 3])) tYes1 (fOp dMul (fVar 3) (fGetK (fVar 1) (fVar 2))) [2, 3]) fNil)))))
theorem d_worth_of (B : Bi mg)  {f : Addr} {fd : FuncData} (F : L2.Fun K "worth_of" "worth_of" s_worth_of f fd) (hm : mg "worth_of" = some (.ref f)) (bi : Binds K fd ["term", "numbers"] []) : Df P w K mg base 1 "worth_of" 2 F_worth_of := by
  refine df_ok F hm bi sc_worth_of rfl rfl fun cdv A outer s H E hgd hr => ?_
  exact (ss_one (s_ret (v_op op_addA add_p (v_ix ix_lt ix_p (v_var (pv 0)) v_int (fun _ _ => rfl)) (v_callB (cr_sum rfl) sum_p (by rfl) B.sum (by decide +kernel) (a_cons (v_lc (own := [("name", 2), ("many", 3)]) (t := L2.gTup K 2 (nmsG [2, 3])) rfl sc_worth_of.nd (i_tup (v_ix ix_lt ix_p (v_var (pv 0)) v_int (fun _ _ => rfl))) (blkOk_by (N := ["term", "numbers", "name", "many"]) (sc := defScope s_worth_of) (by decide +kernel)) (fun _ _ _ _ _ => (pg_tup rfl (pgs_cons (pg_name (i := 2) sc_worth_of.nd rfl (Or.inl rfl)) (pgs_cons (pg_name (i := 3) sc_worth_of.nd rfl (Or.inl rfl)) pgs_nil)))) (own_tup (is := [2, 3]) (by decide)) (fun _ _ _ _ _ => pts0) (fun _ _ _ _ _ => (v_op op_mulX mul_p (v_var (pv 3)) (v_getK hr.u1 (v_var (pv 1)) (v_var (pv 2)) (fun _ _ => rfl))))) a_nil)))))
abbrev s__law_pool : Stmt := topS 9
theorem sc__law_pool : FnScope ["script", "k", "cell", "great", "mixed"] ["script", "k"] (defScope s__law_pool) := ⟨rfl, rfl, rfl, by decide +kernel, rfl, by decide +kernel, by decide +kernel⟩
noncomputable def F__law_pool : DF := fDef 2 5 ((fSeq (fSet 2 (fOp dIx (fOp dAdd (fSlL (fVar 0) (oSome (fVar 1)) (oSome (fOp dAdd (fVar 1) (fC (.int 1))))) (fLst (fCons (fC (.int 0)) fNil))) (fC (.int 0))))
  (fSeq (fSet 3 (fCa bMax2 (fCons (fVar 2) (fCons (fOp dSub (fUn dNeg (fC (.int 1))) (fVar 2)) fNil))))
  (fSeq (fSet 4 (fOp dMod (fOp dMul (fOp dAdd (fOp dAdd (fOp dAdd (fOp dMod (fVar 3) (fC (.int 2147483629))) (fOp dMul (fOp dMul (fC (.int 7919)) (fVar 1)) (fVar 1))) (fOp dMul (fC (.int 47)) (fVar 1))) (fC (.int 19))) (fC (.int 48271))) (fC (.int 2147483647))))
  (fRet (fLstC (fCons (fOp dMul (fVar 3) (fCa bInt (fCons (fOp dGe (fVar 3) (fOp dPow (fC (.int 10)) (fC (.int 18)))) fNil))) (fCons (fOp dMod (fOp dMul (fVar 4) (fVar 4)) (fC (.int 2147483629))) fNil))))))))
theorem d__law_pool (B : Bi mg)  {f : Addr} {fd : FuncData} (F : L2.Fun K "_law_pool" "_law_pool" s__law_pool f fd) (hm : mg "_law_pool" = some (.ref f)) (bi : Binds K fd ["script", "k"] []) : Df P w K mg base 1 "_law_pool" 2 F__law_pool := by
  refine df_ok F hm bi sc__law_pool rfl rfl fun cdv A outer s H E hgd hr => ?_
  exact (ss_cons (s_set (i := 2) sc__law_pool.nd rfl (.inl rfl) (v_ix ix_lt ix_p (v_op op_addA add_p (v_slL (v_var (pv 0)) (o_some (v_var (pv 1))) (o_some (v_op op_addA add_p (v_var (pv 1)) v_int))) (v_lst (a_cons v_int a_nil))) v_int (fun _ _ => rfl)))
  (ss_cons (s_set (i := 3) sc__law_pool.nd rfl (.inl rfl) (v_callB (call_max2 rfl) max2_p (by rfl) B.max (by decide +kernel) (a_cons (v_var (pv 2)) (a_cons (v_op op_sub sub_p (v_un un_neg neg_p v_int) (v_var (pv 2))) a_nil))))
  (ss_cons (s_set (i := 4) sc__law_pool.nd rfl (.inl rfl) (v_op op_modN mod_p (v_op op_mulX mul_p (v_op op_addA add_p (v_op op_addA add_p (v_op op_addA add_p (v_op op_modN mod_p (v_var (pv 3)) v_int) (v_op op_mulX mul_p (v_op op_mulX mul_p v_int (v_var (pv 1))) (v_var (pv 1)))) (v_op op_mulX mul_p v_int (v_var (pv 1)))) v_int) v_int) v_int))
  (ss_one (s_ret (v_lstC (a_cons (v_op op_mulX mul_p (v_var (pv 3)) (v_callTy call_int1 int_p (by rfl) B.int (by decide +kernel) (a_cons (v_cmp op_ge cmp_p (v_var (pv 3)) (v_op op_pow pow_p v_int v_int) (nomark _)) a_nil))) (a_cons (v_op op_modN mod_p (v_op op_mulX mul_p (v_var (pv 4)) (v_var (pv 4))) v_int) a_nil))))))))
abbrev s__law_take : Stmt := topS 10
theorem sc__law_take : FnScope ["pool", "many", "found"] ["pool", "many"] (defScope s__law_take) := ⟨rfl, rfl, rfl, by decide +kernel, rfl, by decide +kernel, by decide +kernel⟩
noncomputable def F__law_take : DF := fDef 2 3 ((fSeq (fIfS (tV (fOp dGt (fOp dIx (fVar 0) (fC (.int 0))) (fC (.int 0))))
  (fSeq (fSet 2 (fOp dMod (fOp dIx (fVar 0) (fC (.int 0))) (fVar 1)))
  (fSeq (fAsg (fOp dDiv (fOp dIx (fVar 0) (fC (.int 0))) (fVar 1)) (gSubL (fVar 0) (fC (.int 0))))
  (fRet (fVar 2))))
  fPass)
  (fSeq (fAsg (fOp dMod (fOp dAdd (fOp dMul (fOp dIx (fVar 0) (fC (.int 1))) (fC (.int 48271))) (fC (.int 11))) (fC (.int 2147483647))) (gSubL (fVar 0) (fC (.int 1))))
  (fRet (fOp dMod (fOp dDiv (fOp dMod (fOp dMul (fOp dIx (fVar 0) (fC (.int 1))) (fOp dIx (fVar 0) (fC (.int 1)))) (fC (.int 2147483629))) (fC (.int 16))) (fVar 1))))))
theorem d__law_take (B : Bi mg)  {f : Addr} {fd : FuncData} (F : L2.Fun K "_law_take" "_law_take" s__law_take f fd) (hm : mg "_law_take" = some (.ref f)) (bi : Binds K fd ["pool", "many"] []) : Df P w K mg base 1 "_law_take" 2 F__law_take := by
  refine df_ok F hm bi sc__law_take rfl rfl fun cdv A outer s H E hgd hr => ?_
  exact (ss_cons (s_if (tv_cmp op_gt cmp_p (v_ix ix_lt ix_p (v_var (pv 0)) v_int (fun _ _ => rfl)) v_int (nomark _))
  (ss_cons (s_set (i := 2) sc__law_take.nd rfl (.inl rfl) (v_op op_modN mod_p (v_ix ix_lt ix_p (v_var (pv 0)) v_int (fun _ _ => rfl)) (v_var (pv 1))))
  (ss_cons (s_asg (v_op op_fdivG div_p (v_ix ix_lt ix_p (v_var (pv 0)) v_int (fun _ _ => rfl)) (v_var (pv 1))) (g_subL (v_var (pv 0)) v_int (pg_sub (v_var (pv 0)) v_int set_list (fun _ => rfl))))
  (ss_one (s_ret (v_var (pv 2))))))
  ss_nil)
  (ss_cons (s_asg (v_op op_modN mod_p (v_op op_addA add_p (v_op op_mulX mul_p (v_ix ix_lt ix_p (v_var (pv 0)) v_int (fun _ _ => rfl)) v_int) v_int) v_int) (g_subL (v_var (pv 0)) v_int (pg_sub (v_var (pv 0)) v_int set_list (fun _ => rfl))))
  (ss_one (s_ret (v_op op_modN mod_p (v_op op_fdivG div_p (v_op op_modN mod_p (v_op op_mulX mul_p (v_ix ix_lt ix_p (v_var (pv 0)) v_int (fun _ _ => rfl)) (v_ix ix_lt ix_p (v_var (pv 0)) v_int (fun _ _ => rfl))) v_int) v_int) (v_var (pv 1)))))))
abbrev s__law_term : Stmt := topS 11
theorem sc__law_term : FnScope ["pool", "many", "names", "found", "turn", "name"] ["pool", "many"] (defScope s__law_term) := ⟨rfl, rfl, rfl, by decide +kernel, rfl, by decide +kernel, by decide +kernel⟩
noncomputable def F__law_term : DF := fDef 2 6 ((fSeq (fSet 2 (fLst (fCons (fC (.str "a")) (fCons (fC (.str "b")) (fCons (fC (.str "c")) (fCons (fC (.str "i")) (fCons (fC (.str "abc")) (fCons (fC (.str "zzzzzz")) fNil))))))))
  (fSeq (fSet 3 fDctC)
  (fSeq (fFor (iRg1 (fCons (fCall 2 F__law_take (fCons (fVar 0) (fCons (fOp dAdd (fVar 1) (fC (.int 1))) fNil))) fNil)) (gNm 4)
  (fPutK (fVar 3) (fOp dIx (fVar 2) (fCall 2 F__law_take (fCons (fVar 0) (fCons (fC (.int 6)) fNil)))) (fOp dIx (fLst (fCons (fC (.int 1)) (fCons (fC (.int 1)) (fCons (fUn dNeg (fC (.int 1))) (fCons (fC (.int 2)) (fCons (fUn dNeg (fC (.int 3))) (fCons (fC (.int 7)) (fCons (fOp dPow (fC (.int 10)) (fC (.int 20))) fNil)))))))) (fCall 2 F__law_take (fCons (fVar 0) (fCons (fC (.int 7)) fNil))))))
  (fRet (fTup (fCons (fOp dIx (fLst (fCons (fC (.int 0)) (fCons (fC (.int 0)) (fCons (fC (.int 1)) (fCons (fUn dNeg (fC (.int 2))) (fCons (fC (.int 5)) (fCons (fUn dNeg (fOp dPow (fC (.int 10)) (fC (.int 20)))) fNil))))))) (fCall 2 F__law_take (fCons (fVar 0) (fCons (fC (.int 6)) fNil)))) (fCons (fCa bTuple (fCons (fLc (iLst (fCa bSortK (fCons (fVar 3) fNil))) (gNm 5) tYes1 (fTup (fCons (fVar 5) (fCons (fGetK (fVar 3) (fVar 5)) fNil))) [5]) fNil)) fNil))))))))
theorem d__law_term (B : Bi mg) (g__law_take : Df P w K mg base 1 "_law_take" 2 F__law_take) {f : Addr} {fd : FuncData} (F : L2.Fun K "_law_term" "_law_term" s__law_term f fd) (hm : mg "_law_term" = some (.ref f)) (bi : Binds K fd ["pool", "many"] []) : Df P w K mg base 2 "_law_term" 2 F__law_term := by
  refine df_ok F hm bi sc__law_term rfl rfl fun cdv A outer s H E hgd hr => ?_
  exact (ss_cons (s_set (i := 2) sc__law_term.nd rfl (.inl rfl) (v_lst (a_cons v_str (a_cons v_str (a_cons v_str (a_cons v_str (a_cons v_str (a_cons v_str a_nil))))))))
  (ss_cons (s_set (i := 3) sc__law_term.nd rfl (.inr rfl) v_dctC)
  (ss_cons (s_for PassesOwn.never rfl (i_rng1 (by rfl) B.range (a_cons (v_callD g__law_take hr hgd (by rfl) (a_cons (v_var (pv 0)) (a_cons (v_op op_addA add_p (v_var (pv 1)) v_int) a_nil))) a_nil)) (g_name (i := 4) sc__law_term.nd rfl (.inl rfl))
  (ss_one (s_putK hr.u1 (v_var (pv 3)) (v_ix ix_lt ix_p (v_var (pv 2)) (v_callD g__law_take hr hgd (by rfl) (a_cons (v_var (pv 0)) (a_cons v_int a_nil))) (fun _ _ => rfl)) (v_ix ix_lt ix_p (v_lst (a_cons v_int (a_cons v_int (a_cons (v_un un_neg neg_p v_int) (a_cons v_int (a_cons (v_un un_neg neg_p v_int) (a_cons v_int (a_cons (v_op op_pow pow_p v_int v_int) a_nil)))))))) (v_callD g__law_take hr hgd (by rfl) (a_cons (v_var (pv 0)) (a_cons v_int a_nil))) (fun _ _ => rfl)))))
  (ss_one (s_ret (v_tup (a_cons (v_ix ix_lt ix_p (v_lst (a_cons v_int (a_cons v_int (a_cons v_int (a_cons (v_un un_neg neg_p v_int) (a_cons v_int (a_cons (v_un un_neg neg_p (v_op op_pow pow_p v_int v_int)) a_nil))))))) (v_callD g__law_take hr hgd (by rfl) (a_cons (v_var (pv 0)) (a_cons v_int a_nil))) (fun _ _ => rfl)) (a_cons (v_callTy call_tupP tuple_p (by rfl) B.tuple (by decide +kernel) (a_cons (v_lc (own := [("name", 5)]) (t := L2.gName 5) rfl sc__law_term.nd (i_list (v_callB (call_sortK rfl) sortK_p (by rfl) B.sorted (by decide +kernel) (a_cons (v_var (pv 3)) a_nil))) (blkOk_by (N := ["pool", "many", "names", "found", "turn", "name"]) (sc := defScope s__law_term) (by decide +kernel)) (fun _ _ _ _ _ => (pg_name (i := 5) sc__law_term.nd rfl (Or.inl rfl))) (own_name (by decide)) (fun _ _ _ _ _ => pts0) (fun _ _ _ _ _ => (v_tup (a_cons (v_var (pv 5)) (a_cons (v_getK hr.u1 (v_var (pv 3)) (v_var (pv 5)) (fun _ _ => rfl)) a_nil))))) a_nil)) a_nil))))))))
abbrev s__law_worth_by : Stmt := topS 12
theorem sc__law_worth_by : FnScope ["term", "numbers", "name", "many"] ["term", "numbers"] (defScope s__law_worth_by) := ⟨rfl, rfl, rfl, by decide +kernel, rfl, by decide +kernel, by decide +kernel⟩
noncomputable def F__law_worth_by : DF := fDef 2 4 ((fRet (fOp dAdd (fOp dIx (fVar 0) (fC (.int 0))) (fCa bSum (fCons (fLc (iTp (fOp dIx (fVar 0) (fC (.int 1)))) (gTp 2 (nmsF [2, 3])) tYes1 (fOp dMul (fVar 3) (fGetK (fVar 1) (fVar 2))) [2, 3]) fNil)))))
theorem d__law_worth_by (B : Bi mg)  {f : Addr} {fd : FuncData} (F : L2.Fun K "_law_worth_by" "_law_worth_by" s__law_worth_by f fd) (hm : mg "_law_worth_by" = some (.ref f)) (bi : Binds K fd ["term", "numbers"] []) : Df P w K mg base 1 "_law_worth_by" 2 F__law_worth_by := by
  refine df_ok F hm bi sc__law_worth_by rfl rfl fun cdv A outer s H E hgd hr => ?_
  exact (ss_one (s_ret (v_op op_addA add_p (v_ix ix_lt ix_p (v_var (pv 0)) v_int (fun _ _ => rfl)) (v_callB (cr_sum rfl) sum_p (by rfl) B.sum (by decide +kernel) (a_cons (v_lc (own := [("name", 2), ("many", 3)]) (t := L2.gTup K 2 (nmsG [2, 3])) rfl sc__law_worth_by.nd (i_tup (v_ix ix_lt ix_p (v_var (pv 0)) v_int (fun _ _ => rfl))) (blkOk_by (N := ["term", "numbers", "name", "many"]) (sc := defScope s__law_worth_by) (by decide +kernel)) (fun _ _ _ _ _ => (pg_tup rfl (pgs_cons (pg_name (i := 2) sc__law_worth_by.nd rfl (Or.inl rfl)) (pgs_cons (pg_name (i := 3) sc__law_worth_by.nd rfl (Or.inl rfl)) pgs_nil)))) (own_tup (is := [2, 3]) (by decide)) (fun _ _ _ _ _ => pts0) (fun _ _ _ _ _ => (v_op op_mulX mul_p (v_var (pv 3)) (v_getK hr.u1 (v_var (pv 1)) (v_var (pv 2)) (fun _ _ => rfl))))) a_nil)))))
abbrev s__law_put_in : Stmt := topS 13
theorem sc__law_put_in : FnScope ["term", "by", "known", "name", "many", "const", "parts", "own", "part"] ["term", "by"] (defScope s__law_put_in) := ⟨rfl, rfl, rfl, by decide +kernel, rfl, by decide +kernel, by decide +kernel⟩
noncomputable def F__law_put_in : DF := fDef 2 9 ((fSeq (fSet 2 (fDisp1 (fC (.str "")) (fOp dIx (fVar 0) (fC (.int 0)))))
  (fSeq (fFor (iTp (fOp dIx (fVar 0) (fC (.int 1)))) (gTp 2 (gsCons (gNm 3) (gsCons (gNm 4) gsNil)))
  (fSeq (fAsg (fGet2 (fVar 1) (fVar 3) (fTup (fCons (fC (.int 0)) (fCons (fTup (fCons (fTup (fCons (fVar 3) (fCons (fC (.int 1)) fNil))) fNil)) fNil)))) (gTp 2 (gsCons (gNm 5) (gsCons (gNm 6) gsNil))))
  (fSeq (fPutK (fVar 2) (fC (.str "")) (fOp dAdd (fGetK (fVar 2) (fC (.str ""))) (fOp dMul (fVar 4) (fVar 5))))
  (fFor (iTp (fVar 6)) (gTp 2 (gsCons (gNm 7) (gsCons (gNm 8) gsNil)))
  (fPutK (fVar 2) (fVar 7) (fOp dAdd (fGet2 (fVar 2) (fVar 7) (fC (.int 0))) (fOp dMul (fVar 4) (fVar 8))))))))
  (fRet (fTup (fCons (fGetK (fVar 2) (fC (.str ""))) (fCons (fCa bTuple (fCons (fLc (iLst (fCa bSortK (fCons (fVar 2) fNil))) (gNm 3) (tAnd2 (tV (fOp dNeS (fVar 3) (fC (.str "")))) (tV (fOp dNe (fGetK (fVar 2) (fVar 3)) (fC (.int 0))))) (fTup (fCons (fVar 3) (fCons (fGetK (fVar 2) (fVar 3)) fNil))) [3]) fNil)) fNil)))))))
theorem d__law_put_in (B : Bi mg)  {f : Addr} {fd : FuncData} (F : L2.Fun K "_law_put_in" "_law_put_in" s__law_put_in f fd) (hm : mg "_law_put_in" = some (.ref f)) (bi : Binds K fd ["term", "by"] []) : Df P w K mg base 1 "_law_put_in" 2 F__law_put_in := by
  refine df_ok F hm bi sc__law_put_in rfl rfl fun cdv A outer s H E hgd hr => ?_
  exact (ss_cons (s_set (i := 2) sc__law_put_in.nd rfl (.inr rfl) (v_disp1 v_str (v_ix ix_lt ix_p (v_var (pv 0)) v_int (fun _ _ => rfl))))
  (ss_cons (s_for PassesOwn.never rfl (i_tup (v_ix ix_lt ix_p (v_var (pv 0)) v_int (fun _ _ => rfl))) (g_tupR rfl (gs_consR (g_name (i := 3) sc__law_put_in.nd rfl (.inl rfl)) (gs_consR (g_name (i := 4) sc__law_put_in.nd rfl (.inl rfl)) gs_nil)))
  (ss_cons (s_asg (v_get2 hr.u1 (v_var (pv 1)) (v_var (pv 3)) (v_tup (a_cons v_int (a_cons (v_tup (a_cons (v_tup (a_cons (v_var (pv 3)) (a_cons v_int a_nil))) a_nil)) a_nil))) ⟨rfl, rfl, rfl, rfl⟩) (g_tupR rfl (gs_consR (g_name (i := 5) sc__law_put_in.nd rfl (.inl rfl)) (gs_consR (g_name (i := 6) sc__law_put_in.nd rfl (.inl rfl)) gs_nil))))
  (ss_cons (s_putK hr.u1 (v_var (pv 2)) v_str (v_op op_addA add_p (v_getK hr.u1 (v_var (pv 2)) v_str (fun _ _ => rfl)) (v_op op_mulX mul_p (v_var (pv 4)) (v_var (pv 5)))))
  (ss_one (s_for PassesOwn.never rfl (i_tup (v_var (pv 6))) (g_tupR rfl (gs_consR (g_name (i := 7) sc__law_put_in.nd rfl (.inl rfl)) (gs_consR (g_name (i := 8) sc__law_put_in.nd rfl (.inl rfl)) gs_nil)))
  (ss_one (s_putK hr.u1 (v_var (pv 2)) (v_var (pv 7)) (v_op op_addA add_p (v_get2 hr.u1 (v_var (pv 2)) (v_var (pv 7)) v_int ⟨rfl, rfl, rfl, rfl⟩) (v_op op_mulX mul_p (v_var (pv 4)) (v_var (pv 8)))))))))))
  (ss_one (s_ret (v_tup (a_cons (v_getK hr.u1 (v_var (pv 2)) v_str (fun _ _ => rfl)) (a_cons (v_callTy call_tupP tuple_p (by rfl) B.tuple (by decide +kernel) (a_cons (v_lc (own := [("name", 3)]) (t := L2.gName 3) rfl sc__law_put_in.nd (i_list (v_callB (call_sortK rfl) sortK_p (by rfl) B.sorted (by decide +kernel) (a_cons (v_var (pv 2)) a_nil))) (blkOk_by (N := ["term", "by", "known", "name", "many", "const", "parts", "own", "part"]) (sc := defScope s__law_put_in) (by decide +kernel)) (fun _ _ _ _ _ => (pg_name (i := 3) sc__law_put_in.nd rfl (Or.inl rfl))) (own_name (by decide)) (fun _ _ _ _ _ => (pts1 (PW.pt (tw_and (tv_cmp op_ne neS_p (v_var (pv 3)) v_str (nomark _)) (tw_and1 (tv_cmp (op_neD hr.units) ne_p (v_getK hr.u1 (v_var (pv 2)) (v_var (pv 3)) (fun _ _ => rfl)) v_int (nomark _))))))) (fun _ _ _ _ _ => (v_tup (a_cons (v_var (pv 3)) (a_cons (v_getK hr.u1 (v_var (pv 2)) (v_var (pv 3)) (fun _ _ => rfl)) a_nil))))) a_nil)) a_nil)))))))
abbrev s_law : Stmt := topS 14
theorem sc_law : FnScope ["script", "names", "k", "pool", "term", "by", "turn", "numbers", "name", "kept", "found", "inner", "one", "some"] ["script"] (defScope s_law) := ⟨rfl, rfl, rfl, by decide +kernel, rfl, by decide +kernel, by decide +kernel⟩
noncomputable def F_law : DF := fDef 1 14 ((fSeq (fSet 1 (fLst (fCons (fC (.str "a")) (fCons (fC (.str "b")) (fCons (fC (.str "c")) (fCons (fC (.str "i")) (fCons (fC (.str "abc")) (fCons (fC (.str "zzzzzz")) fNil))))))))
  (fSeq (fFor (iRg1 (fCons (fCa bMax2 (fCons (fC (.int 1)) (fCons (fCa bMin2 (fCons (fCa bLen (fCons (fVar 0) fNil)) (fCons (fC (.int 30)) fNil))) fNil))) fNil)) (gNm 2)
  (fSeq (fSet 3 (fCall 2 F__law_pool (fCons (fVar 0) (fCons (fVar 2) fNil))))
  (fSeq (fSet 4 (fCall 2 (cl F__law_term) (fCons (fVar 3) (fCons (fC (.int 4)) fNil))))
  (fSeq (fSet 5 fDctC)
  (fSeq (fFor (iRg1 (fCons (fCall 2 F__law_take (fCons (fVar 3) (fCons (fC (.int 5)) fNil))) fNil)) (gNm 6)
  (fPutK (fVar 5) (fOp dIx (fVar 1) (fCall 2 F__law_take (fCons (fVar 3) (fCons (fC (.int 6)) fNil)))) (fCall 2 (cl F__law_term) (fCons (fVar 3) (fCons (fC (.int 3)) fNil)))))
  (fSeq (fSet 7 (fNewD bDictL (fCons (fLc (iLst (fVar 1)) (gNm 8) tYes1 (fTup (fCons (fVar 8) (fCons (fOp dSub (fCall 2 F__law_take (fCons (fVar 3) (fCons (fC (.int 41)) fNil))) (fC (.int 9))) fNil))) [8]) fNil)))
  (fSeq (fSet 9 (fReprX (fCons (fVar 4) (fCons (fVar 5) (fCons (fVar 7) fNil)))))
  (fSeq (fSet 10 (fCall 2 F_put_in (fCons (fVar 4) (fCons (fVar 5) fNil))))
  (fSeq (fIfS (tOr2 (tV (fOp dNeS (fCa bRepr (fCons (fVar 10) fNil)) (fCa bRepr (fCons (fCall 2 (cl F__law_put_in) (fCons (fVar 4) (fCons (fVar 5) fNil))) fNil)))) (tV (fOp dNeS (fReprX (fCons (fVar 4) (fCons (fVar 5) (fCons (fVar 7) fNil)))) (fVar 9))))
  (fRet (fC (.bl false)))
  fPass)
  (fSeq (fSet 11 (fNewD bDictD (fCons (fVar 7) fNil)))
  (fSeq (fFor (Fx.iKeys (fVar 5)) (gNm 8)
  (fPutK (fVar 11) (fVar 8) (fCall 2 F__law_worth_by (fCons (fGetK (fVar 5) (fVar 8)) (fCons (fVar 7) fNil)))))
  (fSeq (fFor (iLst (fLst (fCons (fTup (fCons (fVar 4) (fCons (fVar 7) fNil))) (fCons (fTup (fCons (fVar 10) (fCons (fVar 7) fNil))) (fCons (fTup (fCons (fVar 4) (fCons (fVar 11) fNil))) fNil))))) (gTp 2 (gsCons (gNm 12) (gsCons (gNm 13) gsNil)))
  (fIfS (tV (fOp dNeS (fCa bRepr (fCons (fCall 2 F_worth_of (fCons (fVar 12) (fCons (fVar 13) fNil))) fNil)) (fCa bRepr (fCons (fCall 2 F__law_worth_by (fCons (fVar 12) (fCons (fVar 13) fNil))) fNil))))
  (fRet (fC (.bl false)))
  fPass))
  (fIfS (tOr2 (tV (fOp dNe (fCall 2 F_worth_of (fCons (fVar 10) (fCons (fVar 7) fNil))) (fCall 2 F_worth_of (fCons (fVar 4) (fCons (fVar 11) fNil))))) (tV (fOp dNe (fCall 2 F_put_in (fCons (fVar 4) (fCons fDctC fNil))) (fVar 4))))
  (fRet (fC (.bl false)))
  fPass)))))))))))))
  (fRet (fC (.bl true))))))
theorem ok_law (B : Bi mg) (g__law_pool : Df P w K mg base 1 "_law_pool" 2 F__law_pool) (g__law_term : Df P w K mg base 2 "_law_term" 2 (cl F__law_term)) (g__law_take : Df P w K mg base 1 "_law_take" 2 F__law_take) (g_put_in : Df P w K mg base 3 "put_in" 2 F_put_in) (g__law_put_in : Df P w K mg base 1 "_law_put_in" 2 (cl F__law_put_in)) (g__law_worth_by : Df P w K mg base 1 "_law_worth_by" 2 F__law_worth_by) (g_worth_of : Df P w K mg base 1 "worth_of" 2 F_worth_of) {f : Addr} {fd : FuncData} (F : L2.Fun K "law" "law" s_law f fd) : GnOk P w K mg base CX0 4 f fd ["script"] (spF K 1 F_law) := by
  refine gn_ok F sc_law fun cdv A outer s H E hgd hr => ?_
  exact (ss_cons (s_set (i := 1) sc_law.nd rfl (.inl rfl) (v_lst (a_cons v_str (a_cons v_str (a_cons v_str (a_cons v_str (a_cons v_str (a_cons v_str a_nil))))))))
  (ss_cons (s_for PassesOwn.never rfl (i_rng1 (by rfl) B.range (a_cons (v_callB (call_max2 rfl) max2_p (by rfl) B.max (by decide +kernel) (a_cons v_int (a_cons (v_callB (call_min2 rfl) min2_p (by rfl) B.min (by decide +kernel) (a_cons (v_callB call_len_seq len_p (by rfl) B.len (by decide +kernel) (a_cons (v_var (pv 0)) a_nil)) (a_cons v_int a_nil))) a_nil))) a_nil)) (g_name (i := 2) sc_law.nd rfl (.inl rfl))
  (ss_cons (s_set (i := 3) sc_law.nd rfl (.inr rfl) (v_callD g__law_pool (hr.mono (by decide)) hgd (by rfl) (a_cons (v_var (pv 0)) (a_cons (v_var (pv 2)) a_nil))))
  (ss_cons (s_set (i := 4) sc_law.nd rfl (.inl rfl) (v_callD g__law_term (hr.mono (by decide)) hgd (by rfl) (a_cons (v_var (pv 3)) (a_cons v_int a_nil))))
  (ss_cons (s_set (i := 5) sc_law.nd rfl (.inl rfl) v_dctC)
  (ss_cons (s_for PassesOwn.never rfl (i_rng1 (by rfl) B.range (a_cons (v_callD g__law_take (hr.mono (by decide)) hgd (by rfl) (a_cons (v_var (pv 3)) (a_cons v_int a_nil))) a_nil)) (g_name (i := 6) sc_law.nd rfl (.inl rfl))
  (ss_one (s_putK hr.u1 (v_var (pv 5)) (v_ix ix_lt ix_p (v_var (pv 1)) (v_callD g__law_take (hr.mono (by decide)) hgd (by rfl) (a_cons (v_var (pv 3)) (a_cons v_int a_nil))) (fun _ _ => rfl)) (v_callD g__law_term (hr.mono (by decide)) hgd (by rfl) (a_cons (v_var (pv 3)) (a_cons v_int a_nil))))))
  (ss_cons (s_set (i := 7) sc_law.nd rfl (.inl rfl) (v_newD (call_dictP rfl) dictL_p (by rfl) B.dict (by decide +kernel) (a_cons (v_lc (own := [("name", 8)]) (t := L2.gName 8) rfl sc_law.nd (i_list (v_var (pv 1))) (blkOk_by (N := ["script", "names", "k", "pool", "term", "by", "turn", "numbers", "name", "kept", "found", "inner", "one", "some"]) (sc := defScope s_law) (by decide +kernel)) (fun _ _ _ _ _ => (pg_name (i := 8) sc_law.nd rfl (Or.inl rfl))) (own_name (by decide)) (fun _ _ _ _ _ => pts0) (fun _ _ _ _ _ => (v_tup (a_cons (v_var (pv 8)) (a_cons (v_op op_sub sub_p (v_callD g__law_take (hr.mono (by decide)) hgd (by rfl) (a_cons (v_var (pv 3)) (a_cons v_int a_nil))) v_int) a_nil))))) a_nil)))
  (ss_cons (s_set (i := 9) sc_law.nd rfl (.inl rfl) (v_reprX hgd hr.u100 (by rfl) B.repr (by decide +kernel) (a_cons (v_var (pv 4)) (a_cons (v_var (pv 5)) (a_cons (v_var (pv 7)) a_nil)))))
  (ss_cons (s_set (i := 10) sc_law.nd rfl (.inl rfl) (v_callD g_put_in hr hgd (by rfl) (a_cons (v_var (pv 4)) (a_cons (v_var (pv 5)) a_nil))))
  (ss_cons (s_if (PW.pt (tw_or (tv_cmp op_ne neS_p (v_callB (call_repr hgd hr.u100) repr_p (by rfl) B.repr (by decide +kernel) (a_cons (v_var (pv 10)) a_nil)) (v_callB (call_repr hgd hr.u100) repr_p (by rfl) B.repr (by decide +kernel) (a_cons (v_callD g__law_put_in (hr.mono (by decide)) hgd (by rfl) (a_cons (v_var (pv 4)) (a_cons (v_var (pv 5)) a_nil))) a_nil)) (nomark _)) (tw_or1 (tv_cmp op_ne neS_p (v_reprX hgd hr.u100 (by rfl) B.repr (by decide +kernel) (a_cons (v_var (pv 4)) (a_cons (v_var (pv 5)) (a_cons (v_var (pv 7)) a_nil)))) (v_var (pv 9)) (nomark _)))))
  (ss_one (s_ret v_bl))
  ss_nil)
  (ss_cons (s_set (i := 11) sc_law.nd rfl (.inl rfl) (v_newD call_dictD dictD_p (by rfl) B.dict (by decide +kernel) (a_cons (v_var (pv 7)) a_nil)))
  (ss_cons (s_for PassesOwn.never rfl (Fx.i_keys (v_var (pv 5))) (g_name (i := 8) sc_law.nd rfl (.inl rfl))
  (ss_one (s_putK hr.u1 (v_var (pv 11)) (v_var (pv 8)) (v_callD g__law_worth_by (hr.mono (by decide)) hgd (by rfl) (a_cons (v_getK hr.u1 (v_var (pv 5)) (v_var (pv 8)) (fun _ _ => rfl)) (a_cons (v_var (pv 7)) a_nil))))))
  (ss_cons (s_for PassesOwn.never rfl (i_list (v_lst (a_cons (v_tup (a_cons (v_var (pv 4)) (a_cons (v_var (pv 7)) a_nil))) (a_cons (v_tup (a_cons (v_var (pv 10)) (a_cons (v_var (pv 7)) a_nil))) (a_cons (v_tup (a_cons (v_var (pv 4)) (a_cons (v_var (pv 11)) a_nil))) a_nil))))) (g_tupR rfl (gs_consR (g_name (i := 12) sc_law.nd rfl (.inl rfl)) (gs_consR (g_name (i := 13) sc_law.nd rfl (.inl rfl)) gs_nil)))
  (ss_one (s_if (tv_cmp op_ne neS_p (v_callB (call_repr hgd hr.u100) repr_p (by rfl) B.repr (by decide +kernel) (a_cons (v_callD g_worth_of (hr.mono (by decide)) hgd (by rfl) (a_cons (v_var (pv 12)) (a_cons (v_var (pv 13)) a_nil))) a_nil)) (v_callB (call_repr hgd hr.u100) repr_p (by rfl) B.repr (by decide +kernel) (a_cons (v_callD g__law_worth_by (hr.mono (by decide)) hgd (by rfl) (a_cons (v_var (pv 12)) (a_cons (v_var (pv 13)) a_nil))) a_nil)) (nomark _))
  (ss_one (s_ret v_bl))
  ss_nil)))
  (ss_one (s_if (PW.pt (tw_or (tv_cmp (op_neD hr.units) ne_p (v_callD g_worth_of (hr.mono (by decide)) hgd (by rfl) (a_cons (v_var (pv 10)) (a_cons (v_var (pv 7)) a_nil))) (v_callD g_worth_of (hr.mono (by decide)) hgd (by rfl) (a_cons (v_var (pv 4)) (a_cons (v_var (pv 11)) a_nil))) (nomark _)) (tw_or1 (tv_cmp (op_neD hr.units) ne_p (v_callD g_put_in hr hgd (by rfl) (a_cons (v_var (pv 4)) (a_cons v_dctC a_nil))) (v_var (pv 4)) (nomark _)))))
  (ss_one (s_ret v_bl))
  ss_nil))))))))))))))
  (ss_one (s_ret v_bl))))
end
end L_k08
namespace L_k08
open PySem PySem.Spec PyProof.Rows L2 Fx
noncomputable section
/-! ### draws -/
/-- a pool's cell -/
def Pl (c : Cell) : Prop := ∃ a b : Int, c = .lst [.int a, .int b] ∧ 0 ≤ a ∧ 0 ≤ b ∧ b < 2147483647
theorem sz_small {i : Int} (h : i.natAbs < 2 ^ 200) : Sz i := Sz.of h (by decide) (by decide)
theorem sz_b {i : Int} (h0 : 0 ≤ i) (h : i < 2 ^ 100) : Sz i := sz_small (by
  have : (2 : Nat) ^ 100 < 2 ^ 200 := by decide
  omega)
theorem take_eq (n : Nat) (m : Int) (st : Sto) (c : Cell) (hm : 0 < m) (hm2 : m < 1000) (hc : st[n]? = some c) (hp : Pl c) :
    ∃ (v : Int) (c2 : Cell), 0 ≤ v ∧ v < m ∧ Pl c2 ∧ F__law_take [.ref n, .int m] st = some (.ok (.int v) (st.set n c2)) := by
  obtain ⟨a, b, rfl, ha, hb, hb2⟩ := hp
  have hs : ∀ c, (st.set n c)[n]? = some c := fun c => List.getElem?_set_self (List.getElem?_eq_some_iff.mp hc).1
  have hm0 : m ≠ 0 := by omega
  have hml : m.natAbs.log2 < 9000 := Nat.lt_of_lt_of_le (log2_lt (n := 10) (by omega) (by decide)) (by decide)
  by_cases h : 0 < a
  · refine ⟨a.fmod m, .lst [.int (a.fdiv m), .int b], Int.fmod_nonneg_of_pos a hm, Int.fmod_lt_of_pos a hm, ⟨_, _, rfl, ?_, hb, hb2⟩, ?_⟩
    · rw [Int.fdiv_eq_ediv_of_nonneg _ (by omega)]
      exact Int.ediv_nonneg (by omega) (by omega)
    · unfold F__law_take
      rw [ap_def]
      simp [dIx, seqLT, seqT, seqS, hc, atI, ixN, dCmp, h, dMod, hm0, dDiv_ok hm0 hml]
  · have a0 : a = 0 := by omega
    subst a0
    have e1 : (0 : Int) < 2147483647 := by decide
    have b1 := Int.fmod_nonneg_of_pos (b * 48271 + 11) e1
    have b2 := Int.fmod_lt_of_pos (b * 48271 + 11) e1
    generalize hw : (b * 48271 + 11).fmod 2147483647 = w at b1 b2
    refine ⟨((((w * w).fmod 2147483629).fdiv 16).fmod m), .lst [.int 0, .int w], Int.fmod_nonneg_of_pos _ hm, Int.fmod_lt_of_pos _ hm, ⟨_, _, rfl, Int.le_refl _, b1, b2⟩, ?_⟩
    unfold F__law_take
    rw [ap_def]
    have z1 : Sz b := sz_b hb (by omega)
    have z2 : Sz 48271 := sz_b (by decide) (by decide)
    have z3 : Sz w := sz_b b1 (by omega)
    have h16 : (16 : Int).natAbs.log2 < 9000 := by decide
    simp [dIx, seqLT, seqT, seqS, hc, atI, ixN, dCmp, dMod, hm0, dAdd, hs, dMul_ok z1 z2, hw, dMul_ok z3 z3, dDiv_ok (show (16 : Int) ≠ 0 by decide) h16]
/-! ### the pool of a script's item k -/
theorem bits_lt {z : Int} (h : Builtin.Int.intBits z ≤ 1048576) : z.natAbs.log2 < 1048576 ∨ z = 0 := by
  unfold Builtin.Int.intBits at h
  split at h
  · rename_i h0
    right
    simpa using h0
  · left; omega
theorem cut1 (xs : List D) (k : Nat) : Fx.cutD xs (some (k : Int)) (some ((k : Int) + 1)) = (xs.drop k).take 1 := by
  unfold Fx.cutD
  have e1 : HT.sIx xs.length 0 (some (k : Int)) = min k xs.length := HT.sIx_nat xs.length 0 k
  have e2 : HT.sIx xs.length xs.length (some ((k : Int) + 1)) = min (k + 1) xs.length := HT.sIx_nat xs.length xs.length (k + 1)
  rw [e1, e2]
  by_cases h : k < xs.length
  · have h1 : min k xs.length = k := by omega
    have h2 : min (k + 1) xs.length - k = 1 := by omega
    rw [h1, h2]
  · have h1 : min k xs.length = xs.length := by omega
    rw [h1, List.drop_length, List.drop_eq_nil_of_le (by omega)]
    simp
theorem pool_eq (N : Nat) (hN : N ≤ 1048577) (ns : List Int) (k : Nat) (st : Sto) (hb : ∀ z ∈ ns, z.natAbs < 2 ^ N) (hk : k < 63) :
    ∃ c, Pl c ∧ F__law_pool [.frz (ns.map D.int), .int k] st = some (.ok (.ref st.length) (st ++ [c])) := by
  -- the cell
  obtain ⟨cell, hcell, hce⟩ : ∃ cell : Int, cell.natAbs < 2 ^ N ∧ ∃ r, ((ns.map D.int).drop k).take 1 ++ [D.int 0] = .int cell :: r := by
    by_cases h : k < ns.length
    · refine ⟨ns[k], hb _ (List.getElem_mem h), [.int 0], ?_⟩
      rw [List.drop_eq_getElem_cons (by simpa using h)]
      simp
    · refine ⟨0, by simpa using Nat.pow_pos (by decide), [], ?_⟩
      rw [List.drop_eq_nil_of_le (by simpa using h)]
      simp
  obtain ⟨rest, hce⟩ := hce
  have hp : 2 ^ (N + 1) = 2 * 2 ^ N := by rw [Nat.pow_succ, Nat.mul_comm]
  have hg : (if -1 - cell > cell then -1 - cell else cell).natAbs < 2 ^ (N + 1) := by
    have : 0 < 2 ^ N := Nat.pow_pos (by decide)
    split <;> omega
  have g0 : 0 ≤ (if -1 - cell > cell then -1 - cell else cell) := by split <;> omega
  generalize hgr : (if -1 - cell > cell then -1 - cell else cell) = great at hg g0
  have zg : Sz great := Sz.of hg (by omega) (by omega)
  have m0 := Int.fmod_nonneg_of_pos great (show (0 : Int) < 2147483629 by decide)
  have m1 := Int.fmod_lt_of_pos great (show (0 : Int) < 2147483629 by decide)
  generalize hm : great.fmod 2147483629 = m at m0 m1
  have zk : Sz (k : Int) := sz_b (by omega) (by omega)
  have z7 : Sz 7919 := sz_small (by decide)
  have z7k : Sz (7919 * (k : Int)) := sz_b (by omega) (by omega)
  have z47 : Sz 47 := sz_small (by decide)
  have z48 : Sz 48271 := sz_small (by decide)
  have kk : 0 ≤ 7919 * (k : Int) * k ∧ 7919 * (k : Int) * k ≤ 7919 * 63 * 63 := by
    refine ⟨Int.mul_nonneg (by omega) (by omega), ?_⟩
    exact Int.mul_le_mul (by omega) (by omega) (by omega) (by omega)
  have zx : Sz (m + 7919 * (k : Int) * k + 47 * k + 19) := sz_b (by omega) (by omega)
  have w0 := Int.fmod_nonneg_of_pos ((m + 7919 * (k : Int) * k + 47 * k + 19) * 48271) (show (0 : Int) < 2147483647 by decide)
  have w1 := Int.fmod_lt_of_pos ((m + 7919 * (k : Int) * k + 47 * k + 19) * 48271) (show (0 : Int) < 2147483647 by decide)
  generalize hw : ((m + 7919 * (k : Int) * k + 47 * k + 19) * 48271).fmod 2147483647 = w at w0 w1
  have zw : Sz w := sz_b w0 (by omega)
  have u0 := Int.fmod_nonneg_of_pos (w * w) (show (0 : Int) < 2147483629 by decide)
  have u1 := Int.fmod_lt_of_pos (w * w) (show (0 : Int) < 2147483629 by decide)
  have zi : Sz (if (1000000000000000000 : Int) ≤ great then 1 else 0) := by split <;> exact sz_small (by decide)
  refine ⟨.lst [.int (great * (if (1000000000000000000 : Int) ≤ great then 1 else 0)), .int ((w * w).fmod 2147483629)], ⟨_, _, rfl, ?_, u0, by omega⟩, ?_⟩
  · split
    · omega
    · omega
  · unfold F__law_pool
    rw [ap_def]
    have hl : (((ns.map D.int).drop k).take 1).length + ([D.int 0] : List D).length ≤ 1000000 := by
      have : (((ns.map D.int).drop k).take 1).length ≤ 1 := List.length_take_le _ _
      simp only [List.length_cons, List.length_nil]
      omega
    have hadd : dAdd st (.lst (((ns.map D.int).drop k).take 1)) (.lst [.int 0]) = some (.lst (.int cell :: rest)) := by
      rw [← hce]
      exact if_pos hl
    have hix : dIx st (.lst (.int cell :: rest)) (.int 0) = some (.int cell) := by
      show atI (.int cell :: rest) ((0 : Nat) : Int) = _
      exact atI_nat rfl
    have hk1 : dAdd st (.int k) (.int 1) = some (.int ((k : Int) + 1)) := rfl
    have hneg : dNeg st (.int 1) = some (.int (-1)) := rfl
    have hsub : dSub st (.int (-1)) (.int cell) = some (.int (-1 - cell)) := rfl
    have hmx : bMax2 st [.int cell, .int (-1 - cell)] = some (.int great) := by rw [← hgr]; rfl
    simp [hk1, cut1, hadd, hix, hneg, hsub, hmx, dAdd_int, dCmp, dMod, hm, dMul_ok z7 zk, dMul_ok z7k zk, dMul_ok z47 zk, dMul_ok zx z48, hw, dPow, bInt, dMul_ok zg zi, dMul_ok zw zw]
/-! ### terms: a number and what stands by each name -/
def NM : List Str := ["a", "abc", "b", "c", "i", "zzzzzz"]
theorem nm_srt : NM.Pairwise fun a b => leS a b = true := by decide
theorem nm_nd : NM.Nodup := by decide
def prD (p : Str × Int) : D := .tup [.str p.1, .int p.2]
def canon (f : Str → Int) : List (Str × Int) := (NM.filter fun x => decide (f x ≠ 0)).map fun x => (x, f x)
def tD (c : Int) (f : Str → Int) : D := .tup [.int c, .tup ((canon f).map prD)]
theorem canon_congr {f g : Str → Int} (h : ∀ x ∈ NM, f x = g x) : canon f = canon g := by
  unfold canon
  have e : (NM.filter fun x => decide (f x ≠ 0)) = NM.filter fun x => decide (g x ≠ 0) := List.filter_congr fun x m => by rw [h x m]
  rw [e]
  exact List.map_congr_left fun x m => by rw [h x (List.mem_filter.mp m).1]
theorem tD_congr {c : Int} {f g : Str → Int} (h : ∀ x ∈ NM, f x = g x) : tD c f = tD c g := by unfold tD; rw [canon_congr h]
theorem canon_nm {f : Str → Int} {p : Str × Int} (h : p ∈ canon f) : p.1 ∈ NM ∧ p.2 = f p.1 ∧ p.2 ≠ 0 := by
  obtain ⟨x, hx, rfl⟩ := List.mem_map.mp h
  obtain ⟨h1, h2⟩ := List.mem_filter.mp hx
  exact ⟨h1, rfl, of_decide_eq_true h2⟩
theorem canon_len {f : Str → Int} : (canon f).length ≤ 6 := by
  unfold canon
  rw [List.length_map]
  exact List.length_filter_le _ _
def sumP : List (Str × Int) → Str → Int
  | [], _ => 0
  | p :: ps, x => (if p.1 = x then p.2 else 0) + sumP ps x
theorem sumP_app (x : Str) : ∀ ps qs : List (Str × Int), sumP (ps ++ qs) x = sumP ps x + sumP qs x
  | [], qs => by simp [sumP]
  | p :: ps, qs => by simp only [List.cons_append, sumP, sumP_app x ps qs]; omega
theorem sumP_pick (f : Str → Int) (x : Str) : ∀ L : List Str, L.Nodup → (∀ y ∈ L, f y ≠ 0) → sumP (L.map fun y => (y, f y)) x = if x ∈ L then f x else 0
  | [], _, _ => by simp [sumP]
  | y :: L, hn, h0 => by
    obtain ⟨h1, h2⟩ := List.nodup_cons.mp hn
    rw [List.map_cons, sumP, sumP_pick f x L h2 fun z m => h0 z (List.mem_cons_of_mem _ m)]
    by_cases h : y = x
    · subst h
      simp [h1]
    · have : ¬ x = y := fun e => h e.symm
      simp [h, this]
theorem sumP_canon {f : Str → Int} {x : Str} (hx : x ∈ NM) : sumP (canon f) x = f x := by
  unfold canon
  rw [sumP_pick f x _ (nm_nd.filter _) fun y m => of_decide_eq_true (List.mem_filter.mp m).2]
  by_cases h : f x = 0
  · have hn : ¬ x ∈ NM.filter (fun y => decide (f y ≠ 0)) := fun m => absurd h (of_decide_eq_true (List.mem_filter.mp m).2)
    rw [if_neg hn, h]
  · rw [if_pos (List.mem_filter.mpr ⟨hx, decide_eq_true h⟩)]
theorem sumP_scale (k : Int) (x : Str) : ∀ ps : List (Str × Int), sumP (ps.map fun p => (p.1, p.2 * k)) x = sumP ps x * k
  | [] => by simp [sumP]
  | p :: ps => by
    rw [List.map_cons, sumP, sumP, sumP_scale k x ps, Int.add_mul]
    by_cases h : p.1 = x <;> simp [h]
def addAll (m : MI) (ps : List (Str × Int)) : MI := ps.foldl (fun m p => putA m (.inr p.1) (at0 m p.1 + p.2)) m
theorem at0_addAll (x : Str) : ∀ (ps : List (Str × Int)) (m : MI), at0 (addAll m ps) x = at0 m x + sumP ps x
  | [], m => by simp [addAll, sumP]
  | p :: ps, m => by
    show at0 (addAll (putA m (.inr p.1) (at0 m p.1 + p.2)) ps) x = _
    rw [at0_addAll x ps, at0_put, sumP]
    by_cases h : x = p.1
    · subst h
      simp
      omega
    · have : ¬ p.1 = x := fun e => h e.symm
      simp [h, this]
theorem kd_addAll {L : List Str} : ∀ {ps : List (Str × Int)} {m : MI}, Kd L m → (∀ p ∈ ps, p.1 ∈ L) → Kd L (addAll m ps)
  | [], m, h, _ => h
  | p :: ps, m, h, hp => kd_addAll (ps := ps) (m := putA m (.inr p.1) (at0 m p.1 + p.2)) (h.put (hp p List.mem_cons_self)) fun q mq => hp q (List.mem_cons_of_mem _ mq)
theorem at0_nil (x : Str) : at0 [] x = 0 := rfl
theorem kd_small {m : MI} (h : Kd NM m) : (dI m).length ≤ 1000000 := by
  rw [dI_length]
  have := h.len nm_srt nm_nd
  have e : NM.length = 6 := rfl
  omega
/-- what is told of a dict whose keys are names -/
theorem told_canon {m : MI} {f : Str → Int} (h : ∀ x ∈ NM, at0 m x = f x) :
    ((NM.filter fun x => (valA m (.inr x)).isSome).filter fun x => decide (at0 m x ≠ 0)).map (fun x => (x, at0 m x)) = canon f := by
  rw [List.filter_filter]
  have e : (NM.filter fun x => decide (at0 m x ≠ 0) && (valA m (.inr x)).isSome) = NM.filter fun x => decide (f x ≠ 0) := List.filter_congr fun x hx => by
    rw [← h x hx]
    by_cases q : (valA m (.inr x)).isSome = true
    · rw [q, Bool.and_true]
    · have z := at0_no q
      simp [z]
  rw [e]
  exact List.map_congr_left fun x hx => by rw [h x (List.mem_filter.mp hx).1]
theorem gath_loop (c d : D) (st : Sto) : ∀ (ps : List (Str × Int)) (m : MI) (e3 e4 : Option D), Kd NM m → (∀ p ∈ ps, p.1 ∈ NM) → ∃ e3' e4',
    forL (gTp 2 (gsCons (gNm 3) (gsCons (gNm 4) gsNil))) (fPutK (fVar 2) (fVar 3) (fOp dAdd (fGet2 (fVar 2) (fVar 3) (fC (.int 0))) (fVar 4))) (ps.map prD) [some c, some d, some (.ref st.length), e3, e4] (st ++ [.dct (dI m)])
      = some (.nx [some c, some d, some (.ref st.length), e3', e4'] (st ++ [.dct (dI (addAll m ps))]))
  | [], m, e3, e4, _, _ => ⟨e3, e4, rfl⟩
  | p :: ps, m, e3, e4, hm, hp => by
    obtain ⟨e3', e4', h⟩ := gath_loop c d st ps (putA m (.inr p.1) (at0 m p.1 + p.2)) (some (.str p.1)) (some (.int p.2)) (hm.put (hp p List.mem_cons_self)) fun q mq => hp q (List.mem_cons_of_mem _ mq)
    refine ⟨e3', e4', ?_⟩
    rw [List.map_cons]
    unfold forL
    have hv : ((valA (dI m) (.inr p.1)).getD (.int 0)) = .int (at0 m p.1) := by
      rw [valA_dI]
      unfold at0
      cases valA m (.inr p.1) <;> rfl
    simp [prD, hv, dAdd, kd_small hm, putA_dI]
    exact h
theorem gathered_raw (c : Int) (d : D) (ps : List (Str × Int)) (st : Sto) (hd : seqAny d = some (ps.map prD)) (hn : ∀ p ∈ ps, p.1 ∈ NM) :
    F_gathered [.int c, d] st = some (.ok (tD c (sumP ps)) (st ++ [.dct (dI (addAll [] ps))])) := by
  have hk : Kd NM (addAll [] ps) := kd_addAll Kd.nil hn
  obtain ⟨e3', e4', hl⟩ := gath_loop (.int c) d st ps [] none none Kd.nil hn
  have hs := hk.sortK (st := st ++ [.dct (dI (addAll [] ps))]) (d := .ref st.length) nm_srt nm_nd (by decide) last_dct
  have hv : ∀ x, at0 (addAll [] ps) x = sumP ps x := fun x => by rw [at0_addAll, at0_nil, Int.zero_add]
  have hc := lcL_fun (g := gNm 3) (ft := tV (fOp dNe (fGetK (fVar 2) (fVar 3)) (fC (.int 0)))) (fe := fTup (fCons (fVar 3) (fCons (fGetK (fVar 2) (fVar 3)) fNil))) (env := [some (.int c), some d, some (.ref st.length), none, e4']) (st := st ++ [.dct (dI (addAll [] ps))])
    (h := D.str) (b := fun x => decide (at0 (addAll [] ps) x ≠ 0)) (d := fun x => prD (x, at0 (addAll [] ps) x)) (xs := NM.filter fun x => (valA (addAll [] ps) (.inr x)).isSome) fun x hx => by
      have q := at0_some (List.mem_filter.mp hx).2
      refine ⟨_, rfl, ?_, fun hb => ?_⟩
      · simp [valA_dI, q, dNe, pdS, pd, SeqAt.shaped, PyData.canLay0, PyData.depth, PyData.eqv]
        rfl
      · simp [valA_dI, q, prD]
  unfold F_gathered
  refine def_rt rfl ?_
  rw [seq_nx (e1 := [some (.int c), some d, some (.ref st.length), none, none]) (s1 := st ++ [.dct (dI [])]) rfl]
  rw [seq_nx (e1 := [some (.int c), some d, some (.ref st.length), e3', e4']) (s1 := st ++ [.dct (dI (addAll [] ps))]) (by
    rw [ap_for, any_eq (d := d) rfl hd, sb_ok]
    exact hl)]
  have hlen : (List.map D.str (NM.filter fun x => (valA (addAll [] ps) (.inr x)).isSome)).length ≤ 100000 := by
    rw [List.length_map]
    exact Nat.le_trans (List.length_filter_le _ _) (by decide)
  have ht : ∀ (xs : List D) st, bTuple st [.lst xs] = some (.tup xs) := fun _ _ => rfl
  simp only [ap_ret, ap_tup, ap_cons, ap_nil, ap_ca, ap_lc, ap_lcF, ap_iLst, ap_var, List.getElem?_cons_succ, List.getElem?_cons_zero, bnd_ok, hs, Option.map_some, seqL]
  rw [if_pos hlen]
  simp only [wipeD_cons, wipeD_nil, List.set_cons_succ, List.set_cons_zero, hc, bnd_ok, ht, Option.map_some, sb_ok]
  have e : ((NM.filter fun x => (valA (addAll [] ps) (.inr x)).isSome).filter fun x => decide (at0 (addAll [] ps) x ≠ 0)).map (fun x => prD (x, at0 (addAll [] ps) x)) = (canon (sumP ps)).map prD := by
    rw [← told_canon (m := addAll [] ps) (f := sumP ps) fun x _ => hv x, List.map_map]
    rfl
  rw [e]
  rfl

/-! ### what is told of terms -/
theorem prs_ok (n : Nat) : ∀ ps : List (Str × Int), D.oks n (ps.map prD) = true
  | [] => rfl
  | p :: ps => by
    show (D.ok n (prD p) && D.oks n (ps.map prD)) = true
    rw [prs_ok n ps]
    rfl
theorem tD_ok (n : Nat) (c : Int) (f : Str → Int) : D.ok n (tD c f) = true := by
  show (true && (D.oks n ((canon f).map prD) && true)) = true
  rw [prs_ok]
  rfl
theorem gathered_eq (c : Int) (d : D) (ps : List (Str × Int)) (st : Sto) (hd : seqAny d = some (ps.map prD)) (hn : ∀ p ∈ ps, p.1 ∈ NM) : cl F_gathered [.int c, d] st = some (.ok (tD c (sumP ps)) st) :=
  cl_pure (gathered_raw c d ps st hd hn) (tD_ok _ _ _)
@[simp] theorem ix_t0 (c : Int) (f : Str → Int) (st : Sto) : dIx st (tD c f) (.int 0) = some (.int c) := rfl
@[simp] theorem ix_t1 (c : Int) (f : Str → Int) (st : Sto) : dIx st (tD c f) (.int 1) = some (.tup ((canon f).map prD)) := rfl
theorem any_cat (xs ys : List D) : seqAny (catT xs ys) = some (xs ++ ys) := by
  cases xs with
  | nil => rfl
  | cons x xs =>
    cases ys with
    | nil => show some (x :: xs) = some (x :: xs ++ []); rw [List.append_nil]
    | cons y ys => rfl
theorem added_eq (c d : Int) (f g : Str → Int) (st : Sto) : F_added [tD c f, tD d g] st = some (.ok (tD (c + d) fun x => f x + g x) st) := by
  have h := gathered_eq (c + d) (catT ((canon f).map prD) ((canon g).map prD)) (canon f ++ canon g) st (by rw [any_cat, List.map_append]) fun p m => by
    rcases List.mem_append.mp m with m | m <;> exact (canon_nm m).1
  have e : tD (c + d) (sumP (canon f ++ canon g)) = tD (c + d) fun x => f x + g x := tD_congr fun x hx => by rw [sumP_app, sumP_canon hx, sumP_canon hx]
  rw [e] at h
  have hl : ((canon f).map prD).length + ((canon g).map prD).length ≤ 1000000 := by
    rw [List.length_map, List.length_map]
    have := canon_len (f := f)
    have := canon_len (f := g)
    omega
  have ha : dAdd st (.tup ((canon f).map prD)) (.tup ((canon g).map prD)) = some (catT ((canon f).map prD) ((canon g).map prD)) := if_pos hl
  have hc : dAdd st (.int c) (.int d) = some (.int (c + d)) := rfl
  unfold F_added
  rw [ap_def]
  simp [ha, hc, h]
theorem scaled_eq (c k : Int) (f : Str → Int) (st : Sto) (h1 : Sz c) (h2 : Sz k) (h3 : ∀ x, Sz (f x)) : F_scaled [tD c f, .int k] st = some (.ok (tD (c * k) fun x => f x * k) st) := by
  have h := gathered_eq (c * k) (.lst (((canon f).map fun p => (p.1, p.2 * k)).map prD)) ((canon f).map fun p => (p.1, p.2 * k)) st rfl fun p m => by
    obtain ⟨q, hq, rfl⟩ := List.mem_map.mp m
    exact (canon_nm hq).1
  have e : tD (c * k) (sumP ((canon f).map fun p => (p.1, p.2 * k))) = tD (c * k) fun x => f x * k := tD_congr fun x hx => by rw [sumP_scale, sumP_canon hx]
  rw [e] at h
  have hc := lcL_fun (g := gTp 2 (nmsF [2, 3])) (ft := tYes1) (fe := fTup (fCons (fVar 2) (fCons (fOp dMul (fVar 3) (fVar 1)) fNil))) (env := [some (tD c f), some (.int k), none, none]) (st := st)
    (h := prD) (b := fun _ => true) (d := fun p => prD (p.1, p.2 * k)) (xs := canon f) fun p hp => by
      obtain ⟨x, i⟩ := p
      have hz : Sz i := by
        have := (canon_nm hp).2.1
        simp only at this
        rw [this]
        exact h3 x
      refine ⟨[some (tD c f), some (.int k), some (.str x), some (.int i)], rfl, rfl, fun _ => ?_⟩
      simp [dMul_ok hz h2, prD]
  have hf : (canon f).filter (fun _ => true) = canon f := List.filter_eq_self.mpr fun _ _ => rfl
  rw [hf] at hc
  have hl : ((canon f).map prD).length ≤ 100000 := by
    rw [List.length_map]
    have := canon_len (f := f)
    omega
  rw [List.map_map] at h
  have e2 : (prD ∘ fun p : Str × Int => (p.1, p.2 * k)) = fun p => prD (p.1, p.2 * k) := rfl
  rw [e2] at h
  unfold F_scaled
  refine def_rt rfl ?_
  simp only [ap_ret, ap_call, ap_cons, ap_nil, ap_op, ap_var, ap_c, ap_lc, ap_lcF, ap_iTp, List.map_cons, List.map_nil, List.cons_append, List.nil_append, List.getElem?_cons_succ, List.getElem?_cons_zero, bnd_ok, ix_t0, ix_t1, dMul_ok h1 h2, Option.map_some, seqT, List.replicate, wipeD_cons, wipeD_nil, List.set_cons_succ, List.set_cons_zero]
  rw [if_pos hl, hc]
  simp only [bnd_ok, List.length_cons, List.length_nil, if_true, h, sb_ok]
def NE : List Str := "" :: NM
theorem ne_srt : NE.Pairwise fun a b => leS a b = true := by decide
theorem ne_nd : NE.Nodup := by decide
theorem nm_ne {x : Str} (h : x ∈ NM) : x ≠ "" := by
  intro e
  subst e
  exact absurd h (by decide)
theorem kd_small7 {m : MI} (h : Kd NE m) : (dI m).length ≤ 1000000 := by
  rw [dI_length]
  have := h.len ne_srt ne_nd
  have e : NE.length = 7 := rfl
  omega
theorem isSome_put {m : MI} {k j : Key} {v : Int} (h : (valA m j).isSome = true) : (valA (putA m k v) j).isSome = true := by
  rw [valA_put]
  split
  · rfl
  · exact h
theorem isSome_addAll {j : Key} : ∀ (ps : List (Str × Int)) (m : MI), (valA m j).isSome = true → (valA (addAll m ps) j).isSome = true
  | [], m, h => h
  | p :: ps, m, h => isSome_addAll ps (putA m (.inr p.1) (at0 m p.1 + p.2)) (isSome_put h)
theorem sumP_mul (k : Int) (x : Str) (ps : List (Str × Int)) : sumP (ps.map fun p => (p.1, k * p.2)) x = k * sumP ps x := by
  have : (ps.map fun p => (p.1, k * p.2)) = ps.map fun p => (p.1, p.2 * k) := List.map_congr_left fun p _ => by rw [Int.mul_comm]
  rw [this, sumP_scale, Int.mul_comm]
def namesD : List D := [.str "a", .str "b", .str "c", .str "i", .str "abc", .str "zzzzzz"]
theorem pick6 {v : Int} (h0 : 0 ≤ v) (h1 : v < 6) (st : Sto) : ∃ x ∈ NM, dIx st (.lst namesD) (.int v) = some (.str x) := by
  have : v = 0 ∨ v = 1 ∨ v = 2 ∨ v = 3 ∨ v = 4 ∨ v = 5 := by omega
  rcases this with rfl | rfl | rfl | rfl | rfl | rfl
  · exact ⟨"a", by decide, rfl⟩
  · exact ⟨"b", by decide, rfl⟩
  · exact ⟨"c", by decide, rfl⟩
  · exact ⟨"i", by decide, rfl⟩
  · exact ⟨"abc", by decide, rfl⟩
  · exact ⟨"zzzzzz", by decide, rfl⟩
def valsD : List D := [.int 1, .int 1, .int (-1), .int 2, .int (-3), .int 7, .int (10 ^ 20)]
theorem pick7 {v : Int} (h0 : 0 ≤ v) (h1 : v < 7) (st : Sto) : ∃ i : Int, i ≠ 0 ∧ i.natAbs < 2 ^ 70 ∧ dIx st (.lst valsD) (.int v) = some (.int i) := by
  have : v = 0 ∨ v = 1 ∨ v = 2 ∨ v = 3 ∨ v = 4 ∨ v = 5 ∨ v = 6 := by omega
  rcases this with rfl | rfl | rfl | rfl | rfl | rfl | rfl
  · exact ⟨1, by decide, by decide, rfl⟩
  · exact ⟨1, by decide, by decide, rfl⟩
  · exact ⟨-1, by decide, by decide, rfl⟩
  · exact ⟨2, by decide, by decide, rfl⟩
  · exact ⟨-3, by decide, by decide, rfl⟩
  · exact ⟨7, by decide, by decide, rfl⟩
  · exact ⟨10 ^ 20, by decide, by decide, rfl⟩
def constsD : List D := [.int 0, .int 0, .int 1, .int (-2), .int 5, .int (-10 ^ 20)]
theorem pickC {v : Int} (h0 : 0 ≤ v) (h1 : v < 6) (st : Sto) : ∃ i : Int, i.natAbs < 2 ^ 70 ∧ dIx st (.lst constsD) (.int v) = some (.int i) := by
  have : v = 0 ∨ v = 1 ∨ v = 2 ∨ v = 3 ∨ v = 4 ∨ v = 5 := by omega
  rcases this with rfl | rfl | rfl | rfl | rfl | rfl
  · exact ⟨0, by decide, rfl⟩
  · exact ⟨0, by decide, rfl⟩
  · exact ⟨1, by decide, rfl⟩
  · exact ⟨-2, by decide, rfl⟩
  · exact ⟨5, by decide, rfl⟩
  · exact ⟨-10 ^ 20, by decide, rfl⟩
theorem set_app {st t : Sto} {n : Nat} {c : Cell} (h : n < st.length) : (st ++ t).set n c = st.set n c ++ t := List.set_append_left _ _ h
theorem get_app {st t : Sto} {n : Nat} (h : n < st.length) : (st ++ t)[n]? = st[n]? := List.getElem?_append_left h
/-- take, over a store with more behind -/
theorem take_app (n : Nat) (m : Int) (st t : Sto) (c : Cell) (hm : 0 < m) (hm2 : m < 1000) (hn : n < st.length) (hp : Pl c) :
    ∃ (v : Int) (c2 : Cell), 0 ≤ v ∧ v < m ∧ Pl c2 ∧ F__law_take [.ref n, .int m] (st.set n c ++ t) = some (.ok (.int v) (st.set n c2 ++ t)) := by
  have hn2 : n < (st.set n c).length := by simpa using hn
  obtain ⟨v, c2, h1, h2, h3, h4⟩ := take_eq n m (st.set n c ++ t) c hm hm2 (by rw [get_app hn2, List.getElem?_set_self hn]) hp
  refine ⟨v, c2, h1, h2, h3, ?_⟩
  rw [h4, set_app hn2, List.set_set]
/-- what the drawn dict is like -/
structure Dr (m : MI) : Prop where
  kd : Kd NM m
  nz : ∀ x, (valA m (.inr x)).isSome = true → at0 m x ≠ 0
  bd : ∀ x, (at0 m x).natAbs < 2 ^ 70
theorem Dr.put {m : MI} {x : Str} {i : Int} (h : Dr m) (hx : x ∈ NM) (h0 : i ≠ 0) (hb : i.natAbs < 2 ^ 70) : Dr (putA m (.inr x) i) := by
  refine ⟨h.kd.put hx, fun y hy => ?_, fun y => ?_⟩
  · rw [at0_put]
    split
    · exact h0
    · rename_i hn
      refine h.nz y ?_
      rw [valA_put, if_neg (fun e => hn (Sum.inr.inj e))] at hy
      exact hy
  · rw [at0_put]
    split
    · exact hb
    · exact h.bd y
def termBody : FS := fPutK (fVar 3) (fOp dIx (fVar 2) (fCall 2 F__law_take (fCons (fVar 0) (fCons (fC (.int 6)) fNil)))) (fOp dIx (fLst (fCons (fC (.int 1)) (fCons (fC (.int 1)) (fCons (fUn dNeg (fC (.int 1))) (fCons (fC (.int 2)) (fCons (fUn dNeg (fC (.int 3))) (fCons (fC (.int 7)) (fCons (fOp dPow (fC (.int 10)) (fC (.int 20))) fNil)))))))) (fCall 2 F__law_take (fCons (fVar 0) (fCons (fC (.int 7)) fNil))))
theorem valsF (env : En) (st : Sto) : fLst (fCons (fC (.int 1)) (fCons (fC (.int 1)) (fCons (fUn dNeg (fC (.int 1))) (fCons (fC (.int 2)) (fCons (fUn dNeg (fC (.int 3))) (fCons (fC (.int 7)) (fCons (fOp dPow (fC (.int 10)) (fC (.int 20))) fNil))))))) env st = some (.ok (.lst valsD) st) := rfl
theorem term_loop (n : Nat) (md : D) (st : Sto) (hn : n < st.length) : ∀ (k : List Int) (c : Cell) (m : MI) (e4 e5 : Option D), Pl c → Dr m → ∃ c' m' e4', Pl c' ∧ Dr m' ∧
    forL (gNm 4) termBody (k.map D.int) [some (.ref n), some md, some (.lst namesD), some (.ref st.length), e4, e5] (st.set n c ++ [.dct (dI m)])
      = some (.nx [some (.ref n), some md, some (.lst namesD), some (.ref st.length), e4', e5] (st.set n c' ++ [.dct (dI m')]))
  | [], c, m, e4, e5, hc, hm => ⟨c, m, e4, hc, hm, rfl⟩
  | j :: k, c, m, e4, e5, hc, hm => by
    obtain ⟨v, c1, h1, h2, h3, h4⟩ := take_app n 7 st [.dct (dI m)] c (by decide) (by decide) hn hc
    obtain ⟨u, c2, h5, h6, h7, h8⟩ := take_app n 6 st [.dct (dI m)] c1 (by decide) (by decide) hn h3
    obtain ⟨i, i0, i1, i2⟩ := pick7 h1 h2 (st.set n c1 ++ [.dct (dI m)])
    obtain ⟨x, x0, x1⟩ := pick6 h5 h6 (st.set n c2 ++ [.dct (dI m)])
    obtain ⟨c', m', e4', q1, q2, q3⟩ := term_loop n md st hn k c2 (putA m (.inr x) i) (some (.int j)) e5 h7 (hm.put x0 i0 i1)
    refine ⟨c', m', e4', q1, q2, ?_⟩
    rw [List.map_cons]
    unfold forL
    have e1 : (st.set n c2 ++ [Cell.dct (dI m)])[st.length]? = some (.dct (dI m)) := by
      have : st.length = (st.set n c2).length := by simp
      rw [this]; exact last_get
    have e2 : (st.set n c2 ++ [Cell.dct (dI m)]).set st.length (.dct (putA (dI m) (.inr x) (.int i))) = st.set n c2 ++ [.dct (dI (putA m (.inr x) i))] := by
      have : st.length = (st.set n c2).length := by simp
      rw [this, last_set, putA_dI]
    have step : termBody [some (.ref n), some md, some (.lst namesD), some (.ref st.length), some (.int j), e5] (st.set n c ++ [.dct (dI m)]) = some (.nx [some (.ref n), some md, some (.lst namesD), some (.ref st.length), some (.int j), e5] (st.set n c2 ++ [.dct (dI (putA m (.inr x) i))])) := by
      unfold termBody
      rw [ap_putK, ap_op, valsF]
      simp [h4, h8, i2, x1, e1, kd_small hm.kd, e2]
    simp only [ap_nm, sb_ok, List.set_cons_succ, List.set_cons_zero]
    rw [step]
    exact q3

theorem consts_f (env : En) (st : Sto) : fLst (fCons (fC (.int 0)) (fCons (fC (.int 0)) (fCons (fC (.int 1)) (fCons (fUn dNeg (fC (.int 2))) (fCons (fC (.int 5)) (fCons (fUn dNeg (fOp dPow (fC (.int 10)) (fC (.int 20)))) fNil)))))) env st = some (.ok (.lst constsD) st) := rfl
theorem dr_canon {m : MI} (h : Dr m) : (NM.filter fun x => (valA m (.inr x)).isSome).map (fun x => (x, at0 m x)) = canon (at0 m) := by
  unfold canon
  have e : (NM.filter fun x => (valA m (.inr x)).isSome) = NM.filter fun x => decide (at0 m x ≠ 0) := List.filter_congr fun x _ => by
    by_cases q : (valA m (.inr x)).isSome = true
    · rw [q]; exact (decide_eq_true (h.nz x q)).symm
    · have z := at0_no q
      simp [z]
      simpa using q
  rw [e]
/-- bounds of a term -/
def Bd (b : Nat) (c : Int) (f : Str → Int) : Prop := c.natAbs < 2 ^ b ∧ ∀ x, (f x).natAbs < 2 ^ b
theorem term_eq (n : Nat) (md : Int) (st : Sto) (c : Cell) (h0 : 0 < md) (h1 : md < 100) (hs : st[n]? = some c) (hc : Pl c) :
    ∃ (t : Int) (f : Str → Int) (c2 : Cell), Pl c2 ∧ Bd 70 t f ∧ cl F__law_term [.ref n, .int md] st = some (.ok (tD t f) (st.set n c2)) := by
  have hn : n < st.length := (List.getElem?_eq_some_iff.mp hs).1
  have hset : st.set n c = st := by
    obtain ⟨h1, h2⟩ := List.getElem?_eq_some_iff.mp hs
    rw [← h2, List.set_getElem_self]
  obtain ⟨M, c1, m0, m1, p1, t1⟩ := take_app n (md + 1) st [.dct (dI [])] c (by omega) (by omega) hn hc
  obtain ⟨c2, m, e4, p2, d2, l2⟩ := term_loop n (.int md) st hn ((List.range M.toNat).map fun i : Nat => (0 : Int) + (i : Int)) c1 [] none none p1 ⟨Kd.nil, (fun x hx => by cases hx), fun x => by rw [at0_nil]; decide⟩
  obtain ⟨v, c3, v0, v1, p3, t3⟩ := take_app n 6 st [.dct (dI m)] c2 (by decide) (by decide) hn p2
  obtain ⟨i, i0, i1⟩ := pickC v0 v1 (st.set n c3 ++ [.dct (dI m)])
  refine ⟨i, at0 m, c3, p3, ⟨i0, d2.bd⟩, cl_set (more := [.dct (dI m)]) ?_ (tD_ok _ _ _) ?_⟩
  · have hlen : (st.set n c3).length = st.length := by simp
    have hd : dctOf (st.set n c3 ++ [.dct (dI m)]) (.ref st.length) = some (dI m) := by rw [← hlen]; exact last_dct
    have hk := d2.kd.sortK (st := st.set n c3 ++ [.dct (dI m)]) nm_srt nm_nd (by decide) hd
    have hcp := lcL_fun (g := gNm 5) (ft := tYes1) (fe := fTup (fCons (fVar 5) (fCons (fGetK (fVar 3) (fVar 5)) fNil))) (env := [some (.ref n), some (.int md), some (.lst namesD), some (.ref st.length), e4, none]) (st := st.set n c3 ++ [.dct (dI m)])
      (h := D.str) (b := fun _ => true) (d := fun x => prD (x, at0 m x)) (xs := NM.filter fun x => (valA m (.inr x)).isSome) fun x hx => by
        have q := at0_some (List.mem_filter.mp hx).2
        refine ⟨_, rfl, rfl, fun _ => ?_⟩
        simp [hd, valA_dI, q, prD]
    rw [List.filter_eq_self.mpr fun _ _ => rfl] at hcp
    have hl : ((NM.filter fun x => (valA m (.inr x)).isSome).map D.str).length ≤ 100000 := by
      rw [List.length_map]
      exact Nat.le_trans (List.length_filter_le _ _) (by decide)
    have e : (NM.filter fun x => (valA m (.inr x)).isSome).map (fun x => prD (x, at0 m x)) = (canon (at0 m)).map prD := by
      rw [← dr_canon d2, List.map_map]
      rfl
    rw [e] at hcp
    have ht : ∀ (xs : List D) st, bTuple st [.lst xs] = some (.tup xs) := fun _ _ => rfl
    have hr : Fx.intsFrom 0 M.toNat = ((List.range M.toNat).map fun i : Nat => (0 : Int) + (i : Int)).map D.int := by
      unfold Fx.intsFrom
      rw [List.map_map]
      rfl
    have c1' : -(2 ^ 62 : Int) ≤ M ∧ M < 2 ^ 62 := by constructor <;> omega
    unfold F__law_term
    refine def_rt rfl ?_
    rw [seq_nx (e1 := [some (.ref n), some (.int md), some (.lst namesD), none, none, none]) (s1 := st) rfl]
    rw [seq_nx (e1 := [some (.ref n), some (.int md), some (.lst namesD), some (.ref st.length), none, none]) (s1 := st ++ [.dct (dI [])]) rfl]
    rw [seq_nx (e1 := [some (.ref n), some (.int md), some (.lst namesD), some (.ref st.length), e4, none]) (s1 := st.set n c2 ++ [.dct (dI m)]) (by
      rw [hset] at t1
      simp only [ap_for, ap_iRg1, ap_call, ap_cons, ap_nil, ap_var, ap_op, ap_c, List.getElem?_cons_succ, List.getElem?_cons_zero, bnd_ok, List.length_cons, List.length_nil, Nat.zero_add, dAdd, Option.map_some, if_true, t1]
      rw [if_pos c1', sb_ok, hr]
      exact l2)]
    simp only [ap_ret, ap_tup, ap_cons, ap_nil, ap_op, consts_f, bnd_ok, ap_call, ap_var, ap_c, List.getElem?_cons_succ, List.getElem?_cons_zero, List.length_cons, List.length_nil, Nat.zero_add, if_true, t3, i1, Option.map_some, ap_ca, ap_lc, ap_lcF, ap_iLst, hk, seqL]
    rw [if_pos hl]
    simp only [wipeD_cons, wipeD_nil, List.set_cons_succ, List.set_cons_zero, hcp, bnd_ok, ht, Option.map_some, sb_ok]
    rfl
  · obtain ⟨a, b, rfl, _⟩ := p3
    rfl

def prP (p : Str × Int) : PyData := .tuple [.str p.1, .int p.2]
def tP (c : Int) (f : Str → Int) : PyData := .tuple [.int c, .tuple ((canon f).map prP)]
theorem pds_prs : ∀ ps : List (Str × Int), pds (ps.map prD) = some (ps.map prP)
  | [] => rfl
  | p :: ps => by
    show ((pd (prD p)).bind fun e => (pds (ps.map prD)).map (e :: ·)) = _
    rw [pds_prs ps]
    rfl
theorem pd_tD (c : Int) (f : Str → Int) : pd (tD c f) = some (tP c f) := by
  show (pds [.int c, .tup ((canon f).map prD)]).map PyData.tuple = _
  have h : pds [D.int c, .tup ((canon f).map prD)] = some [.int c, .tuple ((canon f).map prP)] := by
    show (some (PyData.int c)).bind (fun e => (((pds ((canon f).map prD)).map PyData.tuple).bind fun e => (some []).map (e :: ·)).map (e :: ·)) = _
    rw [pds_prs]
    rfl
  rw [h]
  rfl
theorem pdS_tD (c : Int) (f : Str → Int) (st : Sto) : pdS st (tD c f) = some (tP c f) := pd_tD c f
/-- the pairs may be laid, shown -/
theorem prs_lay : ∀ ps : List (Str × Int), (∀ p ∈ ps, p.1 ∈ NM) → PyData.canLayAll0 (ps.map prP) = true ∧ PyData.depthAll (ps.map prP) ≤ 1
  | [], _ => ⟨rfl, Nat.zero_le _⟩
  | p :: ps, h => by
    obtain ⟨h1, h2⟩ := prs_lay ps fun q m => h q (List.mem_cons_of_mem _ m)
    have h0 : ∀ x ∈ NM, PyData.strOk x = true := by decide +kernel
    have h3 : PyData.canLay0 (prP p) = true := by
      show (PyData.strOk p.1 && (true && true)) = true
      rw [h0 _ (h p List.mem_cons_self)]
      rfl
    have h4 : PyData.depth (prP p) = 1 := rfl
    refine ⟨?_, ?_⟩
    · show (PyData.canLay0 (prP p) && PyData.canLayAll0 (ps.map prP)) = true
      rw [h1, h3]; rfl
    · show max (PyData.depth (prP p)) (PyData.depthAll (ps.map prP)) ≤ 1
      omega
theorem tP_lay (c : Int) (f : Str → Int) : PyData.canLay0 (tP c f) = true ∧ PyData.depth (tP c f) ≤ 3 := by
  obtain ⟨h1, h2⟩ := prs_lay (canon f) fun p m => (canon_nm m).1
  refine ⟨?_, ?_⟩
  · show (true && (PyData.canLayAll0 ((canon f).map prP) && true)) = true
    rw [h1]; rfl
  · show max 0 (max (PyData.depthAll ((canon f).map prP) + 1) 0) + 1 ≤ 3
    omega
theorem shaped_of {d : PyData} (h1 : PyData.canLay0 d = true) (h2 : PyData.depth d ≤ 64) : SeqAt.shaped d = true := by
  show (d.canLay0 && decide (d.depth ≤ 64)) = true
  rw [h1, decide_eq_true h2]; rfl
theorem tP_shaped (c : Int) (f : Str → Int) : SeqAt.shaped (tP c f) = true := shaped_of (tP_lay c f).1 (by have := (tP_lay c f).2; omega)
theorem int_leaf {i : Int} (h : i.natAbs < 2 ^ 150) : PyData.leavesShort 160 (.int i) = true ∧ PyData.showable (.int i) = true ∧ PyData.weight (.int i) ≤ 150 := by
  have hl : i.natAbs.log2 < 150 := Fx.log2_lt h (by decide)
  refine ⟨?_, ?_, ?_⟩
  · show decide ((PyData.shown (.int i)).length ≤ 160) = true
    have := int_text_length_le (a := i) (k := 150) (by decide) hl
    refine decide_eq_true ?_
    show (Str.ofString (toString i)).length ≤ 160
    rw [PySem.ofString_length]
    omega
  · show decide (i.natAbs.log2 < 1920) = true
    exact decide_eq_true (by omega)
  · show (if i == 0 then 0 else i.natAbs.log2 + 1) ≤ 150
    split <;> omega
theorem prs_shown : ∀ ps : List (Str × Int), (∀ p ∈ ps, p.1 ∈ NM ∧ p.2.natAbs < 2 ^ 150) → PyData.leavesShortAll 160 (ps.map prP) = true ∧ PyData.showableAll (ps.map prP) = true ∧ PyData.weightAll (ps.map prP) ≤ ps.length * 170
  | [], _ => ⟨rfl, rfl, Nat.zero_le _⟩
  | p :: ps, h => by
    obtain ⟨h1, h2, h3⟩ := prs_shown ps fun q m => h q (List.mem_cons_of_mem _ m)
    obtain ⟨hx, hi⟩ := h p List.mem_cons_self
    obtain ⟨i1, i2, i3⟩ := int_leaf hi
    have h0 : ∀ x ∈ NM, (x.cps.toList.all fun c => decide (c < 16 ^ 8)) = true ∧ x.cps.size ≤ 6 := by decide
    obtain ⟨s1, s2⟩ := h0 _ hx
    refine ⟨?_, ?_, ?_⟩
    · show (((p.1.cps.toList.all fun c => decide (c < 16 ^ 8)) && (PyData.leavesShort 160 (.int p.2) && true)) && PyData.leavesShortAll 160 (ps.map prP)) = true
      rw [s1, i1, h1]; rfl
    · show ((true && (PyData.showable (.int p.2) && true)) && PyData.showableAll (ps.map prP)) = true
      rw [i2, h2]; rfl
    · show (p.1.cps.size + 1 + (PyData.weight (.int p.2) + 1 + 0)) + 1 + PyData.weightAll (ps.map prP) ≤ (ps.length + 1) * 170
      omega
theorem tP_shown {b : Nat} {c : Int} {f : Str → Int} (h : Bd b c f) (hb : b ≤ 150) : PyData.leavesShort 160 (tP c f) = true ∧ PyData.showable (tP c f) = true ∧ PyData.weight (tP c f) ≤ 1200 := by
  have hp : 2 ^ b ≤ 2 ^ 150 := Nat.pow_le_pow_right (by decide) hb
  obtain ⟨h1, h2, h3⟩ := prs_shown (canon f) fun p m => ⟨(canon_nm m).1, by rw [(canon_nm m).2.1]; exact Nat.lt_of_lt_of_le (h.2 _) hp⟩
  obtain ⟨i1, i2, i3⟩ := int_leaf (Nat.lt_of_lt_of_le h.1 hp)
  have hl := canon_len (f := f)
  refine ⟨?_, ?_, ?_⟩
  · show (PyData.leavesShort 160 (.int c) && (PyData.leavesShortAll 160 ((canon f).map prP) && true)) = true
    rw [i1, h1]; rfl
  · show (PyData.showable (.int c) && (PyData.showableAll ((canon f).map prP) && true)) = true
    rw [i2, h2]; rfl
  · show PyData.weight (.int c) + 1 + (PyData.weightAll ((canon f).map prP) + 1 + 0) ≤ 1200
    have : (canon f).length * 170 ≤ 6 * 170 := Nat.mul_le_mul_right _ hl
    omega
theorem repr_of {st : Sto} {d : D} {e : PyData} (h : pdS st d = some e) (h1 : SeqAt.shaped e = true) (h2 : PyData.leavesShort 160 e = true) (h3 : PyData.showable e = true) (h4 : PyData.weight e ≤ 5000) : bRepr st [d] = some (.str e.shown) := by
  refine repr_str h h1 h3 ?_
  have := PyData.shown_le 160 (by decide) e h2
  have : (160 + 2) * e.weight ≤ 162 * 5000 := Nat.mul_le_mul_left _ h4
  omega
theorem repr_tD {b : Nat} {c : Int} {f : Str → Int} (h : Bd b c f) (hb : b ≤ 150) (st : Sto) : bRepr st [tD c f] = some (.str (tP c f).shown) := by
  obtain ⟨h1, h2, h3⟩ := tP_shown h hb
  exact repr_of (pdS_tD c f st) (tP_shaped c f) h1 h2 (by omega)
theorem Bd.mono {a b : Nat} {c : Int} {f : Str → Int} (h : Bd a c f) (l : a ≤ b) : Bd b c f :=
  have p : 2 ^ a ≤ 2 ^ b := Nat.pow_le_pow_right (by decide) l
  ⟨Nat.lt_of_lt_of_le h.1 p, fun x => Nat.lt_of_lt_of_le (h.2 x) p⟩
theorem Bd.sz {b : Nat} {c : Int} {f : Str → Int} (h : Bd b c f) (hb : b ≤ 200) : Sz c ∧ ∀ x, Sz (f x) :=
  have p : 2 ^ b ≤ 2 ^ 200 := Nat.pow_le_pow_right (by decide) hb
  ⟨sz_small (Nat.lt_of_lt_of_le h.1 p), fun x => sz_small (Nat.lt_of_lt_of_le (h.2 x) p)⟩
theorem dNe_t (c : Int) (f : Str → Int) (st : Sto) : dNe st (tD c f) (tD c f) = some (.bl false) := ne_same (pdS_tD c f st) (pdS_tD c f st) (tP_shaped c f)
def setAll (m : MI) (ps : List (Str × Int)) : MI := mergeA m (ps.map fun p => (.inr p.1, p.2))
theorem kd_setAll {L : List Str} : ∀ {ps : List (Str × Int)} {m : MI}, Kd L m → (∀ p ∈ ps, p.1 ∈ L) → Kd L (setAll m ps)
  | [], m, h, _ => h
  | p :: ps, m, h, hp => kd_setAll (ps := ps) (m := putA m (.inr p.1) p.2) (h.put (hp p List.mem_cons_self)) fun q mq => hp q (List.mem_cons_of_mem _ mq)
theorem at0_setAll (f : Str → Int) (x : Str) : ∀ (ps : List (Str × Int)) (m : MI), (∀ p ∈ ps, p.2 = f p.1) → at0 (setAll m ps) x = if x ∈ ps.map (·.1) then f x else at0 m x
  | [], m, _ => by simp [setAll, mergeA]
  | p :: ps, m, h => by
    show at0 (setAll (putA m (.inr p.1) p.2) ps) x = _
    rw [at0_setAll f x ps _ fun q mq => h q (List.mem_cons_of_mem _ mq), at0_put, h p List.mem_cons_self]
    by_cases h1 : x ∈ ps.map (·.1)
    · have : x ∈ (p :: ps).map (·.1) := List.mem_cons_of_mem _ h1
      rw [if_pos h1, if_pos this]
    · rw [if_neg h1]
      by_cases h2 : x = p.1
      · subst h2
        rw [if_pos rfl, if_pos (by simp)]
      · rw [if_neg h2, if_neg (by rw [List.map_cons, List.mem_cons]; exact fun z => z.elim h2 h1)]
theorem prs_asPrs : ∀ ps : List (Str × Int), asPrs (ps.map prD) = some (dI (ps.map fun p => (.inr p.1, p.2)))
  | [] => rfl
  | p :: ps => by
    show ((asPr (prD p)).bind fun q => (asPrs (ps.map prD)).map (q :: ·)) = _
    rw [prs_asPrs ps]
    rfl
theorem merge_dI (m more : MI) : mergeA (dI m) (dI more) = dI (mergeA m more) := mergeA_map D.int more m
/-! ### names put in -/
abbrev TM := Int × (Str → Int)
def byD (B : List (Key × TM)) : List (Key × D) := B.map fun p => (p.1, tD p.2.1 p.2.2)
def delta (x y : Str) : Int := if y = x then 1 else 0
theorem canon_delta {x : Str} (hx : x ∈ NM) : canon (delta x) = [(x, 1)] := by
  have h : ∀ x ∈ NM, canon (delta x) = [(x, 1)] := by decide
  exact h x hx
theorem of_name_eq {x : Str} (hx : x ∈ NM) (st : Sto) : F_of_name [.str x] st = some (.ok (tD 0 (delta x)) st) := by
  unfold tD
  rw [canon_delta hx]
  rfl
/-- what stands for a name -/
def bv (B : List (Key × TM)) (x : Str) : TM := (valA B (.inr x)).getD (0, delta x)
theorem bv_get (B : List (Key × TM)) (x : Str) : (valA (byD B) (.inr x)).getD (tD 0 (delta x)) = tD (bv B x).1 (bv B x).2 := by
  have e : valA (byD B) (.inr x) = (valA B (.inr x)).map fun t => tD t.1 t.2 := valA_map (fun t : TM => tD t.1 t.2) (.inr x) B
  rw [e]
  unfold bv
  cases valA B (.inr x) <;> rfl
def sumC (h : Str → Int) : List (Str × Int) → Int
  | [] => 0
  | p :: ps => h p.1 * p.2 + sumC h ps
/-- all small -/
def Bb (b : Nat) (B : List (Key × TM)) : Prop := ∀ p ∈ B, Bd b p.2.1 p.2.2
theorem bv_bd {b : Nat} (hb : 1 ≤ b) {B : List (Key × TM)} (h : Bb b B) (x : Str) : Bd b (bv B x).1 (bv B x).2 := by
  unfold bv
  cases q : valA B (.inr x) with
  | none =>
    have h2 : 2 ^ 1 ≤ 2 ^ b := Nat.pow_le_pow_right (by decide) hb
    refine ⟨Nat.pow_pos (by decide), fun y => ?_⟩
    show (delta x y).natAbs < 2 ^ b
    unfold delta
    split
    · show 1 < 2 ^ b
      omega
    · exact Nat.pow_pos (by decide)
  | some t =>
    have : ∀ {B : List (Key × TM)}, valA B (.inr x) = some t → ∃ k, (k, t) ∈ B := by
      intro B
      induction B with
      | nil => intro h; cases h
      | cons p r ih =>
        intro h
        rw [valA_cons] at h
        split at h
        · cases h
          exact ⟨p.1, List.mem_cons_self⟩
        · obtain ⟨k, m⟩ := ih h
          exact ⟨k, List.mem_cons_of_mem _ m⟩
    obtain ⟨k, m⟩ := this q
    exact h (k, t) m
theorem put_loop (t : D) (n : Nat) (st : Sto) (B : List (Key × TM)) (hB : Bb 70 B) (hd : dctOf st (.ref n) = some (byD B)) : ∀ (ps : List (Str × Int)) (c : Int) (f : Str → Int) (e3 e4 : Option D), (∀ p ∈ ps, p.1 ∈ NM ∧ Sz p.2) → ∃ e3' e4',
    forL (gTp 2 (gsCons (gNm 3) (gsCons (gNm 4) gsNil))) (fSet 2 (fCall 2 F_added (fCons (fVar 2) (fCons (fCall 2 F_scaled (fCons (fGet2 (fVar 1) (fVar 3) (fCall 1 F_of_name (fCons (fVar 3) fNil))) (fCons (fVar 4) fNil))) fNil)))) (ps.map prD)
      [some t, some (.ref n), some (tD c f), e3, e4] st = some (.nx [some t, some (.ref n), some (tD (c + sumC (fun y => (bv B y).1) ps) fun x => f x + sumC (fun y => (bv B y).2 x) ps), e3', e4'] st)
  | [], c, f, e3, e4, _ => ⟨e3, e4, by
    show some _ = some _
    simp [sumC]⟩
  | p :: ps, c, f, e3, e4, hp => by
    obtain ⟨hx, hz⟩ := hp p List.mem_cons_self
    obtain ⟨b1, b2⟩ := (bv_bd (by decide) hB p.1).sz (by decide)
    obtain ⟨e3', e4', h⟩ := put_loop t n st B hB hd ps (c + (bv B p.1).1 * p.2) (fun x => f x + (bv B p.1).2 x * p.2) (some (.str p.1)) (some (.int p.2)) fun q m => hp q (List.mem_cons_of_mem _ m)
    refine ⟨e3', e4', ?_⟩
    have ec : c + (bv B p.1).1 * p.2 + sumC (fun y => (bv B y).1) ps = c + sumC (fun y => (bv B y).1) (p :: ps) := by simp only [sumC]; omega
    have ef : (fun x => f x + (bv B p.1).2 x * p.2 + sumC (fun y => (bv B y).2 x) ps) = fun x => f x + sumC (fun y => (bv B y).2 x) (p :: ps) := funext fun x => by simp only [sumC]; omega
    rw [ec, ef] at h
    rw [List.map_cons]
    unfold forL
    have hs := scaled_eq (bv B p.1).1 p.2 (bv B p.1).2 st b1 hz b2
    have ha := added_eq c ((bv B p.1).1 * p.2) f (fun x => (bv B p.1).2 x * p.2) st
    have step : fSet 2 (fCall 2 F_added (fCons (fVar 2) (fCons (fCall 2 F_scaled (fCons (fGet2 (fVar 1) (fVar 3) (fCall 1 F_of_name (fCons (fVar 3) fNil))) (fCons (fVar 4) fNil))) fNil))) [some t, some (.ref n), some (tD c f), some (.str p.1), some (.int p.2)] st
        = some (.nx [some t, some (.ref n), some (tD (c + (bv B p.1).1 * p.2) fun x => f x + (bv B p.1).2 x * p.2), some (.str p.1), some (.int p.2)] st) := by
      simp [isDct_of hd, of_name_eq hx, hd, bv_get, hs, ha]
    have g : gTp 2 (gsCons (gNm 3) (gsCons (gNm 4) gsNil)) (prD p) [some t, some (.ref n), some (tD c f), e3, e4] st = some (.ok [some t, some (.ref n), some (tD c f), some (.str p.1), some (.int p.2)] st) := rfl
    rw [g, sb_ok, step]
    exact h
theorem put_in_eq (c : Int) (f : Str → Int) (n : Nat) (st : Sto) (B : List (Key × TM)) (hB : Bb 70 B) (hd : dctOf st (.ref n) = some (byD B)) (hf : Bd 70 c f) :
    F_put_in [tD c f, .ref n] st = some (.ok (tD (c + sumC (fun y => (bv B y).1) (canon f)) fun x => sumC (fun y => (bv B y).2 x) (canon f)) st) := by
  obtain ⟨h1, h2⟩ := hf.sz (by decide)
  obtain ⟨e3, e4, h⟩ := put_loop (tD c f) n st B hB hd (canon f) c (fun _ => 0) none none fun p m => ⟨(canon_nm m).1, by rw [(canon_nm m).2.1]; exact h2 _⟩
  have ef : (fun x => 0 + sumC (fun y => (bv B y).2 x) (canon f)) = fun x => sumC (fun y => (bv B y).2 x) (canon f) := funext fun x => by omega
  rw [ef] at h
  have hc : F_constant [.int c] st = some (.ok (tD c fun _ => 0) st) := rfl
  unfold F_put_in
  refine def_rt rfl ?_
  rw [seq_nx (e1 := [some (tD c f), some (.ref n), some (tD c fun _ => 0), none, none]) (s1 := st) (by simp [hc])]
  rw [seq_nx (e1 := [some (tD c f), some (.ref n), some (tD (c + sumC (fun y => (bv B y).1) (canon f)) fun x => sumC (fun y => (bv B y).2 x) (canon f)), e3, e4]) (s1 := st) (by
    simp only [ap_for, ap_iTp, ap_op, ap_var, ap_c, List.getElem?_cons_zero, bnd_ok, ix_t1, Option.map_some, seqT, sb_ok]
    exact h)]
  simp
/-! ### the law's own way -/
theorem sumP_no {x : Str} : ∀ {ps : List (Str × Int)}, (∀ p ∈ ps, p.1 ≠ x) → sumP ps x = 0
  | [], _ => rfl
  | p :: ps, h => by
    rw [sumP, if_neg (h p List.mem_cons_self), sumP_no fun q m => h q (List.mem_cons_of_mem _ m)]
    rfl
def stepM (B : List (Key × TM)) (m : MI) (p : Str × Int) : MI :=
  addAll (putA m (.inr "") (at0 m "" + p.2 * (bv B p.1).1)) ((canon (bv B p.1).2).map fun q => (q.1, p.2 * q.2))
theorem stepM_kd {B : List (Key × TM)} {m : MI} {p : Str × Int} (h : Kd NE m) : Kd NE (stepM B m p) :=
  kd_addAll (h.put List.mem_cons_self) fun q hq => by
    obtain ⟨r, hr, rfl⟩ := List.mem_map.mp hq
    exact List.mem_cons_of_mem _ (canon_nm hr).1
theorem stepM_some {B : List (Key × TM)} {m : MI} {p : Str × Int} : (valA (stepM B m p) (.inr "")).isSome = true :=
  isSome_addAll _ _ (by rw [valA_put, if_pos rfl]; rfl)
theorem stepM_0 {B : List (Key × TM)} {m : MI} {p : Str × Int} : at0 (stepM B m p) "" = at0 m "" + p.2 * (bv B p.1).1 := by
  unfold stepM
  rw [at0_addAll, at0_put, if_pos rfl, sumP_no fun q hq => ?_, Int.add_zero]
  obtain ⟨r, hr, rfl⟩ := List.mem_map.mp hq
  exact nm_ne (canon_nm hr).1
theorem stepM_x {B : List (Key × TM)} {m : MI} {p : Str × Int} {x : Str} (hx : x ∈ NM) : at0 (stepM B m p) x = at0 m x + p.2 * (bv B p.1).2 x := by
  unfold stepM
  rw [at0_addAll, at0_put, if_neg (nm_ne hx), sumP_mul, sumP_canon hx]
def outM (B : List (Key × TM)) (m : MI) (ps : List (Str × Int)) : MI := ps.foldl (stepM B) m
theorem outM_kd {B : List (Key × TM)} : ∀ {ps : List (Str × Int)} {m : MI}, Kd NE m → Kd NE (outM B m ps)
  | [], _, h => h
  | p :: ps, m, h => outM_kd (ps := ps) (m := stepM B m p) (stepM_kd h)
theorem outM_some {B : List (Key × TM)} : ∀ {ps : List (Str × Int)} {m : MI}, (valA m (.inr "")).isSome = true → (valA (outM B m ps) (.inr "")).isSome = true
  | [], _, h => h
  | p :: ps, m, h => outM_some (ps := ps) (m := stepM B m p) stepM_some
theorem outM_0 {B : List (Key × TM)} : ∀ {ps : List (Str × Int)} {m : MI}, at0 (outM B m ps) "" = at0 m "" + sumC (fun y => (bv B y).1) ps
  | [], m => by simp [outM, sumC]
  | p :: ps, m => by
    show at0 (outM B (stepM B m p) ps) "" = _
    rw [outM_0, stepM_0, sumC, Int.mul_comm p.2]
    omega
theorem outM_x {B : List (Key × TM)} {x : Str} (hx : x ∈ NM) : ∀ {ps : List (Str × Int)} {m : MI}, at0 (outM B m ps) x = at0 m x + sumC (fun y => (bv B y).2 x) ps
  | [], m => by simp [outM, sumC]
  | p :: ps, m => by
    show at0 (outM B (stepM B m p) ps) x = _
    rw [outM_x hx, stepM_x hx, sumC, Int.mul_comm p.2]
    omega
theorem parts_loop (x0 x1 x3 x5 x6 : Option D) (i : Int) (st : Sto) (hi : Sz i) : ∀ (ps : List (Str × Int)) (m : MI) (e7 e8 : Option D), Kd NE m → (∀ p ∈ ps, p.1 ∈ NE ∧ Sz p.2) → ∃ e7' e8',
    forL (gTp 2 (gsCons (gNm 7) (gsCons (gNm 8) gsNil))) (fPutK (fVar 2) (fVar 7) (fOp dAdd (fGet2 (fVar 2) (fVar 7) (fC (.int 0))) (fOp dMul (fVar 4) (fVar 8)))) (ps.map prD) [x0, x1, some (.ref st.length), x3, some (.int i), x5, x6, e7, e8] (st ++ [.dct (dI m)])
      = some (.nx [x0, x1, some (.ref st.length), x3, some (.int i), x5, x6, e7', e8'] (st ++ [.dct (dI (addAll m (ps.map fun p => (p.1, i * p.2))))]))
  | [], m, e7, e8, _, _ => ⟨e7, e8, rfl⟩
  | p :: ps, m, e7, e8, hm, hp => by
    obtain ⟨hx, hz⟩ := hp p List.mem_cons_self
    obtain ⟨e7', e8', h⟩ := parts_loop x0 x1 x3 x5 x6 i st hi ps (putA m (.inr p.1) (at0 m p.1 + i * p.2)) (some (.str p.1)) (some (.int p.2)) (hm.put hx) fun q mq => hp q (List.mem_cons_of_mem _ mq)
    refine ⟨e7', e8', ?_⟩
    rw [List.map_cons]
    unfold forL
    have hv : ((valA (dI m) (.inr p.1)).getD (.int 0)) = .int (at0 m p.1) := by
      rw [valA_dI]
      unfold at0
      cases valA m (.inr p.1) <;> rfl
    simp [prD, hv, dAdd_int, kd_small7 hm, putA_dI, dMul_ok hi hz]
    exact h
def outBody : FS := (fSeq (fAsg (fGet2 (fVar 1) (fVar 3) (fTup (fCons (fC (.int 0)) (fCons (fTup (fCons (fTup (fCons (fVar 3) (fCons (fC (.int 1)) fNil))) fNil)) fNil)))) (gTp 2 (gsCons (gNm 5) (gsCons (gNm 6) gsNil))))
  (fSeq (fPutK (fVar 2) (fC (.str "")) (fOp dAdd (fGetK (fVar 2) (fC (.str ""))) (fOp dMul (fVar 4) (fVar 5))))
  (fFor (iTp (fVar 6)) (gTp 2 (gsCons (gNm 7) (gsCons (gNm 8) gsNil)))
  (fPutK (fVar 2) (fVar 7) (fOp dAdd (fGet2 (fVar 2) (fVar 7) (fC (.int 0))) (fOp dMul (fVar 4) (fVar 8)))))))
theorem out_loop (t : D) (n : Nat) (st : Sto) (B : List (Key × TM)) (hB : Bb 70 B) (hn : n < st.length) (hd : dctOf st (.ref n) = some (byD B)) : ∀ (ps : List (Str × Int)) (m : MI) (e3 e4 e5 e6 e7 e8 : Option D), Kd NE m → (valA m (.inr "")).isSome = true → (∀ p ∈ ps, p.1 ∈ NM ∧ Sz p.2) → ∃ e3' e4' e5' e6' e7' e8',
    forL (gTp 2 (gsCons (gNm 3) (gsCons (gNm 4) gsNil))) outBody (ps.map prD) [some t, some (.ref n), some (.ref st.length), e3, e4, e5, e6, e7, e8] (st ++ [.dct (dI m)])
      = some (.nx [some t, some (.ref n), some (.ref st.length), e3', e4', e5', e6', e7', e8'] (st ++ [.dct (dI (outM B m ps))]))
  | [], m, e3, e4, e5, e6, e7, e8, _, _, _ => ⟨e3, e4, e5, e6, e7, e8, rfl⟩
  | p :: ps, m, e3, e4, e5, e6, e7, e8, hm, hs, hp => by
    obtain ⟨hx, hz⟩ := hp p List.mem_cons_self
    obtain ⟨b1, b2⟩ := (bv_bd (by decide) hB p.1).sz (by decide)
    obtain ⟨e7a, e8a, hl⟩ := parts_loop (some t) (some (.ref n)) (some (.str p.1)) (some (.int (bv B p.1).1)) (some (.tup ((canon (bv B p.1).2).map prD))) p.2 st hz (canon (bv B p.1).2) (putA m (.inr "") (at0 m "" + p.2 * (bv B p.1).1)) e7 e8 (hm.put List.mem_cons_self) fun q hq => ⟨List.mem_cons_of_mem _ (canon_nm hq).1, by rw [(canon_nm hq).2.1]; exact b2 _⟩
    obtain ⟨e3', e4', e5', e6', e7', e8', h⟩ := out_loop t n st B hB hn hd ps (stepM B m p) (some (.str p.1)) (some (.int p.2)) (some (.int (bv B p.1).1)) (some (.tup ((canon (bv B p.1).2).map prD))) e7a e8a (stepM_kd hm) stepM_some fun q mq => hp q (List.mem_cons_of_mem _ mq)
    refine ⟨e3', e4', e5', e6', e7', e8', ?_⟩
    have hd2 : dctOf (st ++ [.dct (dI m)]) (.ref n) = some (byD B) := by
      unfold dctOf at hd ⊢
      simp only at hd ⊢
      rw [List.getElem?_append_left hn]
      exact hd
    have hdef : tD 0 (delta p.1) = .tup [.int 0, .tup [.tup [.str p.1, .int 1]]] := by
      unfold tD
      rw [canon_delta hx]; rfl
    have hg : (valA (byD B) (.inr p.1)).getD (.tup [.int 0, .tup [.tup [.str p.1, .int 1]]]) = tD (bv B p.1).1 (bv B p.1).2 := by rw [← hdef]; exact bv_get B p.1
    have h0 : valA (dI m) (.inr "") = some (.int (at0 m "")) := by rw [valA_dI, at0_some hs]; rfl
    have step : outBody [some t, some (.ref n), some (.ref st.length), some (.str p.1), some (.int p.2), e5, e6, e7, e8] (st ++ [.dct (dI m)])
        = some (.nx [some t, some (.ref n), some (.ref st.length), some (.str p.1), some (.int p.2), some (.int (bv B p.1).1), some (.tup ((canon (bv B p.1).2).map prD)), e7a, e8a] (st ++ [.dct (dI (stepM B m p))])) := by
      unfold outBody
      rw [seq_nx (e1 := [some t, some (.ref n), some (.ref st.length), some (.str p.1), some (.int p.2), some (.int (bv B p.1).1), some (.tup ((canon (bv B p.1).2).map prD)), e7, e8]) (s1 := st ++ [.dct (dI m)]) (by
        simp [isDct_of hd2, hd2, hg]
        rfl)]
      rw [seq_nx (e1 := [some t, some (.ref n), some (.ref st.length), some (.str p.1), some (.int p.2), some (.int (bv B p.1).1), some (.tup ((canon (bv B p.1).2).map prD)), e7, e8]) (s1 := st ++ [.dct (dI (putA m (.inr "") (at0 m "" + p.2 * (bv B p.1).1)))]) (by
        simp [h0, dAdd_int, dMul_ok hz b1, kd_small7 hm, putA_dI])]
      simp only [ap_for, ap_iTp, ap_var, List.getElem?_cons_succ, List.getElem?_cons_zero, bnd_ok, seqT, Option.map_some, sb_ok]
      exact hl
    rw [List.map_cons]
    unfold forL
    have g : gTp 2 (gsCons (gNm 3) (gsCons (gNm 4) gsNil)) (prD p) [some t, some (.ref n), some (.ref st.length), e3, e4, e5, e6, e7, e8] (st ++ [.dct (dI m)]) = some (.ok [some t, some (.ref n), some (.ref st.length), some (.str p.1), some (.int p.2), e5, e6, e7, e8] (st ++ [.dct (dI m)])) := rfl
    rw [g, sb_ok, step]
    exact h
theorem law_put_eq (c : Int) (f : Str → Int) (n : Nat) (st : Sto) (B : List (Key × TM)) (hB : Bb 70 B) (hn : n < st.length) (hd : dctOf st (.ref n) = some (byD B)) (hf : Bd 70 c f) :
    cl F__law_put_in [tD c f, .ref n] st = some (.ok (tD (c + sumC (fun y => (bv B y).1) (canon f)) fun x => sumC (fun y => (bv B y).2 x) (canon f)) st) := by
  obtain ⟨h1, h2⟩ := hf.sz (by decide)
  have k0 : Kd NE [((.inr "" : Key), c)] := (Kd.nil.put (m := []) (x := "") (i := c) List.mem_cons_self)
  have s0 : (valA [((.inr "" : Key), c)] (.inr "")).isSome = true := rfl
  obtain ⟨e3, e4, e5, e6, e7, e8, h⟩ := out_loop (tD c f) n st B hB hn hd (canon f) [(.inr "", c)] none none none none none none k0 s0 fun p m => ⟨(canon_nm m).1, by rw [(canon_nm m).2.1]; exact h2 _⟩
  have hk := outM_kd (B := B) (ps := canon f) k0
  have hsm := outM_some (B := B) (ps := canon f) s0
  have v0 : at0 (outM B [(.inr "", c)] (canon f)) "" = c + sumC (fun y => (bv B y).1) (canon f) := by rw [outM_0]; rfl
  have vx : ∀ x ∈ NM, at0 (outM B [(.inr "", c)] (canon f)) x = sumC (fun y => (bv B y).2 x) (canon f) := fun x hx => by
    rw [outM_x hx]
    have : at0 [((.inr "" : Key), c)] x = 0 := by
      unfold at0
      rw [valA_cons, if_neg (fun e => nm_ne hx (Sum.inr.inj e).symm), valA_nil]; rfl
    rw [this, Int.zero_add]
  generalize outM B [(.inr "", c)] (canon f) = m at h hk hsm v0 vx
  have hdm : dctOf (st ++ [.dct (dI m)]) (.ref st.length) = some (dI m) := last_dct
  have hks := hk.sortK (st := st ++ [.dct (dI m)]) ne_srt ne_nd (by decide) hdm
  have hc := lcL_fun (g := gNm 3) (ft := tAnd2 (tV (fOp dNeS (fVar 3) (fC (.str "")))) (tV (fOp dNe (fGetK (fVar 2) (fVar 3)) (fC (.int 0))))) (fe := fTup (fCons (fVar 3) (fCons (fGetK (fVar 2) (fVar 3)) fNil))) (env := [some (tD c f), some (.ref n), some (.ref st.length), none, e4, e5, e6, e7, e8]) (st := st ++ [.dct (dI m)])
    (h := D.str) (b := fun x : Str => !decide (x = "") && decide (at0 m x ≠ 0)) (d := fun x => prD (x, at0 m x)) (xs := NE.filter fun x => (valA m (.inr x)).isSome) fun x hx => by
      have q := at0_some (List.mem_filter.mp hx).2
      refine ⟨_, rfl, ?_, fun hb => ?_⟩
      · by_cases hx0 : x = ""
        · subst hx0
          simp [dNeS]
        · simp [dNeS, hx0, valA_dI, q, dNe, pdS, pd, SeqAt.shaped, PyData.canLay0, PyData.depth, PyData.eqv]
          rfl
      · simp [valA_dI, q, prD]
  have hl : ((NE.filter fun x => (valA m (.inr x)).isSome).map D.str).length ≤ 100000 := by
    rw [List.length_map]
    exact Nat.le_trans (List.length_filter_le _ _) (by decide)
  have e : ((NE.filter fun x => (valA m (.inr x)).isSome).filter fun x : Str => !decide (x = "") && decide (at0 m x ≠ 0)).map (fun x => prD (x, at0 m x)) = (canon fun x => sumC (fun y => (bv B y).2 x) (canon f)).map prD := by
    have e1 : (NE.filter fun x => (valA m (.inr x)).isSome).filter (fun x : Str => !decide (x = "") && decide (at0 m x ≠ 0)) = (NM.filter fun x => (valA m (.inr x)).isSome).filter fun x => decide (at0 m x ≠ 0) := by
      rw [List.filter_filter, List.filter_filter]
      unfold NE
      rw [List.filter_cons_of_neg (by simp)]
      exact List.filter_congr fun x hx => by
        have : ¬ x = "" := nm_ne hx
        simp [this]
    rw [e1, ← told_canon (m := m) vx, List.map_map]
    rfl
  have h1 := at0_some hsm
  have ht : ∀ (xs : List D) st, bTuple st [.lst xs] = some (.tup xs) := fun _ _ => rfl
  refine cl_pure (more := [.dct (dI m)]) ?_ (tD_ok _ _ _)
  unfold F__law_put_in
  refine def_rt rfl ?_
  rw [seq_nx (e1 := [some (tD c f), some (.ref n), some (.ref st.length), none, none, none, none, none, none]) (s1 := st ++ [.dct (dI [(.inr "", c)])]) (by
    show sb (fDisp1 _ _ _ _) _ = _
    unfold fDisp1
    simp
    rfl)]
  rw [seq_nx (e1 := [some (tD c f), some (.ref n), some (.ref st.length), e3, e4, e5, e6, e7, e8]) (s1 := st ++ [.dct (dI m)]) (by
    simp only [ap_for, ap_iTp, ap_op, ap_var, ap_c, List.getElem?_cons_zero, bnd_ok, ix_t1, Option.map_some, seqT, sb_ok]
    exact h)]
  simp only [ap_ret, ap_tup, ap_cons, ap_nil, ap_getK, ap_ca, ap_lc, ap_lcF, ap_iLst, ap_var, ap_c, dKey_str, List.getElem?_cons_succ, List.getElem?_cons_zero, bnd_ok, last_dct, valA_dI, h1, hks, Option.map_some, seqL]
  rw [if_pos hl]
  simp only [wipeD_cons, wipeD_nil, List.set_cons_succ, List.set_cons_zero, hc, e, bnd_ok, ht, Option.map_some, sb_ok, v0]
  rfl
/-! ### worths -/
theorem bsum_eq (g : Str × Int → Int) (st : Sto) (ps : List (Str × Int)) : bSum st [.lst (ps.map fun p => .int (g p))] = some (.int (ps.map g).sum) := by
  have h : ∀ ps : List (Str × Int), asInts (ps.map fun p => .int (g p)) = some (ps.map g) := by
    intro ps
    induction ps with
    | nil => rfl
    | cons p ps ih =>
      show (asInts (ps.map fun p => .int (g p))).map (g p :: ·) = _
      rw [ih]; rfl
  show ((asInts (ps.map fun p => .int (g p))).map fun ns => D.int ns.sum) = _
  rw [h]; rfl
theorem sum_sumC (h : Str → Int) : ∀ ps : List (Str × Int), (ps.map fun p => p.2 * h p.1).sum = sumC h ps
  | [] => rfl
  | p :: ps => by rw [List.map_cons, List.sum_cons, sum_sumC h ps, sumC, Int.mul_comm]
theorem worth_eq (c : Int) (f : Str → Int) (n : Nat) (st : Sto) (M : MI) (hd : dctOf st (.ref n) = some (dI M)) (hM : ∀ x ∈ NM, (valA M (.inr x)).isSome = true) (hz : ∀ x ∈ NM, Sz (at0 M x)) (hf : ∀ x, Sz (f x)) :
    F_worth_of [tD c f, .ref n] st = some (.ok (.int (c + sumC (at0 M) (canon f))) st) := by
  have hc := lcL_fun (g := gTp 2 (nmsF [2, 3])) (ft := tYes1) (fe := fOp dMul (fVar 3) (fGetK (fVar 1) (fVar 2))) (env := [some (tD c f), some (.ref n), none, none]) (st := st)
    (h := prD) (b := fun _ => true) (d := fun p => .int (p.2 * at0 M p.1)) (xs := canon f) fun p hp => by
      obtain ⟨x, i⟩ := p
      obtain ⟨h1, h2, h3⟩ := canon_nm hp
      have hi : Sz i := by
        have h2 : i = f x := h2
        rw [h2]; exact hf _
      have hx : Sz (at0 M x) := hz x h1
      have hv : valA M (.inr x) = some (at0 M x) := at0_some (hM x h1)
      refine ⟨[some (tD c f), some (.ref n), some (.str x), some (.int i)], rfl, rfl, fun _ => ?_⟩
      simp [hd, valA_dI, hv, dMul_ok hi hx]
  rw [List.filter_eq_self.mpr fun _ _ => rfl] at hc
  have hl : ((canon f).map prD).length ≤ 100000 := by
    rw [List.length_map]
    have := canon_len (f := f)
    omega
  have hs := bsum_eq (fun p => p.2 * at0 M p.1) st (canon f)
  rw [sum_sumC] at hs
  unfold F_worth_of
  refine def_rt rfl ?_
  simp only [ap_ret, ap_op, ap_var, ap_c, List.map_cons, List.map_nil, List.cons_append, List.nil_append, List.replicate, List.getElem?_cons_zero, bnd_ok, ix_t0, ix_t1, Option.map_some, ap_ca, ap_cons, ap_nil, ap_lc, ap_lcF, ap_iTp, seqT]
  rw [if_pos hl]
  simp only [wipeD_cons, wipeD_nil, List.set_cons_succ, List.set_cons_zero, hc, bnd_ok, hs, Option.map_some, dAdd_int, sb_ok]
theorem worth_by_is : F__law_worth_by = F_worth_of := rfl
/-! sums over all names -/
def WL (L : List Str) (h f : Str → Int) : Int := (L.map fun x => h x * f x).sum
theorem sumC_WL (h f : Str → Int) : ∀ L : List Str, sumC h ((L.filter fun x => decide (f x ≠ 0)).map fun x => (x, f x)) = WL L h f
  | [] => rfl
  | x :: L => by
    have ih := sumC_WL h f L
    unfold WL at ih ⊢
    rw [List.map_cons, List.sum_cons, ← ih]
    by_cases q : f x = 0
    · rw [List.filter_cons_of_neg (by simp [q]), q, Int.mul_zero, Int.zero_add]
    · rw [List.filter_cons_of_pos (by simp [q]), List.map_cons, sumC]
theorem sumC_canon (h f : Str → Int) : sumC h (canon f) = WL NM h f := sumC_WL h f NM
theorem WL_add (h f g : Str → Int) : ∀ L : List Str, WL L h (fun x => f x + g x) = WL L h f + WL L h g
  | [] => rfl
  | x :: L => by
    have ih := WL_add h f g L
    unfold WL at ih ⊢
    rw [List.map_cons, List.map_cons, List.map_cons, List.sum_cons, List.sum_cons, List.sum_cons, ih, Int.mul_add]
    omega
theorem WL_mul (h f : Str → Int) (k : Int) : ∀ L : List Str, WL L h (fun x => f x * k) = WL L h f * k
  | [] => by simp [WL]
  | x :: L => by
    have ih := WL_mul h f k L
    unfold WL at ih ⊢
    rw [List.map_cons, List.map_cons, List.sum_cons, List.sum_cons, ih, Int.add_mul, Int.mul_assoc]
theorem WL_zero (h : Str → Int) : ∀ L : List Str, WL L h (fun _ => 0) = 0
  | [] => rfl
  | x :: L => by
    have ih := WL_zero h L
    unfold WL at ih ⊢
    rw [List.map_cons, List.sum_cons, ih, Int.mul_zero]; rfl
theorem WL_sumC (h : Str → Int) (F : Str → Str → Int) (L : List Str) : ∀ ps : List (Str × Int), WL L h (fun x => sumC (fun y => F y x) ps) = sumC (fun y => WL L h (F y)) ps
  | [] => by
    show WL L h (fun _ => 0) = 0
    exact WL_zero h L
  | p :: ps => by
    show WL L h (fun x => F p.1 x * p.2 + sumC (fun y => F y x) ps) = WL L h (F p.1) * p.2 + sumC (fun y => WL L h (F y)) ps
    rw [WL_add h (fun x => F p.1 x * p.2) (fun x => sumC (fun y => F y x) ps), WL_mul, WL_sumC h F L ps]
theorem WL_delta {x : Str} (h : Str → Int) (hx : x ∈ NM) : WL NM h (delta x) = h x := by
  have e : WL NM h (delta x) = sumC h (canon (delta x)) := (sumC_canon h _).symm
  rw [e, canon_delta hx]
  show h x * 1 + 0 = h x
  omega
theorem sumC_add (a b : Str → Int) : ∀ ps : List (Str × Int), sumC (fun y => a y + b y) ps = sumC a ps + sumC b ps
  | [] => rfl
  | p :: ps => by
    show (a p.1 + b p.1) * p.2 + sumC (fun y => a y + b y) ps = a p.1 * p.2 + sumC a ps + (b p.1 * p.2 + sumC b ps)
    rw [sumC_add a b ps, Int.add_mul]
    omega
theorem sumC_congr {a b : Str → Int} : ∀ {ps : List (Str × Int)}, (∀ p ∈ ps, a p.1 = b p.1) → sumC a ps = sumC b ps
  | [], _ => rfl
  | p :: ps, h => by
    show a p.1 * p.2 + sumC a ps = b p.1 * p.2 + sumC b ps
    rw [h p List.mem_cons_self, sumC_congr fun q m => h q (List.mem_cons_of_mem _ m)]
/-- the law: worths of what stands for the names, or the worth of what is put together -/
theorem worth_same (c : Int) (f : Str → Int) (B : List (Key × TM)) (h h2 : Str → Int) (hh : ∀ x ∈ NM, h2 x = (bv B x).1 + WL NM h (bv B x).2) :
    (c + sumC (fun y => (bv B y).1) (canon f)) + sumC h (canon fun x => sumC (fun y => (bv B y).2 x) (canon f)) = c + sumC h2 (canon f) := by
  rw [sumC_canon h, WL_sumC h (fun y x => (bv B y).2 x), sumC_congr (a := h2) (b := fun y => (bv B y).1 + WL NM h (bv B y).2) fun p m => hh p.1 (canon_nm m).1, sumC_add]
  exact Int.add_assoc _ _ _
/-! bounds -/
theorem sumC_lt {h : Str → Int} {a b : Nat} : ∀ {ps : List (Str × Int)}, (∀ p ∈ ps, (h p.1).natAbs < 2 ^ a ∧ p.2.natAbs < 2 ^ b) → (sumC h ps).natAbs ≤ ps.length * 2 ^ (a + b)
  | [], _ => Nat.zero_le _
  | p :: ps, H => by
    obtain ⟨h1, h2⟩ := H p List.mem_cons_self
    have h3 := Fx.mul_lt h1 h2
    have h4 := sumC_lt (h := h) (a := a) (b := b) (ps := ps) fun q m => H q (List.mem_cons_of_mem _ m)
    show (h p.1 * p.2 + sumC h ps).natAbs ≤ (ps.length + 1) * 2 ^ (a + b)
    rw [Nat.add_mul, Nat.one_mul]
    omega
theorem sumC_bd {h : Str → Int} {a b : Nat} {f : Str → Int} (h1 : ∀ x ∈ NM, (h x).natAbs < 2 ^ a) (h2 : ∀ x, (f x).natAbs < 2 ^ b) : (sumC h (canon f)).natAbs < 2 ^ (a + b + 3) := by
  have h3 := sumC_lt (h := h) (a := a) (b := b) (ps := canon f) fun p m => ⟨h1 _ (canon_nm m).1, by rw [(canon_nm m).2.1]; exact h2 _⟩
  have h4 := canon_len (f := f)
  have h5 : (canon f).length * 2 ^ (a + b) ≤ 6 * 2 ^ (a + b) := Nat.mul_le_mul_right _ h4
  have h6 : 2 ^ (a + b + 3) = 8 * 2 ^ (a + b) := by rw [Nat.pow_add]; omega
  have h7 : 0 < 2 ^ (a + b) := Nat.pow_pos (by decide)
  omega
theorem add_bd {i j : Int} {a b : Nat} (h1 : i.natAbs < 2 ^ a) (h2 : j.natAbs < 2 ^ b) (hab : a ≤ b) : (i + j).natAbs < 2 ^ (b + 1) := Fx.add_lt (Nat.lt_of_lt_of_le h1 (Nat.pow_le_pow_right (by decide) hab)) h2
theorem put_bd {B : List (Key × TM)} (hB : Bb 70 B) {c : Int} {f : Str → Int} (hf : Bd 70 c f) : Bd 144 (c + sumC (fun y => (bv B y).1) (canon f)) fun x => sumC (fun y => (bv B y).2 x) (canon f) := by
  refine ⟨add_bd hf.1 (sumC_bd (a := 70) (b := 70) (fun x _ => (bv_bd (by decide) hB x).1) hf.2) (by decide), fun x => ?_⟩
  exact Nat.lt_of_lt_of_le (sumC_bd (a := 70) (b := 70) (fun y _ => (bv_bd (by decide) hB y).2 x) hf.2) (Nat.pow_le_pow_right (by decide) (by decide))
theorem repr_int {i : Int} (h : i.natAbs < 2 ^ 250) (st : Sto) : bRepr st [.int i] = some (.str (PyData.shown (.int i))) := by
  have hl : i.natAbs.log2 < 250 := Fx.log2_lt h (by decide)
  refine repr_str (e := .int i) rfl (by rfl) (decide_eq_true (by omega)) ?_
  show (Str.ofString (toString i)).length ≤ 1000000
  rw [PySem.ofString_length]
  have := int_text_length_le (a := i) (k := 250) (by decide) hl
  omega

/-! ### cells at the end of the store -/
theorem app_get {st t : Sto} (i : Nat) : (st ++ t)[st.length + i]? = t[i]? := by
  rw [List.getElem?_append_right (by omega)]
  congr 1
  omega
theorem app_set {st t : Sto} (i : Nat) (c : Cell) : (st ++ t).set (st.length + i) c = st ++ t.set i c := by
  rw [List.set_append_right _ _ (by omega)]
  congr 2
  omega
theorem dct_app {st t : Sto} (i : Nat) {k : List (Key × D)} (h : t[i]? = some (.dct k) ∨ t[i]? = some (.dcf k)) : dctOf (st ++ t) (.ref (st.length + i)) = some k := by
  rcases h with h | h
  · exact dctOf_at (by rw [app_get, h])
  · exact dctOf_atf (by rw [app_get, h])
/-- what the drawn dict of terms is like -/
structure Bk (B : List (Key × TM)) : Prop where
  bd : Bb 70 B
  key : ∀ p ∈ B, ∃ x ∈ NM, p.1 = .inr x
theorem Bk.put {B : List (Key × TM)} {x : Str} {t : TM} (h : Bk B) (hx : x ∈ NM) (ht : Bd 70 t.1 t.2) : Bk (putA B (.inr x) t) := by
  constructor
  · intro p hp
    unfold putA at hp
    split at hp
    · obtain ⟨q, hq, rfl⟩ := List.mem_map.mp hp
      by_cases e : q.1 = .inr x
      · rw [if_pos e]; exact ht
      · rw [if_neg e]; exact h.bd q hq
    · rcases List.mem_append.mp hp with hp | hp
      · exact h.bd p hp
      · rw [List.mem_singleton.mp hp]; exact ht
  · intro p hp
    unfold putA at hp
    split at hp
    · obtain ⟨q, hq, rfl⟩ := List.mem_map.mp hp
      by_cases e : q.1 = .inr x
      · rw [if_pos e]; exact h.key q hq
      · rw [if_neg e]; exact h.key q hq
    · rcases List.mem_append.mp hp with hp | hp
      · exact h.key p hp
      · rw [List.mem_singleton.mp hp]; exact ⟨x, hx, rfl⟩
theorem byD_put (B : List (Key × TM)) (k : Key) (c : Int) (f : Str → Int) : putA (byD B) k (tD c f) = byD (putA B k (c, f)) := putA_map (fun t : TM => tD t.1 t.2) k (c, f) B
theorem byD_len (B : List (Key × TM)) : (byD B).length = B.length := List.length_map ..
def byBody : FS := fPutK (fVar 5) (fOp dIx (fVar 1) (fCall 2 F__law_take (fCons (fVar 3) (fCons (fC (.int 6)) fNil)))) (fCall 2 (cl F__law_term) (fCons (fVar 3) (fCons (fC (.int 3)) fNil)))
theorem by_loop (x0 x2 x4 x7 x8 x9 x10 x11 x12 x13 : Option D) (st : Sto) : ∀ (k : List Int) (c : Cell) (B : List (Key × TM)) (e6 : Option D), Pl c → Bk B → B.length + k.length ≤ 10 → ∃ c' B' e6', Pl c' ∧ Bk B' ∧ B'.length ≤ 10 ∧
    forL (gNm 6) byBody (k.map D.int) [x0, some (.lst namesD), x2, some (.ref st.length), x4, some (.ref (st.length + 1)), e6, x7, x8, x9, x10, x11, x12, x13] (st ++ [c, .dct (byD B)])
      = some (.nx [x0, some (.lst namesD), x2, some (.ref st.length), x4, some (.ref (st.length + 1)), e6', x7, x8, x9, x10, x11, x12, x13] (st ++ [c', .dct (byD B')]))
  | [], c, B, e6, hc, hB, hl => ⟨c, B, e6, hc, hB, by simpa using hl, rfl⟩
  | j :: k, c, B, e6, hc, hB, hl => by
    have g0 : ∀ c : Cell, (st ++ [c, .dct (byD B)])[st.length]? = some c := fun c => app_get 0
    have s0 : ∀ c d : Cell, (st ++ [c, .dct (byD B)]).set st.length d = st ++ [d, .dct (byD B)] := fun c d => app_set 0 d
    obtain ⟨t, f, c1, p1, b1, t1⟩ := term_eq st.length 3 (st ++ [c, .dct (byD B)]) c (by decide) (by decide) (g0 c) hc
    rw [s0] at t1
    obtain ⟨v, c2, v0, v1, p2, t2⟩ := take_eq st.length 6 (st ++ [c1, .dct (byD B)]) c1 (by decide) (by decide) (g0 c1) p1
    rw [s0] at t2
    obtain ⟨x, hx, e1⟩ := pick6 v0 v1 (st ++ [c2, .dct (byD B)])
    have pl := putA_length B (.inr x) (t, f)
    simp only [List.length_cons] at hl
    obtain ⟨c', B', e6', q1, q2, q3, h⟩ := by_loop x0 x2 x4 x7 x8 x9 x10 x11 x12 x13 st k c2 (putA B (.inr x) (t, f)) (some (.int j)) p2 (hB.put hx b1) (by omega)
    refine ⟨c', B', e6', q1, q2, q3, ?_⟩
    have gb : (st ++ [c2, .dct (byD B)])[st.length + 1]? = some (.dct (byD B)) := app_get 1
    have sb' : (st ++ [c2, .dct (byD B)]).set (st.length + 1) (.dct (putA (byD B) (.inr x) (tD t f))) = st ++ [c2, .dct (byD (putA B (.inr x) (t, f)))] := by
      rw [app_set 1, byD_put]; rfl
    have small : (byD B).length ≤ 1000000 := by rw [byD_len]; omega
    have step : byBody [x0, some (.lst namesD), x2, some (.ref st.length), x4, some (.ref (st.length + 1)), some (.int j), x7, x8, x9, x10, x11, x12, x13] (st ++ [c, .dct (byD B)])
        = some (.nx [x0, some (.lst namesD), x2, some (.ref st.length), x4, some (.ref (st.length + 1)), some (.int j), x7, x8, x9, x10, x11, x12, x13] (st ++ [c2, .dct (byD (putA B (.inr x) (t, f)))])) := by
      unfold byBody
      rw [ap_putK]
      simp only [ap_call, ap_cons, ap_nil, ap_var, ap_c, ap_op, List.getElem?_cons_succ, List.getElem?_cons_zero, bnd_ok, List.length_cons, List.length_nil, Nat.zero_add, if_true, t1, t2, sb_ok, e1, Option.map_some, dKey_str, gb]
      rw [if_pos small, sb']
    rw [List.map_cons]
    unfold forL
    simp only [ap_nm, sb_ok, List.set_cons_succ, List.set_cons_zero]
    rw [step]
    exact h
/-- the numbers drawn -/
theorem num_loop (x0 x1 x2 x4 x5 x6 x7 x9 x10 x11 x12 x13 : Option D) (st : Sto) (b : Cell) : ∀ (xs : List Str) (c : Cell), Pl c → ∃ (c' : Cell) (ps : List (Str × Int)), Pl c' ∧ ps.map (·.1) = xs ∧ (∀ p ∈ ps, p.2.natAbs < 2 ^ 6) ∧
    lcL (gNm 8) tYes1 (fTup (fCons (fVar 8) (fCons (fOp dSub (fCall 2 F__law_take (fCons (fVar 3) (fCons (fC (.int 41)) fNil))) (fC (.int 9))) fNil))) [x0, x1, x2, some (.ref st.length), x4, x5, x6, x7, none, x9, x10, x11, x12, x13] (xs.map D.str) (st ++ [c, b])
      = some (.ok (ps.map prD) (st ++ [c', b]))
  | [], c, hc => ⟨c, [], hc, rfl, (fun _ m => by cases m), rfl⟩
  | x :: xs, c, hc => by
    obtain ⟨v, c1, v0, v1, p1, t1⟩ := take_eq st.length 41 (st ++ [c, b]) c (by decide) (by decide) (app_get 0) hc
    have s0 : (st ++ [c, b]).set st.length c1 = st ++ [c1, b] := app_set 0 c1
    rw [s0] at t1
    obtain ⟨c', ps, q1, q2, q3, h⟩ := num_loop x0 x1 x2 x4 x5 x6 x7 x9 x10 x11 x12 x13 st b xs c1 p1
    refine ⟨c', (x, v - 9) :: ps, q1, by rw [List.map_cons, q2], fun p hp => ?_, ?_⟩
    · rcases List.mem_cons.mp hp with rfl | hp
      · show (v - 9).natAbs < 64
        omega
      · exact q3 p hp
    · rw [List.map_cons, ap_lcL1]
      have fe : fTup (fCons (fVar 8) (fCons (fOp dSub (fCall 2 F__law_take (fCons (fVar 3) (fCons (fC (.int 41)) fNil))) (fC (.int 9))) fNil)) [x0, x1, x2, some (.ref st.length), x4, x5, x6, x7, some (.str x), x9, x10, x11, x12, x13] (st ++ [c, b]) = some (.ok (prD (x, v - 9)) (st ++ [c1, b])) := by
        simp [t1, dSub, prD]
      simp only [ap_nm, noX_ok', bnd_ok, List.set_cons_succ, List.set_cons_zero, ap_tYes, if_true]
      rw [fe, noX_ok', bnd_ok, h, bnd_ok, List.map_cons]
/-! ### what repr shows of the term, the dict of terms, the numbers -/
def byP (B : List (Key × TM)) : PyData := .dict (B.map fun p => (kP p.1, tP p.2.1 p.2.2))
def numP (M : MI) : PyData := .dict (M.map fun p => (kP p.1, .int p.2))
theorem flat_prs : ∀ ps : List (Str × Int), flatPs (ps.map prP) = true
  | [] => rfl
  | p :: ps => by
    show (true && (true && true) && flatPs (ps.map prP)) = true
    rw [flat_prs ps]; rfl
theorem flat_tP (c : Int) (f : Str → Int) : flatP (tP c f) = true := by
  show (true && (flatPs ((canon f).map prP) && true)) = true
  rw [flat_prs]; rfl
theorem sh_term (c : Int) (f : Str → Int) (st : Sto) : shD st (tD c f) = some (tP c f) := by
  show (pd (tD c f)).bind (fun e => if flatP e = true then some e else none) = _
  rw [pd_tD]
  show (if flatP (tP c f) = true then some (tP c f) else none) = _
  rw [if_pos (flat_tP c f)]
theorem pds_terms : ∀ B : List (Key × TM), pds ((byD B).map (·.2)) = some (B.map fun p => tP p.2.1 p.2.2) ∧ flatPs (B.map fun p => tP p.2.1 p.2.2) = true
  | [] => ⟨rfl, rfl⟩
  | p :: B => by
    obtain ⟨h1, h2⟩ := pds_terms B
    refine ⟨?_, ?_⟩
    · show (pd (tD p.2.1 p.2.2)).bind (fun e => (pds ((byD B).map (·.2))).map (e :: ·)) = _
      rw [pd_tD, h1]; rfl
    · show (flatP (tP p.2.1 p.2.2) && flatPs (B.map fun p => tP p.2.1 p.2.2)) = true
      rw [flat_tP, h2]; rfl
theorem pds_nums : ∀ M : MI, pds ((dI M).map (·.2)) = some (M.map fun p => .int p.2) ∧ flatPs (M.map fun p => .int p.2) = true
  | [] => ⟨rfl, rfl⟩
  | p :: M => by
    obtain ⟨h1, h2⟩ := pds_nums M
    refine ⟨?_, ?_⟩
    · show (some (PyData.int p.2)).bind (fun e => (pds ((dI M).map (·.2))).map (e :: ·)) = _
      rw [h1]; rfl
    · show (true && flatPs (M.map fun p => PyData.int p.2)) = true
      rw [h2]; rfl
theorem sh_by {st : Sto} {d : D} {B : List (Key × TM)} (h : dctOf st d = some (byD B)) : shD st d = some (byP B) := by
  obtain ⟨h1, h2⟩ := pds_terms B
  unfold shD
  rw [h]
  show (pds ((byD B).map (·.2))).bind _ = _
  rw [h1]
  show (if flatPs (B.map fun p => tP p.2.1 p.2.2) = true then some (PyData.dict (((byD B).map fun p => kP p.1).zip (B.map fun p => tP p.2.1 p.2.2))) else none) = _
  rw [if_pos h2]
  have : (byD B).map (fun p => kP p.1) = B.map fun p => kP p.1 := by
    unfold byD
    rw [List.map_map]; rfl
  rw [this, List.zip_map']
  rfl
theorem sh_num {st : Sto} {d : D} {M : MI} (h : dctOf st d = some (dI M)) : shD st d = some (numP M) := by
  obtain ⟨h1, h2⟩ := pds_nums M
  unfold shD
  rw [h]
  show (pds ((dI M).map (·.2))).bind _ = _
  rw [h1]
  show (if flatPs (M.map fun p => PyData.int p.2) = true then some (PyData.dict (((dI M).map fun p => kP p.1).zip (M.map fun p => PyData.int p.2))) else none) = _
  rw [if_pos h2]
  have : (dI M).map (fun p => kP p.1) = M.map fun p => kP p.1 := by
    unfold dI
    rw [List.map_map]; rfl
  rw [this, List.zip_map']
  rfl
theorem key_leaf {k : Key} (h : ∃ x ∈ NM, k = .inr x) : PyData.leavesShort 160 (kP k) = true ∧ PyData.showable (kP k) = true ∧ PyData.weight (kP k) ≤ 6 ∧ PyData.depth (kP k) = 0 := by
  obtain ⟨x, hx, rfl⟩ := h
  have h0 : ∀ x ∈ NM, (x.cps.toList.all fun c => decide (c < 16 ^ 8)) = true ∧ x.cps.size ≤ 6 := by decide
  exact ⟨(h0 x hx).1, rfl, (h0 x hx).2, rfl⟩
theorem kv_ok {α : Type} (g : α → PyData) (w : Nat) (hg : ∀ a, PyData.depth (g a) ≤ 3) : ∀ l : List (Key × α), (∀ p ∈ l, (∃ x ∈ NM, p.1 = .inr x) ∧ PyData.leavesShort 160 (g p.2) = true ∧ PyData.showable (g p.2) = true ∧ PyData.weight (g p.2) ≤ w) →
    PyData.leavesShortKv 160 (l.map fun p => (kP p.1, g p.2)) = true ∧ PyData.showableKv (l.map fun p => (kP p.1, g p.2)) = true ∧ PyData.weightKv (l.map fun p => (kP p.1, g p.2)) ≤ l.length * (w + 8) ∧ PyData.depthKv (l.map fun p => (kP p.1, g p.2)) ≤ 3
  | [], _ => ⟨rfl, rfl, Nat.zero_le _, Nat.zero_le _⟩
  | p :: l, h => by
    obtain ⟨h1, h2, h3, h4⟩ := kv_ok g w hg l fun q m => h q (List.mem_cons_of_mem _ m)
    obtain ⟨hk, g1, g2, g3⟩ := h p List.mem_cons_self
    obtain ⟨k1, k2, k3, k4⟩ := key_leaf hk
    have g4 := hg p.2
    refine ⟨?_, ?_, ?_, ?_⟩
    · show ((PyData.leavesShort 160 (kP p.1) && PyData.leavesShort 160 (g p.2)) && PyData.leavesShortKv 160 (l.map fun p => (kP p.1, g p.2))) = true
      rw [k1, g1, h1]; rfl
    · show ((PyData.showable (kP p.1) && PyData.showable (g p.2)) && PyData.showableKv (l.map fun p => (kP p.1, g p.2))) = true
      rw [k2, g2, h2]; rfl
    · show PyData.weight (kP p.1) + PyData.weight (g p.2) + 2 + PyData.weightKv (l.map fun p => (kP p.1, g p.2)) ≤ (l.length + 1) * (w + 8)
      rw [Nat.add_mul, Nat.one_mul]
      omega
    · show max (max (PyData.depth (kP p.1)) (PyData.depth (g p.2))) (PyData.depthKv (l.map fun p => (kP p.1, g p.2))) ≤ 3
      omega
theorem show3 {c : Int} {f : Str → Int} {B : List (Key × TM)} {M : MI} (hf : Bd 70 c f) (hB : Bk B) (hBl : B.length ≤ 10) (hM : Kd NM M) (hMb : ∀ p ∈ M, p.2.natAbs < 2 ^ 70) :
    PyData.showableAll [tP c f, byP B, numP M] = true ∧ PyData.depthAll [tP c f, byP B, numP M] ≤ 60 ∧ (PyData.shown (.list [tP c f, byP B, numP M])).length ≤ 10000000 := by
  obtain ⟨t1, t2, t3⟩ := tP_shown hf (by decide)
  have t4 := (tP_lay c f).2
  obtain ⟨b1, b2, b3, b4⟩ := kv_ok (fun t : TM => tP t.1 t.2) 1200 (fun t => (tP_lay t.1 t.2).2) B fun p hp => ⟨hB.key p hp, tP_shown (hB.bd p hp) (by decide)⟩
  have hlen := hM.len nm_srt nm_nd
  have h6 : NM.length = 6 := rfl
  obtain ⟨n1, n2, n3, n4⟩ := kv_ok (fun i : Int => PyData.int i) 150 (fun _ => Nat.zero_le _) M fun p hp => ⟨hM.str p.1 (List.mem_map_of_mem hp), int_leaf (Nat.lt_trans (hMb p hp) (by decide))⟩
  have w1 : B.length * (1200 + 8) ≤ 10 * (1200 + 8) := Nat.mul_le_mul_right _ hBl
  have w2 : M.length * (150 + 8) ≤ 6 * (150 + 8) := Nat.mul_le_mul_right _ (by omega)
  refine ⟨?_, ?_, ?_⟩
  · show (PyData.showable (tP c f) && (PyData.showableKv (B.map fun p => (kP p.1, tP p.2.1 p.2.2)) && (PyData.showableKv (M.map fun p => (kP p.1, .int p.2)) && true))) = true
    rw [t2, b2, n2]; rfl
  · show max (PyData.depth (tP c f)) (max (PyData.depthKv (B.map fun p => (kP p.1, tP p.2.1 p.2.2)) + 1) (max (PyData.depthKv (M.map fun p => (kP p.1, PyData.int p.2)) + 1) 0)) ≤ 60
    omega
  · have hl : PyData.leavesShort 160 (.list [tP c f, byP B, numP M]) = true := by
      show (PyData.leavesShort 160 (tP c f) && (PyData.leavesShortKv 160 (B.map fun p => (kP p.1, tP p.2.1 p.2.2)) && (PyData.leavesShortKv 160 (M.map fun p => (kP p.1, .int p.2)) && true))) = true
      rw [t1, b1, n1]; rfl
    have hw : PyData.weight (.list [tP c f, byP B, numP M]) ≤ 15000 := by
      show PyData.weight (tP c f) + 1 + (PyData.weightKv (B.map fun p => (kP p.1, tP p.2.1 p.2.2)) + 1 + (PyData.weightKv (M.map fun p => (kP p.1, PyData.int p.2)) + 1 + 0)) ≤ 15000
      omega
    have := PyData.shown_le 160 (by decide) _ hl
    have : (160 + 2) * (PyData.list [tP c f, byP B, numP M]).weight ≤ 162 * 15000 := Nat.mul_le_mul_left _ hw
    omega
theorem reprX_eq {c : Int} {f : Str → Int} {B : List (Key × TM)} {M : MI} (hf : Bd 70 c f) (hB : Bk B) (hBl : B.length ≤ 10) (hM : Kd NM M) (hMb : ∀ p ∈ M, p.2.natAbs < 2 ^ 70) (st : Sto) (n q : Nat) (h1 : dctOf st (.ref n) = some (byD B)) (h2 : dctOf st (.ref q) = some (dI M))
    (x0 x1 x2 x3 x6 x8 x9 x10 x11 x12 x13 : Option D) : fReprX (fCons (fVar 4) (fCons (fVar 5) (fCons (fVar 7) fNil))) [x0, x1, x2, x3, some (tD c f), some (.ref n), x6, some (.ref q), x8, x9, x10, x11, x12, x13] st = some (.ok (.str (PyData.shown (.list [tP c f, byP B, numP M]))) st) := by
  obtain ⟨s1, s2, s3⟩ := show3 hf hB hBl hM hMb
  have hs : shDs st [tD c f, .ref n, .ref q] = some [tP c f, byP B, numP M] := by
    show (shD st (tD c f)).bind (fun e => ((shD st (.ref n)).bind fun e => ((shD st (.ref q)).bind fun e => (some []).map (e :: ·)).map (e :: ·)).map (e :: ·)) = _
    rw [sh_term, sh_by h1, sh_num h2]; rfl
  unfold fReprX
  simp only [ap_cons, ap_nil, ap_var, List.getElem?_cons_succ, List.getElem?_cons_zero, bnd_ok, hs]
  rw [if_pos ⟨by show (3 : Nat) ≤ 1000; decide, s1, s2, s3⟩]
/-! ### the inner worths -/
def setF (g : Str → Int) (m : MI) (xs : List Str) : MI := xs.foldl (fun m x => putA m (.inr x) (g x)) m
theorem kd_setF {g : Str → Int} : ∀ {xs : List Str} {m : MI}, Kd NM m → (∀ x ∈ xs, x ∈ NM) → Kd NM (setF g m xs)
  | [], _, h, _ => h
  | x :: xs, m, h, hx => kd_setF (xs := xs) (m := putA m (.inr x) (g x)) (h.put (hx x List.mem_cons_self)) fun y my => hx y (List.mem_cons_of_mem _ my)
theorem at0_setF {g : Str → Int} {y : Str} : ∀ {xs : List Str} {m : MI}, at0 (setF g m xs) y = if y ∈ xs then g y else at0 m y
  | [], m => by simp [setF]
  | x :: xs, m => by
    show at0 (setF g (putA m (.inr x) (g x)) xs) y = _
    rw [at0_setF, at0_put]
    by_cases h1 : y ∈ xs
    · rw [if_pos h1, if_pos (List.mem_cons_of_mem _ h1)]
    · rw [if_neg h1]
      by_cases h2 : y = x
      · subst h2
        rw [if_pos rfl, if_pos List.mem_cons_self]
      · rw [if_neg h2, if_neg (by rw [List.mem_cons]; exact fun z => z.elim h2 h1)]
theorem some_setF {g : Str → Int} {k : Key} : ∀ {xs : List Str} {m : MI}, (valA m k).isSome = true → (valA (setF g m xs) k).isSome = true
  | [], _, h => h
  | x :: xs, m, h => some_setF (xs := xs) (m := putA m (.inr x) (g x)) (isSome_put h)
def inBody : FS := fPutK (fVar 11) (fVar 8) (fCall 2 F__law_worth_by (fCons (fGetK (fVar 5) (fVar 8)) (fCons (fVar 7) fNil)))
theorem in_loop (x0 x1 x2 x3 x4 x6 x9 x10 x12 x13 : Option D) (T : Sto) (n q : Nat) (B : List (Key × TM)) (M : MI) (hB : Bb 70 B) (hn : dctOf T (.ref n) = some (byD B)) (hq : dctOf T (.ref q) = some (dI M)) (hM : ∀ x ∈ NM, (valA M (.inr x)).isSome = true) (hz : ∀ x ∈ NM, Sz (at0 M x)) (g : Str → Int) (hg : ∀ x ∈ NM, g x = (bv B x).1 + sumC (at0 M) (canon (bv B x).2)) :
    ∀ (xs : List Str) (m : MI) (e8 : Option D), Kd NM m → (∀ x ∈ xs, x ∈ NM ∧ (valA B (.inr x)).isSome = true) → ∃ e8',
    forL (gNm 8) inBody (xs.map D.str) [x0, x1, x2, x3, x4, some (.ref n), x6, some (.ref q), e8, x9, x10, some (.ref T.length), x12, x13] (T ++ [.dct (dI m)])
      = some (.nx [x0, x1, x2, x3, x4, some (.ref n), x6, some (.ref q), e8', x9, x10, some (.ref T.length), x12, x13] (T ++ [.dct (dI (setF g m xs))]))
  | [], m, e8, _, _ => ⟨e8, rfl⟩
  | x :: xs, m, e8, hm, hx => by
    obtain ⟨hx1, hx2⟩ := hx x List.mem_cons_self
    obtain ⟨e8', h⟩ := in_loop x0 x1 x2 x3 x4 x6 x9 x10 x12 x13 T n q B M hB hn hq hM hz g hg xs (putA m (.inr x) (g x)) (some (.str x)) (hm.put hx1) fun y my => hx y (List.mem_cons_of_mem _ my)
    refine ⟨e8', ?_⟩
    have app : ∀ {j : Nat} {k : List (Key × D)}, dctOf T (.ref j) = some k → dctOf (T ++ [.dct (dI m)]) (.ref j) = some k := fun {j k} e => by
      have hj : j < T.length := by
        unfold dctOf at e
        simp only at e
        by_cases hj : j < T.length
        · exact hj
        · rw [List.getElem?_eq_none (by omega)] at e; cases e
      unfold dctOf at e ⊢
      simp only at e ⊢
      rw [List.getElem?_append_left hj]
      exact e
    have hv : valA (byD B) (.inr x) = some (tD (bv B x).1 (bv B x).2) := by
      have e : valA (byD B) (.inr x) = (valA B (.inr x)).map fun t => tD t.1 t.2 := valA_map (fun t : TM => tD t.1 t.2) (.inr x) B
      rw [e]
      unfold bv
      obtain ⟨t, et⟩ := Option.isSome_iff_exists.mp hx2
      rw [et]; rfl
    have hw := worth_eq (bv B x).1 (bv B x).2 q (T ++ [.dct (dI m)]) M (app hq) hM hz ((bv_bd (by decide) hB x).sz (by decide)).2
    rw [← worth_by_is, ← hg x hx1] at hw
    have step : inBody [x0, x1, x2, x3, x4, some (.ref n), x6, some (.ref q), some (.str x), x9, x10, some (.ref T.length), x12, x13] (T ++ [.dct (dI m)])
        = some (.nx [x0, x1, x2, x3, x4, some (.ref n), x6, some (.ref q), some (.str x), x9, x10, some (.ref T.length), x12, x13] (T ++ [.dct (dI (putA m (.inr x) (g x)))])) := by
      unfold inBody
      rw [ap_putK]
      simp only [ap_call, ap_cons, ap_nil, ap_var, ap_getK, List.getElem?_cons_succ, List.getElem?_cons_zero, bnd_ok, List.length_cons, List.length_nil, Nat.zero_add, if_true, app hn, dKey_str, hv, Option.map_some, hw, sb_ok, last_get]
      rw [if_pos (kd_small hm), last_set, putA_dI]
    rw [List.map_cons]
    unfold forL
    simp only [ap_nm, sb_ok, List.set_cons_succ, List.set_cons_zero]
    rw [step]
    exact h
noncomputable def body1 : FS := (fSeq (fSet 3 (fCall 2 F__law_pool (fCons (fVar 0) (fCons (fVar 2) fNil))))
  (fSeq (fSet 4 (fCall 2 (cl F__law_term) (fCons (fVar 3) (fCons (fC (.int 4)) fNil))))
  (fSeq (fSet 5 fDctC)
  (fSeq (fFor (iRg1 (fCons (fCall 2 F__law_take (fCons (fVar 3) (fCons (fC (.int 5)) fNil))) fNil)) (gNm 6)
  (fPutK (fVar 5) (fOp dIx (fVar 1) (fCall 2 F__law_take (fCons (fVar 3) (fCons (fC (.int 6)) fNil)))) (fCall 2 (cl F__law_term) (fCons (fVar 3) (fCons (fC (.int 3)) fNil)))))
  (fSeq (fSet 7 (fNewD bDictL (fCons (fLc (iLst (fVar 1)) (gNm 8) tYes1 (fTup (fCons (fVar 8) (fCons (fOp dSub (fCall 2 F__law_take (fCons (fVar 3) (fCons (fC (.int 41)) fNil))) (fC (.int 9))) fNil))) [8]) fNil)))
  (fSeq (fSet 9 (fReprX (fCons (fVar 4) (fCons (fVar 5) (fCons (fVar 7) fNil)))))
  (fSeq (fSet 10 (fCall 2 F_put_in (fCons (fVar 4) (fCons (fVar 5) fNil))))
  (fSeq (fIfS (tOr2 (tV (fOp dNeS (fCa bRepr (fCons (fVar 10) fNil)) (fCa bRepr (fCons (fCall 2 (cl F__law_put_in) (fCons (fVar 4) (fCons (fVar 5) fNil))) fNil)))) (tV (fOp dNeS (fReprX (fCons (fVar 4) (fCons (fVar 5) (fCons (fVar 7) fNil)))) (fVar 9))))
  (fRet (fC (.bl false)))
  fPass)
  (fSeq (fSet 11 (fNewD bDictD (fCons (fVar 7) fNil)))
  (fSeq (fFor (Fx.iKeys (fVar 5)) (gNm 8)
  (fPutK (fVar 11) (fVar 8) (fCall 2 F__law_worth_by (fCons (fGetK (fVar 5) (fVar 8)) (fCons (fVar 7) fNil)))))
  (fSeq (fFor (iLst (fLst (fCons (fTup (fCons (fVar 4) (fCons (fVar 7) fNil))) (fCons (fTup (fCons (fVar 10) (fCons (fVar 7) fNil))) (fCons (fTup (fCons (fVar 4) (fCons (fVar 11) fNil))) fNil))))) (gTp 2 (gsCons (gNm 12) (gsCons (gNm 13) gsNil)))
  (fIfS (tV (fOp dNeS (fCa bRepr (fCons (fCall 2 F_worth_of (fCons (fVar 12) (fCons (fVar 13) fNil))) fNil)) (fCa bRepr (fCons (fCall 2 F__law_worth_by (fCons (fVar 12) (fCons (fVar 13) fNil))) fNil))))
  (fRet (fC (.bl false)))
  fPass))
  (fIfS (tOr2 (tV (fOp dNe (fCall 2 F_worth_of (fCons (fVar 10) (fCons (fVar 7) fNil))) (fCall 2 F_worth_of (fCons (fVar 4) (fCons (fVar 11) fNil))))) (tV (fOp dNe (fCall 2 F_put_in (fCons (fVar 4) (fCons fDctC fNil))) (fVar 4))))
  (fRet (fC (.bl false)))
  fPass))))))))))))
noncomputable def rangeF : FA := (fCons (fCa bMax2 (fCons (fC (.int 1)) (fCons (fCa bMin2 (fCons (fCa bLen (fCons (fVar 0) fNil)) (fCons (fC (.int 30)) fNil))) fNil))) fNil)
theorem law_shape : F_law = fDef 1 14 ((fSeq (fSet 1 (fLst (fCons (fC (.str "a")) (fCons (fC (.str "b")) (fCons (fC (.str "c")) (fCons (fC (.str "i")) (fCons (fC (.str "abc")) (fCons (fC (.str "zzzzzz")) fNil))))))))
  (fSeq (fFor (iRg1 rangeF) (gNm 2)
  body1)
  (fRet (fC (.bl true)))))) := rfl
/-! ### the law's loop -/
def namesS : List Str := ["a", "b", "c", "i", "abc", "zzzzzz"]
theorem names_nm : ∀ x ∈ namesS, x ∈ NM := by decide
theorem nm_names : ∀ x ∈ NM, x ∈ namesS := by decide
theorem namesD_is : namesD = namesS.map D.str := rfl
theorem mem_setAll {p : Key × Int} : ∀ {ps : List (Str × Int)} {m : MI}, p ∈ setAll m ps → (∃ q ∈ m, p.2 = q.2) ∨ ∃ q ∈ ps, p.2 = q.2
  | [], m, h => .inl ⟨p, h, rfl⟩
  | q :: ps, m, h => by
    rcases mem_setAll (ps := ps) (m := putA m (.inr q.1) q.2) h with ⟨r, hr, e⟩ | ⟨r, hr, e⟩
    · unfold putA at hr
      split at hr
      · obtain ⟨z, hz, rfl⟩ := List.mem_map.mp hr
        by_cases k : z.1 = .inr q.1
        · rw [if_pos k] at e
          exact .inr ⟨q, List.mem_cons_self, e⟩
        · rw [if_neg k] at e
          exact .inl ⟨z, hz, e⟩
      · rcases List.mem_append.mp hr with hr | hr
        · exact .inl ⟨r, hr, e⟩
        · rw [List.mem_singleton.mp hr] at e
          exact .inr ⟨q, List.mem_cons_self, e⟩
    · exact .inr ⟨r, List.mem_cons_of_mem _ hr, e⟩
theorem some_setAll {x : Str} : ∀ {ps : List (Str × Int)} {m : MI}, ((valA m (.inr x)).isSome = true ∨ x ∈ ps.map (·.1)) → (valA (setAll m ps) (.inr x)).isSome = true
  | [], m, h => h.elim id fun z => by cases z
  | q :: ps, m, h => some_setAll (ps := ps) (m := putA m (.inr q.1) q.2) (by
      rcases h with h | h
      · exact .inl (isSome_put h)
      · rcases List.mem_cons.mp h with z | z
        · left
          rw [valA_put, if_pos (by rw [z])]; rfl
        · exact .inr z)
theorem valA_mem {m : MI} {k : Key} {v : Int} (h : valA m k = some v) : ∃ p ∈ m, p.2 = v := by
  induction m with
  | nil => cases h
  | cons p r ih =>
    rw [valA_cons] at h
    split at h
    · cases h
      exact ⟨p, List.mem_cons_self, rfl⟩
    · obtain ⟨q, hq, e⟩ := ih h
      exact ⟨q, List.mem_cons_of_mem _ hq, e⟩
theorem at0_bd {m : MI} {b : Nat} (h : ∀ p ∈ m, p.2.natAbs < 2 ^ b) (x : Str) : (at0 m x).natAbs < 2 ^ b := by
  unfold at0
  cases q : valA m (.inr x) with
  | none => exact Nat.pow_pos (by decide)
  | some v =>
    obtain ⟨p, hp, e⟩ := valA_mem q
    rw [← e]
    exact h p hp
theorem sumC_delta (x : Str) : ∀ ps : List (Str × Int), sumC (fun y => delta y x) ps = sumP ps x
  | [] => rfl
  | p :: ps => by
    show delta p.1 x * p.2 + sumC (fun y => delta y x) ps = (if p.1 = x then p.2 else 0) + sumP ps x
    rw [sumC_delta x ps]
    unfold delta
    by_cases h : p.1 = x
    · subst h; simp
    · have : ¬ x = p.1 := fun e => h e.symm
      simp [h, this]
theorem sumC_zero : ∀ ps : List (Str × Int), sumC (fun _ => 0) ps = 0
  | [] => rfl
  | p :: ps => by
    show 0 * p.2 + sumC (fun _ => 0) ps = 0
    rw [sumC_zero ps]; simp
theorem put_none (c : Int) (f : Str → Int) (n : Nat) (st : Sto) (hd : dctOf st (.ref n) = some []) (hf : Bd 70 c f) : F_put_in [tD c f, .ref n] st = some (.ok (tD c f) st) := by
  have h := put_in_eq c f n st [] (fun _ m => by cases m) hd hf
  have e1 : c + sumC (fun y => (bv [] y).1) (canon f) = c := by
    show c + sumC (fun _ => 0) (canon f) = c
    rw [sumC_zero]; omega
  have e2 : tD c (fun x => sumC (fun y => (bv [] y).2 x) (canon f)) = tD c f := tD_congr fun x hx => by
    show sumC (fun y => delta y x) (canon f) = f x
    rw [sumC_delta, sumP_canon hx]
  rw [e1, e2] at h
  exact h
theorem keys_str : ∀ {B : List (Key × TM)}, (∀ p ∈ B, ∃ x ∈ NM, p.1 = .inr x) → ∃ xs : List Str, (byD B).map (fun p => keyD p.1) = xs.map D.str ∧ B.map (·.1) = xs.map Sum.inr ∧ ∀ x ∈ xs, x ∈ NM
  | [], _ => ⟨[], rfl, rfl, fun _ m => by cases m⟩
  | p :: B, h => by
    obtain ⟨xs, h1, h2, h3⟩ := keys_str (B := B) fun q m => h q (List.mem_cons_of_mem _ m)
    obtain ⟨x, hx, e⟩ := h p List.mem_cons_self
    refine ⟨x :: xs, ?_, ?_, fun y hy => (List.mem_cons.mp hy).elim (fun z => by rw [z]; exact hx) (h3 y)⟩
    · show keyD p.1 :: (byD B).map (fun p => keyD p.1) = _
      rw [h1, e]; rfl
    · rw [List.map_cons, List.map_cons, h2, e]
theorem mem_some {B : List (Key × TM)} {x : Str} (h : (.inr x : Key) ∈ B.map (·.1)) : (valA B (.inr x)).isSome = true := by
  cases q : valA B (.inr x) with
  | none => exact absurd h (valA_none.mp q)
  | some _ => rfl
def wBody : FS := (fIfS (tV (fOp dNeS (fCa bRepr (fCons (fCall 2 F_worth_of (fCons (fVar 12) (fCons (fVar 13) fNil))) fNil)) (fCa bRepr (fCons (fCall 2 F__law_worth_by (fCons (fVar 12) (fCons (fVar 13) fNil))) fNil))))
  (fRet (fC (.bl false)))
  fPass)
theorem w_step (x0 x1 x2 x3 x4 x5 x6 x7 x8 x9 x10 x11 : Option D) (t d : D) (v : Int) (st : Sto) (h : F_worth_of [t, d] st = some (.ok (.int v) st)) (hv : v.natAbs < 2 ^ 250) :
    wBody [x0, x1, x2, x3, x4, x5, x6, x7, x8, x9, x10, x11, some t, some d] st = some (.nx [x0, x1, x2, x3, x4, x5, x6, x7, x8, x9, x10, x11, some t, some d] st) := by
  have hr := repr_int hv st
  unfold wBody
  rw [worth_by_is]
  simp [h, hr, neS_same]
theorem body1_eq (N : Nat) (hN : N ≤ 1048577) (ns : List Int) (k : Nat) (st : Sto) (hb : ∀ z ∈ ns, z.natAbs < 2 ^ N) (hk : k < 63) (x3 x4 x5 x6 x7 x8 x9 x10 x11 x12 x13 : Option D) :
    ∃ (y3 y4 y5 y6 y7 y8 y9 y10 y11 y12 y13 : Option D) (s2 : Sto), body1 [some (.frz (ns.map D.int)), some (.lst namesD), some (.int k), x3, x4, x5, x6, x7, x8, x9, x10, x11, x12, x13] st = some (.nx [some (.frz (ns.map D.int)), some (.lst namesD), some (.int k), y3, y4, y5, y6, y7, y8, y9, y10, y11, y12, y13] s2) := by
  obtain ⟨c, c1, e1⟩ := pool_eq N hN ns k st hb hk
  obtain ⟨a, f, d1, p1, b1, t1⟩ := term_eq st.length 4 (st ++ [c]) c (by decide) (by decide) last_get c1
  rw [last_set] at t1
  have l1 : (st ++ [d1]).length = st.length + 1 := by simp
  have g2 : (st ++ [d1] ++ [Cell.dct []])[st.length]? = some d1 := by rw [List.append_assoc]; exact app_get 0
  obtain ⟨M0, d2, m0, m1, p2, t2⟩ := take_eq st.length 5 (st ++ [d1] ++ [.dct []]) d1 (by decide) (by decide) g2 p1
  have s2 : (st ++ [d1] ++ [Cell.dct []]).set st.length d2 = st ++ [d2, .dct (byD [])] := by rw [List.append_assoc]; exact app_set 0 d2
  rw [s2] at t2
  obtain ⟨d3, B, e6, p3, hB, hBl, lb⟩ := by_loop (some (.frz (ns.map D.int))) (some (.int k)) (some (tD a f)) x7 x8 x9 x10 x11 x12 x13 st ((List.range M0.toNat).map fun i : Nat => (0 : Int) + (i : Int)) d2 [] x6 p2 ⟨(fun _ m => by cases m), (fun _ m => by cases m)⟩ (by simp; omega)
  obtain ⟨d4, ps, p4, n1, n2, ln⟩ := num_loop (some (.frz (ns.map D.int))) (some (.lst namesD)) (some (.int k)) (some (tD a f)) (some (.ref (st.length + 1))) e6 x7 x9 x10 x11 x12 x13 st (.dct (byD B)) namesS d3 p3
  have hbm : ∀ st, bDictL st [.lst (ps.map prD)] = some (dI (setAll [] ps)) := fun st => by
    show (asPrs (ps.map prD)).map (mergeA []) = _
    rw [prs_asPrs]
    show some (mergeA (dI []) _) = _
    rw [merge_dI]; rfl
  have kM : Kd NM (setAll [] ps) := kd_setAll Kd.nil fun p m => names_nm _ (by rw [← n1]; exact List.mem_map_of_mem m)
  have sM : ∀ x ∈ NM, (valA (setAll [] ps) (.inr x)).isSome = true := fun x hx => some_setAll (.inr (by rw [n1]; exact nm_names x hx))
  have bM : ∀ p ∈ setAll [] ps, p.2.natAbs < 2 ^ 6 := fun p m => by
    rcases mem_setAll m with ⟨q, hq, _⟩ | ⟨q, hq, e⟩
    · cases hq
    · rw [e]; exact n2 q hq
  generalize setAll [] ps = M at hbm kM sM bM
  have aM := at0_bd bM
  have zM : ∀ x ∈ NM, Sz (at0 M x) := fun x _ => sz_small (Nat.lt_trans (aM x) (by decide))
  obtain ⟨za, zf⟩ := b1.sz (by decide)
  -- the store from now on
  have hby : dctOf (st ++ [d4, .dct (byD B), .dct (dI M)]) (.ref (st.length + 1)) = some (byD B) := dct_app 1 (.inl rfl)
  have hnu : dctOf (st ++ [d4, .dct (byD B), .dct (dI M)]) (.ref (st.length + 2)) = some (dI M) := dct_app 2 (.inl rfl)
  have RX := reprX_eq b1 hB hBl kM (fun p m => Nat.lt_trans (bM p m) (by decide)) (st ++ [d4, .dct (byD B), .dct (dI M)]) (st.length + 1) (st.length + 2) hby hnu
  have PI := put_in_eq a f (st.length + 1) (st ++ [d4, .dct (byD B), .dct (dI M)]) B hB.bd hby b1
  have LP := law_put_eq a f (st.length + 1) (st ++ [d4, .dct (byD B), .dct (dI M)]) B hB.bd (by simp) hby b1
  have bF := put_bd hB.bd b1
  generalize hFc : a + sumC (fun y => (bv B y).1) (canon f) = fc at PI LP bF
  generalize hFf : (fun x => sumC (fun y => (bv B y).2 x) (canon f)) = ff at PI LP bF
  have RF := repr_tD bF (by decide)
  obtain ⟨xs, k1, k2, k3⟩ := keys_str hB.key
  have kin : ∀ x ∈ xs, x ∈ NM ∧ (valA B (.inr x)).isSome = true := fun x hx => ⟨k3 x hx, mem_some (by rw [k2]; exact List.mem_map_of_mem hx)⟩
  -- the inner worths
  have hT1 : dctOf (st ++ [d4, .dcf (byD B), .dct (dI M)]) (.ref (st.length + 1)) = some (byD B) := dct_app 1 (.inr rfl)
  have hT2 : dctOf (st ++ [d4, .dcf (byD B), .dct (dI M)]) (.ref (st.length + 2)) = some (dI M) := dct_app 2 (.inl rfl)
  have lT : (st ++ [d4, Cell.dcf (byD B), .dct (dI M)]).length = st.length + 3 := by simp
  obtain ⟨e8, li⟩ := in_loop (some (.frz (ns.map D.int))) (some (.lst namesD)) (some (.int k)) (some (.ref st.length)) (some (tD a f)) e6 (some (.str (PyData.shown (.list [tP a f, byP B, numP M])))) (some (tD fc ff)) x12 x13
    (st ++ [d4, .dcf (byD B), .dct (dI M)]) (st.length + 1) (st.length + 2) B M hB.bd hT1 hT2 sM zM (fun x => (bv B x).1 + sumC (at0 M) (canon (bv B x).2)) (fun _ _ => rfl) xs M x8 kM kin
  rw [lT] at li
  generalize hg : (fun x => (bv B x).1 + sumC (at0 M) (canon (bv B x).2)) = g at li
  have gB : ∀ x, (g x).natAbs < 2 ^ 144 := fun x => by
    rw [← hg]
    have q1 := (bv_bd (by decide) hB.bd x)
    exact add_bd q1.1 (Nat.lt_of_lt_of_le (sumC_bd (a := 6) (b := 70) (fun x _ => aM x) q1.2) (Nat.pow_le_pow_right (by decide) (by decide : 6 + 70 + 3 ≤ 143))) (by decide)
  have s3 : ∀ x ∈ NM, (valA (setF g M xs) (.inr x)).isSome = true := fun x hx => some_setF (sM x hx)
  have a3 : ∀ x ∈ NM, (at0 (setF g M xs) x).natAbs < 2 ^ 144 := fun x _ => by
    rw [at0_setF]
    split
    · exact gB x
    · exact Nat.lt_trans (aM x) (by decide)
  have same : fc + sumC (at0 M) (canon ff) = a + sumC (at0 (setF g M xs)) (canon f) := by
    rw [← hFc, ← hFf]
    refine worth_same a f B (at0 M) (at0 (setF g M xs)) fun x hx => ?_
    rw [at0_setF, ← sumC_canon]
    split
    · rw [← hg]
    · rename_i hn
      have : valA B (.inr x) = none := valA_none.mpr fun m => hn (by
        rw [k2] at m
        obtain ⟨y, hy, e⟩ := List.mem_map.mp m
        cases e
        exact hy)
      have e : bv B x = (0, delta x) := by unfold bv; rw [this]; rfl
      rw [e]
      show at0 M x = 0 + sumC (at0 M) (canon (delta x))
      rw [sumC_canon, WL_delta _ hx]
      omega
  have h4a : dctOf (st ++ [d4, .dcf (byD B), .dct (dI M)] ++ [.dct (dI (setF g M xs))]) (.ref (st.length + 2)) = some (dI M) := by rw [List.append_assoc]; exact dct_app 2 (.inl rfl)
  have h4b : dctOf (st ++ [d4, .dcf (byD B), .dct (dI M)] ++ [.dct (dI (setF g M xs))]) (.ref (st.length + 3)) = some (dI (setF g M xs)) := by rw [List.append_assoc]; exact dct_app 3 (.inl rfl)
  have z3 : ∀ x ∈ NM, Sz (at0 (setF g M xs) x) := fun x hx => sz_small (Nat.lt_trans (a3 x hx) (by decide))
  have zff := (bF.sz (by decide)).2
  generalize hS : st ++ [d4, Cell.dcf (byD B), .dct (dI M)] ++ [.dct (dI (setF g M xs))] = S at li h4a h4b
  have W1 := worth_eq a f (st.length + 2) S M h4a sM zM zf
  have W2 := worth_eq fc ff (st.length + 2) S M h4a sM zM zff
  have W3 := worth_eq a f (st.length + 3) S (setF g M xs) h4b s3 z3 zf
  have v1 : (a + sumC (at0 M) (canon f)).natAbs < 2 ^ 250 := Nat.lt_trans (add_bd b1.1 (sumC_bd (a := 6) (b := 70) (fun x _ => aM x) b1.2) (by decide)) (by decide)
  have v2 : (fc + sumC (at0 M) (canon ff)).natAbs < 2 ^ 250 := Nat.lt_trans (add_bd bF.1 (sumC_bd (a := 6) (b := 144) (fun x _ => aM x) bF.2) (by decide)) (by decide)
  have v3 : (a + sumC (at0 (setF g M xs)) (canon f)).natAbs < 2 ^ 250 := Nat.lt_trans (add_bd b1.1 (sumC_bd (a := 144) (b := 70) a3 b1.2) (by decide)) (by decide)
  have PN := put_none a f S.length (S ++ [.dct []]) last_dct b1
  have nei : ∀ (i : Int) (st : Sto), dNe st (.int i) (.int i) = some (.bl false) := fun i st => ne_same (e := .int i) rfl rfl rfl
  have net := dNe_t a f
  -- step by step
  refine ⟨some (.ref st.length), some (tD a f), some (.ref (st.length + 1)), e6, some (.ref (st.length + 2)), e8, some (.str (PyData.shown (.list [tP a f, byP B, numP M]))), some (tD fc ff), some (.ref (st.length + 3)), some (tD a f), some (.ref (st.length + 3)), S ++ [.dct []], ?_⟩
  unfold body1
  refine (seq_nx (e1 := [some (.frz (ns.map D.int)), some (.lst namesD), some (.int k), some (.ref st.length), x4, x5, x6, x7, x8, x9, x10, x11, x12, x13]) (s1 := st ++ [c]) (by simp [e1])).trans ?_
  refine (seq_nx (e1 := [some (.frz (ns.map D.int)), some (.lst namesD), some (.int k), some (.ref st.length), some (tD a f), x5, x6, x7, x8, x9, x10, x11, x12, x13]) (s1 := st ++ [d1]) (by simp [t1])).trans ?_
  refine (seq_nx (e1 := [some (.frz (ns.map D.int)), some (.lst namesD), some (.int k), some (.ref st.length), some (tD a f), some (.ref (st.length + 1)), x6, x7, x8, x9, x10, x11, x12, x13]) (s1 := st ++ [d1] ++ [.dct []]) (by
    rw [ap_set, ap_dctC, sb_ok, l1]
    rfl)).trans ?_
  refine (seq_nx (e1 := [some (.frz (ns.map D.int)), some (.lst namesD), some (.int k), some (.ref st.length), some (tD a f), some (.ref (st.length + 1)), e6, x7, x8, x9, x10, x11, x12, x13]) (s1 := st ++ [d3, .dct (byD B)]) (by
    have hr : Fx.intsFrom 0 M0.toNat = ((List.range M0.toNat).map fun i : Nat => (0 : Int) + (i : Int)).map D.int := by
      unfold Fx.intsFrom
      rw [List.map_map]
      rfl
    have c1' : -(2 ^ 62 : Int) ≤ M0 ∧ M0 < 2 ^ 62 := by constructor <;> omega
    simp only [ap_for, ap_iRg1, ap_call, ap_cons, ap_nil, ap_var, ap_c, List.getElem?_cons_succ, List.getElem?_cons_zero, bnd_ok, List.length_cons, List.length_nil, Nat.zero_add, if_true, t2]
    rw [if_pos c1', sb_ok, hr]
    exact lb)).trans ?_
  refine (seq_nx (e1 := [some (.frz (ns.map D.int)), some (.lst namesD), some (.int k), some (.ref st.length), some (tD a f), some (.ref (st.length + 1)), e6, some (.ref (st.length + 2)), x8, x9, x10, x11, x12, x13]) (s1 := st ++ [d4, .dct (byD B), .dct (dI M)]) (by
    simp only [ap_set, ap_newD, ap_cons, ap_nil, ap_lc, ap_lcF, ap_iLst, ap_var, List.getElem?_cons_succ, List.getElem?_cons_zero, bnd_ok, seqL, Option.map_some]
    rw [if_pos (show namesD.length ≤ 100000 by decide), namesD_is]
    simp only [wipeD_cons, wipeD_nil, List.set_cons_succ, List.set_cons_zero]
    rw [← namesD_is] at *
    rw [namesD_is] at ln ⊢
    rw [ln, bnd_ok, bnd_ok, bnd_ok, hbm]
    simp)).trans ?_
  refine (seq_nx (e1 := [some (.frz (ns.map D.int)), some (.lst namesD), some (.int k), some (.ref st.length), some (tD a f), some (.ref (st.length + 1)), e6, some (.ref (st.length + 2)), x8, some (.str (PyData.shown (.list [tP a f, byP B, numP M]))), x10, x11, x12, x13]) (s1 := st ++ [d4, .dct (byD B), .dct (dI M)]) (by
    rw [ap_set, RX, sb_ok]
    rfl)).trans ?_
  refine (seq_nx (e1 := [some (.frz (ns.map D.int)), some (.lst namesD), some (.int k), some (.ref st.length), some (tD a f), some (.ref (st.length + 1)), e6, some (.ref (st.length + 2)), x8, some (.str (PyData.shown (.list [tP a f, byP B, numP M]))), some (tD fc ff), x11, x12, x13]) (s1 := st ++ [d4, .dct (byD B), .dct (dI M)]) (by
    simp [PI])).trans ?_
  refine (seq_nx (e1 := [some (.frz (ns.map D.int)), some (.lst namesD), some (.int k), some (.ref st.length), some (tD a f), some (.ref (st.length + 1)), e6, some (.ref (st.length + 2)), x8, some (.str (PyData.shown (.list [tP a f, byP B, numP M]))), some (tD fc ff), x11, x12, x13]) (s1 := st ++ [d4, .dct (byD B), .dct (dI M)]) (by
    simp [RF, LP, neS_same, RX])).trans ?_
  refine (seq_nx (e1 := [some (.frz (ns.map D.int)), some (.lst namesD), some (.int k), some (.ref st.length), some (tD a f), some (.ref (st.length + 1)), e6, some (.ref (st.length + 2)), x8, some (.str (PyData.shown (.list [tP a f, byP B, numP M]))), some (tD fc ff), some (.ref (st.length + 3)), x12, x13]) (s1 := st ++ [d4, .dct (byD B), .dct (dI M)] ++ [.dct (dI M)]) (by
    simp [bDictD, hnu])).trans ?_
  refine (seq_nx (e1 := [some (.frz (ns.map D.int)), some (.lst namesD), some (.int k), some (.ref st.length), some (tD a f), some (.ref (st.length + 1)), e6, some (.ref (st.length + 2)), e8, some (.str (PyData.shown (.list [tP a f, byP B, numP M]))), some (tD fc ff), some (.ref (st.length + 3)), x12, x13]) (s1 := S) (by
    have hlk : lockD (.ref (st.length + 1)) (st ++ [d4, .dct (byD B), .dct (dI M)] ++ [.dct (dI M)]) = some (byD B, st ++ [d4, .dcf (byD B), .dct (dI M)] ++ [.dct (dI M)]) := by
      have e1 : (st ++ [d4, .dct (byD B), .dct (dI M)] ++ [Cell.dct (dI M)])[st.length + 1]? = some (.dct (byD B)) := by rw [List.append_assoc]; exact app_get 1
      show lockC (st.length + 1) _ = _
      unfold lockC
      simp only [e1]
      rw [List.append_assoc, app_set 1, List.append_assoc]
      rfl
    simp only [ap_for, ap_iKeys, ap_var, List.getElem?_cons_succ, List.getElem?_cons_zero, bnd_ok, hlk, Option.map_some, sb_ok, k1]
    exact li)).trans ?_
  refine (seq_nx (e1 := [some (.frz (ns.map D.int)), some (.lst namesD), some (.int k), some (.ref st.length), some (tD a f), some (.ref (st.length + 1)), e6, some (.ref (st.length + 2)), e8, some (.str (PyData.shown (.list [tP a f, byP B, numP M]))), some (tD fc ff), some (.ref (st.length + 3)), some (tD a f), some (.ref (st.length + 3))]) (s1 := S) (by
    have q1 := w_step (some (.frz (ns.map D.int))) (some (.lst namesD)) (some (.int k)) (some (.ref st.length)) (some (tD a f)) (some (.ref (st.length + 1))) e6 (some (.ref (st.length + 2))) e8 (some (.str (PyData.shown (.list [tP a f, byP B, numP M])))) (some (tD fc ff)) (some (.ref (st.length + 3)))
    show fFor (iLst (fLst (fCons (fTup (fCons (fVar 4) (fCons (fVar 7) fNil))) (fCons (fTup (fCons (fVar 10) (fCons (fVar 7) fNil))) (fCons (fTup (fCons (fVar 4) (fCons (fVar 11) fNil))) fNil))))) (gTp 2 (gsCons (gNm 12) (gsCons (gNm 13) gsNil))) wBody _ _ = _
    have hi : iLst (fLst (fCons (fTup (fCons (fVar 4) (fCons (fVar 7) fNil))) (fCons (fTup (fCons (fVar 10) (fCons (fVar 7) fNil))) (fCons (fTup (fCons (fVar 4) (fCons (fVar 11) fNil))) fNil)))) [some (.frz (ns.map D.int)), some (.lst namesD), some (.int k), some (.ref st.length), some (tD a f), some (.ref (st.length + 1)), e6, some (.ref (st.length + 2)), e8, some (.str (PyData.shown (.list [tP a f, byP B, numP M]))), some (tD fc ff), some (.ref (st.length + 3)), x12, x13] S
        = some (.ok [.tup [tD a f, .ref (st.length + 2)], .tup [tD fc ff, .ref (st.length + 2)], .tup [tD a f, .ref (st.length + 3)]] S) := rfl
    rw [ap_for, hi, sb_ok]
    simp only [forL, ap_gTp, List.length_cons, List.length_nil, if_true, Nat.zero_add, ap_gsCons, ap_gsNil, ap_nm, bnd_ok, sb_ok, List.set_cons_succ, List.set_cons_zero, Nat.reduceAdd]
    rw [q1 _ _ _ _ W1 v1]
    simp only [List.set_cons_succ, List.set_cons_zero]
    rw [q1 _ _ _ _ W2 v2]
    simp only [List.set_cons_succ, List.set_cons_zero]
    rw [q1 _ _ _ _ W3 v3])).trans ?_
  simp only [ap_ifS, ap_or2, ap_tV, ap_op, ap_call, ap_cons, ap_nil, ap_var, ap_dctC, List.getElem?_cons_succ, List.getElem?_cons_zero, bnd_ok, List.length_cons, List.length_nil, Nat.zero_add, if_true, W2, W3, Option.map_some, same, nei, PN, net, Nat.reduceAdd]
  simp
theorem law_done2 {n : Nat} {nm : D} {body : FS} {ns : List Int}
    (H : ∀ k : Nat, k < 63 → ∀ r : En, r.length = n → ∀ st, ∃ r2 s2, body (some (.frz (ns.map D.int)) :: some nm :: some (.int k) :: r) st = some (.nx (some (.frz (ns.map D.int)) :: some nm :: r2) s2) ∧ r2.length = n + 1) :
    ∃ env2 s2, fFor (iRg1 rangeG) (gNm 2) body (some (.frz (ns.map D.int)) :: some nm :: List.replicate (n + 1) none) [] = some (.nx env2 s2) := by
  obtain ⟨M, h1, h2⟩ := rangeG_eq ns (some nm :: List.replicate (n + 1) none) []
  have c1 : -(2 ^ 62 : Int) ≤ (M : Int) ∧ (M : Int) < 2 ^ 62 := by constructor <;> omega
  obtain ⟨env2, s2, e, _⟩ := forL_all (g := gNm 2) (body := body) (fun env _ => ∃ r, env = some (.frz (ns.map D.int)) :: some nm :: r ∧ r.length = n + 1) (ds := Fx.intsFrom 0 M) (env := some (.frz (ns.map D.int)) :: some nm :: List.replicate (n + 1) none) (st := [])
    (fun d hd env st2 hI => by
      obtain ⟨r, rfl, hr⟩ := hI
      obtain ⟨k, hk, rfl⟩ : ∃ k : Nat, k < 63 ∧ d = .int k := by
        unfold Fx.intsFrom at hd
        obtain ⟨k, h1, h2⟩ := List.mem_map.mp hd
        exact ⟨k, by have := List.mem_range.mp h1; omega, by rw [← h2]; simp⟩
      cases r with
      | nil => simp at hr
      | cons x r =>
        obtain ⟨r2, s2, e, h⟩ := H k hk r (by simpa using hr) st2
        exact ⟨_, _, ap_nm, _, _, .inl e, r2, rfl, h⟩)
    ⟨_, rfl, by simp⟩
  refine ⟨env2, s2, ?_⟩
  rw [ap_for, ap_iRg1, h2, bnd_ok]
  simp only [if_pos c1, sb_ok, Int.toNat_natCast]
  exact e
theorem law_eq (N : Nat) (hN : N ≤ 1048577) (ns : List Int) (hb : ∀ z ∈ ns, z.natAbs < 2 ^ N) : ∃ s2, F_law [.frz (ns.map D.int)] [] = some (.ok (.bl true) s2) := by
  obtain ⟨env2, s2, e⟩ := law_done2 (n := 11) (nm := .lst namesD) (body := body1) (ns := ns) fun k hk r hr st => by
    match r, hr with
    | [x3, x4, x5, x6, x7, x8, x9, x10, x11, x12, x13], _ =>
      obtain ⟨y3, y4, y5, y6, y7, y8, y9, y10, y11, y12, y13, s2, e⟩ := body1_eq N hN ns k st hb hk x3 x4 x5 x6 x7 x8 x9 x10 x11 x12 x13
      exact ⟨_, s2, e, rfl⟩
  refine ⟨s2, ?_⟩
  rw [law_shape]
  exact def_rt rfl ((seq_nx (e1 := some (.frz (ns.map D.int)) :: some (.lst namesD) :: List.replicate 12 none) (s1 := []) rfl).trans ((seq_nx (show fFor (iRg1 rangeF) (gNm 2) body1 _ _ = _ from e)).trans rfl))
theorem law_sp {K : PySem.W.Frag} {H : Hp} {a : Addr} {ns : List Int} (hl : ns.length ≤ 63) (hbits : ∀ z ∈ ns, Builtin.Int.intBits z ≤ 1048576) (hS : SqL K H a (ns.map V.int)) :
    spF K 1 F_law [.ref a] H (fun v _ => v = .bl true) fun _ _ _ => False := law_spF hbits hS fun N hN hb => law_eq N hN ns hb
end
/-! ### what the top has written; the law's own head -/
theorem all_mk {l : PySem.W.OpenLaw} {w : World} {K : PySem.W.Frag} {h : Heap} {mg : Str → Option Value} {fa f0 f1 f2 f3 f4 f5 f6 f7 f8 f9 f10 f11 f12 : Addr} (X : K.In h) (G : h.Ns mainGlobals mg) (hfa : mg "law" = some (.ref fa))
    {od0 an0 od1 an1 od2 an2 od3 an3 od4 an4 od5 an5 od6 an6 od7 an7 od8 an8 od9 an9 od10 an10 od11 an11 od12 an12 : Option Addr} {sl0 sl1 sl2 sl3 sl4 sl5 sl6 sl7 sl8 sl9 sl10 sl11 sl12 : Array (Option Value)} {oc0 kV0 dc0 pm0 cd0 ct0 oc1 kV1 dc1 pm1 cd1 ct1 oc2 kV2 dc2 pm2 cd2 ct2 oc3 kV3 dc3 pm3 cd3 ct3 oc4 kV4 dc4 pm4 cd4 ct4 oc5 kV5 dc5 pm5 cd5 ct5 oc6 kV6 dc6 pm6 cd6 ct6 oc7 kV7 dc7 pm7 cd7 ct7 oc8 kV8 dc8 pm8 cd8 ct8 oc9 kV9 dc9 pm9 cd9 ct9 oc10 kV10 dc10 pm10 cd10 ct10 oc11 kV11 dc11 pm11 cd11 ct11 oc12 kV12 dc12 pm12 cd12 ct12 : Value}
    (a0 : PySem.W.nsIn K mainGlobals "constant" = some (some (.ref f0))) (l0 : K.lookup f0 = some ⟨oc0, od0, .func (PySem.W.fnOf "constant" "constant" (defArgs s_constant) (defBody s_constant) (defScope s_constant) .none kV0 dc0 pm0 an0 cd0 ct0), sl0⟩) (c0 : PySem.W.codeIn K cd0 "constant" = true) (k0 : PySem.W.keepIn K (.ref f0) = true)
    (a1 : PySem.W.nsIn K mainGlobals "of_name" = some (some (.ref f1))) (l1 : K.lookup f1 = some ⟨oc1, od1, .func (PySem.W.fnOf "of_name" "of_name" (defArgs s_of_name) (defBody s_of_name) (defScope s_of_name) .none kV1 dc1 pm1 an1 cd1 ct1), sl1⟩) (c1 : PySem.W.codeIn K cd1 "of_name" = true) (k1 : PySem.W.keepIn K (.ref f1) = true)
    (a2 : PySem.W.nsIn K mainGlobals "gathered" = some (some (.ref f2))) (l2 : K.lookup f2 = some ⟨oc2, od2, .func (PySem.W.fnOf "gathered" "gathered" (defArgs s_gathered) (defBody s_gathered) (defScope s_gathered) .none kV2 dc2 pm2 an2 cd2 ct2), sl2⟩) (c2 : PySem.W.codeIn K cd2 "gathered" = true) (k2 : PySem.W.keepIn K (.ref f2) = true)
    (a3 : PySem.W.nsIn K mainGlobals "added" = some (some (.ref f3))) (l3 : K.lookup f3 = some ⟨oc3, od3, .func (PySem.W.fnOf "added" "added" (defArgs s_added) (defBody s_added) (defScope s_added) .none kV3 dc3 pm3 an3 cd3 ct3), sl3⟩) (c3 : PySem.W.codeIn K cd3 "added" = true) (k3 : PySem.W.keepIn K (.ref f3) = true)
    (a4 : PySem.W.nsIn K mainGlobals "scaled" = some (some (.ref f4))) (l4 : K.lookup f4 = some ⟨oc4, od4, .func (PySem.W.fnOf "scaled" "scaled" (defArgs s_scaled) (defBody s_scaled) (defScope s_scaled) .none kV4 dc4 pm4 an4 cd4 ct4), sl4⟩) (c4 : PySem.W.codeIn K cd4 "scaled" = true) (k4 : PySem.W.keepIn K (.ref f4) = true)
    (a5 : PySem.W.nsIn K mainGlobals "put_in" = some (some (.ref f5))) (l5 : K.lookup f5 = some ⟨oc5, od5, .func (PySem.W.fnOf "put_in" "put_in" (defArgs s_put_in) (defBody s_put_in) (defScope s_put_in) .none kV5 dc5 pm5 an5 cd5 ct5), sl5⟩) (c5 : PySem.W.codeIn K cd5 "put_in" = true) (k5 : PySem.W.keepIn K (.ref f5) = true)
    (a6 : PySem.W.nsIn K mainGlobals "worth_of" = some (some (.ref f6))) (l6 : K.lookup f6 = some ⟨oc6, od6, .func (PySem.W.fnOf "worth_of" "worth_of" (defArgs s_worth_of) (defBody s_worth_of) (defScope s_worth_of) .none kV6 dc6 pm6 an6 cd6 ct6), sl6⟩) (c6 : PySem.W.codeIn K cd6 "worth_of" = true) (k6 : PySem.W.keepIn K (.ref f6) = true)
    (a7 : PySem.W.nsIn K mainGlobals "_law_pool" = some (some (.ref f7))) (l7 : K.lookup f7 = some ⟨oc7, od7, .func (PySem.W.fnOf "_law_pool" "_law_pool" (defArgs s__law_pool) (defBody s__law_pool) (defScope s__law_pool) .none kV7 dc7 pm7 an7 cd7 ct7), sl7⟩) (c7 : PySem.W.codeIn K cd7 "_law_pool" = true) (k7 : PySem.W.keepIn K (.ref f7) = true)
    (a8 : PySem.W.nsIn K mainGlobals "_law_take" = some (some (.ref f8))) (l8 : K.lookup f8 = some ⟨oc8, od8, .func (PySem.W.fnOf "_law_take" "_law_take" (defArgs s__law_take) (defBody s__law_take) (defScope s__law_take) .none kV8 dc8 pm8 an8 cd8 ct8), sl8⟩) (c8 : PySem.W.codeIn K cd8 "_law_take" = true) (k8 : PySem.W.keepIn K (.ref f8) = true)
    (a9 : PySem.W.nsIn K mainGlobals "_law_term" = some (some (.ref f9))) (l9 : K.lookup f9 = some ⟨oc9, od9, .func (PySem.W.fnOf "_law_term" "_law_term" (defArgs s__law_term) (defBody s__law_term) (defScope s__law_term) .none kV9 dc9 pm9 an9 cd9 ct9), sl9⟩) (c9 : PySem.W.codeIn K cd9 "_law_term" = true) (k9 : PySem.W.keepIn K (.ref f9) = true)
    (a10 : PySem.W.nsIn K mainGlobals "_law_worth_by" = some (some (.ref f10))) (l10 : K.lookup f10 = some ⟨oc10, od10, .func (PySem.W.fnOf "_law_worth_by" "_law_worth_by" (defArgs s__law_worth_by) (defBody s__law_worth_by) (defScope s__law_worth_by) .none kV10 dc10 pm10 an10 cd10 ct10), sl10⟩) (c10 : PySem.W.codeIn K cd10 "_law_worth_by" = true) (k10 : PySem.W.keepIn K (.ref f10) = true)
    (a11 : PySem.W.nsIn K mainGlobals "_law_put_in" = some (some (.ref f11))) (l11 : K.lookup f11 = some ⟨oc11, od11, .func (PySem.W.fnOf "_law_put_in" "_law_put_in" (defArgs s__law_put_in) (defBody s__law_put_in) (defScope s__law_put_in) .none kV11 dc11 pm11 an11 cd11 ct11), sl11⟩) (c11 : PySem.W.codeIn K cd11 "_law_put_in" = true) (k11 : PySem.W.keepIn K (.ref f11) = true)
    (a12 : PySem.W.nsIn K mainGlobals "law" = some (some (.ref f12))) (l12 : K.lookup f12 = some ⟨oc12, od12, .func (PySem.W.fnOf "law" "law" (defArgs s_law) (defBody s_law) (defScope s_law) .none kV12 dc12 pm12 an12 cd12 ct12), sl12⟩) (c12 : PySem.W.codeIn K cd12 "law" = true) (k12 : PySem.W.keepIn K (.ref f12) = true)
    (z_dict : PySem.W.nsIn K mainGlobals "dict" = some none)
    (z_int : PySem.W.nsIn K mainGlobals "int" = some none)
    (z_len : PySem.W.nsIn K mainGlobals "len" = some none)
    (z_max : PySem.W.nsIn K mainGlobals "max" = some none)
    (z_min : PySem.W.nsIn K mainGlobals "min" = some none)
    (z_range : PySem.W.nsIn K mainGlobals "range" = some none)
    (z_repr : PySem.W.nsIn K mainGlobals "repr" = some none)
    (z_sorted : PySem.W.nsIn K mainGlobals "sorted" = some none)
    (z_sum : PySem.W.nsIn K mainGlobals "sum" = some none)
    (z_tuple : PySem.W.nsIn K mainGlobals "tuple" = some none)
    : ∃ fd : FuncData, (∀ (s : Shared) (v : Value), BindsTo s fd ⟨[v], []⟩ [("script", v)]) ∧ ∀ base : Heap, K.In base → base.Ns mainGlobals mg → GnOk l.prog w K mg base CX0 4 fa fd ["script"] (spF K 1 F_law) := by
  have e := hfa.symm.trans (PySem.W.mg_of X G a12)
  cases e
  have B : Bi mg := ⟨PySem.W.mg_none_of X G z_dict, PySem.W.mg_none_of X G z_int, PySem.W.mg_none_of X G z_len, PySem.W.mg_none_of X G z_max, PySem.W.mg_none_of X G z_min, PySem.W.mg_none_of X G z_range, PySem.W.mg_none_of X G z_repr, PySem.W.mg_none_of X G z_sorted, PySem.W.mg_none_of X G z_sum, PySem.W.mg_none_of X G z_tuple⟩
  have F0 := fun_mk (st := s_constant) l0 c0 k0
  have b0 := F0.binds (ps := ["number"]) fun _ _ _ _ _ _ us hl => match us, hl with | [_], _ => rfl
  have F1 := fun_mk (st := s_of_name) l1 c1 k1
  have b1 := F1.binds (ps := ["name"]) fun _ _ _ _ _ _ us hl => match us, hl with | [_], _ => rfl
  have F2 := fun_mk (st := s_gathered) l2 c2 k2
  have b2 := F2.binds (ps := ["const", "pairs"]) fun _ _ _ _ _ _ us hl => match us, hl with | [_, _], _ => rfl
  have F3 := fun_mk (st := s_added) l3 c3 k3
  have b3 := F3.binds (ps := ["one", "other"]) fun _ _ _ _ _ _ us hl => match us, hl with | [_, _], _ => rfl
  have F4 := fun_mk (st := s_scaled) l4 c4 k4
  have b4 := F4.binds (ps := ["term", "many"]) fun _ _ _ _ _ _ us hl => match us, hl with | [_, _], _ => rfl
  have F5 := fun_mk (st := s_put_in) l5 c5 k5
  have b5 := F5.binds (ps := ["term", "by"]) fun _ _ _ _ _ _ us hl => match us, hl with | [_, _], _ => rfl
  have F6 := fun_mk (st := s_worth_of) l6 c6 k6
  have b6 := F6.binds (ps := ["term", "numbers"]) fun _ _ _ _ _ _ us hl => match us, hl with | [_, _], _ => rfl
  have F7 := fun_mk (st := s__law_pool) l7 c7 k7
  have b7 := F7.binds (ps := ["script", "k"]) fun _ _ _ _ _ _ us hl => match us, hl with | [_, _], _ => rfl
  have F8 := fun_mk (st := s__law_take) l8 c8 k8
  have b8 := F8.binds (ps := ["pool", "many"]) fun _ _ _ _ _ _ us hl => match us, hl with | [_, _], _ => rfl
  have F9 := fun_mk (st := s__law_term) l9 c9 k9
  have b9 := F9.binds (ps := ["pool", "many"]) fun _ _ _ _ _ _ us hl => match us, hl with | [_, _], _ => rfl
  have F10 := fun_mk (st := s__law_worth_by) l10 c10 k10
  have b10 := F10.binds (ps := ["term", "numbers"]) fun _ _ _ _ _ _ us hl => match us, hl with | [_, _], _ => rfl
  have F11 := fun_mk (st := s__law_put_in) l11 c11 k11
  have b11 := F11.binds (ps := ["term", "by"]) fun _ _ _ _ _ _ us hl => match us, hl with | [_, _], _ => rfl
  have F12 := fun_mk (st := s_law) l12 c12 k12
  refine ⟨PySem.W.fnOf "law" "law" (defArgs s_law) (defBody s_law) (defScope s_law) .none kV12 dc12 pm12 an12 cd12 ct12, fun s v => .of_eq rfl, fun base _ _ => ?_⟩
  have g_constant := d_constant (P := l.prog) (w := w) (base := base) B  F0 (PySem.W.mg_of X G a0) b0
  have g_of_name := d_of_name (P := l.prog) (w := w) (base := base) B  F1 (PySem.W.mg_of X G a1) b1
  have g_gathered := df_cl (d_gathered (P := l.prog) (w := w) (base := base) B  F2 (PySem.W.mg_of X G a2) b2)
  have g_added := d_added (P := l.prog) (w := w) (base := base) B g_gathered F3 (PySem.W.mg_of X G a3) b3
  have g_scaled := d_scaled (P := l.prog) (w := w) (base := base) B g_gathered F4 (PySem.W.mg_of X G a4) b4
  have g_put_in := d_put_in (P := l.prog) (w := w) (base := base) B g_constant g_added g_scaled g_of_name F5 (PySem.W.mg_of X G a5) b5
  have g_worth_of := d_worth_of (P := l.prog) (w := w) (base := base) B  F6 (PySem.W.mg_of X G a6) b6
  have g__law_pool := d__law_pool (P := l.prog) (w := w) (base := base) B  F7 (PySem.W.mg_of X G a7) b7
  have g__law_take := d__law_take (P := l.prog) (w := w) (base := base) B  F8 (PySem.W.mg_of X G a8) b8
  have g__law_term := df_cl (d__law_term (P := l.prog) (w := w) (base := base) B g__law_take F9 (PySem.W.mg_of X G a9) b9)
  have g__law_worth_by := d__law_worth_by (P := l.prog) (w := w) (base := base) B  F10 (PySem.W.mg_of X G a10) b10
  have g__law_put_in := df_cl (d__law_put_in (P := l.prog) (w := w) (base := base) B  F11 (PySem.W.mg_of X G a11) b11)
  exact ok_law B g__law_pool g__law_term g__law_take g_put_in g__law_put_in g__law_worth_by g_worth_of F12
end L_k08
open PySem PySem.W PyProof.Rows
set_option maxHeartbeats 0 in
theorem PySem.Challenge.cw_fewestsent_k08_names_put_in_and_worths_holds : PySem.Challenge.rw_fewestsent_k08_names_put_in_and_worths.Holds := by
  w_on; o_law; k_head; (case hw => w_witness2)
  k_fill
  refine Fx.walk_gn (l := PySem.Challenge.rw_fewestsent_k08_names_put_in_and_worths) (n := 63) (k := 4) (x := "script") (CX := fun _ => L2.CX0) (sp := fun w => Fx.spF _ 1 L_k08.F_law) rfl (by decide) rfl ⟨rfl, by decide, by decide⟩ (fun w h Y => PySem.W.kIn_of Y) ?F (fun w H a ns hl hbits _ hS => L_k08.law_sp hl hbits hS) (fun _ _ _ _ _ h => h)
  case F =>
    intro w mg fa h KX G hmg
    refine' L_k08.all_mk KX G hmg ?a0 ?l0 ?c0 ?k0 ?a1 ?l1 ?c1 ?k1 ?a2 ?l2 ?c2 ?k2 ?a3 ?l3 ?c3 ?k3 ?a4 ?l4 ?c4 ?k4 ?a5 ?l5 ?c5 ?k5 ?a6 ?l6 ?c6 ?k6 ?a7 ?l7 ?c7 ?k7 ?a8 ?l8 ?c8 ?k8 ?a9 ?l9 ?c9 ?k9 ?a10 ?l10 ?c10 ?k10 ?a11 ?l11 ?c11 ?k11 ?a12 ?l12 ?c12 ?k12 ?z_dict ?z_int ?z_len ?z_max ?z_min ?z_range ?z_repr ?z_sorted ?z_sum ?z_tuple
    (case a0 => k_is); (case l0 => k_is); (case c0 => k_is); (case k0 => k_is); (case a1 => k_is); (case l1 => k_is); (case c1 => k_is); (case k1 => k_is); (case a2 => k_is); (case l2 => k_is); (case c2 => k_is); (case k2 => k_is); (case a3 => k_is); (case l3 => k_is); (case c3 => k_is); (case k3 => k_is); (case a4 => k_is); (case l4 => k_is); (case c4 => k_is); (case k4 => k_is); (case a5 => k_is); (case l5 => k_is); (case c5 => k_is); (case k5 => k_is); (case a6 => k_is); (case l6 => k_is); (case c6 => k_is); (case k6 => k_is); (case a7 => k_is); (case l7 => k_is); (case c7 => k_is); (case k7 => k_is); (case a8 => k_is); (case l8 => k_is); (case c8 => k_is); (case k8 => k_is); (case a9 => k_is); (case l9 => k_is); (case c9 => k_is); (case k9 => k_is); (case a10 => k_is); (case l10 => k_is); (case c10 => k_is); (case k10 => k_is); (case a11 => k_is); (case l11 => k_is); (case c11 => k_is); (case k11 => k_is); (case a12 => k_is); (case l12 => k_is); (case c12 => k_is); (case k12 => k_is); (case z_dict => k_is); (case z_int => k_is); (case z_len => k_is); (case z_max => k_is); (case z_min => k_is); (case z_range => k_is); (case z_repr => k_is); (case z_sorted => k_is); (case z_sum => k_is); (case z_tuple => k_is)
#print axioms PySem.Challenge.cw_fewestsent_k08_names_put_in_and_worths_holds
