import PyProof.Rows.All
import Wide.All
import OpenK.AllK
import Wide.FinOn
import HandS.ForMost
import HandS.ForExc
import HandS.NoneIn
import HandS.Wide
import HandS.WideBits
import HandS.IsInst
import HandS.TupAny
import HandS.Style
import HandS.SetFor
import HandS.SortRule
import HandS.EndBits
import HandS.WordsDict
import HandS.More
import KE.KDictPairs
import PyProof.ReprRoads
import PyProof.ReprLen
import PyProof.Rows.StrMeet
import HandS.WordsExc
import HandS.ExcIs
import HandS.ExcOwn
import HandS.MakeKw
import HandS.Defaults
import HandS.HeadHook2
import HandS.Head0
import HandS.Head1
import HandS.Head2
import PySem.Challenge.RW_fewestsent_k01_worths
set_option Elab.async false
set_option linter.all false
set_option maxRecDepth 100000
set_option maxHeartbeats 4000000
/-! Fx, the core: data with a store of mutable cells; what a reading is, by a function on data. -/
namespace Fx
open PySem PySem.Spec PyProof.Rows L2

/-- data: what never changes is said whole (tuples, lists that nobody changes; frt, frz: of the written part, or locked); a mutable object is a place in the store -/
inductive D where
  | non | bl (b : Bool) | int (i : Int) | str (x : Str) | ty (n : String)
  | tup (xs : List D) | lst (xs : List D) | frt (xs : List D) | frz (xs : List D) | ref (n : Nat)
inductive Cell where
  | lst (xs : List D)
  | dct (kvs : List (Key × D))
  | dcf (kvs : List (Key × D))
abbrev Sto := List Cell
abbrev En := List (Option D)
/-- an exception: its class, what its own dict holds (if it has one) -/
structure Exn where
  cls : Addr
  fs : Option (List (Str × D))
inductive R (α : Type) where
  | ok (a : α) (s : Sto)
  | exc (e : Exn) (s : Sto)
def bnd {α β : Type} (x : Option (R α)) (k : α → Sto → Option (R β)) : Option (R β) :=
  match x with
  | some (.ok a s) => k a s
  | some (.exc e s) => some (.exc e s)
  | none => none
@[simp] theorem bnd_ok {α β : Type} {a : α} {s : Sto} {k : α → Sto → Option (R β)} : bnd (some (.ok a s)) k = k a s := rfl
@[simp] theorem bnd_exc {α β : Type} {e : Exn} {s : Sto} {k : α → Sto → Option (R β)} : bnd (some (.exc e s)) k = some (.exc e s) := rfl
@[simp] theorem bnd_none {α β : Type} {k : α → Sto → Option (R β)} : bnd (none : Option (R α)) k = none := rfl
theorem bnd_some {α β : Type} {x : Option (R α)} {k : α → Sto → Option (R β)} {r : R β} (h : bnd x k = some r) :
    (∃ a s, x = some (.ok a s) ∧ k a s = some r) ∨ (∃ e s, x = some (.exc e s) ∧ r = .exc e s) := by
  cases x with
  | none => cases h
  | some q =>
    cases q with
    | ok a s => exact .inl ⟨a, s, rfl, h⟩
    | exc e s => exact .inr ⟨e, s, rfl, (Option.some.inj h).symm⟩

/-! ### data stands in a heap -/
/-! of the written part: what is to be read whatever is tracked -/
def WrL (K : PySem.W.Frag) (a : Addr) (xs : List V) : Prop := SqL K (fun _ => none) a xs
def WrT (K : PySem.W.Frag) (a : Addr) (xs : List V) : Prop := SqT K (fun _ => none) a xs
theorem WrL.seq {K : PySem.W.Frag} {H : Hp} {a : Addr} {xs : List V} (h : WrL K a xs) : SqL K H a xs := h.elim (fun z => by rcases z with z | ⟨_, z⟩ <;> cases z) .inr
theorem WrT.seq {K : PySem.W.Frag} {H : Hp} {a : Addr} {xs : List V} (h : WrT K a xs) : SqT K H a xs := h.elim (fun z => by rcases z with z | ⟨_, z⟩ <;> cases z) .inr
/-- where the cells of the store stand; what else is held back (lists in the making) -/
structure Mp where
  c : List Addr
  h : List Addr
def Mp.Own (ρ : Mp) (a : Addr) : Prop := a ∈ ρ.c ∨ a ∈ ρ.h
def Mp.add (ρ : Mp) (p : Addr) : Mp := ⟨ρ.c ++ [p], ρ.h⟩
def FxL (H : Hp) (ρ : Mp) (a : Addr) (xs : List V) : Prop := ¬ ρ.Own a ∧ H a = some (.lst xs)
/-- a tuple of ours; its object is known, and has no dict -/
def FxT (H : Hp) (ρ : Mp) (a : Addr) (xs : List V) : Prop := ¬ ρ.Own a ∧ ∃ o, H a = some (.frz o (.tup xs)) ∧ o.dict = none
def ZxL (K : PySem.W.Frag) (H : Hp) (ρ : Mp) (a : Addr) (xs : List V) : Prop := (¬ ρ.Own a ∧ Rd H a (.lst xs)) ∨ WrL K a xs
def ZxT (K : PySem.W.Frag) (H : Hp) (ρ : Mp) (a : Addr) (xs : List V) : Prop := (¬ ρ.Own a ∧ Rd H a (.tup xs)) ∨ WrT K a xs
theorem FxL.seq {K : PySem.W.Frag} {H : Hp} {ρ : Mp} {a : Addr} {xs : List V} (h : FxL H ρ a xs) : SqL K H a xs := .inl (.inl h.2)
theorem FxT.seq {K : PySem.W.Frag} {H : Hp} {ρ : Mp} {a : Addr} {xs : List V} (h : FxT H ρ a xs) : SqT K H a xs := let ⟨_, o, e, _⟩ := h; .inl (.inr ⟨o, e⟩)
theorem ZxL.seq {K : PySem.W.Frag} {H : Hp} {ρ : Mp} {a : Addr} {xs : List V} (h : ZxL K H ρ a xs) : SqL K H a xs := h.elim (fun z => .inl z.2) WrL.seq
theorem ZxT.seq {K : PySem.W.Frag} {H : Hp} {ρ : Mp} {a : Addr} {xs : List V} (h : ZxT K H ρ a xs) : SqT K H a xs := h.elim (fun z => .inl z.2) WrT.seq

inductive DR (K : PySem.W.Frag) (H : Hp) (ρ : Mp) : V → D → Prop where
  | non : DR K H ρ .non .non
  | bl (b : Bool) : DR K H ρ (.bl b) (.bl b)
  | int (i : Int) : DR K H ρ (.int i) (.int i)
  | str (x : Str) : DR K H ρ (.str x) (.str x)
  | ty (n : String) : DR K H ρ (.ty n) (.ty n)
  | tup {a : Addr} {xs : List V} {ds : List D} (h : FxT H ρ a xs) (l : xs.length = ds.length) (e : ∀ (i : Nat) (x : V) (d : D), xs[i]? = some x → ds[i]? = some d → DR K H ρ x d) : DR K H ρ (.ref a) (.tup ds)
  | lst {a : Addr} {xs : List V} {ds : List D} (h : FxL H ρ a xs) (l : xs.length = ds.length) (e : ∀ (i : Nat) (x : V) (d : D), xs[i]? = some x → ds[i]? = some d → DR K H ρ x d) : DR K H ρ (.ref a) (.lst ds)
  | frt {a : Addr} {xs : List V} {ds : List D} (h : ZxT K H ρ a xs) (l : xs.length = ds.length) (e : ∀ (i : Nat) (x : V) (d : D), xs[i]? = some x → ds[i]? = some d → DR K H ρ x d) : DR K H ρ (.ref a) (.frt ds)
  | frz {a : Addr} {xs : List V} {ds : List D} (h : ZxL K H ρ a xs) (l : xs.length = ds.length) (e : ∀ (i : Nat) (x : V) (d : D), xs[i]? = some x → ds[i]? = some d → DR K H ρ x d) : DR K H ρ (.ref a) (.frz ds)
  | ref {n : Nat} {a : Addr} (h : ρ.c[n]? = some a) : DR K H ρ (.ref a) (.ref n)
/-- lists of data -/
def DRs (K : PySem.W.Frag) (H : Hp) (ρ : Mp) (xs : List V) (ds : List D) : Prop := xs.length = ds.length ∧ ∀ (i : Nat) (x : V) (d : D), xs[i]? = some x → ds[i]? = some d → DR K H ρ x d
def DRk (K : PySem.W.Frag) (H : Hp) (ρ : Mp) (xs : List (Key × V)) (ds : List (Key × D)) : Prop := xs.length = ds.length ∧ ∀ (i : Nat) (x : Key × V) (d : Key × D), xs[i]? = some x → ds[i]? = some d → x.1 = d.1 ∧ DR K H ρ x.2 d.2

structure Step (ρ : Mp) (H : Hp) (ρ' : Mp) (H' : Hp) : Prop where
  pre : ∃ t, ρ'.c = ρ.c ++ t
  hid : ρ'.h = ρ.h
  keep : ∀ a o, H a = some o → a ∉ ρ.c → H' a = some o
  new : ∀ a, a ∈ ρ'.c → a ∈ ρ.c ∨ H a = none
  fz : ∀ a o u, H a = some (.frz o u) → H' a = some (.frz o u)
section
variable {K : PySem.W.Frag} {H H1 H2 H' : Hp} {ρ ρ1 ρ2 ρ' : Mp} {v x y : V} {d dx dy : D} {xs : List V} {ds : List D} {a p : Addr} {o : HO}
theorem Step.refl : Step ρ H ρ H := ⟨⟨[], by simp⟩, rfl, fun _ _ h _ => h, fun _ h => .inl h, fun _ _ _ h => h⟩
theorem Step.trans (s : Step ρ H ρ1 H1) (t : Step ρ1 H1 ρ2 H2) : Step ρ H ρ2 H2 := by
  refine ⟨?_, t.hid.trans s.hid, fun a o h n => ?_, fun a h => ?_, fun a o u h => t.fz a o u (s.fz a o u h)⟩
  · obtain ⟨t1, e1⟩ := s.pre
    obtain ⟨t2, e2⟩ := t.pre
    exact ⟨t1 ++ t2, by rw [e2, e1, List.append_assoc]⟩
  · refine t.keep a o (s.keep a o h n) fun m => ?_
    rcases s.new a m with z | z
    · exact n z
    · rw [z] at h; cases h
  · rcases t.new a h with z | z
    · exact s.new a z
    · by_cases m : a ∈ ρ.c
      · exact .inl m
      · refine .inr ?_
        cases q : H a with
        | none => rfl
        | some o => rw [s.keep a o q m] at z; cases z
theorem Step.nin (s : Step ρ H ρ' H') (h : H a = some o) (n : a ∉ ρ.c) : a ∉ ρ'.c := fun m => by
  rcases s.new a m with z | z
  · exact n z
  · rw [z] at h; cases h
theorem Step.nown (s : Step ρ H ρ' H') (h : H a = some o) (n : ¬ ρ.Own a) : ¬ ρ'.Own a := fun m => by
  rcases m with m | m
  · exact s.nin h (fun z => n (.inl z)) m
  · rw [s.hid] at m; exact n (.inr m)
theorem Step.rd {u : HO} (s : Step ρ H ρ' H') (n : ¬ ρ.Own a) (h : Rd H a u) : ¬ ρ'.Own a ∧ Rd H' a u := by
  have nc : a ∉ ρ.c := fun z => n (.inl z)
  rcases h with h | ⟨o, h⟩
  · exact ⟨s.nown h n, .inl (s.keep _ _ h nc)⟩
  · exact ⟨s.nown h n, .inr ⟨o, s.keep _ _ h nc⟩⟩
theorem Step.ix (s : Step ρ H ρ' H') {n : Nat} (h : ρ.c[n]? = some a) : ρ'.c[n]? = some a := by
  obtain ⟨t, e⟩ := s.pre
  rw [e, List.getElem?_append_left (List.getElem?_eq_some_iff.mp h).1]
  exact h
/-- what stays for data: new cells, new hidden objects, what is owned may turn -/
structure Far (ρ : Mp) (H : Hp) (ρ' : Mp) (H' : Hp) : Prop where
  pre : ∃ t, ρ'.c = ρ.c ++ t
  keep : ∀ a o, H a = some o → ¬ ρ.Own a → H' a = some o
  new : ∀ a, ρ'.Own a → ρ.Own a ∨ H a = none
  fz : ∀ a o u, H a = some (.frz o u) → H' a = some (.frz o u)
theorem Step.far (s : Step ρ H ρ' H') : Far ρ H ρ' H' := ⟨s.pre, fun a o e n => s.keep a o e fun z => n (.inl z), fun a m => m.elim (fun z => (s.new a z).elim (fun z => .inl (.inl z)) .inr) fun z => .inl (.inr (by rw [← s.hid]; exact z)), s.fz⟩
theorem Far.refl : Far ρ H ρ H := Step.refl.far
theorem Far.trans (s : Far ρ H ρ1 H1) (t : Far ρ1 H1 ρ2 H2) : Far ρ H ρ2 H2 := by
  refine ⟨?_, fun a o h n => ?_, fun a h => ?_, fun a o u h => t.fz a o u (s.fz a o u h)⟩
  · obtain ⟨t1, e1⟩ := s.pre
    obtain ⟨t2, e2⟩ := t.pre
    exact ⟨t1 ++ t2, by rw [e2, e1, List.append_assoc]⟩
  · refine t.keep a o (s.keep a o h n) fun m => ?_
    rcases s.new a m with z | z
    · exact n z
    · rw [z] at h; cases h
  · rcases t.new a h with z | z
    · exact s.new a z
    · by_cases m : ρ.Own a
      · exact .inl m
      · refine .inr ?_
        cases q : H a with
        | none => rfl
        | some o => rw [s.keep a o q m] at z; cases z
theorem Far.nown (s : Far ρ H ρ' H') (h : H a = some o) (n : ¬ ρ.Own a) : ¬ ρ'.Own a := fun m => by
  rcases s.new a m with m | m
  · exact n m
  · rw [m] at h; cases h
theorem Far.rd {u : HO} (s : Far ρ H ρ' H') (n : ¬ ρ.Own a) (h : Rd H a u) : ¬ ρ'.Own a ∧ Rd H' a u := by
  rcases h with h | ⟨o, h⟩
  · exact ⟨s.nown h n, .inl (s.keep _ _ h n)⟩
  · exact ⟨s.nown h n, .inr ⟨o, s.keep _ _ h n⟩⟩
theorem Far.ix (s : Far ρ H ρ' H') {n : Nat} (h : ρ.c[n]? = some a) : ρ'.c[n]? = some a := by
  obtain ⟨t, e⟩ := s.pre
  rw [e, List.getElem?_append_left (List.getElem?_eq_some_iff.mp h).1]
  exact h
theorem Far.fxl (s : Far ρ H ρ' H') (h : FxL H ρ a xs) : FxL H' ρ' a xs := ⟨s.nown h.2 h.1, s.keep _ _ h.2 h.1⟩
theorem Far.fxt (s : Far ρ H ρ' H') (h : FxT H ρ a xs) : FxT H' ρ' a xs := let ⟨n, o, e, d⟩ := h; ⟨s.nown e n, o, s.keep _ _ e n, d⟩
theorem Far.zxl (s : Far ρ H ρ' H') (h : ZxL K H ρ a xs) : ZxL K H' ρ' a xs := h.elim (fun z => .inl (s.rd z.1 z.2)) .inr
theorem Far.zxt (s : Far ρ H ρ' H') (h : ZxT K H ρ a xs) : ZxT K H' ρ' a xs := h.elim (fun z => .inl (s.rd z.1 z.2)) .inr
theorem DR.far (h : DR K H ρ v d) (s : Far ρ H ρ' H') : DR K H' ρ' v d := by
  induction h with
  | non => exact .non
  | bl b => exact .bl b
  | int i => exact .int i
  | str x => exact .str x
  | ty n => exact .ty n
  | tup h l e ih => exact .tup (s.fxt h) l ih
  | lst h l e ih => exact .lst (s.fxl h) l ih
  | frt h l e ih => exact .frt (s.zxt h) l ih
  | frz h l e ih => exact .frz (s.zxl h) l ih
  | ref h => exact .ref (s.ix h)
theorem DR.step (h : DR K H ρ v d) (s : Step ρ H ρ' H') : DR K H' ρ' v d := h.far s.far
/-- less is held back -/
theorem DR.less (h : DR K H ρ v d) (e : ∃ t, ρ'.c = ρ.c ++ t) (l : ∀ a, ρ'.Own a → ρ.Own a) : DR K H ρ' v d := by
  induction h with
  | non => exact .non
  | bl b => exact .bl b
  | int i => exact .int i
  | str x => exact .str x
  | ty n => exact .ty n
  | tup h l' e' ih => exact .tup ⟨fun m => h.1 (l _ m), h.2⟩ l' ih
  | lst h l' e' ih => exact .lst ⟨fun m => h.1 (l _ m), h.2⟩ l' ih
  | frt h l' e' ih => exact .frt (h.elim (fun z => .inl ⟨fun m => z.1 (l _ m), z.2⟩) .inr) l' ih
  | frz h l' e' ih => exact .frz (h.elim (fun z => .inl ⟨fun m => z.1 (l _ m), z.2⟩) .inr) l' ih
  | ref h =>
    obtain ⟨t, e⟩ := e
    exact .ref (by rw [e, List.getElem?_append_left (List.getElem?_eq_some_iff.mp h).1]; exact h)
theorem DRs.far (h : DRs K H ρ xs ds) (s : Far ρ H ρ' H') : DRs K H' ρ' xs ds := ⟨h.1, fun i x d e1 e2 => (h.2 i x d e1 e2).far s⟩
theorem DRs.step (h : DRs K H ρ xs ds) (s : Step ρ H ρ' H') : DRs K H' ρ' xs ds := h.far s.far
theorem DRs.less (h : DRs K H ρ xs ds) (e : ∃ t, ρ'.c = ρ.c ++ t) (l : ∀ a, ρ'.Own a → ρ.Own a) : DRs K H ρ' xs ds := ⟨h.1, fun i x d e1 e2 => (h.2 i x d e1 e2).less e l⟩
theorem DRk.far {xs : List (Key × V)} {ds : List (Key × D)} (h : DRk K H ρ xs ds) (s : Far ρ H ρ' H') : DRk K H' ρ' xs ds := ⟨h.1, fun i x d e1 e2 => ⟨(h.2 i x d e1 e2).1, (h.2 i x d e1 e2).2.far s⟩⟩
theorem DRk.step {xs : List (Key × V)} {ds : List (Key × D)} (h : DRk K H ρ xs ds) (s : Step ρ H ρ' H') : DRk K H' ρ' xs ds := h.far s.far
theorem DRk.less {xs : List (Key × V)} {ds : List (Key × D)} (h : DRk K H ρ xs ds) (e : ∃ t, ρ'.c = ρ.c ++ t) (l : ∀ a, ρ'.Own a → ρ.Own a) : DRk K H ρ' xs ds := ⟨h.1, fun i x d e1 e2 => ⟨(h.2 i x d e1 e2).1, (h.2 i x d e1 e2).2.less e l⟩⟩
theorem Step.same (s : Same H H') : Step ρ H ρ H' := ⟨⟨[], by simp⟩, rfl, fun a o h _ => s a o h, fun _ h => .inl h, fun a o u h => s a _ h⟩
theorem same_upd (h : H p = none) : Same H (upd H p o) := fun b u e => by rw [upd_ne (ne_of_none e h)]; exact e

theorem DRs.nil : DRs K H ρ [] [] := ⟨rfl, fun i x d e _ => by simp at e⟩
theorem DRs.cons (h : DR K H ρ x d) (t : DRs K H ρ xs ds) : DRs K H ρ (x :: xs) (d :: ds) := by
  refine ⟨by simp [t.1], fun i x' d' e1 e2 => ?_⟩
  cases i with
  | zero => simp at e1 e2; subst e1; subst e2; exact h
  | succ i => exact t.2 i x' d' (by simpa using e1) (by simpa using e2)
theorem DRs.cons_inv {vs : List V} (h : DRs K H ρ vs (d :: ds)) : ∃ x xs, vs = x :: xs ∧ DR K H ρ x d ∧ DRs K H ρ xs ds := by
  cases vs with
  | nil => have := h.1; simp at this
  | cons x xs => exact ⟨x, xs, rfl, h.2 0 x d rfl rfl, by simpa using h.1, fun i x' d' e1 e2 => h.2 (i + 1) x' d' (by simpa using e1) (by simpa using e2)⟩
theorem DRs.nil_inv {vs : List V} (h : DRs K H ρ vs []) : vs = [] := by
  have := h.1
  cases vs with
  | nil => rfl
  | cons x xs => simp at this
theorem DRs.get (h : DRs K H ρ xs ds) {i : Nat} (e : ds[i]? = some d) : ∃ x, xs[i]? = some x ∧ DR K H ρ x d := by
  have hi : i < xs.length := by rw [h.1]; exact (List.getElem?_eq_some_iff.mp e).1
  exact ⟨xs[i], List.getElem?_eq_getElem hi, h.2 i _ _ (List.getElem?_eq_getElem hi) e⟩
theorem DRs.append {ys : List V} {es : List D} (h : DRs K H ρ xs ds) (t : DRs K H ρ ys es) : DRs K H ρ (xs ++ ys) (ds ++ es) := by
  refine ⟨by simp [h.1, t.1], fun i x d e1 e2 => ?_⟩
  by_cases hi : i < xs.length
  · rw [List.getElem?_append_left hi] at e1
    rw [List.getElem?_append_left (by rw [← h.1]; exact hi)] at e2
    exact h.2 i x d e1 e2
  · rw [List.getElem?_append_right (by omega)] at e1
    rw [List.getElem?_append_right (by rw [← h.1]; omega), ← h.1] at e2
    exact t.2 _ x d e1 e2
theorem DRs.take (h : DRs K H ρ xs ds) (n : Nat) : DRs K H ρ (xs.take n) (ds.take n) := by
  refine ⟨by simp [h.1], fun i x d e1 e2 => ?_⟩
  rw [List.getElem?_take] at e1 e2
  split at e1
  · rename_i hi
    rw [if_pos hi] at e2
    exact h.2 i x d e1 e2
  · cases e1
theorem DRs.drop (h : DRs K H ρ xs ds) (n : Nat) : DRs K H ρ (xs.drop n) (ds.drop n) :=
  ⟨by simp [h.1], fun i x d e1 e2 => h.2 (n + i) x d (by simpa using e1) (by simpa using e2)⟩
theorem DRs.set (h : DRs K H ρ xs ds) (hx : DR K H ρ x d) (n : Nat) : DRs K H ρ (xs.set n x) (ds.set n d) := by
  refine ⟨by simp [h.1], fun i x' d' e1 e2 => ?_⟩
  by_cases hi : n = i
  · subst hi
    have h1 := (List.getElem?_eq_some_iff.mp e1).1
    have h2 := (List.getElem?_eq_some_iff.mp e2).1
    rw [List.getElem?_set_self (by simpa using h1)] at e1
    rw [List.getElem?_set_self (by simpa using h2)] at e2
    cases e1; cases e2; exact hx
  · rw [List.getElem?_set_ne hi] at e1 e2
    exact h.2 i x' d' e1 e2
theorem DR.tup_inv (h : DR K H ρ v (.tup ds)) : ∃ a xs, v = .ref a ∧ FxT H ρ a xs ∧ DRs K H ρ xs ds := by
  cases h with
  | tup h l e => exact ⟨_, _, rfl, h, l, e⟩
theorem DR.lst_inv (h : DR K H ρ v (.lst ds)) : ∃ a xs, v = .ref a ∧ FxL H ρ a xs ∧ DRs K H ρ xs ds := by
  cases h with
  | lst h l e => exact ⟨_, _, rfl, h, l, e⟩
theorem DR.frt_inv (h : DR K H ρ v (.frt ds)) : ∃ a xs, v = .ref a ∧ ZxT K H ρ a xs ∧ DRs K H ρ xs ds := by
  cases h with
  | frt h l e => exact ⟨_, _, rfl, h, l, e⟩
theorem DR.frz_inv (h : DR K H ρ v (.frz ds)) : ∃ a xs, v = .ref a ∧ ZxL K H ρ a xs ∧ DRs K H ρ xs ds := by
  cases h with
  | frz h l e => exact ⟨_, _, rfl, h, l, e⟩
theorem DR.ref_inv {n : Nat} (h : DR K H ρ v (.ref n)) : ∃ a, v = .ref a ∧ ρ.c[n]? = some a := by
  cases h with
  | ref h => exact ⟨_, rfl, h⟩
end

def CR (K : PySem.W.Frag) (H : Hp) (ρ : Mp) (a : Addr) : Cell → Prop
  | .lst ds => ∃ xs, H a = some (.lst xs) ∧ DRs K H ρ xs ds
  | .dct ds => ∃ xs, H a = some (.dK xs) ∧ DRk K H ρ xs ds
  | .dcf ds => ∃ o xs, H a = some (.frz o (.dK xs)) ∧ DRk K H ρ xs ds
structure StR (K : PySem.W.Frag) (H : Hp) (ρ : Mp) (st : Sto) : Prop where
  len : ρ.c.length = st.length
  nd : ρ.c.Nodup
  cell : ∀ (n : Nat) (a : Addr) (c : Cell), ρ.c[n]? = some a → st[n]? = some c → CR K H ρ a c
  hid : ∀ a, a ∈ ρ.h → H a ≠ none
section
variable {K : PySem.W.Frag} {H H1 H2 H' : Hp} {ρ ρ1 ρ2 ρ' : Mp} {v x y : V} {d dx dy : D} {xs : List V} {ds : List D} {a p : Addr} {o : HO} {st st' : Sto} {c : Cell}
theorem CR.has (h : CR K H ρ a c) : ∃ o, H a = some o := by
  cases c with
  | lst ds => obtain ⟨xs, e, _⟩ := h; exact ⟨_, e⟩
  | dct ds => obtain ⟨xs, e, _⟩ := h; exact ⟨_, e⟩
  | dcf ds => obtain ⟨o, xs, e, _⟩ := h; exact ⟨_, e⟩
theorem StR.has (h : StR K H ρ st) (m : a ∈ ρ.c) : ∃ o, H a = some o := by
  obtain ⟨n, e⟩ := List.getElem?_of_mem m
  have hn : n < st.length := by rw [← h.len]; exact (List.getElem?_eq_some_iff.mp e).1
  exact (h.cell n a _ e (List.getElem?_eq_getElem hn)).has
theorem StR.newc (h : StR K H ρ st) (e : H p = none) : p ∉ ρ.c := fun m => by
  obtain ⟨o, q⟩ := h.has m
  rw [e] at q; cases q
theorem StR.new (h : StR K H ρ st) (e : H p = none) : ¬ ρ.Own p := fun m => m.elim (h.newc e) fun z => h.hid p z e
theorem CR.move (h : CR K H ρ a c) (s : Far ρ H ρ' H') (k : ∀ o, H a = some o → H' a = some o) : CR K H' ρ' a c := by
  cases c with
  | lst ds => obtain ⟨xs, e, q⟩ := h; exact ⟨xs, k _ e, q.far s⟩
  | dct ds => obtain ⟨xs, e, q⟩ := h; exact ⟨xs, k _ e, q.far s⟩
  | dcf ds => obtain ⟨o, xs, e, q⟩ := h; exact ⟨o, xs, k _ e, q.far s⟩
/-- the heap has grown -/
theorem StR.same (h : StR K H ρ st) (s : Same H H') : StR K H' ρ st := ⟨h.len, h.nd, fun n a c e1 e2 => (h.cell n a c e1 e2).move (Step.same s).far fun o q => s a o q, fun a m e => by
  cases q : H a with
  | none => exact h.hid a m q
  | some o => rw [s a o q] at e; cases e⟩
/-- a new cell -/
theorem Step.cell (e : H p = none) : Step ρ H (ρ.add p) (upd H p o) :=
  ⟨⟨[p], rfl⟩, rfl, fun a u h _ => by rw [upd_ne (ne_of_none h e)]; exact h, fun a h => (List.mem_append.mp h).elim .inl fun z => by
    rw [List.mem_singleton.mp z]; exact .inr e, fun a o u h => by rw [upd_ne (ne_of_none h e)]; exact h⟩
theorem StR.newCell (h : StR K H ρ st) (e : H p = none) (hc : CR K (upd H p o) (ρ.add p) p c) : StR K (upd H p o) (ρ.add p) (st ++ [c]) := by
  refine ⟨by simp [h.len, Mp.add], ?_, fun n a c' e1 e2 => ?_, fun a m => ?_⟩
  · show (ρ.c ++ [p]).Nodup
    rw [List.nodup_append]
    refine ⟨h.nd, by simp, fun a ha b hb q => ?_⟩
    subst q
    rw [List.mem_singleton.mp hb] at ha
    exact h.newc e ha
  · have e1 : (ρ.c ++ [p])[n]? = some a := e1
    by_cases hn : n < ρ.c.length
    · rw [List.getElem?_append_left hn] at e1
      rw [List.getElem?_append_left (by rw [← h.len]; exact hn)] at e2
      exact (h.cell n a c' e1 e2).move (Step.cell e).far fun u q => by rw [upd_ne (ne_of_none q e)]; exact q
    · rw [List.getElem?_append_right (by omega)] at e1
      rw [List.getElem?_append_right (by rw [← h.len]; omega), ← h.len] at e2
      have z : n - ρ.c.length = 0 := by
        have := (List.getElem?_eq_some_iff.mp e1).1
        simp at this; omega
      rw [z] at e1 e2
      simp at e1 e2
      subst e1; subst e2
      exact hc
  · by_cases q : a = p
    · rw [q, upd_same]; simp
    · rw [upd_ne q]; exact h.hid a m
/-- nothing locked stands there -/
def NoFz : Option HO → Prop
  | some (.frz _ _) => False
  | _ => True
theorem NoFz.ne {b : Addr} {o : Obj} {u : HO} (h : NoFz (H a)) (q : H b = some (.frz o u)) : b ≠ a := fun e => by
  rw [← e, q] at h; exact h
theorem Step.write {n : Nat} (e : ρ.c[n]? = some a) (nf : NoFz (H a)) : Step ρ H ρ (upd H a o) :=
  ⟨⟨[], by simp⟩, rfl, fun b u q m => by
    have nb : b ≠ a := fun z => m (by rw [z]; exact List.mem_of_getElem? e)
    rw [upd_ne nb]; exact q, fun _ m => .inl m, fun b ob u q => by rw [upd_ne (nf.ne q)]; exact q⟩
theorem StR.write {n : Nat} (h : StR K H ρ st) (e : ρ.c[n]? = some a) (nf : NoFz (H a)) (hc : CR K (upd H a o) ρ a c) : StR K (upd H a o) ρ (st.set n c) := by
  refine ⟨by simp [h.len], h.nd, fun m b c' e1 e2 => ?_, fun b m => ?_⟩
  · by_cases hm : n = m
    · subst hm
      have h2 := (List.getElem?_eq_some_iff.mp e2).1
      rw [List.getElem?_set_self (by simpa using h2)] at e2
      rw [e] at e1
      cases e1; cases e2; exact hc
    · rw [List.getElem?_set_ne hm] at e2
      have nb : b ≠ a := fun z => hm (nd_ix (x := b) h.nd (by rw [z]; exact e) e1)
      exact (h.cell m b c' e1 e2).move (Step.write e nf).far fun u q => by rw [upd_ne nb]; exact q
  · by_cases q : b = a
    · rw [q, upd_same]; simp
    · rw [upd_ne q]; exact h.hid b m
/-- a list in the making is held back -/
def Mp.hide (ρ : Mp) (p : Addr) : Mp := ⟨ρ.c, p :: ρ.h⟩
theorem Far.hide (e : H p = none) : Far ρ H (ρ.hide p) (upd H p o) :=
  ⟨⟨[], by simp [Mp.hide]⟩, fun a u h _ => by rw [upd_ne (ne_of_none h e)]; exact h, fun a m => m.elim (fun z => .inl (.inl z)) fun z => (List.mem_cons.mp z).elim (fun z => .inr (by rw [z]; exact e)) fun z => .inl (.inr z), fun a o u h => by rw [upd_ne (ne_of_none h e)]; exact h⟩
theorem Far.grow (m : p ∈ ρ.h) (nf : NoFz (H p)) : Far ρ H ρ (upd H p o) :=
  ⟨⟨[], by simp⟩, fun a u h n => by
    have : a ≠ p := fun z => n (.inr (by rw [z]; exact m))
    rw [upd_ne this]; exact h, fun a m => .inl m, fun b ob u q => by rw [upd_ne (nf.ne q)]; exact q⟩
theorem StR.hide (h : StR K H ρ st) (e : H p = none) : StR K (upd H p o) (ρ.hide p) st :=
  ⟨h.len, h.nd, fun n a c e1 e2 => (h.cell n a c e1 e2).move (Far.hide e) fun u q => by rw [upd_ne (ne_of_none q e)]; exact q, fun a m q => by
    rcases List.mem_cons.mp m with z | z
    · rw [z, upd_same] at q; cases q
    · by_cases w : a = p
      · rw [w, upd_same] at q; cases q
      · rw [upd_ne w] at q; exact h.hid a z q⟩
theorem StR.grow (h : StR K H ρ st) (m : p ∈ ρ.h) (n : p ∉ ρ.c) (nf : NoFz (H p)) : StR K (upd H p o) ρ st :=
  ⟨h.len, h.nd, fun k a c e1 e2 => (h.cell k a c e1 e2).move (Far.grow m nf) fun u q => by
    have : a ≠ p := fun z => n (by rw [← z]; exact List.mem_of_getElem? e1)
    rw [upd_ne this]; exact q, fun a m q => by
    by_cases w : a = p
    · rw [w, upd_same] at q; cases q
    · rw [upd_ne w] at q; exact h.hid a m q⟩
theorem CR.less (h : CR K H ρ a c) (e : ∃ t, ρ'.c = ρ.c ++ t) (l : ∀ a, ρ'.Own a → ρ.Own a) : CR K H ρ' a c := by
  cases c with
  | lst ds => obtain ⟨xs, e1, q⟩ := h; exact ⟨xs, e1, q.less e l⟩
  | dct ds => obtain ⟨xs, e1, q⟩ := h; exact ⟨xs, e1, q.less e l⟩
  | dcf ds => obtain ⟨o, xs, e1, q⟩ := h; exact ⟨o, xs, e1, q.less e l⟩
theorem StR.less (h : StR K H ρ st) (e : ρ'.c = ρ.c) (l : ∀ a, a ∈ ρ'.h → a ∈ ρ.h) : StR K H ρ' st :=
  ⟨by rw [e]; exact h.len, by rw [e]; exact h.nd, fun n a c e1 e2 => (h.cell n a c (by rw [← e]; exact e1) e2).less ⟨[], by rw [e, List.append_nil]⟩ fun a m => m.elim (fun z => .inl (by rw [← e]; exact z)) fun z => .inr (l a z), fun a m => h.hid a (l a m)⟩
/-- a list in the making becomes a cell -/
theorem StR.opened {ρ : Mp} {l : List Addr} (h : StR K H ⟨l, p :: ρ.h⟩ st) (np : p ∉ l) (hp : H p = some (.lst xs)) (hd : DRs K H ⟨l, p :: ρ.h⟩ xs ds) : StR K H ⟨l ++ [p], ρ.h⟩ (st ++ [.lst ds]) := by
  have ow : ∀ a, (⟨l ++ [p], ρ.h⟩ : Mp).Own a → (⟨l, p :: ρ.h⟩ : Mp).Own a := fun a m => by
    rcases m with m | m
    · rcases List.mem_append.mp m with m | m
      · exact .inl m
      · exact .inr (by rw [List.mem_singleton.mp m]; exact List.mem_cons_self)
    · exact .inr (List.mem_cons_of_mem _ m)
  have pr : ∃ t, (⟨l ++ [p], ρ.h⟩ : Mp).c = (⟨l, p :: ρ.h⟩ : Mp).c ++ t := ⟨[p], rfl⟩
  have len := h.len
  refine ⟨by simpa using len, ?_, fun n a c e1 e2 => ?_, fun a m => h.hid a (List.mem_cons_of_mem _ m)⟩
  · show (l ++ [p]).Nodup
    rw [List.nodup_append]
    refine ⟨h.nd, by simp, fun a ha b hb q => ?_⟩
    subst q
    rw [List.mem_singleton.mp hb] at ha
    exact np ha
  · have e1 : (l ++ [p])[n]? = some a := e1
    have len : l.length = st.length := len
    by_cases hn : n < l.length
    · rw [List.getElem?_append_left hn] at e1
      rw [List.getElem?_append_left (by omega)] at e2
      exact (h.cell n a c e1 e2).less pr ow
    · rw [List.getElem?_append_right (by omega)] at e1
      rw [List.getElem?_append_right (by omega), ← len] at e2
      have z : n - l.length = 0 := by
        have := (List.getElem?_eq_some_iff.mp e1).1
        simp at this; omega
      rw [z] at e1 e2
      simp at e1 e2
      subst e1; subst e2
      exact ⟨xs, hp, hd.less pr ow⟩
theorem StR.lstAt {n : Nat} (h : StR K H ρ st) (e : ρ.c[n]? = some a) (e2 : st[n]? = some (.lst ds)) : ∃ xs, H a = some (.lst xs) ∧ DRs K H ρ xs ds := h.cell n a _ e e2
theorem StR.dctAt {n : Nat} {ks : List (Key × D)} (h : StR K H ρ st) (e : ρ.c[n]? = some a) (e2 : st[n]? = some (.dct ks)) : ∃ xs, H a = some (.dK xs) ∧ DRk K H ρ xs ks := h.cell n a _ e e2
end

/-- the frame's slots -/
def EnR (K : PySem.W.Frag) (H : Hp) (ρ : Mp) (σ : L2.St) (env : En) : Prop := σ.length = env.length ∧ ∀ (i : Nat) (d : D), env[i]? = some (some d) → ∃ v, σ[i]? = some (some v) ∧ DR K H ρ v d
structure Wd (K : PySem.W.Frag) (H : Hp) (ρ : Mp) (σ : L2.St) (env : En) (st : Sto) : Prop where
  en : EnR K H ρ σ env
  st : StR K H ρ st
def ExR (K : PySem.W.Frag) (H : Hp) (ρ : Mp) (cv : Value) (dx : Option Addr) (e : Exn) : Prop :=
  cv = .ref e.cls ∧ match e.fs with
    | none => dx = none
    | some fs => ∃ d gs, dx = some d ∧ ¬ ρ.Own d ∧ H d = some (.xd gs) ∧ gs.length = fs.length ∧ ∀ (i : Nat) (x : Str × V) (y : Str × D), gs[i]? = some x → fs[i]? = some y → x.1 = y.1 ∧ DR K H ρ x.2 y.2
section
variable {K : PySem.W.Frag} {H H1 H2 H' : Hp} {ρ ρ1 ρ2 ρ' : Mp} {σ : L2.St} {env : En} {st : Sto} {E : XK}
theorem EnR.far (h : EnR K H ρ σ env) (s : Far ρ H ρ' H') : EnR K H' ρ' σ env := ⟨h.1, fun i d e => let ⟨v, q, r⟩ := h.2 i d e; ⟨v, q, r.far s⟩⟩
theorem EnR.step (h : EnR K H ρ σ env) (s : Step ρ H ρ' H') : EnR K H' ρ' σ env := h.far s.far
theorem EnR.set {v : V} {d : D} (h : EnR K H ρ σ env) (r : DR K H ρ v d) (i : Nat) : EnR K H ρ (σ.set i (some v)) (env.set i (some d)) := by
  refine ⟨by simp [h.1], fun j d' e => ?_⟩
  by_cases hi : i = j
  · subst hi
    have h1 := (List.getElem?_eq_some_iff.mp e).1
    rw [List.getElem?_set_self (by simpa using h1)] at e
    cases e
    exact ⟨v, List.getElem?_set_self (by rw [h.1]; simpa using h1), r⟩
  · rw [List.getElem?_set_ne hi] at e
    obtain ⟨w, q, z⟩ := h.2 j d' e
    exact ⟨w, by rw [List.getElem?_set_ne hi]; exact q, z⟩
theorem EnR.setNone (h : EnR K H ρ σ env) (i : Nat) : EnR K H ρ (σ.set i none) (env.set i none) := by
  refine ⟨by simp [h.1], fun j d' e => ?_⟩
  by_cases hi : i = j
  · subst hi
    have h1 := (List.getElem?_eq_some_iff.mp e).1
    rw [List.getElem?_set_self (by simpa using h1)] at e
    cases e
  · rw [List.getElem?_set_ne hi] at e
    obtain ⟨w, q, z⟩ := h.2 j d' e
    exact ⟨w, by rw [List.getElem?_set_ne hi]; exact q, z⟩

/-- the end of a reading -/
def Fin {α β : Type} (rel : Hp → Mp → β → α → Prop) (K : PySem.W.Frag) (E : XK) (ρ : Mp) (H : Hp) (Q : β → Hp → Prop) : R α → Prop
  | .ok a st' => ∀ b H' ρ', Step ρ H ρ' H' → StR K H' ρ' st' → rel H' ρ' b a → Q b H'
  | .exc e st' => ∀ cv dx H' ρ', Step ρ H ρ' H' → StR K H' ρ' st' → ExR K H' ρ' cv dx e → E cv dx H'
theorem Fin.step {α β : Type} {rel : Hp → Mp → β → α → Prop} {Q : β → Hp → Prop} {r : R α} (h : Fin rel K E ρ H Q r) (s : Step ρ H ρ1 H1) : Fin rel K E ρ1 H1 Q r := by
  cases r with
  | ok a st' => exact fun b H' ρ' t => h b H' ρ' (s.trans t)
  | exc e st' => exact fun cv dx H' ρ' t => h cv dx H' ρ' (s.trans t)
/-- a reading by a function -/
def rdG {α β : Type} (rel : Hp → Mp → β → α → Prop) (K : PySem.W.Frag) (E : XK) (f : En → Sto → Option (R α)) (σ : L2.St) (H : Hp) (Q : β → Hp → Prop) : Prop :=
  ∃ ρ env st r, Wd K H ρ σ env st ∧ f env st = some r ∧ Fin rel K E ρ H Q r
abbrev FE := En → Sto → Option (R D)
abbrev FT := En → Sto → Option (R Bool)
abbrev FA := En → Sto → Option (R (List D))
abbrev relT : Hp → Mp → Bool → Bool → Prop := fun _ _ b a => b = a
def rdE (K : PySem.W.Frag) (E : XK) (f : FE) : TE := rdG (DR K) K E f
def rdT (K : PySem.W.Frag) (E : XK) (f : FT) : TT := rdG relT K E f
def rdA (K : PySem.W.Frag) (E : XK) (f : FA) : TA := rdG (DRs K) K E f
theorem rd_bind {α β γ δ : Type} {rel : Hp → Mp → β → α → Prop} {rel2 : Hp → Mp → δ → γ → Prop} {f : En → Sto → Option (R α)} {k : α → Sto → Option (R γ)} {r : R γ} {Q : δ → Hp → Prop} {P : β → Hp → Prop}
    (w : Wd K H ρ σ env st) (hf : bnd (f env st) k = some r) (hQ : Fin rel2 K E ρ H Q r)
    (cont : ∀ b a s1 H1 ρ1, Step ρ H ρ1 H1 → Wd K H1 ρ1 σ env s1 → rel H1 ρ1 b a → k a s1 = some r → Fin rel2 K E ρ1 H1 Q r → P b H1) : rdG rel K E f σ H P := by
  rcases bnd_some hf with ⟨a, s, e1, e2⟩ | ⟨e, s, e1, e2⟩
  · exact ⟨ρ, env, st, .ok a s, w, e1, fun b H1 ρ1 t ss q => cont b a s H1 ρ1 t ⟨w.en.step t, ss⟩ q e2 (hQ.step t)⟩
  · subst e2
    exact ⟨ρ, env, st, .exc e s, w, e1, hQ⟩
theorem Fin.val {α β : Type} {rel : Hp → Mp → β → α → Prop} {Q : β → Hp → Prop} {a : α} {b : β} (h : Fin rel K E ρ H Q (.ok a st)) (s : StR K H ρ st) (q : rel H ρ b a) : Q b H := h b H ρ .refl s q
end

/-! ### judgements -/
section
variable {X : Cx}
theorem PE.imp {e : Expr} {t t' : TE} (h : PE X e t) (i : ∀ σ H Q, t' σ H Q → t σ H Q) : PE X e t' := ⟨fun pins s σ H Q I z => h.run pins s σ H Q I (i σ H Q z)⟩
theorem PT.imp {e : Expr} {t t' : TT} (h : PT X e t) (i : ∀ σ H Q, t' σ H Q → t σ H Q) : PT X e t' := ⟨fun pins s σ H Q I z => h.run pins s σ H Q I (i σ H Q z)⟩
theorem PW.imp {e : Expr} {t t' : TT} (h : PW X e t) (i : ∀ σ H Q, t' σ H Q → t σ H Q) : PW X e t' := ⟨fun wh pins s σ H Q I z => h.run wh pins s σ H Q I (i σ H Q z)⟩
theorem PA.imp {e : List Expr} {t t' : TA} (h : PA X e t) (i : ∀ σ H Q, t' σ H Q → t σ H Q) : PA X e t' := ⟨fun pos pins s σ H Q I z => h.run pos pins s σ H Q I (i σ H Q z)⟩
theorem PS.imp {e : Stmt} {t t' : TS} (h : PS X e t) (i : ∀ D σ H, t' D σ H → t D σ H) : PS X e t' := ⟨fun pins s σ H D I z => h.run pins s σ H D I (i D σ H z)⟩
theorem PSs.imp {e : List Stmt} {t t' : TS} (h : PSs X e t) (i : ∀ D σ H, t' D σ H → t D σ H) : PSs X e t' := ⟨fun pins s σ H D I z => h.run pins s σ H D I (i D σ H z)⟩
end
abbrev VE (X : Cx) (E : XK) (e : Expr) (f : FE) : Prop := PE X e (rdE X.K E f)
abbrev VT (X : Cx) (E : XK) (e : Expr) (f : FT) : Prop := PT X e (rdT X.K E f)
abbrev VW (X : Cx) (E : XK) (e : Expr) (f : FT) : Prop := PW X e (rdT X.K E f)
abbrev VA (X : Cx) (E : XK) (e : List Expr) (f : FA) : Prop := PA X e (rdA X.K E f)

/-! ### expressions -/
def fVar (i : Nat) : FE := fun env st => match env[i]? with
  | some (some d) => some (.ok d st)
  | _ => none
def fC (d : D) : FE := fun _ st => some (.ok d st)
/-- by an operation on values that may make new immutable objects -/
def fOp (g : Sto → D → D → Option D) (a b : FE) : FE := fun env st => bnd (a env st) fun x s1 => bnd (b env s1) fun y s2 => (g s2 x y).map (R.ok · s2)
def fUn (g : Sto → D → Option D) (a : FE) : FE := fun env st => bnd (a env st) fun x s1 => (g s1 x).map (R.ok · s1)
def fIf (t : FT) (a b : FE) : FE := fun env st => bnd (t env st) fun c s1 => if c = true then a env s1 else b env s1
def fNil : FA := fun _ st => some (.ok [] st)
def fCons (a : FE) (r : FA) : FA := fun env st => bnd (a env st) fun x s1 => bnd (r env s1) fun xs s2 => some (.ok (x :: xs) s2)
def fTup (a : FA) : FE := fun env st => bnd (a env st) fun xs s1 => if xs.length ≤ 1000 then some (.ok (.tup xs) s1) else none
def fLst (a : FA) : FE := fun env st => bnd (a env st) fun xs s1 => if xs.length ≤ 1000 then some (.ok (.lst xs) s1) else none
/-- a new list that will be changed -/
def fLstC (a : FA) : FE := fun env st => bnd (a env st) fun xs s1 => if xs.length ≤ 1000 then some (.ok (.ref s1.length) (s1 ++ [.lst xs])) else none
def tV (a : FE) : FT := fun env st => bnd (a env st) fun x s1 => match x with
  | .bl b => some (.ok b s1)
  | _ => none
def tAnd2 (a b : FT) : FT := fun env st => bnd (a env st) fun c s1 => if c = true then b env s1 else some (.ok false s1)
def tOr2 (a b : FT) : FT := fun env st => bnd (a env st) fun c s1 => if c = true then some (.ok true s1) else b env s1
def tNot1 (a : FT) : FT := fun env st => bnd (a env st) fun c s1 => some (.ok (!c) s1)
def fAnd (a b : FE) : FE := fun env st => bnd (a env st) fun x s1 => match x with
  | .bl c => if c = true then b env s1 else some (.ok (.bl false) s1)
  | _ => none
def fOr (a b : FE) : FE := fun env st => bnd (a env st) fun x s1 => match x with
  | .bl c => if c = true then some (.ok (.bl true) s1) else b env s1
  | _ => none
def fNot (a : FE) : FE := fun env st => bnd (a env st) fun x s1 => match x with
  | .bl c => some (.ok (.bl (!c)) s1)
  | _ => none
/-- an operation's rule and its function -/
def OpP (K : PySem.W.Frag) (r : R2) (g : Sto → D → D → Option D) : Prop := ∀ (ρ : Mp) (H : Hp) (st : Sto) (x y : V) (dx dy d : D) (Q : VK), StR K H ρ st → DR K H ρ x dx → DR K H ρ y dy → g st dx dy = some d →
  (∀ v H', Same H H' → DR K H' ρ v d → Q v H') → r x y H Q
def UnP (K : PySem.W.Frag) (r : V → Hp → VK → Prop) (g : Sto → D → Option D) : Prop := ∀ (ρ : Mp) (H : Hp) (st : Sto) (x : V) (dx d : D) (Q : VK), StR K H ρ st → DR K H ρ x dx → g st dx = some d →
  (∀ v H', Same H H' → DR K H' ρ v d → Q v H') → r x H Q
def CaP (K : PySem.W.Frag) (r : List V → Hp → VK → Prop) (g : Sto → List D → Option D) : Prop := ∀ (ρ : Mp) (H : Hp) (st : Sto) (xs : List V) (ds : List D) (d : D) (Q : VK), StR K H ρ st → DRs K H ρ xs ds → g st ds = some d →
  (∀ v H', Same H H' → DR K H' ρ v d → Q v H') → r xs H Q
theorem map_some {α β : Type} {f : α → β} {o : Option α} {b : β} (h : o.map f = some b) : ∃ a, o = some a ∧ f a = b := Option.map_eq_some_iff.mp h
section
variable {X : Cx} {E : XK} {e a b c : Expr} {es : List Expr} {pos : Pos} {fa fb fc : FE} {fs : FA} {ft fu : FT}
theorem v_var {i : Nat} (h : PE X e (tVar i)) : VE X E e (fVar i) := by
  refine PE.imp h fun σ H Q ⟨ρ, env, st, r, w, hf, hQ⟩ => ?_
  unfold fVar at hf
  split at hf
  · rename_i d hd
    cases hf
    obtain ⟨v, q, z⟩ := w.en.2 i d hd
    exact ⟨v, q, hQ.val w.st z⟩
  · cases hf
theorem v_c {v : V} {d : D} (h : PE X e (tC v)) (r : ∀ H ρ, DR X.K H ρ v d) : VE X E e (fC d) := by
  refine PE.imp h fun σ H Q ⟨ρ, env, st, r', w, hf, hQ⟩ => ?_
  cases hf
  exact hQ.val w.st (r H ρ)
theorem v_int {i : Int} {j} : VE X E (.Constant (.int i) j pos) (fC (.int i)) := v_c pe_int fun _ _ => .int i
theorem v_bl {i : Bool} {j} : VE X E (.Constant (.bool i) j pos) (fC (.bl i)) := v_c pe_bl fun _ _ => .bl i
theorem v_non {j} : VE X E (.Constant .none j pos) (fC .non) := v_c pe_non fun _ _ => .non
theorem v_str {x : Str} {j} : VE X E (.Constant (.str x) j pos) (fC (.str x)) := v_c pe_str fun _ _ => .str x
theorem rd_op {K : PySem.W.Frag} {r : R2} {g : Sto → D → D → Option D} (hr : OpP K r g) {σ : L2.St} {H : Hp} {Q : VK} (h : rdE K E (fOp g fa fb) σ H Q) : tOp r (rdE K E fa) (rdE K E fb) σ H Q := by
  obtain ⟨ρ, env, st, r, w, hf, hQ⟩ := h
  refine rd_bind w hf hQ fun x dx s1 H1 ρ1 t1 w1 r1 hf hQ => ?_
  refine rd_bind w1 hf hQ fun y dy s2 H2 ρ2 t2 w2 r2 hf hQ => ?_
  obtain ⟨d, e1, rfl⟩ := map_some hf
  exact hr ρ2 H2 s2 x y dx dy d Q w2.st (r1.step t2) r2 e1 fun v H' s q => hQ v H' ρ2 (.same s) (w2.st.same s) q
theorem v_op {op : Operator} {r : R2} {g : Sto → D → D → Option D} (ho : OpR X (binaryOp op) r) (hr : OpP X.K r g) (ha : VE X E a fa) (hb : VE X E b fb) : VE X E (.BinOp a op b pos) (fOp g fa fb) := PE.imp (pe_op ho ha hb) fun _ _ _ h => rd_op hr h
theorem v_cmp {op : CmpOp} {r : R2} {g : Sto → D → D → Option D} (ho : OpR X (compareOp op) r) (hr : OpP X.K r g) (ha : VE X E a fa) (hb : VE X E b fb) (hm : behindInMarks op b = false) : VE X E (.Compare a [op] [b] pos) (fOp g fa fb) := PE.imp (pe_cmpR ho ha hb hm) fun _ _ _ h => rd_op hr h
theorem v_ix {r : R2} {g : Sto → D → D → Option D} (ho : IxR X r) (hr : OpP X.K r g) (ha : VE X E a fa) (hb : VE X E b fb) (hs : PlainIx b) : VE X E (.Subscript a b pos) (fOp g fa fb) := PE.imp (pe_ix ho ha hb hs) fun _ _ _ h => rd_op hr h
theorem v_un {op : UnaryOp} {r : V → Hp → VK → Prop} {g : Sto → D → Option D} (ho : UnR X (unaryOp op) r) (hr : UnP X.K r g) (ha : VE X E a fa) : VE X E (.UnaryOp op a pos) (fUn g fa) := by
  refine PE.imp (pe_un ho ha) fun σ H Q ⟨ρ, env, st, r, w, hf, hQ⟩ => ?_
  refine rd_bind w hf hQ fun x dx s1 H1 ρ1 t1 w1 r1 hf hQ => ?_
  obtain ⟨d, e1, rfl⟩ := map_some hf
  exact hr ρ1 H1 s1 x dx d Q w1.st r1 e1 fun v H' s q => hQ v H' ρ1 (.same s) (w1.st.same s) q
theorem tv_of (ha : VE X E e fa) (h : ∀ t : TE, PE X e t → PT X e (tTest t)) : VT X E e (tV fa) := by
  refine PT.imp (h _ ha) fun σ H Q ⟨ρ, env, st, r, w, hf, hQ⟩ => ?_
  refine rd_bind w hf hQ fun x dx s1 H1 ρ1 t1 w1 r1 hf hQ => ?_
  cases r1 <;> first | cases hf | skip
  exact ⟨_, rfl, hQ.val w1.st rfl⟩
theorem tv_cmp {op : CmpOp} {r : R2} {g : Sto → D → D → Option D} (ho : OpR X (compareOp op) r) (hr : OpP X.K r g) (ha : VE X E a fa) (hb : VE X E b fb) (hm : behindInMarks op b = false) : VT X E (.Compare a [op] [b] pos) (tV (fOp g fa fb)) := by
  refine PT.imp (pt_cmpR ho ha hb hm) fun σ H Q ⟨ρ, env, st, r, w, hf, hQ⟩ => ?_
  show tOp _ _ _ σ H _
  refine rd_op (K := X.K) (E := E) hr ?_
  refine rd_bind w hf hQ fun x dx s1 H1 ρ1 t1 w1 r1 hf hQ => ?_
  cases r1 <;> first | cases hf | skip
  exact ⟨_, rfl, hQ.val w1.st rfl⟩
/-- an expression that tells a truth, as a test -/
theorem tv_val (ha : VE X E e fa) (he : ∀ whole, isTrue e X.env whole = (do let v ← whole; standAt e.pos; holding [v] (truthy v)) := by intro _; rfl) : VT X E e (tV fa) := tv_of ha fun t h => pt_val h he
theorem tv_not (ha : VT X E a ft) : VT X E (.UnaryOp .Not a pos) (tNot1 ft) := by
  refine PT.imp (pt_not ha) fun σ H Q ⟨ρ, env, st, r, w, hf, hQ⟩ => ?_
  refine rd_bind w hf hQ fun x dx s1 H1 ρ1 t1 w1 r1 hf hQ => ?_
  cases hf; subst r1
  exact hQ.val w1.st rfl
theorem tw_and1 (ha : VT X E a ft) : VW X E (.BoolOp .And [a] pos) ft := pw_and1 ha
theorem tw_or1 (ha : VT X E a ft) : VW X E (.BoolOp .Or [a] pos) ft := pw_or1 ha
theorem tw_and {rest : List Expr} (ha : VT X E a ft) (hb : VW X E (.BoolOp .And (b :: rest) pos) fu) : VW X E (.BoolOp .And (a :: b :: rest) pos) (tAnd2 ft fu) := by
  refine PW.imp (pw_and ha hb) fun σ H Q ⟨ρ, env, st, r, w, hf, hQ⟩ => ?_
  refine rd_bind w hf hQ fun x dx s1 H1 ρ1 t1 w1 r1 hf hQ => ?_
  subst r1
  cases x with
  | true => exact ⟨ρ1, env, s1, r, w1, hf, hQ⟩
  | false => cases hf; exact hQ.val w1.st rfl
theorem tw_or {rest : List Expr} (ha : VT X E a ft) (hb : VW X E (.BoolOp .Or (b :: rest) pos) fu) : VW X E (.BoolOp .Or (a :: b :: rest) pos) (tOr2 ft fu) := by
  refine PW.imp (pw_or ha hb) fun σ H Q ⟨ρ, env, st, r, w, hf, hQ⟩ => ?_
  refine rd_bind w hf hQ fun x dx s1 H1 ρ1 t1 w1 r1 hf hQ => ?_
  subst r1
  cases x with
  | false => exact ⟨ρ1, env, s1, r, w1, hf, hQ⟩
  | true => cases hf; exact hQ.val w1.st rfl
theorem v_one {op} (h : VE X E a fa) : VE X E (.BoolOp op [a] pos) fa := pe_one h
theorem v_and {rest : List Expr} (ha : VE X E a fa) (hb : VE X E (.BoolOp .And (b :: rest) pos) fb) : VE X E (.BoolOp .And (a :: b :: rest) pos) (fAnd fa fb) := by
  refine PE.imp (pe_and ha hb) fun σ H Q ⟨ρ, env, st, r, w, hf, hQ⟩ => ?_
  refine rd_bind w hf hQ fun x dx s1 H1 ρ1 t1 w1 r1 hf hQ => ?_
  cases r1 <;> first | cases hf | skip
  rename_i c
  cases c with
  | true => exact ⟨true, rfl, ρ1, env, s1, r, w1, hf, hQ⟩
  | false => cases hf; exact ⟨false, rfl, hQ.val w1.st (.bl false)⟩
theorem v_or {rest : List Expr} (ha : VE X E a fa) (hb : VE X E (.BoolOp .Or (b :: rest) pos) fb) : VE X E (.BoolOp .Or (a :: b :: rest) pos) (fOr fa fb) := by
  refine PE.imp (pe_or ha hb) fun σ H Q ⟨ρ, env, st, r, w, hf, hQ⟩ => ?_
  refine rd_bind w hf hQ fun x dx s1 H1 ρ1 t1 w1 r1 hf hQ => ?_
  cases r1 <;> first | cases hf | skip
  rename_i c
  cases c with
  | false => exact ⟨false, rfl, ρ1, env, s1, r, w1, hf, hQ⟩
  | true => cases hf; exact ⟨true, rfl, hQ.val w1.st (.bl true)⟩
theorem v_not (ha : VE X E a fa) : VE X E (.UnaryOp .Not a pos) (fNot fa) := by
  refine PE.imp (pe_not ha) fun σ H Q ⟨ρ, env, st, r, w, hf, hQ⟩ => ?_
  refine rd_bind w hf hQ fun x dx s1 H1 ρ1 t1 w1 r1 hf hQ => ?_
  cases r1 <;> first | cases hf | skip
  exact ⟨_, rfl, hQ.val w1.st (.bl _)⟩
theorem v_ifExp (ht : VT X E c ft) (ha : VE X E a fa) (hb : VE X E b fb) : VE X E (.IfExp c a b pos) (fIf ft fa fb) := by
  refine PE.imp (pe_ifExp ht ha hb) fun σ H Q ⟨ρ, env, st, r, w, hf, hQ⟩ => ?_
  refine rd_bind w hf hQ fun x dx s1 H1 ρ1 t1 w1 r1 hf hQ => ?_
  subst r1
  cases x with
  | true => exact ⟨ρ1, env, s1, r, w1, hf, hQ⟩
  | false => exact ⟨ρ1, env, s1, r, w1, hf, hQ⟩
theorem a_nil : VA X E [] fNil := PA.imp pa_nil fun σ H Q ⟨ρ, env, st, r, w, hf, hQ⟩ => by
  cases hf
  exact hQ.val w.st .nil
theorem a_cons (ha : VE X E e fa) (hr : VA X E es fs) (hs : starEach (e :: es) X.env = (false, eval e X.env) :: starEach es X.env := by rfl) : VA X E (e :: es) (fCons fa fs) := by
  refine PA.imp (pa_cons ha hr hs) fun σ H Q ⟨ρ, env, st, r, w, hf, hQ⟩ => ?_
  refine rd_bind w hf hQ fun x dx s1 H1 ρ1 t1 w1 r1 hf hQ => ?_
  refine rd_bind w1 hf hQ fun y dy s2 H2 ρ2 t2 w2 r2 hf hQ => ?_
  cases hf
  exact hQ.val w2.st (.cons (r1.step t2) r2)
theorem sz1000 {n : Nat} (h : n ≤ 1000) : n ≤ sizeLine := Nat.le_trans h (by decide)
/-- a tuple's display, its object known -/
def tTupP (t : TA) : TE := fun σ H Q => t σ H fun xs H1 => xs.length ≤ sizeLine ∧ ∀ p o, H1 p = none → o.dict = none → Q (.ref p) (upd H1 p (.frz o (.tup xs)))
theorem pe_tupP {x1} {t : TA} (h : PA X es t) : PE X (.Tuple es x1 pos) (tTupP t) :=
  ⟨fun pins s σ H Q I hq => wpAny_Tuple_spliced (thn (h.run pos pins s σ H _ I hq) fun us s1 ⟨xs, H1, I1, r, z, q⟩ => ⟨by rw [← r.length]; exact z,
    .ref s1.heap.objs.size, _, I1.laid (o := .frz { cls := .type "tuple", data := .seq us.toArray } (.tup xs)) (t' := s1.toks) (fun b u e => Heap.get?_push_of_some _ e) (Nat.le_refl _)
      ⟨Heap.get?_push_size _ rfl, z, us, r, ⟨_, Heap.get?_push_size _ rfl, rfl, _, rfl⟩⟩, rfl, q _ _ (I1.hok.fresh (Nat.le_refl _)) rfl⟩)⟩
theorem v_tup {x1} (h : VA X E es fs) : VE X E (.Tuple es x1 pos) (fTup fs) := by
  refine PE.imp (pe_tupP h) fun σ H Q ⟨ρ, env, st, r, w, hf, hQ⟩ => ?_
  refine rd_bind w hf hQ fun x dx s1 H1 ρ1 t1 w1 r1 hf hQ => ?_
  split at hf
  · rename_i hl
    cases hf
    refine ⟨sz1000 (by rw [r1.1]; exact hl), fun p o hp ho => ?_⟩
    have s := same_upd (o := .frz o (.tup x)) hp
    exact hQ _ _ ρ1 (.same s) (w1.st.same s) (.tup ⟨w1.st.new hp, o, upd_same, ho⟩ r1.1 (r1.step (.same s)).2)
  · cases hf
theorem v_lst (h : VA X E es fs) : VE X E (.List es pos) (fLst fs) := by
  refine PE.imp (pe_lst h) fun σ H Q ⟨ρ, env, st, r, w, hf, hQ⟩ => ?_
  refine rd_bind w hf hQ fun x dx s1 H1 ρ1 t1 w1 r1 hf hQ => ?_
  split at hf
  · rename_i hl
    cases hf
    refine ⟨sz1000 (by rw [r1.1]; exact hl), fun p hp => ?_⟩
    have s := same_upd (o := .lst x) hp
    exact hQ _ _ ρ1 (.same s) (w1.st.same s) (.lst ⟨w1.st.new hp, upd_same⟩ r1.1 (r1.step (.same s)).2)
  · cases hf
theorem cell_ix {ρ : Mp} {st : Sto} {K : PySem.W.Frag} {H : Hp} {p : Addr} (h : StR K H ρ st) : (ρ.add p).c[st.length]? = some p := by
  show (ρ.c ++ [p])[st.length]? = some p
  rw [← h.len, List.getElem?_append_right (Nat.le_refl _)]; simp
theorem v_lstC (h : VA X E es fs) : VE X E (.List es pos) (fLstC fs) := by
  refine PE.imp (pe_lst h) fun σ H Q ⟨ρ, env, st, r, w, hf, hQ⟩ => ?_
  refine rd_bind w hf hQ fun x dx s1 H1 ρ1 t1 w1 r1 hf hQ => ?_
  split at hf
  · rename_i hl
    cases hf
    refine ⟨sz1000 (by rw [r1.1]; exact hl), fun p hp => ?_⟩
    have s : Step ρ1 H1 (ρ1.add p) (upd H1 p (.lst x)) := .cell hp
    exact hQ _ _ _ s (w1.st.newCell hp ⟨x, upd_same, r1.step s⟩) (.ref (cell_ix w1.st))
  · cases hf
end
end Fx
/-! Fx: statements, targets, loops, comprehensions, defs. -/
namespace Fx
open PySem PySem.Spec PyProof.Rows L2

inductive Res where
  | nx (env : En) (s : Sto) | rt (d : D) (s : Sto) | bk (env : En) (s : Sto) | ct (env : En) (s : Sto) | exc (e : Exn) (s : Sto)
abbrev FS := En → Sto → Option Res
def sb {α : Type} (x : Option (R α)) (k : α → Sto → Option Res) : Option Res :=
  match x with
  | some (.ok a s) => k a s
  | some (.exc e s) => some (.exc e s)
  | none => none
@[simp] theorem sb_ok {α : Type} {a : α} {s : Sto} {k : α → Sto → Option Res} : sb (some (.ok a s)) k = k a s := rfl
@[simp] theorem sb_exc {α : Type} {e : Exn} {s : Sto} {k : α → Sto → Option Res} : sb (some (.exc e s)) k = some (.exc e s) := rfl
@[simp] theorem sb_none {α : Type} {k : α → Sto → Option Res} : sb (none : Option (R α)) k = none := rfl
theorem sb_some {α : Type} {x : Option (R α)} {k : α → Sto → Option Res} {r : Res} (h : sb x k = some r) :
    (∃ a s, x = some (.ok a s) ∧ k a s = some r) ∨ (∃ e s, x = some (.exc e s) ∧ r = .exc e s) := by
  cases x with
  | none => cases h
  | some q =>
    cases q with
    | ok a s => exact .inl ⟨a, s, rfl, h⟩
    | exc e s => exact .inr ⟨e, s, rfl, (Option.some.inj h).symm⟩
section
variable (K : PySem.W.Frag) (E : XK)
def SFin (ρ : Mp) (H : Hp) (Dn : Ends) : Res → Prop
  | .nx env st => ∀ σ' H' ρ', Step ρ H ρ' H' → Wd K H' ρ' σ' env st → Dn.nx σ' H'
  | .bk env st => ∀ σ' H' ρ', Step ρ H ρ' H' → Wd K H' ρ' σ' env st → Dn.bk σ' H'
  | .ct env st => ∀ σ' H' ρ', Step ρ H ρ' H' → Wd K H' ρ' σ' env st → Dn.ct σ' H'
  | .rt d st => ∀ v H' ρ', Step ρ H ρ' H' → StR K H' ρ' st → DR K H' ρ' v d → Dn.rt v H'
  | .exc e st => ∀ cv dx H' ρ', Step ρ H ρ' H' → StR K H' ρ' st → ExR K H' ρ' cv dx e → E cv dx H'
def rdS (f : FS) : TS := fun Dn σ H => ∃ ρ env st r, Wd K H ρ σ env st ∧ f env st = some r ∧ SFin K E ρ H Dn r
end
section
variable {K : PySem.W.Frag} {H H1 H2 H' : Hp} {ρ ρ1 ρ2 ρ' : Mp} {σ : L2.St} {env : En} {st : Sto} {E : XK} {Dn : Ends}
theorem SFin.step {r : Res} (h : SFin K E ρ H Dn r) (s : Step ρ H ρ1 H1) : SFin K E ρ1 H1 Dn r := by
  cases r with
  | nx env st => exact fun a b c t => h a b c (s.trans t)
  | bk env st => exact fun a b c t => h a b c (s.trans t)
  | ct env st => exact fun a b c t => h a b c (s.trans t)
  | rt d st => exact fun a b c t => h a b c (s.trans t)
  | exc e st => exact fun cv dx H' ρ' t => h cv dx H' ρ' (s.trans t)
theorem rd_sb {α β : Type} {rel : Hp → Mp → β → α → Prop} {f : En → Sto → Option (R α)} {k : α → Sto → Option Res} {r : Res} {P : β → Hp → Prop}
    (w : Wd K H ρ σ env st) (hf : sb (f env st) k = some r) (hQ : SFin K E ρ H Dn r)
    (cont : ∀ b a s1 H1 ρ1, Step ρ H ρ1 H1 → Wd K H1 ρ1 σ env s1 → rel H1 ρ1 b a → k a s1 = some r → SFin K E ρ1 H1 Dn r → P b H1) : rdG rel K E f σ H P := by
  rcases sb_some hf with ⟨a, s, e1, e2⟩ | ⟨e, s, e1, e2⟩
  · exact ⟨ρ, env, st, .ok a s, w, e1, fun b H1 ρ1 t ss q => cont b a s H1 ρ1 t ⟨w.en.step t, ss⟩ q e2 (hQ.step t)⟩
  · subst e2
    exact ⟨ρ, env, st, .exc e s, w, e1, hQ⟩
end
abbrev VS (X : Cx) (E : XK) (s : Stmt) (f : FS) : Prop := PS X s (rdS X.K E f)
abbrev VSs (X : Cx) (E : XK) (s : List Stmt) (f : FS) : Prop := PSs X s (rdS X.K E f)

/-! ### statements -/
def fPass : FS := fun env st => some (.nx env st)
def fSeq (a b : FS) : FS := fun env st => match a env st with
  | some (.nx e1 s1) => b e1 s1
  | r => r
def fRet (e : FE) : FS := fun env st => sb (e env st) fun d s1 => some (.rt d s1)
def fRetN : FS := fun env st => some (.rt .non st)
def fExpr (e : FE) : FS := fun env st => sb (e env st) fun _ s1 => some (.nx env s1)
def fBreak : FS := fun env st => some (.bk env st)
def fCont : FS := fun env st => some (.ct env st)
def fNever : FS := fun _ _ => none
def fIfS (t : FT) (a b : FS) : FS := fun env st => sb (t env st) fun c s1 => if c = true then a env s1 else b env s1
def fSet (i : Nat) (e : FE) : FS := fun env st => sb (e env st) fun d s1 => some (.nx (env.set i (some d)) s1)
def fPar (i j : Nat) (a : FA) : FS := fun env st => sb (a env st) fun ds s1 => match ds with
  | [x, y] => some (.nx ((env.set i (some x)).set j (some y)) s1)
  | _ => none
def fAug (i : Nat) (e : FE) (g : Sto → D → D → Option D) : FS := fun env st => match env[i]? with
  | some (some x) => sb (e env st) fun y s1 => match g s1 x y with
    | some z => some (.nx (env.set i (some z)) s1)
    | none => none
  | _ => none
/-! ### targets -/
abbrev FG := D → En → Sto → Option (R En)
abbrev FGs := List D → En → Sto → Option (R En)
def relS (K : PySem.W.Frag) : Hp → Mp → L2.St → En → Prop := fun H ρ σ env => EnR K H ρ σ env
def rdTG (K : PySem.W.Frag) (E : XK) (g : FG) : TG := fun v σ H Q => ∃ ρ env st d r, Wd K H ρ σ env st ∧ DR K H ρ v d ∧ g d env st = some r ∧ Fin (relS K) K E ρ H Q r
def rdTGs (K : PySem.W.Frag) (E : XK) (g : FGs) : TGs := fun vs σ H Q => ∃ ρ env st ds r, Wd K H ρ σ env st ∧ DRs K H ρ vs ds ∧ g ds env st = some r ∧ Fin (relS K) K E ρ H Q r
abbrev VG (X : Cx) (E : XK) (e : Expr) (g : FG) : Prop := PG X e (rdTG X.K E g)
abbrev VGs (X : Cx) (E : XK) (e : List Expr) (g : FGs) : Prop := PGs X e (rdTGs X.K E g)
def gNm (i : Nat) : FG := fun d env st => some (.ok (env.set i (some d)) st)
def gsNil : FGs := fun ds env st => match ds with
  | [] => some (.ok env st)
  | _ => none
def gsCons (g : FG) (h : FGs) : FGs := fun ds env st => match ds with
  | d :: r => bnd (g d env st) fun env1 s1 => h r env1 s1
  | [] => none
def gTp (n : Nat) (g : FGs) : FG := fun d env st => match d with
  | .tup ds => if ds.length = n then g ds env st else none
  | .frt ds => if ds.length = n then g ds env st else none
  | _ => none
def gLs (n : Nat) (g : FGs) : FG := fun d env st => match d with
  | .lst ds => if ds.length = n then g ds env st else none
  | .frz ds => if ds.length = n then g ds env st else none
  | .ref k => match st[k]? with
    | some (.lst ds) => if ds.length = n then g ds env st else none
    | _ => none
  | _ => none
def fAsg (e : FE) (g : FG) : FS := fun env st => sb (e env st) fun d s1 => sb (g d env s1) fun env2 s2 => some (.nx env2 s2)
section
variable {X : Cx}
theorem PG.imp {e : Expr} {t t' : TG} (h : PG X e t) (i : ∀ v σ H Q, t' v σ H Q → t v σ H Q) : PG X e t' := ⟨fun pins s σ H v u Q I r z => h.run pins s σ H v u Q I r (i v σ H Q z)⟩
theorem PGs.imp {e : List Expr} {t t' : TGs} (h : PGs X e t) (i : ∀ v σ H Q, t' v σ H Q → t v σ H Q) : PGs X e t' := ⟨fun pins s σ H v u Q I r z => h.run pins s σ H v u Q I r (i v σ H Q z)⟩
end
section
variable {X : Cx} {E : XK} {e a b c : Expr} {es : List Expr} {pos : Pos} {fa fb fc fe : FE} {fs : FA} {ft fu : FT} {g : FG} {gs : FGs} {s s1 : Stmt} {ss : List Stmt} {f f1 f2 : FS}
theorem ss_nil : VSs X E [] fPass := PSs.imp pss_nil fun Dn σ H ⟨ρ, env, st, r, w, hf, hQ⟩ => by
  cases hf
  exact hQ σ H ρ .refl w
theorem s_pass : VS X E (.Pass pos) fPass := PS.imp ps_pass fun Dn σ H ⟨ρ, env, st, r, w, hf, hQ⟩ => by
  cases hf
  exact hQ σ H ρ .refl w
theorem s_doc {x j pos pos'} : VS X E (.Expr (.Constant (.str x) j pos) pos') fPass := PS.imp ps_doc fun Dn σ H ⟨ρ, env, st, r, w, hf, hQ⟩ => by
  cases hf
  exact hQ σ H ρ .refl w
theorem s_break : VS X E (.Break pos) fBreak := PS.imp ps_break fun Dn σ H ⟨ρ, env, st, r, w, hf, hQ⟩ => by
  cases hf
  exact hQ σ H ρ .refl w
theorem s_cont : VS X E (.Continue pos) fCont := PS.imp ps_continue fun Dn σ H ⟨ρ, env, st, r, w, hf, hQ⟩ => by
  cases hf
  exact hQ σ H ρ .refl w
theorem s_never : VS X E s fNever := PS.imp ps_never fun Dn σ H ⟨ρ, env, st, r, w, hf, hQ⟩ => by cases hf
theorem ss_one (h : VS X E s f) : VSs X E [s] f := pss_one h
theorem ss_cons (h : VS X E s f1) (h2 : VSs X E ss f2) : VSs X E (s :: ss) (fSeq f1 f2) := by
  refine PSs.imp (pss_cons h h2) fun Dn σ H ⟨ρ, env, st, r, w, hf, hQ⟩ => ?_
  show rdS X.K E f1 { Dn with nx := rdS X.K E f2 Dn } σ H
  unfold fSeq at hf
  cases e1 : f1 env st with
  | none => rw [e1] at hf; cases hf
  | some q =>
    rw [e1] at hf
    refine ⟨ρ, env, st, q, w, e1, ?_⟩
    cases q with
    | nx en1 st1 => exact fun σ' H' ρ' t w' => ⟨ρ', en1, st1, r, w', hf, hQ.step t⟩
    | rt d st1 => cases hf; exact hQ
    | bk en1 st1 => cases hf; exact hQ
    | ct en1 st1 => cases hf; exact hQ
    | exc ex st1 => cases hf; exact hQ
theorem s_ret (h : VE X E e fe) : VS X E (.Return (some e) pos) (fRet fe) := by
  refine PS.imp (ps_ret h) fun Dn σ H ⟨ρ, env, st, r, w, hf, hQ⟩ => ?_
  refine rd_sb w hf hQ fun x dx s1 H1 ρ1 t1 w1 r1 hf hQ => ?_
  cases hf
  exact hQ x H1 ρ1 .refl w1.st r1
theorem s_retN : VS X E (.Return none pos) fRetN := PS.imp ps_retN fun Dn σ H ⟨ρ, env, st, r, w, hf, hQ⟩ => by
  cases hf
  exact hQ .non H ρ .refl w.st .non
theorem s_expr (h : VE X E e fe) (hs : swapsWith e none pos.line X.env = pure false := by rfl) : VS X E (.Expr e pos) (fExpr fe) := by
  refine PS.imp (ps_expr h hs) fun Dn σ H ⟨ρ, env, st, r, w, hf, hQ⟩ => ?_
  refine rd_sb w hf hQ fun x dx s1 H1 ρ1 t1 w1 r1 hf hQ => ?_
  cases hf
  exact hQ σ H1 ρ1 .refl w1
theorem s_if {c : Expr} {sa sbb : List Stmt} (hc : VT X E c ft) (ha : VSs X E sa f1) (hb : VSs X E sbb f2) : VS X E (.If c sa sbb pos) (fIfS ft f1 f2) := by
  refine PS.imp (ps_if hc ha hb) fun Dn σ H ⟨ρ, env, st, r, w, hf, hQ⟩ => ?_
  refine rd_sb w hf hQ fun x dx s1 H1 ρ1 t1 w1 r1 hf hQ => ?_
  subst r1
  cases x with
  | true => exact ⟨ρ1, env, s1, r, w1, hf, hQ⟩
  | false => exact ⟨ρ1, env, s1, r, w1, hf, hQ⟩
theorem s_set {i : Nat} {x : Str} {pos' : Pos} (hN : X.N.Nodup) (hi : X.N[i]? = some x) (hx : Loc X.env.scope x) (he : VE X E e fe) (hs : swapsWith e (some (.Name x pos')) pos.line X.env = pure false := by rfl) (hf : X.fn x = true ∨ X.env.scope.names.lookup x = some .local := by first | exact .inl rfl | exact .inr rfl | assumption) :
    VS X E (.Assign [.Name x pos'] e pos) (fSet i fe) := by
  refine PS.imp (ps_set hN hi hx he hs hf) fun Dn σ H ⟨ρ, env, st, r, w, hf, hQ⟩ => ?_
  refine rd_sb w hf hQ fun x dx s1 H1 ρ1 t1 w1 r1 hf hQ => ?_
  cases hf
  exact hQ _ H1 ρ1 .refl ⟨w1.en.set r1 i, w1.st⟩
theorem s_par {i j : Nat} (h : PS X s (tPar i j (rdA X.K E fs))) : VS X E s (fPar i j fs) := by
  refine PS.imp h fun Dn σ H ⟨ρ, env, st, r, w, hf, hQ⟩ => ?_
  refine rd_sb w hf hQ fun xs ds s1 H1 ρ1 t1 w1 r1 hf hQ => ?_
  split at hf
  · rename_i d1 d2
    cases hf
    obtain ⟨v1, r, rfl, q1, r1⟩ := r1.cons_inv
    obtain ⟨v2, r, rfl, q2, r1⟩ := r1.cons_inv
    have := r1.nil_inv
    subst this
    exact ⟨v1, v2, rfl, hQ _ H1 ρ1 .refl ⟨(w1.en.set q1 i).set q2 j, w1.st⟩⟩
  · cases hf
theorem s_aug {i : Nat} {x : Str} {op : Operator} {ti : TIp} {pos' : Pos} {g : Sto → D → D → Option D} (hN : X.N.Nodup) (hi : X.N[i]? = some x) (hx : Loc X.env.scope x) (he : VE X E e fe) (ho : PIp X op ti) (hr : OpP X.K ti g)
    (hf : X.fn x = true ∨ X.env.scope.names.lookup x = some .local := by first | exact .inl rfl | exact .inr rfl | assumption) : VS X E (.AugAssign (.Name x pos') op e pos) (fAug i fe g) := by
  refine PS.imp (ps_aug hN hi hx he ho hf) fun Dn σ H ⟨ρ, env, st, r, w, hf, hQ⟩ => ?_
  unfold fAug at hf
  split at hf
  · rename_i d hd
    obtain ⟨v, q, z⟩ := w.en.2 i d hd
    refine ⟨v, q, ?_⟩
    refine rd_sb w hf hQ fun y dy s1 H1 ρ1 t1 w1 r1 hf hQ => ?_
    split at hf
    · rename_i d2 hd2
      cases hf
      refine hr ρ1 H1 s1 v y d dy d2 _ w1.st (z.step t1) r1 hd2 fun u H' s q' => ?_
      exact hQ _ H' ρ1 (.same s) ⟨(w1.en.step (.same s)).set q' i, w1.st.same s⟩
    · cases hf
  · cases hf
theorem g_name {i : Nat} {x : Str} (hN : X.N.Nodup) (hi : X.N[i]? = some x) (hx : Loc X.env.scope x) (hf : X.fn x = true ∨ X.env.scope.names.lookup x = some .local := by first | exact .inl rfl | exact .inr rfl | assumption) : VG X E (.Name x pos) (gNm i) := by
  refine PG.imp (pg_name hN hi hx hf) fun v σ H Q ⟨ρ, env, st, d, r, w, hd, hf, hQ⟩ => ?_
  cases hf
  exact hQ _ H ρ .refl w.st (w.en.set hd i)
theorem gs_nil : VGs X E [] gsNil := by
  refine PGs.imp pgs_nil fun vs σ H Q ⟨ρ, env, st, ds, r, w, hd, hf, hQ⟩ => ?_
  unfold gsNil at hf
  split at hf
  · cases hf
    exact ⟨hd.nil_inv, hQ _ H ρ .refl w.st w.en⟩
  · cases hf
theorem gs_cons_rd {K : PySem.W.Frag} {vs : List V} {σ : L2.St} {H : Hp} {Q : L2.St → Hp → Prop} (h : rdTGs K E (gsCons g gs) vs σ H Q) : gCons (rdTG K E g) (rdTGs K E gs) vs σ H Q := by
  obtain ⟨ρ, env, st, ds, r, w, hd, hf, hQ⟩ := h
  unfold gsCons at hf
  split at hf
  · rename_i d ds
    obtain ⟨x, xs, rfl, q1, q2⟩ := hd.cons_inv
    refine ⟨x, xs, rfl, ?_⟩
    rcases bnd_some hf with ⟨en1, s1, e1, e2⟩ | ⟨e, s1, e1, e2⟩
    · exact ⟨ρ, env, st, d, _, w, q1, e1, fun σ' H1 ρ1 t ss q => ⟨ρ1, en1, s1, ds, r, ⟨q, ss⟩, q2.step t, e2, hQ.step t⟩⟩
    · subst e2
      exact ⟨ρ, env, st, d, _, w, q1, e1, hQ⟩
  · cases hf
theorem gs_cons (h1 : VG X E e g) (h2 : VGs X E es gs) (hs : PGs X (e :: es) (gCons (rdTG X.K E g) (rdTGs X.K E gs))) : VGs X E (e :: es) (gsCons g gs) := PGs.imp hs fun _ _ _ _ h => gs_cons_rd h
theorem g_tup {k : Nat} {n : Nat} (h : PG X (.Tuple es k pos) (gTup X.K n (rdTGs X.K E gs))) : VG X E (.Tuple es k pos) (gTp n gs) := by
  refine PG.imp h fun v σ H Q ⟨ρ, env, st, d, r, w, hd, hf, hQ⟩ => ?_
  unfold gTp at hf
  split at hf
  · rename_i ds
    split at hf
    · rename_i hl
      obtain ⟨a, xs, rfl, q1, q2⟩ := hd.tup_inv
      exact ⟨a, xs, rfl, q1.seq, q2.1.trans hl, ρ, env, st, ds, r, w, q2, hf, hQ⟩
    · cases hf
  · rename_i ds
    split at hf
    · rename_i hl
      obtain ⟨a, xs, rfl, q1, q2⟩ := hd.frt_inv
      exact ⟨a, xs, rfl, q1.seq, q2.1.trans hl, ρ, env, st, ds, r, w, q2, hf, hQ⟩
    · cases hf
  · cases hf
theorem g_lst {k : Nat} {n : Nat} (h : PG X (.Tuple es k pos) (gUnl X.K n (rdTGs X.K E gs))) : VG X E (.Tuple es k pos) (gLs n gs) := by
  refine PG.imp h fun v σ H Q ⟨ρ, env, st, d, r, w, hd, hf, hQ⟩ => ?_
  unfold gLs at hf
  split at hf
  · rename_i ds
    split at hf
    · rename_i hl
      obtain ⟨a, xs, rfl, q1, q2⟩ := hd.lst_inv
      exact ⟨a, xs, rfl, q1.seq, q2.1.trans hl, ρ, env, st, ds, r, w, q2, hf, hQ⟩
    · cases hf
  · rename_i ds
    split at hf
    · rename_i hl
      obtain ⟨a, xs, rfl, q1, q2⟩ := hd.frz_inv
      exact ⟨a, xs, rfl, q1.seq, q2.1.trans hl, ρ, env, st, ds, r, w, q2, hf, hQ⟩
    · cases hf
  · rename_i k
    split at hf
    · rename_i ds hds
      split at hf
      · rename_i hl
        obtain ⟨a, rfl, q1⟩ := hd.ref_inv
        obtain ⟨xs, q2, q3⟩ := w.st.lstAt q1 hds
        exact ⟨a, xs, rfl, .inl (.inl q2), q3.1.trans hl, ρ, env, st, ds, r, w, q3, hf, hQ⟩
      · cases hf
    · cases hf
  · cases hf
theorem s_asg {tg : Expr} (he : VE X E e fe) (hg : VG X E tg g) (hs : swapsWithSole [tg] e pos.line X.env = pure false := by rfl) (hw : swappedStores [tg] e X.env = pure none := by rfl) (h1 : (assignEach [tg] X.env).map (·.2) = [assign tg X.env] := by rfl) : VS X E (.Assign [tg] e pos) (fAsg fe g) := by
  refine PS.imp (ps_asg he hg hs hw h1) fun Dn σ H ⟨ρ, env, st, r, w, hf, hQ⟩ => ?_
  refine rd_sb w hf hQ fun y dy s1 H1 ρ1 t1 w1 r1 hf hQ => ?_
  rcases sb_some hf with ⟨en2, s2, e1, e2⟩ | ⟨e, s2, e1, e2⟩
  · cases e2
    exact ⟨ρ1, env, s1, dy, _, w1, r1, e1, fun σ' H' ρ' t ss q => hQ σ' H' ρ' t ⟨q, ss⟩⟩
  · cases e2
    exact ⟨ρ1, env, s1, dy, _, w1, r1, e1, hQ⟩
end

/-! ### loops -/
abbrev FI := En → Sto → Option (R (List D))
def ItOk (K : PySem.W.Frag) (ρ0 : Mp) (H0 : Hp) (J : It) (items : List D) : Prop :=
  ∀ ρ H st, Far ρ0 H0 ρ H → StR K H ρ st → (∀ i d, items[i]? = some d → J.go i H ∧ ∀ x H', J.yld i H x H' → Same H H' ∧ DR K H' ρ x d) ∧ ∀ i, items.length ≤ i → J.stop i H
def relI (K : PySem.W.Frag) : Hp → Mp → It → List D → Prop := fun H ρ J items => ItOk K ρ H J items
def rdI (K : PySem.W.Frag) (E : XK) (f : FI) : TI := fun σ H Q => rdG (relI K) K E f σ H Q
abbrev VI (X : Cx) (E : XK) (tg e : Expr) (f : FI) : Prop := PI X tg e (rdI X.K E f)
theorem PI.imp {X : Cx} {tg e : Expr} {t t' : TI} (h : PI X tg e t) (i : ∀ σ H Q, t' σ H Q → t σ H Q) : PI X tg e t' := ⟨fun pins s σ H Q I z => h.run pins s σ H Q I (i σ H Q z)⟩
def forL (g : FG) (body : FS) : List D → En → Sto → Option Res
  | [], env, st => some (.nx env st)
  | d :: ds, env, st => sb (g d env st) fun env1 s1 => match body env1 s1 with
    | some (.nx env2 s2) => forL g body ds env2 s2
    | some (.ct env2 s2) => forL g body ds env2 s2
    | some (.bk env2 s2) => some (.nx env2 s2)
    | r => r
def fFor (fi : FI) (g : FG) (body : FS) : FS := fun env st => sb (fi env st) fun items s1 => forL g body items env s1
def whL (t : FT) (body : FS) : Nat → En → Sto → Option Res
  | 0, _, _ => none
  | n + 1, env, st => sb (t env st) fun c s1 => if c = true then (match body env s1 with
      | some (.nx env2 s2) => whL t body n env2 s2
      | some (.ct env2 s2) => whL t body n env2 s2
      | some (.bk env2 s2) => some (.nx env2 s2)
      | r => r) else some (.nx env s1)
def fWhile (m : En → Sto → Nat) (t : FT) (body : FS) : FS := fun env st => whL t body (m env st) env st
section
variable {X : Cx} {E : XK} {pos : Pos} {ft : FT} {g : FG} {f : FS} {fi : FI}
theorem s_while {c : Expr} {body : List Stmt} (m : En → Sto → Nat) (hp : PassesOwn (model X.prog X.w) X.A X.env X.xe) (hc : VT X E c ft) (hb : VSs X E body f) : VS X E (.While c body [] pos) (fWhile m ft f) := by
  refine PS.imp (ps_while hp hc hb) fun Dn σ H ⟨ρ, env, st, r, w, hf, hQ⟩ => ?_
  refine ⟨fun n σ' H' => ∃ ρ' en' st', Step ρ H ρ' H' ∧ Wd X.K H' ρ' σ' en' st' ∧ whL ft f n en' st' = some r, ⟨_, ρ, env, st, .refl, w, hf⟩, ?_⟩
  rintro n σ1 H1 ⟨ρ1, en1, st1, t1, w1, hf⟩
  cases n with
  | zero => cases hf
  | succ n =>
    unfold whL at hf
    refine rd_sb w1 hf (hQ.step t1) fun b db s2 H2 ρ2 t2 w2 r2 hf hQ2 => ?_
    subst r2
    cases b with
    | false =>
      cases hf
      exact hQ2 σ1 H2 ρ2 .refl w2
    | true =>
      simp only [if_true] at hf ⊢
      refine ⟨fun σ' H' => ∃ ρ' en' st', Step ρ H ρ' H' ∧ Wd X.K H' ρ' σ' en' st' ∧ whL ft f n en' st' = some r, fun σ' H' h => ⟨n, Nat.lt_succ_self n, h⟩, ?_⟩
      cases e1 : f en1 s2 with
      | none => rw [e1] at hf; cases hf
      | some q =>
        rw [e1] at hf
        refine ⟨ρ2, en1, s2, q, w2, e1, ?_⟩
        cases q with
        | nx en3 s3 => exact fun σ' H' ρ' t w' => ⟨ρ', en3, s3, (t1.trans t2).trans t, w', hf⟩
        | ct en3 s3 => exact fun σ' H' ρ' t w' => ⟨ρ', en3, s3, (t1.trans t2).trans t, w', hf⟩
        | bk en3 s3 => cases hf; exact hQ2
        | rt d s3 => cases hf; exact hQ2
        | exc e s3 => cases hf; exact hQ2
theorem s_for {tg iter : Expr} {body : List Stmt} (hp : PassesOwn (model X.prog X.w) X.A X.env X.xe) (hc : X.calm = true) (hi : VI X E tg iter fi) (hg : VG X E tg g) (hb : VSs X E body f)
    (hs : ∀ x, foldedSetIterable iter X.env x = pure x := by intro _; rfl) : VS X E (.For tg iter body [] pos) (fFor fi g f) := by
  refine PS.imp (ps_for hp hc hi hg hb hs) fun Dn σ H ⟨ρ, env, st, r, w, hf, hQ⟩ => ?_
  refine rd_sb w hf hQ fun J items s1 H1 ρ1 t1 w1 r1 hf hQ => ?_
  refine ⟨fun i n σ' H' => ∃ ρ' en' st', Step ρ1 H1 ρ' H' ∧ Wd X.K H' ρ' σ' en' st' ∧ i + n = items.length ∧ forL g f (items.drop i) en' st' = some r, ⟨items.length, ρ1, env, s1, .refl, w1, by omega, by rw [List.drop_zero]; exact hf⟩, ?_⟩
  rintro i n σ2 H2 ⟨ρ2, en2, st2, t2, w2, hn, hf⟩
  obtain ⟨go, stop⟩ := r1 ρ2 H2 st2 t2.far w2.st
  by_cases hi : i < items.length
  · have hd : items[i]? = some items[i] := List.getElem?_eq_getElem hi
    obtain ⟨g1, g2⟩ := go i _ hd
    refine .inr ⟨g1, fun σ' H' => ∃ ρ' en' st', Step ρ1 H1 ρ' H' ∧ Wd X.K H' ρ' σ' en' st' ∧ forL g f (items.drop (i + 1)) en' st' = some r, fun σ' H' ⟨ρ', en', st', t, w, h⟩ => ⟨n - 1, by omega, ρ', en', st', t, w, by omega, h⟩, fun x H3 hy => ?_⟩
    obtain ⟨sm, hx⟩ := g2 x H3 hy
    have t3 : Step ρ2 H2 ρ2 H3 := .same sm
    rw [List.drop_eq_getElem_cons hi] at hf
    unfold forL at hf
    rcases sb_some hf with ⟨en4, s4, e1, e2⟩ | ⟨e, s4, e1, e2⟩
    · refine ⟨ρ2, en2, st2, _, _, ⟨w2.en.step t3, w2.st.same sm⟩, hx, e1, fun σ4 H4 ρ4 t4 ss4 q4 => ?_⟩
      have T := (t2.trans t3).trans t4
      cases e5 : f en4 s4 with
      | none => rw [e5] at e2; cases e2
      | some q =>
        rw [e5] at e2
        refine ⟨ρ4, en4, s4, q, ⟨q4, ss4⟩, e5, ?_⟩
        cases q with
        | nx en6 s6 => exact fun σ' H' ρ' t w' => ⟨ρ', en6, s6, T.trans t, w', e2⟩
        | ct en6 s6 => exact fun σ' H' ρ' t w' => ⟨ρ', en6, s6, T.trans t, w', e2⟩
        | bk en6 s6 => cases e2; exact hQ.step T
        | rt d s6 => cases e2; exact hQ.step T
        | exc e s6 => cases e2; exact hQ.step T
    · subst e2
      exact ⟨ρ2, en2, st2, _, _, ⟨w2.en.step t3, w2.st.same sm⟩, hx, e1, hQ.step (t2.trans t3)⟩
  · refine .inl ⟨stop i (by omega), ?_⟩
    rw [List.drop_of_length_le (by omega)] at hf
    cases hf
    exact hQ σ2 H2 ρ2 t2 w2
end

/-! ### what is walked -/
/-- the items of a list or tuple that stays -/
def itSeq (d : D) : Option (List D) := match d with
  | .lst xs => some xs
  | .tup xs => some xs
  | _ => none
def seqL (d : D) : Option (List D) := match d with
  | .lst xs => some xs
  | .frz xs => some xs
  | _ => none
def seqT (d : D) : Option (List D) := match d with
  | .tup xs => some xs
  | .frt xs => some xs
  | _ => none
def iLst (fa : FE) : FI := fun env st => bnd (fa env st) fun d s1 => (seqL d).map (R.ok · s1)
def iTp (fa : FE) : FI := fun env st => bnd (fa env st) fun d s1 => (seqT d).map (R.ok · s1)
theorem DR.seqL_inv {K : PySem.W.Frag} {H : Hp} {ρ : Mp} {v : V} {d : D} {ds : List D} (h : DR K H ρ v d) (e : seqL d = some ds) : ∃ a xs, v = .ref a ∧ ZxL K H ρ a xs ∧ DRs K H ρ xs ds := by
  cases h <;> first | cases e | skip
  · rename_i a xs h l q; exact ⟨a, xs, rfl, .inl ⟨h.1, .inl h.2⟩, l, q⟩
  · rename_i a xs h l q; exact ⟨a, xs, rfl, h, l, q⟩
theorem DR.seqT_inv {K : PySem.W.Frag} {H : Hp} {ρ : Mp} {v : V} {d : D} {ds : List D} (h : DR K H ρ v d) (e : seqT d = some ds) : ∃ a xs, v = .ref a ∧ ZxT K H ρ a xs ∧ DRs K H ρ xs ds := by
  cases h <;> first | cases e | skip
  · rename_i a xs h l q; exact ⟨a, xs, rfl, .inl ⟨h.1, .inr ⟨h.2.choose, h.2.choose_spec.1⟩⟩, l, q⟩
  · rename_i a xs h l q; exact ⟨a, xs, rfl, h, l, q⟩
def intsFrom (lo : Int) (n : Nat) : List D := (List.range n).map fun (i : Nat) => .int (lo + (i : Int))
def iRg1 (fs : FA) : FI := fun env st => bnd (fs env st) fun ds s1 => match ds with
  | [.int j] => if -(2 ^ 62) ≤ j ∧ j < 2 ^ 62 then some (.ok (intsFrom 0 j.toNat) s1) else none
  | _ => none
def iRg2 (fs : FA) : FI := fun env st => bnd (fs env st) fun ds s1 => match ds with
  | [.int i, .int j] => if -(2 ^ 62) ≤ i ∧ i < 2 ^ 62 ∧ -(2 ^ 62) ≤ j ∧ j < 2 ^ 62 then some (.ok (intsFrom i (j - i).toNat) s1) else none
  | _ => none
section
variable {X : Cx} {E : XK} {pos p : Pos} {fa : FE} {fs : FA} {e tg a b : Expr}
theorem DRs.eq_at {K : PySem.W.Frag} {H : Hp} {ρ : Mp} {x : V} {d : D} {xs : List V} {ds : List D} (h : DRs K H ρ xs ds) {i : Nat} (e : ds[i]? = some d) : ∃ x, xs[i]? = some x ∧ DR K H ρ x d := h.get e
theorem i_list (h : VE X E e fa) : VI X E tg e (iLst fa) := by
  refine PI.imp (pi_list h) fun σ H Q ⟨ρ, env, st, r, w, hf, hQ⟩ => ?_
  refine rd_bind w hf hQ fun x dx s1 H1 ρ1 t1 w1 r1 hf hQ => ?_
  obtain ⟨ds, e1, rfl⟩ := map_some hf
  obtain ⟨a, xs, rfl, q1, q2⟩ := r1.seqL_inv e1
  refine ⟨a, rfl, ⟨xs, q1.seq⟩, hQ _ _ ρ1 .refl w1.st fun ρ2 H2 st2 t2 hs2 => ⟨fun i d hd => ?_, fun i hi => ⟨xs, (t2.zxl q1).seq, by rw [q2.1]; exact hi⟩⟩⟩
  obtain ⟨x, e1, e2⟩ := q2.get hd
  exact ⟨⟨xs, x, (t2.zxl q1).seq, e1⟩, fun y H' hy => ⟨by rw [hy.1]; exact Same.refl _, by
    obtain ⟨rfl, hy⟩ := hy
    have := hy xs (t2.zxl q1).seq
    rw [e1] at this; cases this
    exact e2.far t2⟩⟩
theorem i_tup (h : VE X E e fa) : VI X E tg e (iTp fa) := by
  refine PI.imp (pi_tup h) fun σ H Q ⟨ρ, env, st, r, w, hf, hQ⟩ => ?_
  refine rd_bind w hf hQ fun x dx s1 H1 ρ1 t1 w1 r1 hf hQ => ?_
  obtain ⟨ds, e1, rfl⟩ := map_some hf
  obtain ⟨a, xs, rfl, q1, q2⟩ := r1.seqT_inv e1
  refine ⟨a, rfl, ⟨xs, q1.seq⟩, hQ _ _ ρ1 .refl w1.st fun ρ2 H2 st2 t2 hs2 => ⟨fun i d hd => ?_, fun i hi => ⟨xs, (t2.zxt q1).seq, by rw [q2.1]; exact hi⟩⟩⟩
  obtain ⟨x, e1, e2⟩ := q2.get hd
  exact ⟨⟨xs, x, (t2.zxt q1).seq, e1⟩, fun y H' hy => ⟨by rw [hy.1]; exact Same.refl _, by
    obtain ⟨rfl, hy⟩ := hy
    have := hy xs (t2.zxt q1).seq
    rw [e1] at this; cases this
    exact e2.far t2⟩⟩
theorem rng_ok {K : PySem.W.Frag} {ρ : Mp} {H : Hp} {lo : Int} {n : Nat} : ItOk K ρ H (Itr lo n) (intsFrom lo n) := by
  intro ρ2 H2 st2 t2 hs2
  refine ⟨fun i d hd => ?_, fun i hi => show n ≤ i by simpa [intsFrom] using hi⟩
  have hi : i < n := by simpa [intsFrom] using (List.getElem?_eq_some_iff.mp hd).1
  have e : d = .int (lo + i) := by
    unfold intsFrom at hd
    rw [List.getElem?_map, List.getElem?_range hi] at hd
    exact (Option.some.inj hd).symm
  subst e
  exact ⟨hi, fun x H' hy => by
    obtain ⟨rfl, rfl⟩ := hy
    exact ⟨Same.refl _, .int _⟩⟩
theorem i_rng1 (hg : Gl X "range") (hm : X.mg "range" = none) (h : VA X E [a] fs) (hs : starEach [a] X.env = [(false, eval a X.env)] := by rfl) : VI X E tg (.Call (.Name "range" p) [a] [] pos) (iRg1 fs) := by
  refine PI.imp (pi_range1 hg hm h hs) fun σ H Q ⟨ρ, env, st, r, w, hf, hQ⟩ => ?_
  refine rd_bind w hf hQ fun x dx s1 H1 ρ1 t1 w1 r1 hf hQ => ?_
  split at hf
  · rename_i j
    split at hf
    · rename_i hj
      cases hf
      obtain ⟨v, r, rfl, q1, r1⟩ := r1.cons_inv
      have := r1.nil_inv
      subst this
      cases q1
      exact ⟨j, rfl, hj.1, hj.2, hQ _ _ ρ1 .refl w1.st rng_ok⟩
    · cases hf
  · cases hf
theorem i_rng2 (hg : Gl X "range") (hm : X.mg "range" = none) (h : VA X E [a, b] fs) (hs : starEach [a, b] X.env = [(false, eval a X.env), (false, eval b X.env)] := by rfl) (hs2 : starEach [b] X.env = [(false, eval b X.env)] := by rfl) : VI X E tg (.Call (.Name "range" p) [a, b] [] pos) (iRg2 fs) := by
  refine PI.imp (pi_range2 hg hm h hs hs2) fun σ H Q ⟨ρ, env, st, r, w, hf, hQ⟩ => ?_
  refine rd_bind w hf hQ fun x dx s1 H1 ρ1 t1 w1 r1 hf hQ => ?_
  split at hf
  · rename_i i j
    split at hf
    · rename_i hj
      cases hf
      obtain ⟨v, r, rfl, q1, r1⟩ := r1.cons_inv
      obtain ⟨v2, r, rfl, q2, r1⟩ := r1.cons_inv
      have := r1.nil_inv
      subst this
      cases q1; cases q2
      exact ⟨i, j, rfl, hj, hQ _ _ ρ1 .refl w1.st rng_ok⟩
    · cases hf
  · cases hf
end

/-! ### comprehensions -/
def noX {α : Type} (x : Option (R α)) : Option (R α) := match x with
  | some (.ok a s) => some (.ok a s)
  | _ => none
theorem noX_ok {α : Type} {x : Option (R α)} {r : R α} (h : noX x = some r) : ∃ a s, x = some (.ok a s) ∧ r = .ok a s := by
  unfold noX at h
  split at h
  · cases h; exact ⟨_, _, rfl, rfl⟩
  · cases h
def wipeD (env : En) : List Nat → En
  | [] => env
  | v :: vs => (wipeD env vs).set v none
theorem EnR.wipe {K : PySem.W.Frag} {H : Hp} {ρ : Mp} {σ : L2.St} {env : En} (h : EnR K H ρ σ env) : ∀ vs : List Nat, EnR K H ρ (wipe σ vs) (wipeD env vs)
  | [] => h
  | v :: vs => (EnR.wipe h vs).setNone v
/-- the items of a comprehension -/
def lcL (g : FG) (ft : FT) (fe : FE) (env : En) : List D → Sto → Option (R (List D))
  | [], st => some (.ok [] st)
  | d :: ds, st => bnd (noX (g d env st)) fun env1 s1 => bnd (noX (ft env1 s1)) fun c s2 =>
    if c = true then bnd (noX (fe env1 s2)) fun y s3 => bnd (lcL g ft fe env ds s3) fun ys s4 => some (.ok (y :: ys) s4)
    else lcL g ft fe env ds s2
def tYes1 : FT := fun _ st => some (.ok true st)
def lcF (fi : FI) (g : FG) (ft : FT) (fe : FE) (vs : List Nat) : FA := fun env st => bnd (fi env st) fun items s1 => if items.length ≤ 100000 then lcL g ft fe (wipeD env vs) items s1 else none
def fLc (fi : FI) (g : FG) (ft : FT) (fe : FE) (vs : List Nat) : FE := fun env st => bnd (lcF fi g ft fe vs env st) fun ds s1 => some (.ok (.lst ds) s1)
def fLcC (fi : FI) (g : FG) (ft : FT) (fe : FE) (vs : List Nat) : FE := fun env st => bnd (lcF fi g ft fe vs env st) fun ds s1 => some (.ok (.ref s1.length) (s1 ++ [.lst ds]))
/-- a target that stores its own names alone -/
def OwnG (K : PySem.W.Frag) (vs : List Nat) (t : TG) (g : FG) : Prop :=
  ∀ (v : V) (d : D) (σ : L2.St) (env : En) (st s1 : Sto) (H : Hp) (ρ : Mp) (env1 : En) (Q : L2.St → Hp → Prop), Wd K H ρ (wipe σ vs) env st → DR K H ρ v d → g d env st = some (.ok env1 s1) → (∀ σ2, Wd K H ρ σ2 env1 s1 → Q σ2 H) → t v (wipe σ vs) H fun σ2 H2 => wipe σ2 vs = wipe σ vs ∧ Q σ2 H2
theorem wipe_set_mem {x : Option V} {i : Nat} : ∀ {vs : List Nat} {σ : L2.St}, i ∈ vs → wipe (σ.set i x) vs = wipe σ vs
  | [], _, h => by simp at h
  | v :: vs, σ, h => by
    unfold wipe
    by_cases hv : i ∈ vs
    · rw [wipe_set_mem hv]
    · have e : i = v := by simpa [hv] using h
      subst e
      have : ∀ (ws : List Nat) (σ : L2.St), i ∉ ws → wipe (σ.set i x) ws = (wipe σ ws).set i x := by
        intro ws
        induction ws with
        | nil => intro σ _; rfl
        | cons w ws ih =>
          intro σ hw
          simp only [List.mem_cons, not_or] at hw
          unfold wipe
          rw [ih σ hw.2, List.set_comm _ _ hw.1]
      rw [this vs σ hv, List.set_set]
theorem wipe_wipe {vs : List Nat} {σ : L2.St} : wipe (wipe σ vs) vs = wipe σ vs := by
  have : ∀ (ws us : List Nat) (σ : L2.St), (∀ i ∈ ws, i ∈ us) → wipe (wipe σ ws) us = wipe σ us := by
    intro ws us
    induction ws with
    | nil => intro σ _; rfl
    | cons w ws ih =>
      intro σ h
      show wipe ((wipe σ ws).set w none) us = _
      rw [wipe_set_mem (h w List.mem_cons_self), ih σ fun i hi => h i (List.mem_cons_of_mem _ hi)]
  exact this vs vs σ fun _ h => h
theorem own_name {K : PySem.W.Frag} {vs : List Nat} {i : Nat} (hi : i ∈ vs) : OwnG K vs (L2.gName i) (gNm i) := by
  intro v d σ env st s1 H ρ env1 Q w hd hg h
  cases hg
  refine ⟨by rw [wipe_set_mem hi, wipe_wipe], h _ ⟨w.en.set hd i, w.st⟩⟩
section
variable {X : Cx} {E : XK} {pos : Pos} {ft : FT} {g : FG} {f : FS} {fi : FI} {fe : FE}
/-- tuple targets of names -/
def nmsG : List Nat → TGs
  | [] => L2.gNil
  | i :: is => L2.gCons (L2.gName i) (nmsG is)
def nmsF : List Nat → FGs
  | [] => gsNil
  | i :: is => gsCons (gNm i) (nmsF is)
theorem own_names {K : PySem.W.Frag} {vs : List Nat} : ∀ {is : List Nat}, (∀ i ∈ is, i ∈ vs) → ∀ (xs : List V) (ds : List D) (σ σ0 : L2.St) (env : En) (st s1 : Sto) (H : Hp) (ρ : Mp) (env1 : En) (Q : L2.St → Hp → Prop), wipe σ0 vs = wipe σ vs → Wd K H ρ σ0 env st → DRs K H ρ xs ds → nmsF is ds env st = some (.ok env1 s1) →
    (∀ σ2, Wd K H ρ σ2 env1 s1 → Q σ2 H) → nmsG is xs σ0 H fun σ2 H2 => wipe σ2 vs = wipe σ vs ∧ Q σ2 H2
  | [], _, xs, ds, σ, σ0, env, st, s1, H, ρ, env1, Q, hw, w, hd, hg, h => by
    unfold nmsF gsNil at hg
    split at hg
    · cases hg
      exact ⟨hd.nil_inv, hw, h _ w⟩
    · cases hg
  | i :: is, hi, xs, ds, σ, σ0, env, st, s1, H, ρ, env1, Q, hw, w, hd, hg, h => by
    unfold nmsF gsCons at hg
    split at hg
    · rename_i d ds
      obtain ⟨x, xs, rfl, q1, q2⟩ := hd.cons_inv
      refine ⟨x, xs, rfl, ?_⟩
      exact own_names (fun j hj => hi j (List.mem_cons_of_mem _ hj)) xs ds σ _ _ st s1 H ρ env1 Q (by rw [wipe_set_mem (hi i List.mem_cons_self)]; exact hw) ⟨w.en.set q1 i, w.st⟩ q2 hg h
    · cases hg
theorem own_tup {K : PySem.W.Frag} {vs is : List Nat} {n : Nat} (hi : ∀ i ∈ is, i ∈ vs) : OwnG K vs (L2.gTup K n (nmsG is)) (gTp n (nmsF is)) := by
  intro v d σ env st s1 H ρ env1 Q w hd hg h
  unfold gTp at hg
  split at hg
  · rename_i ds
    split at hg
    · rename_i hl
      obtain ⟨a, xs, rfl, q1, q2⟩ := hd.tup_inv
      exact ⟨a, xs, rfl, q1.seq, q2.1.trans hl, own_names hi xs ds σ _ env st s1 H ρ env1 Q wipe_wipe w q2 hg h⟩
    · cases hg
  · rename_i ds
    split at hg
    · rename_i hl
      obtain ⟨a, xs, rfl, q1, q2⟩ := hd.frt_inv
      exact ⟨a, xs, rfl, q1.seq, q2.1.trans hl, own_names hi xs ds σ _ env st s1 H ρ env1 Q wipe_wipe w q2 hg h⟩
    · cases hg
  · cases hg
theorem lcL_len {env : En} : ∀ {ds : List D} {st : Sto} {ys : List D} {s2 : Sto}, lcL g ft fe env ds st = some (.ok ys s2) → ys.length ≤ ds.length
  | [], st, ys, s2, h => by cases h; exact Nat.le_refl _
  | d :: ds, st, ys, s2, h => by
    unfold lcL at h
    rcases bnd_some h with ⟨a, s, e1, e2⟩ | ⟨e, s, e1, e2⟩
    · rcases bnd_some e2 with ⟨c, s3, e3, e4⟩ | ⟨e, s3, e3, e4⟩
      · split at e4
        · rcases bnd_some e4 with ⟨y, s5, e5, e6⟩ | ⟨e, s5, e5, e6⟩
          · rcases bnd_some e6 with ⟨zs, s7, e7, e8⟩ | ⟨e, s7, e7, e8⟩
            · cases e8
              have := lcL_len e7
              simp; omega
            · cases e8
          · cases e6
        · have := lcL_len e4
          simp; omega
      · cases e4
    · cases e2
theorem lcL_exc {env : En} : ∀ {ds : List D} {st : Sto} {ex : Exn} {s2 : Sto}, lcL g ft fe env ds st ≠ some (.exc ex s2)
  | [], st, ex, s2, h => by cases h
  | d :: ds, st, ex, s2, h => by
    unfold lcL at h
    rcases bnd_some h with ⟨a, s, e1, e2⟩ | ⟨e, s, e1, e2⟩
    · rcases bnd_some e2 with ⟨c, s3, e3, e4⟩ | ⟨e, s3, e3, e4⟩
      · split at e4
        · rcases bnd_some e4 with ⟨y, s5, e5, e6⟩ | ⟨e, s5, e5, e6⟩
          · rcases bnd_some e6 with ⟨zs, s7, e7, e8⟩ | ⟨e, s7, e7, e8⟩
            · cases e8
            · exact lcL_exc e7
          · obtain ⟨_, _, _, z⟩ := noX_ok e5; cases z
        · exact lcL_exc e4
      · obtain ⟨_, _, _, z⟩ := noX_ok e3; cases z
    · obtain ⟨_, _, _, z⟩ := noX_ok e1; cases z
/-- the reading of a comprehension -/
theorem lc_read {K : PySem.W.Frag} {vs : List Nat} {t : TG} {σ : L2.St} {H : Hp} {ρ : Mp} {env : En} {st : Sto} {r : R (List D)} {Q : VK} (hg : OwnG K vs t g) (w : Wd K H ρ σ env st) (hf : lcF fi g ft fe vs env st = some r)
    (hx : ∀ e s, r = .exc e s → Fin (DR K) K E ρ H Q (.exc e s))
    (h : ∀ ds s1 p xs H' l, r = .ok ds s1 → Step ρ H ⟨l, ρ.h⟩ H' → StR K H' ⟨l, p :: ρ.h⟩ s1 → H p = none → p ∉ l → p ∉ ρ.h → H' p = some (.lst xs) → DRs K H' ⟨l, p :: ρ.h⟩ xs ds → Q (.ref p) H') :
    tLc (rdI K E fi) t (rdT K E0 ft) (rdE K E0 fe) vs σ H Q := by
  rcases bnd_some hf with ⟨items, s1, e1, e2⟩ | ⟨e, s1, e1, e2⟩
  · split at e2
    case isFalse => cases e2
    rename_i hlen
    refine ⟨ρ, env, st, _, w, e1, fun J H1 ρ1 t1 ss1 hJ => fun Dd hD => ?_⟩
    have hD0 : H Dd = none := by
      by_cases m : Dd ∈ ρ.c
      · obtain ⟨o, q⟩ := ss1.has (show Dd ∈ ρ1.c by obtain ⟨z, e⟩ := t1.pre; rw [e]; exact List.mem_append_left _ m)
        rw [hD] at q; cases q
      · cases q : H Dd with
        | none => rfl
        | some o => rw [t1.keep _ _ q m] at hD; cases hD
    have hDn : Dd ∉ ρ1.c := ss1.newc hD
    have hDo : ¬ ρ1.Own Dd := ss1.new hD
    have nd : ∀ a o, H1 a = some o → a ≠ Dd := fun a o q z => by rw [z, hD] at q; cases q
    -- the loop
    refine ⟨fun i n H2 => ∃ c2 st2 acc dacc r2, Step ρ1 H1 ⟨c2, ρ1.h⟩ H2 ∧ StR K H2 ⟨c2, Dd :: ρ1.h⟩ st2 ∧ Dd ∉ c2 ∧ H2 Dd = some (.lst acc) ∧ DRs K H2 ⟨c2, Dd :: ρ1.h⟩ acc dacc ∧ i + n = items.length ∧ dacc.length ≤ i ∧
      lcL g ft fe (wipeD env vs) (items.drop i) st2 = some r2 ∧ (∀ ys s, r2 = .ok ys s → r = .ok (dacc ++ ys) s) ∧ (∀ e s, r2 = .exc e s → r = .exc e s), ?_, ?_⟩
    · exact ⟨items.length, ρ1.c, s1, [], [], r, ⟨⟨[], by simp⟩, rfl, fun a o q _ => by rw [upd_ne (nd a o q)]; exact q, fun a m => .inl m, fun a o u q => by rw [upd_ne (nd a _ q)]; exact q⟩, ss1.hide hD, hDn, upd_same, .nil, by omega, Nat.le_refl _, by rw [List.drop_zero]; exact e2, fun ys s q => q, fun e s q => q⟩
    · rintro i n H2 ⟨c2, st2, acc, dacc, r2, t2, ss2, n2, hacc, hda, hn, hda2, hl, h1, h2⟩
      have T2 : Far ρ1 H1 ⟨c2, Dd :: ρ1.h⟩ H2 := by
        refine ⟨t2.pre, fun a o q m => t2.keep a o q fun z => m (.inl z), fun a m => ?_, t2.fz⟩
        rcases m with z | z
        · exact (t2.new a z).elim (fun z => .inl (.inl z)) .inr
        · rcases List.mem_cons.mp z with z | z
          · rw [z]; exact .inr hD
          · exact .inl (.inr z)
      obtain ⟨go, stop⟩ := hJ _ H2 st2 T2 ss2
      by_cases hi : i < items.length
      · have hd : items[i]? = some items[i] := List.getElem?_eq_getElem hi
        obtain ⟨g1, g2⟩ := go i _ hd
        refine .inr ⟨g1, _, fun H' hN => ⟨n - 1, by omega, hN⟩, fun x H3 hy => ?_⟩
        obtain ⟨sm, hx'⟩ := g2 x H3 hy
        have t3 : Step ⟨c2, Dd :: ρ1.h⟩ H2 ⟨c2, Dd :: ρ1.h⟩ H3 := .same sm
        rw [List.drop_eq_getElem_cons hi] at hl
        unfold lcL at hl
        have ss3 := ss2.same sm
        rcases bnd_some hl with ⟨en1, s4, e4, e5⟩ | ⟨e, s4, e4, e5⟩
        case inr => obtain ⟨_, _, _, z⟩ := noX_ok e4; cases z
        obtain ⟨_, _, e4', z⟩ := noX_ok e4
        cases z
        refine hg x _ σ (wipeD env vs) st2 s4 H3 _ en1 _ ⟨((w.en.step t1).far (T2.trans t3.far)).wipe vs, ss3⟩ hx' e4' fun σ4 w4 => ?_
        rcases bnd_some e5 with ⟨c, s6, e6, e7⟩ | ⟨e, s6, e6, e7⟩
        case inr => obtain ⟨_, _, _, z⟩ := noX_ok e6; cases z
        obtain ⟨_, _, e6', z⟩ := noX_ok e6
        cases z
        refine ⟨_, en1, s4, _, w4, e6', fun b H5 ρ5 t5 ss5 hb => ?_⟩
        subst hb
        have t35 := t3.trans t5
        obtain ⟨c5, h5⟩ := ρ5
        have hh5 : h5 = Dd :: ρ1.h := t35.hid
        subst hh5
        have T5 : Step ρ1 H1 ⟨c5, ρ1.h⟩ H5 := t2.trans ⟨t35.pre, rfl, t35.keep, t35.new, t35.fz⟩
        have d5 : H5 Dd = some (.lst acc) := t35.keep _ _ hacc n2
        have n5 : Dd ∉ c5 := t35.nin hacc n2
        cases b with
        | false =>
          simp only [Bool.false_eq_true, if_false] at e7 ⊢
          exact ⟨c5, s6, acc, dacc, r2, T5, ss5, n5, d5, hda.step t35, by omega, by omega, e7, h1, h2⟩
        | true =>
          simp only [if_true] at e7 ⊢
          rcases bnd_some e7 with ⟨y, s8, e8, e9⟩ | ⟨e, s8, e8, e9⟩
          case inr => obtain ⟨_, _, _, z⟩ := noX_ok e8; cases z
          obtain ⟨_, _, e8', z⟩ := noX_ok e8
          cases z
          refine ⟨_, en1, s6, _, ⟨w4.en.step t5, ss5⟩, e8', fun v H9 ρ9 t9 ss9 hv => ?_⟩
          obtain ⟨c9, h9⟩ := ρ9
          have hh9 : h9 = Dd :: ρ1.h := t9.hid
          subst hh9
          have T9 : Step ρ1 H1 ⟨c9, ρ1.h⟩ H9 := T5.trans ⟨t9.pre, rfl, t9.keep, t9.new, t9.fz⟩
          have d9 : H9 Dd = some (.lst acc) := t9.keep _ _ d5 n5
          have n9 : Dd ∉ c9 := t9.nin d5 n5
          have mD : Dd ∈ (⟨c9, Dd :: ρ1.h⟩ : Mp).h := List.mem_cons_self
          have nfD : NoFz (H9 Dd) := by rw [d9]; trivial
          refine ⟨acc, d9, ?_, ?_⟩
          · have := hda.1
            exact Nat.lt_of_le_of_lt (m := 99999) (by omega) (by decide)
          · rcases bnd_some e9 with ⟨ys, s10, e10, e11⟩ | ⟨e, s10, e10, e11⟩
            case inr => exact absurd e10 lcL_exc
            cases e11
            refine ⟨c9, s8, acc ++ [v], dacc ++ [y], .ok ys s10, ⟨T9.pre, rfl, fun a o q m => by rw [upd_ne (nd a o q)]; exact T9.keep a o q m, T9.new, fun a o u q => by rw [upd_ne (nd a _ q)]; exact T9.fz a o u q⟩, ss9.grow mD n9 nfD, n9, upd_same, ?_, by omega, by simp; omega, e10, fun zs s q => ?_, fun e s q => by cases q⟩
            · exact (((hda.step t35).step t9).far (Far.grow mD nfD)).append (DRs.cons (hv.far (Far.grow mD nfD)) .nil)
            · cases q
              rw [h1 _ _ rfl, List.append_assoc]
              rfl
      · refine .inl ⟨stop i (by omega), ?_⟩
        rw [List.drop_of_length_le (by omega)] at hl
        cases hl
        have hr := h1 [] st2 rfl
        rw [List.append_nil] at hr
        have hh : ρ1.h = ρ.h := t1.hid
        rw [hh] at t2 ss2 hda
        exact h dacc st2 Dd acc H2 c2 hr (t1.trans t2) ss2 hD0 n2 (fun m => hDo (.inr (by rw [hh]; exact m))) hacc hda
  · subst e2
    exact ⟨ρ, env, st, _, w, e1, hx e s1 rfl⟩
end
end Fx
/-! Fx: comprehensions and calls as rules; operators, subscripts, built-ins by data. -/
namespace Fx
open PySem PySem.Spec PyProof.Rows L2

section
variable {X : Cx} {E : XK} {pos p : Pos} {fa fb : FE} {fs : FA} {ft : FT} {g : FG} {fi : FI} {fe : FE}
theorem pts0 : PTs X [] (rdT X.K E0 tYes1) := ⟨fun pins s σ H Q I h => pts_nil.run pins s σ H Q I (by
  obtain ⟨ρ, env, st, r, w, hf, hQ⟩ := h
  cases hf
  exact hQ.val w.st rfl)⟩
theorem lcF_ok {fi : FI} {vs : List Nat} {env : En} {st : Sto} {r : R (List D)} (h : lcF fi g ft fe vs env st = some r) : (∃ ds s, r = .ok ds s) ∨ ∃ e s, r = .exc e s := by
  cases r with
  | ok ds s => exact .inl ⟨ds, s, rfl⟩
  | exc e s => exact .inr ⟨e, s, rfl⟩
theorem lc_rd {vs : List Nat} {t : TG} (hg : OwnG X.K vs t g) {σ : L2.St} {H : Hp} {Q : VK} (h : rdE X.K E (fLc fi g ft fe vs) σ H Q) : tLc (rdI X.K E fi) t (rdT X.K E0 ft) (rdE X.K E0 fe) vs σ H Q := by
  obtain ⟨ρ, env, st, r, w, hf, hQ⟩ := h
  rcases bnd_some hf with ⟨ds, s, e1, e2⟩ | ⟨e, s, e1, e2⟩
  · cases e2
    refine lc_read hg w e1 (fun e s z => by cases z) fun ds' s1 p xs H' l z t hs hp hn hn2 hx hd => ?_
    cases z
    have ow : ∀ a, (⟨l, ρ.h⟩ : Mp).Own a → (⟨l, p :: ρ.h⟩ : Mp).Own a := fun a m => m.elim .inl fun z => .inr (List.mem_cons_of_mem _ z)
    have hd2 := hd.less (ρ' := ⟨l, ρ.h⟩) ⟨[], by simp⟩ ow
    exact hQ _ _ ⟨l, ρ.h⟩ t (hs.less rfl fun a m => List.mem_cons_of_mem _ m) (.lst ⟨fun m => m.elim hn hn2, hx⟩ hd2.1 hd2.2)
  · subst e2
    exact lc_read hg w e1 (fun e' s' z => by cases z; exact hQ) fun ds' s1 p xs H' l z => by cases z
theorem lc_rdC {vs : List Nat} {t : TG} (hg : OwnG X.K vs t g) {σ : L2.St} {H : Hp} {Q : VK} (h : rdE X.K E (fLcC fi g ft fe vs) σ H Q) : tLc (rdI X.K E fi) t (rdT X.K E0 ft) (rdE X.K E0 fe) vs σ H Q := by
  obtain ⟨ρ, env, st, r, w, hf, hQ⟩ := h
  rcases bnd_some hf with ⟨ds, s, e1, e2⟩ | ⟨e, s, e1, e2⟩
  · cases e2
    refine lc_read hg w e1 (fun e s z => by cases z) fun ds' s1 p xs H' l z t hs hp hn hn2 hx hd => ?_
    cases z
    have t2 : Step ρ H ⟨l ++ [p], ρ.h⟩ H' := by
      refine ⟨?_, rfl, t.keep, fun a m => ?_, ?_⟩
      · obtain ⟨q, e⟩ := t.pre
        exact ⟨q ++ [p], by show l ++ [p] = _; rw [show l = _ from e, List.append_assoc]⟩
      · rcases List.mem_append.mp m with z | z
        · exact t.new a z
        · rw [List.mem_singleton.mp z]; exact .inr hp
      · exact t.fz
    refine hQ _ _ ⟨l ++ [p], ρ.h⟩ t2 (hs.opened hn hx hd) (.ref ?_)
    have := hs.len
    show (l ++ [p])[s.length]? = some p
    rw [← this, List.getElem?_append_right (Nat.le_refl _)]; simp
  · subst e2
    exact lc_read hg w e1 (fun e' s' z => by cases z; exact hQ) fun ds' s1 p xs H' l z => by cases z
section
variable {elt tg iter : Expr} {ifs : List Expr} {scope : Scope} {own : List (Str × Nat)} {t : TG}
theorem v_lc (hc : X.calm = true) (hN : X.N.Nodup) (hi : VI X E tg iter fi) (ok : BlkOk X.N X.env.scope scope own)
    (hg : ∀ (s : Shared) (H : Hp) (C : Addr) (cl : List (Str × Addr)) (fp : List Addr), PG (X.blk s H scope (compEnvC scope cl C X.env) fp) tg t) (ho : OwnG X.K (own.map (·.2)) t g)
    (ht : ∀ (s : Shared) (H : Hp) (C : Addr) (cl : List (Str × Addr)) (fp : List Addr), PTs (X.blk s H scope (compEnvC scope cl C X.env) fp) ifs (rdT X.K E0 ft))
    (he : ∀ (s : Shared) (H : Hp) (C : Addr) (cl : List (Str × Addr)) (fp : List Addr), VE (X.blk s H scope (compEnvC scope cl C X.env) fp) E0 elt fe) (hs : ∀ x, foldedSetIterable iter X.env x = pure x := by intro _; rfl) :
    VE X E (.ListComp elt [⟨tg, iter, ifs, 0⟩] scope pos) (fLc fi g ft fe (own.map (·.2))) := PE.imp (pe_lc hc hN hi ok hg ht he hs) fun _ _ _ h => lc_rd ho h
theorem v_lcC (hc : X.calm = true) (hN : X.N.Nodup) (hi : VI X E tg iter fi) (ok : BlkOk X.N X.env.scope scope own)
    (hg : ∀ (s : Shared) (H : Hp) (C : Addr) (cl : List (Str × Addr)) (fp : List Addr), PG (X.blk s H scope (compEnvC scope cl C X.env) fp) tg t) (ho : OwnG X.K (own.map (·.2)) t g)
    (ht : ∀ (s : Shared) (H : Hp) (C : Addr) (cl : List (Str × Addr)) (fp : List Addr), PTs (X.blk s H scope (compEnvC scope cl C X.env) fp) ifs (rdT X.K E0 ft))
    (he : ∀ (s : Shared) (H : Hp) (C : Addr) (cl : List (Str × Addr)) (fp : List Addr), VE (X.blk s H scope (compEnvC scope cl C X.env) fp) E0 elt fe) (hs : ∀ x, foldedSetIterable iter X.env x = pure x := by intro _; rfl) :
    VE X E (.ListComp elt [⟨tg, iter, ifs, 0⟩] scope pos) (fLcC fi g ft fe (own.map (·.2))) := PE.imp (pe_lc hc hN hi ok hg ht he hs) fun _ _ _ h => lc_rdC ho h
theorem set_rd {K : PySem.W.Frag} {i : Nat} {f : FE} {Dn : Ends} {σ : L2.St} {H : Hp} (h : rdS K E (fSet i f) Dn σ H) : rdE K E f σ H fun x H1 => L2.gName i x σ H1 Dn.nx := by
  obtain ⟨ρ, env, st, r, w, hf, hQ⟩ := h
  refine rd_sb w hf hQ fun x dx s1 H1 ρ1 t1 w1 r1 hf hQ => ?_
  cases hf
  exact hQ _ H1 ρ1 .refl ⟨w1.en.set r1 i, w1.st⟩
theorem s_setLc {i : Nat} {y : Str} {py spos : Pos} (hc : X.calm = true) (hN : X.N.Nodup) (hy : X.N[i]? = some y) (hyl : X.env.scope.names.lookup y = some .local)
    (hsw : swapsWith (.ListComp elt [⟨tg, iter, ifs, 0⟩] scope pos) (some (.Name y py)) spos.line X.env = pure true) (hi : VI X E tg iter fi) (ok : BlkOk X.N X.env.scope scope own)
    (hg : ∀ (s : Shared) (H : Hp) (C : Addr) (cl : List (Str × Addr)) (fp : List Addr), PG (X.blk s H scope (compEnvC scope cl C X.env) fp) tg t) (ho : OwnG X.K (own.map (·.2)) t g)
    (ht : ∀ (s : Shared) (H : Hp) (C : Addr) (cl : List (Str × Addr)) (fp : List Addr), PTs (X.blk s H scope (compEnvC scope cl C X.env) fp) ifs (rdT X.K E0 ft))
    (he : ∀ (s : Shared) (H : Hp) (C : Addr) (cl : List (Str × Addr)) (fp : List Addr), VE (X.blk s H scope (compEnvC scope cl C X.env) fp) E0 elt fe) (hs : ∀ x, foldedSetIterable iter X.env x = pure x := by intro _; rfl) :
    VS X E (.Assign [.Name y py] (.ListComp elt [⟨tg, iter, ifs, 0⟩] scope pos) spos) (fSet i (fLc fi g ft fe (own.map (·.2)))) := PS.imp (ps_setLc hc hN hy hyl hsw hi ok hg ht he hs) fun _ _ _ h => lc_rd ho (set_rd h)
theorem s_setLcC {i : Nat} {y : Str} {py spos : Pos} (hc : X.calm = true) (hN : X.N.Nodup) (hy : X.N[i]? = some y) (hyl : X.env.scope.names.lookup y = some .local)
    (hsw : swapsWith (.ListComp elt [⟨tg, iter, ifs, 0⟩] scope pos) (some (.Name y py)) spos.line X.env = pure true) (hi : VI X E tg iter fi) (ok : BlkOk X.N X.env.scope scope own)
    (hg : ∀ (s : Shared) (H : Hp) (C : Addr) (cl : List (Str × Addr)) (fp : List Addr), PG (X.blk s H scope (compEnvC scope cl C X.env) fp) tg t) (ho : OwnG X.K (own.map (·.2)) t g)
    (ht : ∀ (s : Shared) (H : Hp) (C : Addr) (cl : List (Str × Addr)) (fp : List Addr), PTs (X.blk s H scope (compEnvC scope cl C X.env) fp) ifs (rdT X.K E0 ft))
    (he : ∀ (s : Shared) (H : Hp) (C : Addr) (cl : List (Str × Addr)) (fp : List Addr), VE (X.blk s H scope (compEnvC scope cl C X.env) fp) E0 elt fe) (hs : ∀ x, foldedSetIterable iter X.env x = pure x := by intro _; rfl) :
    VS X E (.Assign [.Name y py] (.ListComp elt [⟨tg, iter, ifs, 0⟩] scope pos) spos) (fSet i (fLcC fi g ft fe (own.map (·.2)))) := PS.imp (ps_setLc hc hN hy hyl hsw hi ok hg ht he hs) fun _ _ _ h => lc_rdC ho (set_rd h)
end
theorem pts1 {c : Expr} (h : VT X E0 c ft) : PTs X [c] (rdT X.K E0 ft) := pts_one h

/-! ### calls of defs -/
abbrev DF := List D → Sto → Option (R D)
/-- a def's promise by a function -/
def spF (K : PySem.W.Frag) (n : Nat) (F : DF) : Sp := fun vs H Q E => ∃ ρ ds st r, DRs K H ρ vs ds ∧ StR K H ρ st ∧ ds.length = n ∧ F ds st = some r ∧ Fin (DR K) K E ρ H Q r
def fCall (n : Nat) (F : DF) (a : FA) : FE := fun env st => bnd (a env st) fun ds s1 => if ds.length = n then F ds s1 else none
/-- with defaults -/
def fCallD (n : Nat) (F : DF) (a : FA) (more : List D) : FE := fun env st => bnd (a env st) fun ds s1 => if (ds ++ more).length = n then F (ds ++ more) s1 else none
theorem v_call {k n : Nat} {f : Addr} {fd : FuncData} {ps : List Str} {CX : CXT} {F : DF} {x : Str} {e : Expr} {es : List Expr} (G : FnOk X.prog X.w X.K X.mg X.base CX k f fd ps (spF X.K n F)) (hr : Room k X.A) (hg : Gl X x) (hm : X.mg x = some (.ref f)) (hk : PySem.W.keepIn X.K (.ref f) = true) (hb : Binds X.K fd ps [])
    (hx : Passes CX X E) (ha : VA X E (e :: es) fs) (h : ∀ t, PA X (e :: es) t → PE X (.Call (.Name x p) (e :: es) [] pos) (tCall (spF X.K n F) [] E t)) : VE X E (.Call (.Name x p) (e :: es) [] pos) (fCall n F fs) := by
  refine PE.imp (h _ ha) fun σ H Q ⟨ρ, env, st, r, w, hf, hQ⟩ => ?_
  refine rd_bind w hf hQ fun xs ds s1 H1 ρ1 t1 w1 r1 hf hQ => ?_
  split at hf
  · rename_i hl
    rw [List.append_nil]
    exact ⟨ρ1, ds, s1, r, r1, w1.st, hl, hf, hQ⟩
  · cases hf
theorem v_call0 {k : Nat} {f : Addr} {fd : FuncData} {ps : List Str} {CX : CXT} {F : DF} {x : Str} (h : PE X (.Call (.Name x p) [] [] pos) (tCall (spF X.K 0 F) [] E tNil)) : VE X E (.Call (.Name x p) [] [] pos) (fCall 0 F fNil) := by
  refine PE.imp h fun σ H Q ⟨ρ, env, st, r, w, hf, hQ⟩ => ?_
  exact ⟨ρ, [], st, r, .nil, w.st, rfl, hf, hQ⟩
/-- a body as a function -/
def fDef (n N : Nat) (fb : FS) : DF := fun ds st => match fb (ds.map some ++ List.replicate (N - n) none) st with
  | some (.nx _ s) => some (.ok .non s)
  | some (.rt d s) => some (.ok d s)
  | _ => none
def fDefX (n N : Nat) (fb : FS) : DF := fun ds st => match fb (ds.map some ++ List.replicate (N - n) none) st with
  | some (.nx _ s) => some (.ok .non s)
  | some (.rt d s) => some (.ok d s)
  | some (.exc e s) => some (.exc e s)
  | _ => none
end
theorem start_en {K : PySem.W.Frag} {H : Hp} {ρ : Mp} {vs : List V} {ds : List D} {N : List Str} {n : Nat} (h : DRs K H ρ vs ds) (hn : ds.length = n) : EnR K H ρ (L2.start N vs) (ds.map some ++ List.replicate (N.length - n) none) := by
  unfold L2.start
  have hl := h.1
  refine ⟨by simp [hl, hn], fun i d e => ?_⟩
  by_cases hi : i < ds.length
  · rw [List.getElem?_append_left (by simpa using hi), List.getElem?_map] at e
    cases q : ds[i]? with
    | none => rw [q] at e; cases e
    | some d' =>
      rw [q] at e
      have e : d' = d := by simpa using e
      subst e
      obtain ⟨v, e1, e2⟩ := h.get q
      exact ⟨v, by rw [List.getElem?_append_left (by simp; omega), List.getElem?_map, e1]; rfl, e2⟩
  · rw [List.getElem?_append_right (by simp; omega)] at e
    have := List.mem_of_getElem? e
    rw [List.mem_replicate] at this
    cases this.2
/-! ### closed data -/
mutual
def D.ok (n : Nat) : D → Bool
  | .ref k => decide (k < n)
  | .tup xs => D.oks n xs
  | .lst xs => D.oks n xs
  | .frt xs => D.oks n xs
  | .frz xs => D.oks n xs
  | .non => true
  | .bl _ => true
  | .int _ => true
  | .str _ => true
  | .ty _ => true
def D.oks (n : Nat) : List D → Bool
  | [] => true
  | d :: ds => D.ok n d && D.oks n ds
end
theorem D.oks_of {n : Nat} : ∀ {ds : List D}, (∀ (i : Nat) (d : D), ds[i]? = some d → D.ok n d = true) → D.oks n ds = true
  | [], _ => rfl
  | d :: ds, h => by
    unfold D.oks
    rw [h 0 d rfl, D.oks_of (ds := ds) fun i d' e => h (i + 1) d' (by simpa using e)]
    rfl
theorem D.oks_get {n : Nat} : ∀ {ds : List D} {i : Nat} {d : D}, D.oks n ds = true → ds[i]? = some d → D.ok n d = true
  | [], i, d, _, e => by simp at e
  | x :: ds, i, d, h, e => by
    unfold D.oks at h
    have h := (Bool.and_eq_true_iff.mp h)
    cases i with
    | zero => simp at e; subst e; exact h.1
    | succ i => exact D.oks_get h.2 (by simpa using e)
def Cell.ok (n : Nat) : Cell → Bool
  | .lst xs => D.oks n xs
  | .dct kvs => D.oks n (kvs.map (·.2))
  | .dcf kvs => D.oks n (kvs.map (·.2))
def StOk (st : Sto) : Prop := ∀ c ∈ st, c.ok st.length = true
section
variable {K : PySem.W.Frag} {H H' : Hp} {ρ ρ' : Mp} {v : V} {d : D} {xs : List V} {ds : List D} {st : Sto}
theorem get_pair {α β : Type} {xs : List α} {ds : List β} (l : xs.length = ds.length) {i : Nat} {d : β} (e : ds[i]? = some d) : ∃ x, xs[i]? = some x :=
  ⟨_, List.getElem?_eq_getElem (by rw [l]; exact (List.getElem?_eq_some_iff.mp e).1)⟩
theorem DR.ok (h : DR K H ρ v d) : D.ok ρ.c.length d = true := by
  induction h with
  | non => rfl
  | bl b => rfl
  | int i => rfl
  | str x => rfl
  | ty n => rfl
  | tup h l e ih => exact D.oks_of fun i d q => let ⟨x, e1⟩ := get_pair l q; ih i x d e1 q
  | lst h l e ih => exact D.oks_of fun i d q => let ⟨x, e1⟩ := get_pair l q; ih i x d e1 q
  | frt h l e ih => exact D.oks_of fun i d q => let ⟨x, e1⟩ := get_pair l q; ih i x d e1 q
  | frz h l e ih => exact D.oks_of fun i d q => let ⟨x, e1⟩ := get_pair l q; ih i x d e1 q
  | ref h => exact decide_eq_true (List.getElem?_eq_some_iff.mp h).1
theorem DRs.ok (h : DRs K H ρ xs ds) : D.oks ρ.c.length ds = true := D.oks_of fun i d q => let ⟨x, e1, e2⟩ := h.get q; e2.ok
theorem StR.ok (h : StR K H ρ st) : StOk st := fun c m => by
  obtain ⟨n, e⟩ := List.getElem?_of_mem m
  have hn : n < ρ.c.length := by rw [h.len]; exact (List.getElem?_eq_some_iff.mp e).1
  have q := h.cell n _ c (List.getElem?_eq_getElem hn) e
  rw [← h.len]
  cases c with
  | lst ds => obtain ⟨xs, _, q⟩ := q; exact q.ok
  | dct ds =>
    obtain ⟨xs, _, q⟩ := q
    exact D.oks_of fun i d e => by
      rw [List.getElem?_map] at e
      cases z : ds[i]? with
      | none => rw [z] at e; cases e
      | some p =>
        rw [z] at e
        obtain ⟨x, e1⟩ := get_pair q.1 z
        have := (q.2 i x p e1 z).2.ok
        simp at e
        rw [← e]; exact this
  | dcf ds =>
    obtain ⟨o, xs, _, q⟩ := q
    exact D.oks_of fun i d e => by
      rw [List.getElem?_map] at e
      cases z : ds[i]? with
      | none => rw [z] at e; cases e
      | some p =>
        rw [z] at e
        obtain ⟨x, e1⟩ := get_pair q.1 z
        have := (q.2 i x p e1 z).2.ok
        simp at e
        rw [← e]; exact this
/-- the first cells alone -/
theorem DR.cut {l t : List Addr} {hh : List Addr} (h : DR K H ⟨l ++ t, hh⟩ v d) (o : D.ok l.length d = true) : DR K H ⟨l, hh⟩ v d := by
  have ow : ∀ a, (⟨l, hh⟩ : Mp).Own a → (⟨l ++ t, hh⟩ : Mp).Own a := fun a m => m.elim (fun z => .inl (List.mem_append_left _ z)) .inr
  induction h with
  | non => exact .non
  | bl b => exact .bl b
  | int i => exact .int i
  | str x => exact .str x
  | ty n => exact .ty n
  | tup h l e ih => exact .tup ⟨fun m => h.1 (ow _ m), h.2⟩ l fun i x d e1 e2 => ih i x d e1 e2 (D.oks_get o e2)
  | lst h l e ih => exact .lst ⟨fun m => h.1 (ow _ m), h.2⟩ l fun i x d e1 e2 => ih i x d e1 e2 (D.oks_get o e2)
  | frt h l e ih => exact .frt (h.elim (fun z => .inl ⟨fun m => z.1 (ow _ m), z.2⟩) .inr) l fun i x d e1 e2 => ih i x d e1 e2 (D.oks_get o e2)
  | frz h l e ih => exact .frz (h.elim (fun z => .inl ⟨fun m => z.1 (ow _ m), z.2⟩) .inr) l fun i x d e1 e2 => ih i x d e1 e2 (D.oks_get o e2)
  | ref h =>
    have o := of_decide_eq_true o
    exact .ref (by rw [List.getElem?_append_left o] at h; exact h)
theorem StR.cut {s more : Sto} (h : StR K H ρ (s ++ more)) (o : StOk s) : ∃ l t, ρ.c = l ++ t ∧ l.length = s.length ∧ StR K H ⟨l, ρ.h⟩ s := by
  obtain ⟨c, hh⟩ := ρ
  have len : c.length = s.length + more.length := by simpa using h.len
  refine ⟨c.take s.length, c.drop s.length, (List.take_append_drop _ _).symm, by rw [List.length_take]; omega, ?_⟩
  have ll : (c.take s.length).length = s.length := by rw [List.length_take]; omega
  refine ⟨ll, ?_, fun n a cc e1 e2 => ?_, h.hid⟩
  · exact h.nd.sublist (List.take_sublist _ _)
  · have hn : n < s.length := (List.getElem?_eq_some_iff.mp e2).1
    have e1' : c[n]? = some a := by
      have e1 : (c.take s.length)[n]? = some a := e1
      rw [List.getElem?_take, if_pos hn] at e1; exact e1
    have q := h.cell n a cc e1' (by rw [List.getElem?_append_left hn]; exact e2)
    have oc := o cc (List.mem_of_getElem? e2)
    have e : c = c.take s.length ++ c.drop s.length := (List.take_append_drop _ _).symm
    rw [e] at q
    cases cc with
    | lst ds =>
      obtain ⟨xs, hx, q⟩ := q
      exact ⟨xs, hx, q.1, fun i x d e1 e2 => (q.2 i x d e1 e2).cut (by rw [ll]; exact D.oks_get oc e2)⟩
    | dct ds =>
      obtain ⟨xs, hx, q⟩ := q
      refine ⟨xs, hx, q.1, fun i x d e1 e2 => ⟨(q.2 i x d e1 e2).1, (q.2 i x d e1 e2).2.cut ?_⟩⟩
      rw [ll]
      exact D.oks_get oc (i := i) (by rw [List.getElem?_map, e2]; rfl)
    | dcf ds =>
      obtain ⟨o, xs, hx, q⟩ := q
      refine ⟨o, xs, hx, q.1, fun i x d e1 e2 => ⟨(q.2 i x d e1 e2).1, (q.2 i x d e1 e2).2.cut ?_⟩⟩
      rw [ll]
      exact D.oks_get oc (i := i) (by rw [List.getElem?_map, e2]; rfl)
end
section
variable {P : Program} {w : World} {K : PySem.W.Frag} {mg : Str → Option Value} {base : Heap}
/-- the rule of a def that raises nothing -/
theorem fn_ok {x qual : Str} {st : Stmt} {f : Addr} {fd : FuncData} {N ps : List Str} {k : Nat} {fb : FS} (F : Fun K x qual st f fd) (S : FnScope N ps (defScope st))
    (hb : ∀ (cdv : Value) (A : Around) (outer : List Env) (s : Shared) (H : Hp) (E : XK), Room k (A.deeper (envOfC qual (defScope st) s.heap.objs.size f cdv)) → VSs (cxOf CX0 P w K mg base N qual (defScope st) f cdv A outer s H E).nox E0 (defBody st) fb) :
    FnOk P w K mg base CX0 (k + 1) f fd ps (spF K ps.length (fDef ps.length N.length fb)) := by
  refine F.ok S (fun vs H Q E ⟨ρ, ds, st, r, h1, h2, h3, _⟩ => h1.1.trans h3) fun cdv A outer s H vs Q E hr ⟨ρ, ds, st, r, h1, h2, h3, h4, h5⟩ => ?_
  refine ⟨_, hb cdv A outer s H E hr, ?_⟩
  unfold fDef at h4
  split at h4
  · rename_i en s1 e
    cases h4
    exact ⟨ρ, _, st, _, ⟨start_en h1 h3, h2⟩, e, fun σ' H' ρ' t w => h5 .non H' ρ' t w.st .non⟩
  · rename_i d s1 e
    cases h4
    exact ⟨ρ, _, st, _, ⟨start_en h1 h3, h2⟩, e, fun v H' ρ' t w q => h5 v H' ρ' t w q⟩
  · cases h4
/-- a clearer function: what the derived one tells, but for cells that nobody knows any more -/
theorem spF_le {n : Nat} {F G : DF}
    (e : ∀ ds st r, ds.length = n → D.oks st.length ds = true → StOk st → G ds st = some r → ∃ d s more, r = .ok d s ∧ F ds st = some (.ok d (s ++ more)) ∧ (more = [] ∨ (st.length ≤ s.length ∧ D.ok s.length d = true ∧ StOk s))) : ∀ vs H Q E, spF K n G vs H Q E → spF K n F vs H Q E := by
  intro vs H Q E ⟨ρ, ds, st, r, h1, h2, h3, h4, h5⟩
  obtain ⟨d, s, more, rfl, q, z⟩ := e ds st r h3 (h2.len ▸ h1.ok) h2.ok h4
  refine ⟨ρ, ds, st, _, h1, h2, h3, q, fun v H' ρ' t hs hd => ?_⟩
  rcases z with rfl | ⟨z0, z1, z2⟩
  · rw [List.append_nil] at hs
    exact h5 v H' ρ' t hs hd
  · obtain ⟨l, t2, e1, e2, e3⟩ := hs.cut z2
    refine h5 v H' ⟨l, ρ'.h⟩ ⟨?_, t.hid, t.keep, fun a m => t.new a (by rw [e1]; exact List.mem_append_left _ m), t.fz⟩ e3 ?_
    · obtain ⟨t1, q1⟩ := t.pre
      have q2 : ρ.c ++ t1 = l ++ t2 := q1.symm.trans e1
      have hl : ρ.c.length ≤ l.length := by rw [e2, h2.len]; exact z0
      rcases List.append_eq_append_iff.mp q2 with ⟨as, e, _⟩ | ⟨bs, e, _⟩
      · exact ⟨as, e⟩
      · have : bs = [] := by
          have := congrArg List.length e
          rw [List.length_append] at this
          exact List.eq_nil_of_length_eq_zero (by omega)
        subst this
        exact ⟨[], by rw [e]; simp⟩
    · obtain ⟨c, hh⟩ := ρ'
      have e1 : c = l ++ t2 := e1
      subst e1
      exact hd.cut (by rw [e2]; exact z1)
end
end Fx
/-! Fx: operators, subscripts, built-ins by data. -/
namespace Fx
open PySem PySem.Spec PyProof.Rows L2

/-! ### sequences -/
/-! a list of any kind; a list that has not been locked; a list or a tuple -/
def seqS (st : Sto) (d : D) : Option (List D) := match d with
  | .lst xs => some xs
  | .frz xs => some xs
  | .ref n => match st[n]? with
    | some (.lst xs) => some xs
    | _ => none
  | _ => none
def seqP (st : Sto) (d : D) : Option (List D) := match d with
  | .lst xs => some xs
  | .ref n => match st[n]? with
    | some (.lst xs) => some xs
    | _ => none
  | _ => none
section
variable {K : PySem.W.Frag} {H H' : Hp} {ρ : Mp} {st : Sto} {v : V} {d : D} {ds : List D}
theorem seqP_inv (s : StR K H ρ st) (h : DR K H ρ v d) (e : seqP st d = some ds) : ∃ a xs, v = .ref a ∧ H a = some (.lst xs) ∧ DRs K H ρ xs ds := by
  cases h <;> first | cases e | skip
  · rename_i a xs h l q; exact ⟨a, xs, rfl, h.2, l, q⟩
  · rename_i n a h
    unfold seqP at e
    simp only at e
    split at e
    · rename_i ys hy
      cases e
      obtain ⟨xs, e1, e2⟩ := s.lstAt h hy
      exact ⟨a, xs, rfl, e1, e2⟩
    · cases e
theorem seqS_inv (s : StR K H ρ st) (h : DR K H ρ v d) (e : seqS st d = some ds) : ∃ a xs, v = .ref a ∧ SqL K H a xs ∧ DRs K H ρ xs ds := by
  cases h <;> first | cases e | skip
  · rename_i a xs h l q; exact ⟨a, xs, rfl, h.seq, l, q⟩
  · rename_i a xs h l q; exact ⟨a, xs, rfl, h.seq, l, q⟩
  · rename_i n a h
    unfold seqS at e
    simp only at e
    split at e
    · rename_i ys hy
      cases e
      obtain ⟨xs, e1, e2⟩ := s.lstAt h hy
      exact ⟨a, xs, rfl, .inl (.inl e1), e2⟩
    · cases e
theorem new_lst {p : Addr} {xs : List V} (s : StR K H ρ st) (hp : H p = none) (h : DRs K H ρ xs ds) : Same H (upd H p (.lst xs)) ∧ DR K (upd H p (.lst xs)) ρ (.ref p) (.lst ds) := by
  have sm := Fx.same_upd (o := .lst xs) hp
  exact ⟨sm, .lst ⟨s.new hp, upd_same⟩ h.1 (h.step (.same sm)).2⟩
theorem new_tup {p : Addr} {o : Obj} {xs : List V} (s : StR K H ρ st) (hp : H p = none) (ho : o.dict = none) (h : DRs K H ρ xs ds) : Same H (upd H p (.frz o (.tup xs))) ∧ DR K (upd H p (.frz o (.tup xs))) ρ (.ref p) (.tup ds) := by
  have sm := Fx.same_upd (o := .frz o (.tup xs)) hp
  exact ⟨sm, .tup ⟨s.new hp, o, upd_same, ho⟩ h.1 (h.step (.same sm)).2⟩
/-- .. whose object nobody knows -/
theorem new_frt {p : Addr} {xs : List V} (s : StR K H ρ st) (hp : H p = none) (h : DRs K H ρ xs ds) : Same H (upd H p (.tup xs)) ∧ DR K (upd H p (.tup xs)) ρ (.ref p) (.frt ds) := by
  have sm := Fx.same_upd (o := .tup xs) hp
  exact ⟨sm, .frt (.inl ⟨s.new hp, .inl upd_same⟩) h.1 (h.step (.same sm)).2⟩
theorem DRs.ints : ∀ {ns : List Int} {xs : List V}, DRs K H ρ xs (ns.map D.int) → xs = ns.map V.int
  | [], xs, h => h.nil_inv
  | n :: ns, xs, h => by
    obtain ⟨x, ys, rfl, q1, q2⟩ := DRs.cons_inv (d := .int n) (ds := ns.map D.int) h
    cases q1
    rw [DRs.ints q2]; rfl
theorem DRs.bls : ∀ {ns : List Bool} {xs : List V}, DRs K H ρ xs (ns.map D.bl) → xs = ns.map V.bl
  | [], xs, h => h.nil_inv
  | n :: ns, xs, h => by
    obtain ⟨x, ys, rfl, q1, q2⟩ := DRs.cons_inv (d := .bl n) (ds := ns.map D.bl) h
    cases q1
    rw [DRs.bls q2]; rfl
end
/-- all ints, all truths -/
def asInts : List D → Option (List Int)
  | [] => some []
  | .int i :: ds => (asInts ds).map (i :: ·)
  | _ => none
def asBls : List D → Option (List Bool)
  | [] => some []
  | .bl i :: ds => (asBls ds).map (i :: ·)
  | _ => none
theorem asInts_some : ∀ {ds : List D} {ns : List Int}, asInts ds = some ns → ds = ns.map D.int
  | [], ns, h => by cases h; rfl
  | d :: ds, ns, h => by
    cases d <;> first | cases h | skip
    rename_i i
    obtain ⟨ms, e, rfl⟩ := map_some (show (asInts ds).map (i :: ·) = some ns from h)
    rw [asInts_some e]; rfl
theorem asBls_some : ∀ {ds : List D} {ns : List Bool}, asBls ds = some ns → ds = ns.map D.bl
  | [], ns, h => by cases h; rfl
  | d :: ds, ns, h => by
    cases d <;> first | cases h | skip
    rename_i i
    obtain ⟨ms, e, rfl⟩ := map_some (show (asBls ds).map (i :: ·) = some ns from h)
    rw [asBls_some e]; rfl
@[simp] theorem asInts_map (ns : List Int) : asInts (ns.map D.int) = some ns := by induction ns with
  | nil => rfl
  | cons n ns ih => show (asInts (ns.map D.int)).map (n :: ·) = _; rw [ih]; rfl
@[simp] theorem asBls_map (ns : List Bool) : asBls (ns.map D.bl) = some ns := by induction ns with
  | nil => rfl
  | cons n ns ih => show (asBls (ns.map D.bl)).map (n :: ·) = _; rw [ih]; rfl

/-! ### rules side by side -/
theorem opr_or {X : Cx} {f : Value → Value → Sem Value} {r r' : R2} (h : OpR X f r) (h' : OpR X f r') : OpR X f (fun x y H Q => r x y H Q ∨ r' x y H Q) := fun pins s σ H x y v u Q I rx ry q => q.elim (h pins s σ H x y v u Q I rx ry) (h' pins s σ H x y v u Q I rx ry)
theorem car_or {X : Cx} {f : Value} {r r' : List V → Hp → VK → Prop} (h : CallR X f r) (h' : CallR X f r') : CallR X f (fun x H Q => r x H Q ∨ r' x H Q) := fun pins s σ H x v Q I rx q => q.elim (h pins s σ H x v Q I rx) (h' pins s σ H x v Q I rx)

/-! ### arithmetic -/
/-- small enough for a product -/
def Sz (i : Int) : Prop := i.natAbs.log2 < 60000000
instance (i : Int) : Decidable (Sz i) := inferInstanceAs (Decidable (_ < _))
theorem Sz.mul {i j : Int} (h : Sz i) (k : Sz j) : CMulX i j := by
  have b : ∀ x : Int, Builtin.Int.intBits x ≤ x.natAbs.log2 + 1 := fun x => by
    unfold Builtin.Int.intBits
    split <;> omega
  have h1 := b i
  have h2 := b j
  unfold Sz at h k
  unfold CMulX
  omega
/-- t + u, of tuples -/
def catT : List D → List D → D
  | [], ys => .tup ys
  | xs, [] => .tup xs
  | xs, ys => .frt (xs ++ ys)
def dAdd (st : Sto) (x y : D) : Option D := match x, y with
  | .int i, .int j => some (.int (i + j))
  | .str i, .str j => if i.length + j.length ≤ 1000000 then some (.str (i ++ j)) else none
  | .tup xs, .tup ys => if xs.length + ys.length ≤ 1000000 then some (catT xs ys) else none
  | x, y => match seqP st x, seqP st y with
    | some xs, some ys => if xs.length + ys.length ≤ 1000000 then some (.lst (xs ++ ys)) else none
    | _, _ => none
def dSub (_ : Sto) (x y : D) : Option D := match x, y with
  | .int i, .int j => some (.int (i - j))
  | _, _ => none
def dMul (_ : Sto) (x y : D) : Option D := match x, y with
  | .int i, .int j => if Sz i ∧ Sz j then some (.int (i * j)) else none
  | _, _ => none
def dDiv (_ : Sto) (x y : D) : Option D := match x, y with
  | .int i, .int j => if j ≠ 0 ∧ j.natAbs.log2 < 9000 then some (.int (i.fdiv j)) else none
  | _, _ => none
def dMod (_ : Sto) (x y : D) : Option D := match x, y with
  | .int i, .int j => if j ≠ 0 then some (.int (i.fmod j)) else none
  | _, _ => none
def dPow (_ : Sto) (x y : D) : Option D := match x, y with
  | .int i, .int j => if 0 ≤ j ∧ j ≤ 100 ∧ i.natAbs < 1000 then some (.int (i ^ j.toNat)) else none
  | _, _ => none
def dNeg (_ : Sto) (x : D) : Option D := match x with
  | .int i => some (.int (-i))
  | _ => none
theorem le_line {n : Nat} (h : n ≤ 1000000) : n ≤ sizeLine := Nat.le_trans h (by decide)
section
variable {X : Cx} {K : PySem.W.Frag}
def rAddAll (K : PySem.W.Frag) : R2 := fun x y H Q => ((rI0 fun i j => .int (i + j)) x y H Q ∨ (∃ i j, x = .str i ∧ y = .str j ∧ i.length + j.length ≤ sizeLine ∧ Q (.str (i ++ j)) H)) ∨ rCatA K x y H Q ∨ rCat x y H Q
theorem op_addA : OpR X (binaryOp .Add) (rAddAll X.K) := opr_or (opr_or op_add op_add_str) (opr_or op_catA op_cat)
theorem add_p : OpP K (rAddAll K) dAdd := by
  intro ρ H st x y dx dy d Q hs hx hy e h
  unfold dAdd at e
  split at e
  · cases e; cases hx; cases hy
    exact .inl (.inl ⟨_, _, rfl, rfl, h _ H (Same.refl H) (.int _)⟩)
  · split at e
    · rename_i hl
      cases e; cases hx; cases hy
      exact .inl (.inr ⟨_, _, rfl, rfl, le_line hl, h _ H (Same.refl H) (.str _)⟩)
    · cases e
  · split at e
    · rename_i xs ys hl
      cases e
      obtain ⟨a, us, rfl, q1, q2⟩ := hx.tup_inv
      obtain ⟨b, ws, rfl, q3, q4⟩ := hy.tup_inv
      refine .inr (.inl ⟨a, b, us, ws, rfl, rfl, q1.seq, q3.seq, le_line (by rw [q2.1, q4.1]; exact hl), fun z => ?_, fun z z2 => ?_, fun z z2 p hp => ?_⟩)
      · subst z
        have := q2.1
        have : xs = [] := List.eq_nil_of_length_eq_zero this.symm
        subst this
        exact h _ H (Same.refl H) hy
      · subst z2
        have := q4.1
        have : ys = [] := List.eq_nil_of_length_eq_zero this.symm
        subst this
        have e : catT xs [] = .tup xs := by cases xs <;> rfl
        rw [e] at h
        exact h _ H (Same.refl H) hx
      · obtain ⟨sm, q⟩ := new_frt hs hp (q2.append q4)
        have e : catT xs ys = .frt (xs ++ ys) := by
          cases xs with
          | nil => exact absurd (List.eq_nil_of_length_eq_zero q2.1) z
          | cons x xs =>
            cases ys with
            | nil => exact absurd (List.eq_nil_of_length_eq_zero q4.1) z2
            | cons y ys => rfl
        rw [e] at h
        exact h _ _ sm q
    · cases e
  · split at e
    · rename_i xs ys e1 e2
      split at e
      · rename_i hl
        cases e
        obtain ⟨a, us, rfl, q1, q2⟩ := seqP_inv hs hx e1
        obtain ⟨b, ws, rfl, q3, q4⟩ := seqP_inv hs hy e2
        refine .inr (.inr ⟨a, b, us, ws, rfl, rfl, q1, q3, le_line (by rw [q2.1, q4.1]; exact hl), fun p hp => ?_⟩)
        obtain ⟨sm, q⟩ := new_lst hs hp (q2.append q4)
        exact h _ _ sm q
      · cases e
    · cases e
theorem sub_p : OpP K (rI0 fun i j => .int (i - j)) dSub := by
  intro ρ H st x y dx dy d Q hs hx hy e h
  unfold dSub at e
  split at e
  · cases e; cases hx; cases hy
    exact ⟨_, _, rfl, rfl, h _ H (Same.refl H) (.int _)⟩
  · cases e
theorem mul_p : OpP K (rI CMulX fun i j => .int (i * j)) dMul := by
  intro ρ H st x y dx dy d Q hs hx hy e h
  unfold dMul at e
  split at e
  · split at e
    · rename_i hz
      cases e; cases hx; cases hy
      exact ⟨_, _, rfl, rfl, hz.1.mul hz.2, h _ H (Same.refl H) (.int _)⟩
    · cases e
  · cases e
def CDivG (_ j : Int) : Prop := j ≠ 0 ∧ j.natAbs.log2 < 9000
theorem op_fdivG : OpR X (binaryOp .FloorDiv) (rI CDivG fun i j => .int (i.fdiv j)) := by
  intro pins s σ H x y v u Q I rx ry h
  obtain ⟨i, j, rfl, rfl, hc, q⟩ := h
  obtain ⟨t, rfl⟩ := rx
  obtain ⟨t', rfl⟩ := ry
  exact floordiv_int hc.1 ⟨.int _, H, I.tok _, ⟨_, rfl⟩, q⟩ (.inl (PyProof.noPylong_of_log2 hc.2))
theorem div_p : OpP K (rI CDivG fun i j => .int (i.fdiv j)) dDiv := by
  intro ρ H st x y dx dy d Q hs hx hy e h
  unfold dDiv at e
  split at e
  · split at e
    · rename_i hz
      cases e; cases hx; cases hy
      exact ⟨_, _, rfl, rfl, hz, h _ H (Same.refl H) (.int _)⟩
    · cases e
  · cases e
theorem mod_p : OpP K (rI (fun _ j => j ≠ 0) fun i j => .int (i.fmod j)) dMod := by
  intro ρ H st x y dx dy d Q hs hx hy e h
  unfold dMod at e
  split at e
  · split at e
    · rename_i hz
      cases e; cases hx; cases hy
      exact ⟨_, _, rfl, rfl, hz, h _ H (Same.refl H) (.int _)⟩
    · cases e
  · cases e
theorem pow_p : OpP K (rI CPow fun i j => .int (i ^ j.toNat)) dPow := by
  intro ρ H st x y dx dy d Q hs hx hy e h
  unfold dPow at e
  split at e
  · split at e
    · rename_i hz
      cases e; cases hx; cases hy
      refine ⟨_, _, rfl, rfl, ⟨hz.1, by omega, ?_⟩, h _ H (Same.refl H) (.int _)⟩
      exact Nat.lt_trans hz.2.2 (by decide)
    · cases e
  · cases e
theorem neg_p : UnP K (rU fun i => .int (-i)) dNeg := by
  intro ρ H st x dx d Q hs hx e h
  unfold dNeg at e
  split at e
  · cases e; cases hx
    exact ⟨_, rfl, h _ H (Same.refl H) (.int _)⟩
  · cases e

/-! ### comparisons -/
def dCmp (p : Int → Int → Bool) (_ : Sto) (x y : D) : Option D := match x, y with
  | .int i, .int j => some (.bl (p i j))
  | _, _ => none
abbrev dLt := dCmp fun i j => decide (i < j)
abbrev dLe := dCmp fun i j => decide (i ≤ j)
abbrev dGt := dCmp fun i j => decide (j < i)
abbrev dGe := dCmp fun i j => decide (j ≤ i)
theorem cmp_p {p : Int → Int → Bool} : OpP K (rI0 fun i j => .bl (p i j)) (dCmp p) := by
  intro ρ H st x y dx dy d Q hs hx hy e h
  unfold dCmp at e
  split at e
  · cases e; cases hx; cases hy
    exact ⟨_, _, rfl, rfl, h _ H (Same.refl H) (.bl _)⟩
  · cases e
def dIsN (_ : Sto) (x y : D) : Option D := match y with
  | .non => some (.bl (match x with | .non => true | _ => false))
  | _ => none
def dNotN (_ : Sto) (x y : D) : Option D := match y with
  | .non => some (.bl (match x with | .non => false | _ => true))
  | _ => none
theorem isN_p : OpP K (fun x y H Q => y = .non ∧ Q (.bl (decide (x = .non))) H) dIsN := by
  intro ρ H st x y dx dy d Q hs hx hy e h
  unfold dIsN at e
  split at e
  · cases e; cases hy
    refine ⟨rfl, h _ H (Same.refl H) ?_⟩
    cases hx <;> exact .bl _
  · cases e
theorem notN_p : OpP K (fun x y H Q => y = .non ∧ Q (.bl (!decide (x = .non))) H) dNotN := by
  intro ρ H st x y dx dy d Q hs hx hy e h
  unfold dNotN at e
  split at e
  · cases e; cases hy
    refine ⟨rfl, h _ H (Same.refl H) ?_⟩
    cases hx <;> exact .bl _
  · cases e
/-! data without references, as the library says it -/
mutual
def pd : D → Option PyData
  | .non => some .none
  | .bl b => some (.bool b)
  | .int i => some (.int i)
  | .str x => some (.str x)
  | .tup xs => (pds xs).map .tuple
  | .frt xs => (pds xs).map .tuple
  | .lst xs => (pds xs).map .list
  | .frz xs => (pds xs).map .list
  | .ty _ => none
  | .ref _ => none
def pds : List D → Option (List PyData)
  | [] => some []
  | d :: ds => (pd d).bind fun e => (pds ds).map (e :: ·)
end
/-! .. or a cell of such -/
def pdS (st : Sto) (d : D) : Option PyData := match d with
  | .ref n => match st[n]? with
    | some (.lst xs) => (pds xs).map .list
    | _ => none
  | d => pd d
section
variable {H : Hp} {ρ : Mp} {st : Sto}
mutual
theorem pd_dp : ∀ {d : D} {e : PyData} {v : V}, pd d = some e → DR K H ρ v d → Dp K H v e
  | .non, e, v, h, r => by cases h; cases r; exact .non
  | .bl b, e, v, h, r => by cases h; cases r; exact .bl b
  | .int i, e, v, h, r => by cases h; cases r; exact .int i
  | .str x, e, v, h, r => by cases h; cases r; exact .str x
  | .tup xs, e, v, h, r => by
    obtain ⟨es, e1, rfl⟩ := map_some (show (pds xs).map PyData.tuple = some e from h)
    obtain ⟨a, us, rfl, q1, q2⟩ := r.tup_inv
    exact .tup q1.seq (pds_dp e1 q2)
  | .frt xs, e, v, h, r => by
    obtain ⟨es, e1, rfl⟩ := map_some (show (pds xs).map PyData.tuple = some e from h)
    obtain ⟨a, us, rfl, q1, q2⟩ := r.frt_inv
    exact .tup q1.seq (pds_dp e1 q2)
  | .lst xs, e, v, h, r => by
    obtain ⟨es, e1, rfl⟩ := map_some (show (pds xs).map PyData.list = some e from h)
    obtain ⟨a, us, rfl, q1, q2⟩ := r.lst_inv
    exact .lst q1.seq (pds_dp e1 q2)
  | .frz xs, e, v, h, r => by
    obtain ⟨es, e1, rfl⟩ := map_some (show (pds xs).map PyData.list = some e from h)
    obtain ⟨a, us, rfl, q1, q2⟩ := r.frz_inv
    exact .lst q1.seq (pds_dp e1 q2)
  | .ty _, e, v, h, r => by cases h
  | .ref _, e, v, h, r => by cases h
theorem pds_dp : ∀ {ds : List D} {es : List PyData} {vs : List V}, pds ds = some es → DRs K H ρ vs ds → DpAll K H vs es
  | [], es, vs, h, r => by cases h; rw [r.nil_inv]; exact .nil
  | d :: ds, es, vs, h, r => by
    obtain ⟨e, e1, h2⟩ := Option.bind_eq_some_iff.mp (show (pd d).bind _ = some es from h)
    obtain ⟨fs, e2, rfl⟩ := map_some h2
    obtain ⟨x, xs, rfl, q1, q2⟩ := r.cons_inv
    exact .cons (pd_dp e1 q1) (pds_dp e2 q2)
end
theorem pdS_dp {d : D} {e : PyData} {v : V} (s : StR K H ρ st) (h : pdS st d = some e) (r : DR K H ρ v d) : Dp K H v e := by
  unfold pdS at h
  split at h
  · split at h
    · rename_i xs hx
      obtain ⟨es, e1, rfl⟩ := map_some h
      obtain ⟨a, rfl, q⟩ := r.ref_inv
      obtain ⟨us, q1, q2⟩ := s.lstAt q hx
      exact .lst (.inl (.inl q1)) (pds_dp e1 q2)
    · cases h
  · exact pd_dp h r
end
def dEq (st : Sto) (x y : D) : Option D := match pdS st x, pdS st y with
  | some a, some b => if SeqAt.shaped a = true ∧ SeqAt.shaped b = true then some (.bl (PyData.eqv a b)) else none
  | _, _ => none
def dNe (st : Sto) (x y : D) : Option D := match pdS st x, pdS st y with
  | some a, some b => if SeqAt.shaped a = true ∧ SeqAt.shaped b = true then some (.bl (!PyData.eqv a b)) else none
  | _, _ => none
theorem eq_p : OpP K (rEqD K) dEq := by
  intro ρ H st x y dx dy d Q hs hx hy e h
  unfold dEq at e
  split at e
  · rename_i a b e1 e2
    split at e
    · rename_i hsh
      cases e
      exact ⟨a, b, pdS_dp hs e1 hx, pdS_dp hs e2 hy, hsh.1, hsh.2, h _ H (Same.refl H) (.bl _)⟩
    · cases e
  · cases e
theorem ne_p : OpP K (rNeD K) dNe := by
  intro ρ H st x y dx dy d Q hs hx hy e h
  unfold dNe at e
  split at e
  · rename_i a b e1 e2
    split at e
    · rename_i hsh
      cases e
      exact ⟨a, b, pdS_dp hs e1 hx, pdS_dp hs e2 hy, hsh.1, hsh.2, h _ H (Same.refl H) (.bl _)⟩
    · cases e
  · cases e
/-- flat data as a value -/
def fv : D → Option V
  | .non => some .non
  | .bl b => some (.bl b)
  | .int i => some (.int i)
  | .str x => some (.str x)
  | _ => none
def fvs : List D → Option (List V)
  | [] => some []
  | d :: ds => (fv d).bind fun e => (fvs ds).map (e :: ·)
theorem fv_eq {H : Hp} {ρ : Mp} {v u : V} {d : D} (h : fv d = some u) (r : DR K H ρ v d) : v = u ∧ flatV u = true := by
  cases r <;> first | (cases h; exact ⟨rfl, rfl⟩) | cases h
theorem fvs_eq {H : Hp} {ρ : Mp} : ∀ {vs us : List V} {ds : List D}, fvs ds = some us → DRs K H ρ vs ds → vs = us ∧ us.all flatV = true
  | vs, us, [], h, r => by cases h; exact ⟨r.nil_inv, rfl⟩
  | vs, us, d :: ds, h, r => by
    obtain ⟨e, e1, h2⟩ := Option.bind_eq_some_iff.mp (show (fv d).bind _ = some us from h)
    obtain ⟨fs, e2, rfl⟩ := map_some h2
    obtain ⟨x, xs, rfl, q1, q2⟩ := r.cons_inv
    obtain ⟨rfl, f1⟩ := fv_eq e1 q1
    obtain ⟨rfl, f2⟩ := fvs_eq e2 q2
    exact ⟨rfl, by rw [List.all_cons, f1, f2]; rfl⟩
def seqLT (st : Sto) (d : D) : Option (List D) := match seqT d with
  | some xs => some xs
  | none => seqS st d
def dIn (neg : Bool) (st : Sto) (x y : D) : Option D := match fv x, (seqLT st y).bind fvs with
  | some u, some us => some (.bl (if neg then !inV u us else inV u us))
  | _, _ => none
theorem in_p {neg : Bool} : OpP K (rIn K neg) (dIn neg) := by
  intro ρ H st x y dx dy d Q hs hx hy e h
  unfold dIn at e
  split at e
  · rename_i u us e1 e2
    cases e
    obtain ⟨ds, e3, e4⟩ := Option.bind_eq_some_iff.mp e2
    obtain ⟨rfl, f⟩ := fv_eq e1 hx
    unfold seqLT at e3
    split at e3
    · rename_i zs ez
      cases e3
      obtain ⟨a, xs, rfl, q1, q2⟩ := hy.seqT_inv ez
      obtain ⟨rfl, f2⟩ := fvs_eq e4 q2
      exact ⟨a, _, rfl, .inr q1.seq, f, f2, h _ H (Same.refl H) (.bl _)⟩
    · obtain ⟨a, xs, rfl, q1, q2⟩ := seqS_inv hs hy e3
      obtain ⟨rfl, f2⟩ := fvs_eq e4 q2
      exact ⟨a, _, rfl, .inl q1, f, f2, h _ H (Same.refl H) (.bl _)⟩
  · cases e
/-! ### subscripts -/
def dIx (st : Sto) (x y : D) : Option D := match y with
  | .int i => (seqLT st x).bind fun xs => atI xs i
  | _ => none
theorem atI_DRs {H : Hp} {ρ : Mp} {xs : List V} {ds : List D} {i : Int} {d : D} (h : DRs K H ρ xs ds) (e : atI ds i = some d) : ∃ x, atI xs i = some x ∧ DR K H ρ x d := by
  unfold atI at e ⊢
  obtain ⟨j, e1, e2⟩ := Option.bind_eq_some_iff.mp e
  obtain ⟨x, e3, q⟩ := h.get e2
  exact ⟨x, by rw [h.1, e1]; exact e3, q⟩
def rIxLT (K : PySem.W.Frag) : R2 := fun x y H Q => rIxL K x y H Q ∨ rIxT K x y H Q
theorem ix_lt : IxR X (rIxLT X.K) := ix_list.or ix_tup
theorem ix_p : OpP K (rIxLT K) dIx := by
  intro ρ H st x y dx dy d Q hs hx hy e h
  unfold dIx at e
  split at e
  · rename_i i
    cases hy
    obtain ⟨ds, e1, e2⟩ := Option.bind_eq_some_iff.mp e
    unfold seqLT at e1
    split at e1
    · rename_i zs ez
      cases e1
      obtain ⟨a, xs, rfl, q1, q2⟩ := hx.seqT_inv ez
      obtain ⟨v, e3, q3⟩ := atI_DRs q2 e2
      exact .inr ⟨a, xs, i, v, rfl, rfl, q1.seq, e3, h _ H (Same.refl H) q3⟩
    · obtain ⟨a, xs, rfl, q1, q2⟩ := seqS_inv hs hx e1
      obtain ⟨v, e3, q3⟩ := atI_DRs q2 e2
      exact .inl ⟨a, xs, i, v, rfl, rfl, q1, e3, h _ H (Same.refl H) q3⟩
  · cases e
end
end Fx
/-! Fx: built-ins, slices, methods, by data. -/
namespace Fx
open PySem PySem.Spec PyProof.Rows L2

/-! ### built-in calls -/
def fCa (g : Sto → List D → Option D) (a : FA) : FE := fun env st => bnd (a env st) fun ds s1 => (g s1 ds).map (R.ok · s1)
section
variable {X : Cx} {E : XK} {pos p : Pos} {fs : FA} {e : Expr} {es : List Expr} {K : PySem.W.Frag}
theorem ca_rd {K : PySem.W.Frag} {r : List V → Hp → VK → Prop} {g : Sto → List D → Option D} (hr : CaP K r g) {σ : L2.St} {H : Hp} {Q : VK} (h : rdE K E (fCa g fs) σ H Q) : tCB r (rdA K E fs) σ H Q := by
  obtain ⟨ρ, env, st, r, w, hf, hQ⟩ := h
  refine rd_bind w hf hQ fun xs ds s1 H1 ρ1 t1 w1 r1 hf hQ => ?_
  obtain ⟨d, e1, rfl⟩ := map_some hf
  exact hr ρ1 H1 s1 xs ds d Q w1.st r1 e1 fun v H' s q => hQ v H' ρ1 (.same s) (w1.st.same s) q
theorem v_callB {id : String} {x : Str} {r : List V → Hp → VK → Prop} {g : Sto → List D → Option D} (hc : CallR X (.builtin id) r) (hr : CaP X.K r g) (hg : Gl X x) (hm : X.mg x = none) (hv : bootBuiltins x = some (.builtin id)) (ha : VA X E (e :: es) fs) (hn : x ≠ "__name__" := by decide) (hdb : (x == ("__debug__" : Str)) = false := by decide)
    (he : starEach (e :: es) X.env = (false, eval e X.env) :: starEach es X.env := by rfl) (hpl : (backTo pos (starEach es X.env)).any (·.1) = false := by rfl) : VE X E (.Call (.Name x p) (e :: es) [] pos) (fCa g fs) :=
  PE.imp (pe_callB hc hg hm hv ha hn hdb he hpl) fun _ _ _ h => ca_rd hr h
theorem v_callTy {T : String} {x : Str} {r : List V → Hp → VK → Prop} {g : Sto → List D → Option D} (hc : CallR X (.type T) r) (hr : CaP X.K r g) (hg : Gl X x) (hm : X.mg x = none) (hv : bootBuiltins x = some (.type T)) (ha : VA X E (e :: es) fs) (hn : x ≠ "__name__" := by decide) (hdb : (x == ("__debug__" : Str)) = false := by decide)
    (he : starEach (e :: es) X.env = (false, eval e X.env) :: starEach es X.env := by rfl) (hpl : (backTo pos (starEach es X.env)).any (·.1) = false := by rfl) : VE X E (.Call (.Name x p) (e :: es) [] pos) (fCa g fs) :=
  PE.imp (pe_callTy hc hg hm hv ha hn hdb he hpl) fun _ _ _ h => ca_rd hr h
theorem v_ty {x : Str} {n : String} (hg : Gl X x) (hm : X.mg x = none) (hv : bootBuiltins x = some (.type n)) (hn : x ≠ "__name__" := by decide) (hd : (x == ("__debug__" : Str)) = false := by decide) : VE X E (.Name x pos) (fC (.ty n)) :=
  v_c (pe_bltn (v := .ty n) hg hm hv rfl hn hd) fun _ _ => .ty n
/-- a module's constant: a number, a text, a truth -/
theorem v_globInt {x : Str} {i : Int} {t : Tok} (hg : Gl X x) (hm : X.mg x = some (.int i t)) (hd : (x == ("__debug__" : Str)) = false := by decide) : VE X E (.Name x pos) (fC (.int i)) := v_c (pe_glob (v := .int i) hg hm ⟨t, rfl⟩ hd) fun _ _ => .int i
theorem v_globStr {x z : Str} {t : Tok} (hg : Gl X x) (hm : X.mg x = some (.str z t)) (hd : (x == ("__debug__" : Str)) = false := by decide) : VE X E (.Name x pos) (fC (.str z)) := v_c (pe_glob (v := .str z) hg hm ⟨t, rfl⟩ hd) fun _ _ => .str z
theorem one_inv {H : Hp} {ρ : Mp} {xs : List V} {d : D} (h : DRs K H ρ xs [d]) : ∃ x, xs = [x] ∧ DR K H ρ x d := by
  obtain ⟨x, r, rfl, q, t⟩ := h.cons_inv
  rw [t.nil_inv]; exact ⟨x, rfl, q⟩
theorem two_inv {H : Hp} {ρ : Mp} {xs : List V} {d e : D} (h : DRs K H ρ xs [d, e]) : ∃ x y, xs = [x, y] ∧ DR K H ρ x d ∧ DR K H ρ y e := by
  obtain ⟨x, r, rfl, q, t⟩ := h.cons_inv
  obtain ⟨y, rfl, q2⟩ := one_inv t
  exact ⟨x, y, rfl, q, q2⟩

def bAbs (_ : Sto) : List D → Option D
  | [.int i] => some (.int (if i < 0 then -i else i))
  | _ => none
theorem abs_p : CaP K (fun xs H Q => ∃ i, xs = [.int i] ∧ Q (.int (if i < 0 then -i else i)) H) bAbs := by
  intro ρ H st xs ds d Q hs hx e h
  unfold bAbs at e
  split at e
  · obtain ⟨x, rfl, q⟩ := one_inv hx
    cases q; cases e
    exact ⟨_, rfl, h _ H (Same.refl H) (.int _)⟩
  · cases e
def bMax2 (_ : Sto) : List D → Option D
  | [.int i, .int j] => some (.int (if j > i then j else i))
  | _ => none
def bMin2 (_ : Sto) : List D → Option D
  | [.int i, .int j] => some (.int (if j < i then j else i))
  | _ => none
theorem max2_p : CaP K (fun xs H Q => ∃ i j, xs = [.int i, .int j] ∧ Q (.int (if j > i then j else i)) H) bMax2 := by
  intro ρ H st xs ds d Q hs hx e h
  unfold bMax2 at e
  split at e
  · obtain ⟨x, y, rfl, q, q2⟩ := two_inv hx
    cases q; cases q2; cases e
    exact ⟨_, _, rfl, h _ H (Same.refl H) (.int _)⟩
  · cases e
theorem min2_p : CaP K (fun xs H Q => ∃ i j, xs = [.int i, .int j] ∧ Q (.int (if j < i then j else i)) H) bMin2 := by
  intro ρ H st xs ds d Q hs hx e h
  unfold bMin2 at e
  split at e
  · obtain ⟨x, y, rfl, q, q2⟩ := two_inv hx
    cases q; cases q2; cases e
    exact ⟨_, _, rfl, h _ H (Same.refl H) (.int _)⟩
  · cases e
def bInt (_ : Sto) : List D → Option D
  | [.int i] => some (.int i)
  | [.bl b] => some (.int (if b then 1 else 0))
  | _ => none
theorem int_p : CaP K (fun xs H Q => (∃ i, xs = [.int i] ∧ Q (.int i) H) ∨ ∃ k, xs = [.bl k] ∧ Q (.int (if k then 1 else 0)) H) bInt := by
  intro ρ H st xs ds d Q hs hx e h
  unfold bInt at e
  split at e
  · obtain ⟨x, rfl, q⟩ := one_inv hx
    cases q; cases e
    exact .inl ⟨_, rfl, h _ H (Same.refl H) (.int _)⟩
  · obtain ⟨x, rfl, q⟩ := one_inv hx
    cases q; cases e
    exact .inr ⟨_, rfl, h _ H (Same.refl H) (.int _)⟩
  · cases e
theorem seqLT_inv {H : Hp} {ρ : Mp} {st : Sto} {v : V} {d : D} {ds : List D} (s : StR K H ρ st) (h : DR K H ρ v d) (e : seqLT st d = some ds) : ∃ a xs, v = .ref a ∧ (SqL K H a xs ∨ SqT K H a xs) ∧ DRs K H ρ xs ds := by
  unfold seqLT at e
  split at e
  · rename_i zs ez
    cases e
    obtain ⟨a, xs, rfl, q1, q2⟩ := h.seqT_inv ez
    exact ⟨a, xs, rfl, .inr q1.seq, q2⟩
  · obtain ⟨a, xs, rfl, q1, q2⟩ := seqS_inv s h e
    exact ⟨a, xs, rfl, .inl q1, q2⟩
/-- len of a list, a tuple -/
def bLen (st : Sto) : List D → Option D
  | [d] => (seqLT st d).map fun xs => .int xs.length
  | _ => none
theorem len_p : CaP K (fun xs H Q => ∃ p ys, xs = [.ref p] ∧ (SqL K H p ys ∨ SqT K H p ys) ∧ Q (.int ys.length) H) bLen := by
  intro ρ H st xs ds d Q hs hx e h
  unfold bLen at e
  split at e
  · obtain ⟨x, rfl, q⟩ := one_inv hx
    obtain ⟨zs, e1, rfl⟩ := map_some e
    obtain ⟨a, xs, rfl, q1, q2⟩ := seqLT_inv hs q e1
    exact ⟨a, xs, rfl, q1, h _ H (Same.refl H) (by rw [q2.1]; exact .int _)⟩
  · cases e
/-- list(..), tuple(..) -/
def bList (st : Sto) : List D → Option D
  | [d] => (seqLT st d).map .lst
  | _ => none
theorem list_p : CaP K (fun xs H Q => ∃ p ys, xs = [.ref p] ∧ (SqL K H p ys ∨ SqT K H p ys) ∧ ∀ l, H l = none → Q (.ref l) (upd H l (.lst ys))) bList := by
  intro ρ H st xs ds d Q hs hx e h
  unfold bList at e
  split at e
  · obtain ⟨x, rfl, q⟩ := one_inv hx
    obtain ⟨zs, e1, rfl⟩ := map_some e
    obtain ⟨a, xs, rfl, q1, q2⟩ := seqLT_inv hs q e1
    refine ⟨a, xs, rfl, q1, fun p hp => ?_⟩
    obtain ⟨sm, q⟩ := new_lst hs hp q2
    exact h _ _ sm q
  · cases e
def bTuple (st : Sto) : List D → Option D
  | [d] => match seqT d with
    | some _ => some d
    | none => (seqS st d).map .tup
  | _ => none
/-- tuple(xs): a new one, its object known, or the same -/
def rTupP (K : PySem.W.Frag) : List V → Hp → VK → Prop := fun xs H Q => ∃ p ys, xs = [.ref p] ∧ ((SqL K H p ys ∧ ∀ l o, H l = none → o.dict = none → Q (.ref l) (upd H l (.frz o (.tup ys)))) ∨ (SqT K H p ys ∧ Q (.ref p) H))
theorem call_tupP {X : Cx} : CallR X (.type "tuple") (rTupP X.K) := by
  rintro pins s σ H xs us Q I r ⟨p, ys, rfl, h⟩
  obtain ⟨u, rfl, ru⟩ := vals1 r
  obtain rfl : u = Value.ref p := ru
  rcases h with ⟨hs, k⟩ | ⟨hs, k⟩
  · obtain ⟨its, ri, pl, hz⟩ := I.list hs
    have n := ri.length
    refine call_tuple_list pl.isList (fun h' keep => ?_) (by rw [List.size_toArray, ← n]; exact hz)
    have J := I.kept (t' := s.toks) keep
    exact ⟨.ref h'.objs.size, _, J.laid (o := .frz { cls := .type "tuple", data := .seq its.toArray } (.tup ys)) (t' := s.toks) (fun b o e => Heap.get?_push_of_some _ e) (Nat.le_refl _)
      ⟨Heap.get?_push_size _ rfl, hz, its, ri, IsTup.new _ _⟩, rfl, k _ _ (J.hok.fresh (Nat.le_refl _)) rfl⟩
  · obtain ⟨its, ri, pl, hz⟩ := I.tuple hs
    exact call_tuple_same pl ⟨.ref p, H, I, rfl, k⟩
theorem tuple_p : CaP K (rTupP K) bTuple := by
  intro ρ H st xs ds d Q hs hx e h
  unfold bTuple at e
  split at e
  · obtain ⟨x, rfl, q⟩ := one_inv hx
    split at e
    · rename_i zs ez
      cases e
      obtain ⟨a, xs, rfl, q1, q2⟩ := q.seqT_inv ez
      exact ⟨a, xs, rfl, .inr ⟨q1.seq, h _ H (Same.refl H) q⟩⟩
    · obtain ⟨zs, e1, rfl⟩ := map_some e
      obtain ⟨a, xs, rfl, q1, q2⟩ := seqS_inv hs q e1
      refine ⟨a, xs, rfl, .inl ⟨q1, fun p o hp ho => ?_⟩⟩
      obtain ⟨sm, q⟩ := new_tup (K := K) hs hp ho q2
      exact h _ _ sm q
  · cases e
def bSum (st : Sto) : List D → Option D
  | [d] => ((seqS st d).bind asInts).map fun ns => .int ns.sum
  | _ => none
theorem sum_p : CaP K (rSum K) bSum := by
  intro ρ H st xs ds d Q hs hx e h
  unfold bSum at e
  split at e
  · obtain ⟨x, rfl, q⟩ := one_inv hx
    obtain ⟨ns, e1, rfl⟩ := map_some e
    obtain ⟨zs, e2, e3⟩ := Option.bind_eq_some_iff.mp e1
    obtain ⟨a, xs, rfl, q1, q2⟩ := seqS_inv hs q e2
    have := asInts_some e3
    subst this
    have := q2.ints
    subst this
    exact ⟨a, ns, rfl, q1, h _ H (Same.refl H) (.int _)⟩
  · cases e
def bAll (st : Sto) : List D → Option D
  | [d] => ((seqS st d).bind asBls).map fun ns => .bl (ns.all id)
  | _ => none
def bAny (st : Sto) : List D → Option D
  | [d] => ((seqS st d).bind asBls).map fun ns => .bl (ns.any id)
  | _ => none
theorem all_p : CaP K (rAll K) bAll := by
  intro ρ H st xs ds d Q hs hx e h
  unfold bAll at e
  split at e
  · obtain ⟨x, rfl, q⟩ := one_inv hx
    obtain ⟨ns, e1, rfl⟩ := map_some e
    obtain ⟨zs, e2, e3⟩ := Option.bind_eq_some_iff.mp e1
    obtain ⟨a, xs, rfl, q1, q2⟩ := seqS_inv hs q e2
    have := asBls_some e3
    subst this
    have := q2.bls
    subst this
    exact ⟨a, ns, rfl, q1, h _ H (Same.refl H) (.bl _)⟩
  · cases e
theorem any_p : CaP K (rAny K) bAny := by
  intro ρ H st xs ds d Q hs hx e h
  unfold bAny at e
  split at e
  · obtain ⟨x, rfl, q⟩ := one_inv hx
    obtain ⟨ns, e1, rfl⟩ := map_some e
    obtain ⟨zs, e2, e3⟩ := Option.bind_eq_some_iff.mp e1
    obtain ⟨a, xs, rfl, q1, q2⟩ := seqS_inv hs q e2
    have := asBls_some e3
    subst this
    have := q2.bls
    subst this
    exact ⟨a, ns, rfl, q1, h _ H (Same.refl H) (.bl _)⟩
  · cases e
/-- isinstance(x, T), T a built-in class -/
def tyD (st : Sto) : D → Option String
  | .non => some "NoneType"
  | .bl _ => some "bool"
  | .int _ => some "int"
  | .str _ => some "str"
  | .tup _ => some "tuple"
  | .frt _ => some "tuple"
  | .lst _ => some "list"
  | .frz _ => some "list"
  | .ty _ => none
  | .ref n => match st[n]? with
    | some (.lst _) => some "list"
    | some (.dct _) => some "dict"
    | _ => none
def bIsi (st : Sto) : List D → Option D
  | [d, .ty n] => (tyD st d).bind fun t => (kitB t n).map .bl
  | _ => none
theorem tyD_is {H : Hp} {ρ : Mp} {st : Sto} {v : V} {d : D} {t : String} (s : StR K H ρ st) (h : DR K H ρ v d) (e : tyD st d = some t) : TyX K H v (.type t) := by
  cases h
  case non => cases e; exact .base .non
  case bl b => cases e; exact .base (.bl b)
  case int b => cases e; exact .base (.int b)
  case str b => cases e; exact .base (.str b)
  case ty b => cases e
  case tup a xs ds h l q => cases e; obtain ⟨_, o, h, _⟩ := h; exact .fTuple h
  case lst a xs ds h l q => cases e; exact .base (.lst h.2)
  case frt a xs ds h l q =>
    cases e
    rcases h with ⟨_, h | ⟨o, h⟩⟩ | ((h | ⟨o, h⟩) | ⟨o, its, n, h, hc, _⟩)
    · exact .base (.tup h)
    · exact .fTuple h
    · cases h
    · cases h
    · exact .kTuple h hc
  case frz a xs ds h l q =>
    cases e
    rcases h with ⟨_, h | ⟨o, h⟩⟩ | ((h | ⟨o, h⟩) | ⟨o, its, n, h, hc, _⟩)
    · exact .base (.lst h)
    · exact .base (.frz h)
    · cases h
    · cases h
    · exact .kList h hc
  case ref n a h =>
    unfold tyD at e
    simp only at e
    split at e
    · rename_i ds hd
      cases e
      obtain ⟨xs, q, _⟩ := s.lstAt h hd
      exact .base (.lst q)
    · rename_i ds hd
      cases e
      obtain ⟨xs, q, _⟩ := s.dctAt h hd
      exact .base (.dK q)
    · cases e
theorem isi_p : CaP K (rIsi K) bIsi := by
  intro ρ H st xs ds d Q hs hx e h
  unfold bIsi at e
  split at e
  · rename_i d n
    obtain ⟨x, y, rfl, q, q2⟩ := two_inv hx
    cases q2
    obtain ⟨t, e1, e2⟩ := Option.bind_eq_some_iff.mp e
    obtain ⟨b, e3, rfl⟩ := map_some e2
    exact ⟨x, _, _, _, b, rfl, .ty n, tyD_is hs q e1, kit_ty e3, h _ H (Same.refl H) (.bl _)⟩
  · cases e
/-! sorted, of pairs of ints -/
def asPairs : List D → Option (List (Int × Int))
  | [] => some []
  | .tup [.int i, .int j] :: ds => (asPairs ds).map ((i, j) :: ·)
  | _ => none
def pD (p : Int × Int) : D := .tup [.int p.1, .int p.2]
theorem asPairs_some : ∀ {ds : List D} {ns : List (Int × Int)}, asPairs ds = some ns → ds = ns.map pD
  | [], ns, h => by cases h; rfl
  | d :: ds, ns, h => by
    unfold asPairs at h
    split at h
    · rename_i e; cases e
    · rename_i i j ds' e
      cases e
      obtain ⟨ms, e, rfl⟩ := map_some h
      rw [asPairs_some e]; rfl
    · cases h
@[simp] theorem asPairs_map (ns : List (Int × Int)) : asPairs (ns.map pD) = some ns := by induction ns with
  | nil => rfl
  | cons n ns ih => show (asPairs (ns.map pD)).map ((n.1, n.2) :: ·) = _; rw [ih]; rfl
def insP (p : Int × Int) : List (Int × Int) → List (Int × Int)
  | [] => [p]
  | q :: r => if SrtO.lexB q p then q :: insP p r else p :: q :: r
def sortP : List (Int × Int) → List (Int × Int)
  | [] => []
  | p :: r => insP p (sortP r)
theorem lex_swo : SrtO.Swo (fun x y : Int × Int => SrtO.lexB x y) := by
  refine ⟨fun x y h => ?_, fun x y z h1 h2 => ?_⟩
  · have a := SrtO.lexB_iff.mp h
    refine SrtO.lexB_no.mpr ?_
    omega
  · have a := SrtO.lexB_no.mp h1
    have b := SrtO.lexB_no.mp h2
    refine SrtO.lexB_no.mpr ?_
    omega
theorem insP_perm (p : Int × Int) : ∀ l, (insP p l).Perm (p :: l)
  | [] => List.Perm.refl _
  | q :: r => by
    unfold insP
    split
    · exact ((insP_perm p r).cons q).trans (List.Perm.swap p q r)
    · exact List.Perm.refl _
theorem sortP_perm : ∀ l, (sortP l).Perm l
  | [] => List.Perm.refl _
  | p :: r => (insP_perm p _).trans ((sortP_perm r).cons p)
theorem insP_srt (p : Int × Int) : ∀ l, l.Pairwise (fun x y => SrtO.lexB y x = false) → (insP p l).Pairwise (fun x y => SrtO.lexB y x = false)
  | [], _ => by simp [insP]
  | q :: r, h => by
    obtain ⟨h1, h2⟩ := List.pairwise_cons.mp h
    unfold insP
    split
    · rename_i c
      refine List.pairwise_cons.mpr ⟨fun z hz => ?_, insP_srt p r h2⟩
      rcases List.mem_cons.mp ((insP_perm p r).mem_iff.mp hz) with e | hz
      · subst e
        have a := SrtO.lexB_iff.mp c
        refine SrtO.lexB_no.mpr ?_
        omega
      · exact h1 z hz
    · rename_i c
      have c : SrtO.lexB q p = false := by cases z : SrtO.lexB q p with | true => exact absurd z c | false => rfl
      refine List.pairwise_cons.mpr ⟨fun z hz => ?_, h⟩
      rcases List.mem_cons.mp hz with e | hz
      · subst e; exact c
      · have a := SrtO.lexB_no.mp (h1 z hz)
        have b := SrtO.lexB_no.mp c
        refine SrtO.lexB_no.mpr ?_
        omega
theorem sortP_srt : ∀ l, (sortP l).Pairwise (fun x y => SrtO.lexB y x = false)
  | [] => List.Pairwise.nil
  | p :: r => insP_srt p _ (sortP_srt r)
theorem lex_anti {x y : Int × Int} (h1 : SrtO.lexB x y = false) (h2 : SrtO.lexB y x = false) : x = y := by
  have a := SrtO.lexB_no.mp h1
  have b := SrtO.lexB_no.mp h2
  obtain ⟨x1, x2⟩ := x
  obtain ⟨y1, y2⟩ := y
  simp only at a b
  have : x1 = y1 := by omega
  subst this
  have : x2 = y2 := by omega
  rw [this]
theorem srt_uniq : ∀ {l m : List (Int × Int)}, l.Pairwise (fun x y => SrtO.lexB y x = false) → m.Pairwise (fun x y => SrtO.lexB y x = false) → l.Perm m → l = m
  | [], m, _, _, p => (List.Perm.eq_nil p.symm).symm
  | x :: l, [], _, _, p => absurd p.length_eq (by simp)
  | x :: l, y :: m, hl, hm, p => by
    obtain ⟨a1, a2⟩ := List.pairwise_cons.mp hl
    obtain ⟨b1, b2⟩ := List.pairwise_cons.mp hm
    have e : x = y := by
      rcases List.mem_cons.mp (p.mem_iff.mp (List.mem_cons_self (a := x) (l := l))) with e | hx
      · exact e
      · rcases List.mem_cons.mp (p.mem_iff.mpr (List.mem_cons_self (a := y) (l := m))) with e | hy
        · exact e.symm
        · exact lex_anti (b1 x hx) (a1 y hy)
    subst e
    rw [srt_uniq a2 b2 p.cons_inv]
def bSortP (st : Sto) : List D → Option D
  | [d] => ((seqS st d).bind asPairs).map fun ps => .lst ((sortP ps).map pD)
  | _ => none
def keyP (H : Hp) (x : V) : Int × Int := match x with
  | .ref t => match H t with
    | some (.frz _ (.tup [.int i, .int j])) => (i, j)
    | _ => (0, 0)
  | _ => (0, 0)
theorem pair_inv {H : Hp} {ρ : Mp} {x : V} {i j : Int} (h : DR K H ρ x (.tup [.int i, .int j])) : ∃ t o, x = V.ref t ∧ H t = some (.frz o (.tup [.int i, .int j])) ∧ keyP H x = (i, j) := by
  obtain ⟨a, us, rfl, q1, q2⟩ := h.tup_inv
  obtain ⟨u, w, rfl, q3, q4⟩ := two_inv q2
  cases q3; cases q4
  obtain ⟨_, o, e, _⟩ := q1
  refine ⟨a, o, rfl, e, ?_⟩
  unfold keyP
  simp only [e]
theorem pairs_at {H : Hp} {ρ : Mp} : ∀ {xs : List V} {ps : List (Int × Int)}, DRs K H ρ xs (ps.map pD) → xs.map (keyP H) = ps ∧ ∀ x ∈ xs, DR K H ρ x (pD (keyP H x))
  | xs, [], h => by rw [h.nil_inv]; exact ⟨rfl, fun _ m => nomatch m⟩
  | xs, p :: ps, h => by
    obtain ⟨x, ys, rfl, q1, q2⟩ := DRs.cons_inv (d := pD p) (ds := ps.map pD) h
    obtain ⟨e1, e2⟩ := pairs_at q2
    obtain ⟨t, o, rfl, e3, e4⟩ := pair_inv q1
    refine ⟨by rw [List.map_cons, e1, e4], fun y m => ?_⟩
    rcases List.mem_cons.mp m with rfl | m
    · rw [e4]; exact q1
    · exact e2 y m
/-- sorted(xs) of pairs whose objects are known -/
def rSortF (K : PySem.W.Frag) : List V → Hp → VK → Prop := fun vs H Q => ∃ (a : Addr) (xs : List V) (k : V → Int × Int), vs = [V.ref a] ∧ SqL K H a xs ∧ (∀ x ∈ xs, ∃ t o, x = V.ref t ∧ H t = some (.frz o (.tup [.int (k x).1, .int (k x).2]))) ∧
  ∀ ys p, SrtO.Srtd (ltP k) ys → SrtO.Stb (ltP k) ys xs → H p = none → Q (.ref p) (upd H p (.lst ys))
theorem call_sortF {X : Cx} : CallR X (.builtin "sorted") (rSortF X.K) := by
  rintro pins s σ H vs us Q I r ⟨a, xs, k, rfl, hs, hp, q⟩
  obtain ⟨its, rv, pl, hz⟩ := I.list hs
  obtain ⟨u, rfl, ru⟩ := vals1 r
  obtain rfl : u = Value.ref a := ru
  obtain ⟨back, refs⟩ := refs_back rv fun x m => let ⟨t, _, e, _⟩ := hp x m; ⟨t, e⟩
  refine SrtO.sorted_pairsO (k := fun u => k (backV u)) pl.isList (by rw [← rv.length]; exact hz) (fun v hv => ?_) fun h' d out h1 h2 keep hd ⟨n, hn⟩ => ?_
  · obtain ⟨t, rfl⟩ := refs v hv
    obtain ⟨t', o, e, ht⟩ := hp (V.ref t) (by rw [back]; exact List.mem_map_of_mem hv)
    cases e
    obtain ⟨_, _, jts, rj, ob, ho, hc, m, hdat⟩ := I.hok _ _ ht
    obtain ⟨u1, u2, rfl, ⟨t1, rfl⟩, t2, rfl⟩ := vals2 rj
    exact ⟨t, ob, t1, t2, m, rfl, ho, hc, hdat⟩
  · have isr : ∀ u ∈ out, ∃ a, u = Value.ref a := fun u m => refs u (h2.perm.mem_iff.mp m)
    have sb : SrtO.Stb (ltP k) (out.map backV) xs := by rw [back]; exact SrtO.Stb.map (ltP_swo k) backV h2
    exact ⟨.ref d, _, I.laid (o := .lst (out.map backV)) (t' := s.toks) keep hd ⟨by rw [sb.len]; exact hz, out, n, vals_back isr, hn⟩, rfl, q _ d (SrtO.srtd_map h1) sb (I.hok.fresh hd)⟩
theorem sortP_p : CaP K (rSortF K) bSortP := by
  intro ρ H st xs ds d Q hs hx e h
  unfold bSortP at e
  split at e
  · obtain ⟨x, rfl, q⟩ := one_inv hx
    obtain ⟨ps, e1, rfl⟩ := map_some e
    obtain ⟨zs, e2, e3⟩ := Option.bind_eq_some_iff.mp e1
    obtain ⟨a, xs, rfl, q1, q2⟩ := seqS_inv hs q e2
    have := asPairs_some e3
    subst this
    obtain ⟨k1, k2⟩ := pairs_at q2
    refine ⟨a, xs, keyP H, rfl, q1, fun x m => ?_, fun ys p srt stb hp => ?_⟩
    · obtain ⟨t, o, e, e5, e6⟩ := pair_inv (k2 x m)
      exact ⟨t, o, e, e5⟩
    · have pm : (ys.map (keyP H)).Perm ps := by rw [← k1]; exact stb.perm.map _
      have sy : (ys.map (keyP H)).Pairwise (fun x y => SrtO.lexB y x = false) := List.pairwise_map.mpr srt
      have ey : ys.map (keyP H) = sortP ps := srt_uniq sy (sortP_srt ps) (pm.trans (sortP_perm ps).symm)
      have dy : DRs K H ρ ys ((sortP ps).map pD) := by
        rw [← ey]
        refine ⟨by simp, fun i x d e1 e2 => ?_⟩
        rw [List.getElem?_map, List.getElem?_map, e1] at e2
        cases e2
        exact k2 x (stb.perm.mem_iff.mp (List.mem_of_getElem? e1))
      obtain ⟨sm, q⟩ := new_lst hs hp dy
      exact h _ _ sm q
  · cases e
end

/-! ### slices -/
abbrev FO := En → Sto → Option (R (Option Int))
def oNo : FO := fun _ st => some (.ok none st)
def oSome (f : FE) : FO := fun env st => bnd (f env st) fun d s1 => match d with
  | .int i => some (.ok (some i) s1)
  | _ => none
def relO : Hp → Mp → Option Int → Option Int → Prop := fun _ _ a b => a = b
def rdO (K : PySem.W.Frag) (E : XK) (f : FO) : TO := rdG relO K E f
abbrev VO (X : Cx) (E : XK) (e : Option Expr) (f : FO) : Prop := PO X e (rdO X.K E f)
theorem PO.imp {X : Cx} {e : Option Expr} {t t' : TO} (h : PO X e t) (i : ∀ σ H Q, t' σ H Q → t σ H Q) : PO X e t' := ⟨fun pins s σ H Q I z => h.run pins s σ H Q I (i σ H Q z)⟩
def cutD (xs : List D) (lo hi : Option Int) : List D := (xs.drop (HT.sIx xs.length 0 lo)).take (HT.sIx xs.length xs.length hi - HT.sIx xs.length 0 lo)
theorem cut_DRs {K : PySem.W.Frag} {H : Hp} {ρ : Mp} {xs : List V} {ds : List D} {lo hi : Option Int} (h : DRs K H ρ xs ds) : DRs K H ρ (cutV xs lo hi) (cutD ds lo hi) := by
  unfold cutV cutD
  rw [h.1]
  exact (h.drop _).take _
def fSlL (a : FE) (lo hi : FO) : FE := fun env st => bnd (a env st) fun d s1 => bnd (lo env s1) fun l s2 => bnd (hi env s2) fun u s3 => (seqS s3 d).map fun xs => .ok (.lst (cutD xs l u)) s3
def fRev (a : FE) : FE := fun env st => bnd (a env st) fun d s1 => (seqS s1 d).map fun xs => .ok (.lst xs.reverse) s1
section
variable {X : Cx} {E : XK} {pos p2 : Pos} {fa : FE} {lo hi : Option Expr} {fl fh : FO} {e : Expr}
theorem o_none : VO X E none oNo := PO.imp po_none fun σ H Q ⟨ρ, env, st, r, w, hf, hQ⟩ => by
  cases hf
  exact hQ.val w.st rfl
theorem o_some (h : VE X E e fa) : VO X E (some e) (oSome fa) := by
  refine PO.imp (po_some h) fun σ H Q ⟨ρ, env, st, r, w, hf, hQ⟩ => ?_
  refine rd_bind w hf hQ fun x dx s1 H1 ρ1 t1 w1 r1 hf hQ => ?_
  split at hf
  · cases hf; cases r1
    exact ⟨_, rfl, hQ.val w1.st rfl⟩
  · cases hf
theorem v_slL (h : VE X E e fa) (hl : VO X E lo fl) (hh : VO X E hi fh) : VE X E (.Subscript e (.Slice lo hi none p2) pos) (fSlL fa fl fh) := by
  refine PE.imp (pe_slice sl_list h hl hh) fun σ H Q ⟨ρ, env, st, r, w, hf, hQ⟩ => ?_
  refine rd_bind w hf hQ fun x dx s1 H1 ρ1 t1 w1 r1 hf hQ => ?_
  refine rd_bind w1 hf hQ fun l dl s2 H2 ρ2 t2 w2 r2 hf hQ => ?_
  refine rd_bind w2 hf hQ fun u du s3 H3 ρ3 t3 w3 r3 hf hQ => ?_
  subst r2; subst r3
  obtain ⟨ds, e1, rfl⟩ := map_some hf
  obtain ⟨a, xs, rfl, q1, q2⟩ := seqS_inv w3.st ((r1.step t2).step t3) e1
  refine ⟨a, xs, rfl, q1, fun p hp => ?_⟩
  obtain ⟨sm, q⟩ := new_lst w3.st hp (cut_DRs q2)
  exact hQ _ _ ρ3 (.same sm) (w3.st.same sm) q
theorem DRs.reverse {K : PySem.W.Frag} {H : Hp} {ρ : Mp} {xs : List V} {ds : List D} (h : DRs K H ρ xs ds) : DRs K H ρ xs.reverse ds.reverse := by
  have l := h.1
  refine ⟨by simp [l], fun i x d e1 e2 => ?_⟩
  have hi : i < xs.length := by simpa using (List.getElem?_eq_some_iff.mp e1).1
  rw [List.getElem?_reverse hi] at e1
  rw [List.getElem?_reverse (by omega), ← l] at e2
  exact h.2 _ x d e1 e2
theorem v_rev {k : Nat} {p1 p3 : Pos} (h : VE X E e fa) : VE X E (.Subscript e (.Slice none none (some (.UnaryOp .USub (.Constant (.int 1) k p1) p2)) p3) pos) (fRev fa) := by
  refine PE.imp (pe_revL h) fun σ H Q ⟨ρ, env, st, r, w, hf, hQ⟩ => ?_
  refine rd_bind w hf hQ fun x dx s1 H1 ρ1 t1 w1 r1 hf hQ => ?_
  obtain ⟨ds, e1, rfl⟩ := map_some hf
  obtain ⟨a, xs, rfl, q1, q2⟩ := seqS_inv w1.st r1 e1
  refine ⟨a, xs, rfl, q1, fun p hp => ?_⟩
  obtain ⟨sm, q⟩ := new_lst w1.st hp q2.reverse
  exact hQ _ _ ρ1 (.same sm) (w1.st.same sm) q
end

/-- xs + ys as a list that will be changed -/
def fCatC (a b : FE) : FE := fun env st => bnd (a env st) fun x s1 => bnd (b env s1) fun y s2 => match seqP s2 x, seqP s2 y with
  | some xs, some ys => if xs.length + ys.length ≤ 1000000 then some (.ok (.ref s2.length) (s2 ++ [.lst (xs ++ ys)])) else none
  | _, _ => none
theorem v_catC {X : Cx} {E : XK} {a b : Expr} {pos : Pos} {fa fb : FE} (ha : VE X E a fa) (hb : VE X E b fb) : VE X E (.BinOp a .Add b pos) (fCatC fa fb) := by
  refine PE.imp (pe_op op_cat ha hb) fun σ H Q ⟨ρ, env, st, r, w, hf, hQ⟩ => ?_
  refine rd_bind w hf hQ fun x dx s1 H1 ρ1 t1 w1 r1 hf hQ => ?_
  refine rd_bind w1 hf hQ fun y dy s2 H2 ρ2 t2 w2 r2 hf hQ => ?_
  split at hf
  · rename_i xs ys e1 e2
    split at hf
    · rename_i hl
      cases hf
      obtain ⟨p, us, rfl, q1, q2⟩ := seqP_inv w2.st (r1.step t2) e1
      obtain ⟨q, ws, rfl, q3, q4⟩ := seqP_inv w2.st r2 e2
      refine ⟨p, q, us, ws, rfl, rfl, q1, q3, le_line (by rw [q2.1, q4.1]; exact hl), fun z hz => ?_⟩
      have s : Step ρ2 H2 (ρ2.add z) (upd H2 z (.lst (us ++ ws))) := .cell hz
      exact hQ _ _ _ s (w2.st.newCell hz ⟨_, upd_same, (q2.append q4).step s⟩) (.ref (cell_ix w2.st))
    · cases hf
  · cases hf

/-! ### stores into lists; methods -/
/-- o[i] = value, o a cell with a list -/
def gSubL (o i : FE) : FG := fun d env st => bnd (o env st) fun x s1 => bnd (i env s1) fun y s2 => match x, y with
  | .ref n, .int k => match s2[n]? with
    | some (.lst xs) => match ixN xs.length k with
      | some j => some (.ok env (s2.set n (.lst (xs.set j d))))
      | none => none
    | _ => none
  | _, _ => none
def cellT : Cell → Option String
  | .lst _ => some "list"
  | .dct _ => some "dict"
  | .dcf _ => none
/-- a method that changes its cell: what it tells, the new cell -/
def fMtC (T : String) (g : Cell → List D → Option (D × Cell)) (o : FE) (a : FA) : FE := fun env st => bnd (o env st) fun x s1 => match x with
  | .ref n => match s1[n]? with
    | some c0 => if cellT c0 = T then bnd (a env s1) fun ds s2 => match s2[n]? with
        | some c => (g c ds).map fun q => .ok q.1 (s2.set n q.2)
        | none => none
      else none
    | none => none
  | _ => none
def mAppend : Cell → List D → Option (D × Cell)
  | .lst xs, [d] => if xs.length ≤ 1000000 then some (.non, .lst (xs ++ [d])) else none
  | _, _ => none
/-- a method of a list that changes nothing -/
def fMtL (g : Sto → List D → List D → Option D) (o : FE) (a : FA) : FE := fun env st => bnd (o env st) fun x s1 => match seqS s1 x with
  | some _ => bnd (a env s1) fun ds s2 => match seqS s2 x with
    | some xs => (g s2 xs ds).map (R.ok · s2)
    | none => none
  | none => none
def mCount (_ : Sto) (xs : List D) : List D → Option D
  | [d] => match fv d, fvs xs with
    | some u, some us => some (.int (us.countP fun y => eqV y u : Nat))
    | _, _ => none
  | _ => none
section
variable {X : Cx} {E : XK} {pos : Pos} {fo fi : FE} {fs : FA} {o i e : Expr} {es : List Expr} {apos cpos : Pos}
theorem g_subL (ho : VE X E o fo) (hi : VE X E i fi) (h : PG X (.Subscript o i pos) (L2.gSub (rdE X.K E fo) (rdE X.K E fi) rSetL)) : VG X E (.Subscript o i pos) (gSubL fo fi) := by
  refine PG.imp h fun v σ H Q ⟨ρ, env, st, d, r, w, hd, hf, hQ⟩ => ?_
  refine rd_bind w hf hQ fun x dx s1 H1 ρ1 t1 w1 r1 hf hQ => ?_
  refine rd_bind w1 hf hQ fun y dy s2 H2 ρ2 t2 w2 r2 hf hQ => ?_
  split at hf
  · rename_i n k _
    split at hf
    · rename_i xs hx
      split at hf
      · rename_i j hj
        cases hf
        obtain ⟨a, rfl, q1⟩ := (r1.step t2).ref_inv
        obtain rfl : y = .int k := by cases r2; rfl
        obtain ⟨us, q2, q3⟩ := w2.st.lstAt q1 hx
        refine ⟨a, us, k, j, rfl, rfl, q2, by rw [q3.1]; exact hj, ?_⟩
        have t3 : Step ρ2 H2 ρ2 (upd H2 a (.lst (us.set j v))) := .write q1 (by rw [q2]; trivial)
        refine hQ σ _ ρ2 t3 (w2.st.write q1 (by rw [q2]; trivial) ⟨_, upd_same, ?_⟩) (w2.en.step t3)
        exact (q3.set ((hd.step t1).step t2) j).step t3
      · cases hf
    · cases hf
  · cases hf
/-- a method's rule and its function on cells -/
def MtP (K : PySem.W.Frag) (T : String) (r : V → List V → Hp → VK → Prop) (g : Cell → List D → Option (D × Cell)) : Prop :=
  ∀ (ρ : Mp) (H : Hp) (st : Sto) (n : Nat) (a : Addr) (c c' : Cell) (xs : List V) (ds : List D) (d : D) (Q : VK), StR K H ρ st → ρ.c[n]? = some a → st[n]? = some c → DRs K H ρ xs ds → g c ds = some (d, c') →
    (∀ v H', Step ρ H ρ H' → StR K H' ρ (st.set n c') → DR K H' ρ v d → Q v H') → r (.ref a) xs H Q
theorem cell_tyV {K : PySem.W.Frag} {H : Hp} {ρ : Mp} {a : Addr} {c : Cell} {T : String} (h : CR K H ρ a c) (e : cellT c = some T) : tyV K T (.ref a) H := by
  cases c with
  | lst ds => obtain ⟨xs, q, _⟩ := h; exact .inl ⟨(Option.some.inj e).symm, xs, .inl (.inl q)⟩
  | dct ds => obtain ⟨xs, q, _⟩ := h; exact .inr (.inr (.inl ⟨(Option.some.inj e).symm, .inl ⟨xs, q⟩⟩))
  | dcf ds => cases e
theorem append_p {K : PySem.W.Frag} : MtP K "list" rAppend mAppend := by
  intro ρ H st n a c c' xs ds d Q hs ha hc hx e h
  unfold mAppend at e
  split at e
  · rename_i ys d1
    split at e
    · rename_i hl
      cases e
      obtain ⟨x, rfl, q⟩ := one_inv hx
      obtain ⟨us, q2, q3⟩ := hs.lstAt ha hc
      refine ⟨a, us, x, rfl, rfl, q2, Nat.lt_of_le_of_lt (m := 1000000) (by rw [q3.1]; exact hl) (by decide), ?_⟩
      have t3 : Step ρ H ρ (upd H a (.lst (us ++ [x]))) := .write ha (by rw [q2]; trivial)
      exact h .non _ t3 (hs.write ha (by rw [q2]; trivial) ⟨_, upd_same, (q3.append (DRs.cons q .nil)).step t3⟩) .non
    · cases e
  · cases e
/-- o.m(..) on a cell -/
theorem v_mtC {T : String} {r : V → List V → Hp → VK → Prop} {g : Cell → List D → Option (D × Cell)} (hp : MtP X.K T r g) (h : PE X e (tBM X.K T r (rdE X.K E fo) (rdA X.K E fs))) : VE X E e (fMtC T g fo fs) := by
  refine PE.imp h fun σ H Q ⟨ρ, env, st, r, w, hf, hQ⟩ => ?_
  refine rd_bind w hf hQ fun x dx s1 H1 ρ1 t1 w1 r1 hf hQ => ?_
  split at hf
  · rename_i n
    split at hf
    · rename_i c0 hc0
      split at hf
      · rename_i hT
        obtain ⟨a, rfl, q1⟩ := r1.ref_inv
        refine ⟨cell_tyV (w1.st.cell n a c0 q1 hc0) hT, ?_⟩
        refine rd_bind w1 hf hQ fun xs ds s2 H2 ρ2 t2 w2 r2 hf hQ => ?_
        split at hf
        · rename_i c hc
          obtain ⟨q, e1, rfl⟩ := map_some hf
          exact hp ρ2 H2 s2 n a c q.2 xs ds q.1 Q w2.st (t2.ix q1) hc r2 e1 fun v H' s ss q => hQ v H' ρ2 s ss q
        · cases hf
      · cases hf
    · cases hf
  · cases hf
theorem v_mtC0 {T : String} {r : V → List V → Hp → VK → Prop} {g : Cell → List D → Option (D × Cell)} (hp : MtP X.K T r g) (h : PE X e (tBM0 X.K T r (rdE X.K E fo))) : VE X E e (fMtC T g fo fNil) := by
  refine PE.imp h fun σ H Q ⟨ρ, env, st, r, w, hf, hQ⟩ => ?_
  refine rd_bind w hf hQ fun x dx s1 H1 ρ1 t1 w1 r1 hf hQ => ?_
  split at hf
  · rename_i n
    split at hf
    · rename_i c0 hc0
      split at hf
      · rename_i hT
        obtain ⟨a, rfl, q1⟩ := r1.ref_inv
        refine ⟨cell_tyV (w1.st.cell n a c0 q1 hc0) hT, ?_⟩
        simp only [fNil, bnd_ok, hc0] at hf
        obtain ⟨q, e1, rfl⟩ := map_some hf
        exact hp ρ1 H1 s1 n a c0 q.2 [] [] q.1 Q w1.st q1 hc0 .nil e1 fun v H' s ss q => hQ v H' ρ1 s ss q
      · cases hf
    · cases hf
  · cases hf
/-- a list's method that changes nothing -/
def MlP (K : PySem.W.Frag) (r : V → List V → Hp → VK → Prop) (g : Sto → List D → List D → Option D) : Prop :=
  ∀ (ρ : Mp) (H : Hp) (st : Sto) (a : Addr) (us xs : List V) (ys ds : List D) (d : D) (Q : VK), StR K H ρ st → SqL K H a us → DRs K H ρ us ys → DRs K H ρ xs ds → g st ys ds = some d →
    (∀ v H', Same H H' → DR K H' ρ v d → Q v H') → r (.ref a) xs H Q
theorem v_mtL {r : V → List V → Hp → VK → Prop} {g : Sto → List D → List D → Option D} (hp : MlP X.K r g) (h : PE X e (tBM X.K "list" r (rdE X.K E fo) (rdA X.K E fs))) : VE X E e (fMtL g fo fs) := by
  refine PE.imp h fun σ H Q ⟨ρ, env, st, r, w, hf, hQ⟩ => ?_
  refine rd_bind w hf hQ fun x dx s1 H1 ρ1 t1 w1 r1 hf hQ => ?_
  split at hf
  · rename_i us0 hu0
    obtain ⟨a, zs, rfl, q1, q2⟩ := seqS_inv w1.st r1 hu0
    refine ⟨.inl ⟨rfl, zs, q1⟩, ?_⟩
    refine rd_bind w1 hf hQ fun xs ds s2 H2 ρ2 t2 w2 r2 hf hQ => ?_
    split at hf
    · rename_i ys hy
      obtain ⟨b, zs2, e, q3, q4⟩ := seqS_inv w2.st (r1.step t2) hy
      cases e
      obtain ⟨d, e1, rfl⟩ := map_some hf
      exact hp ρ2 H2 s2 a zs2 xs ys ds d Q w2.st q3 q4 r2 e1 fun v H' s q => hQ v H' ρ2 (.same s) (w2.st.same s) q
    · cases hf
  · cases hf
def rCntV (K : PySem.W.Frag) : V → List V → Hp → VK → Prop := fun x xs H Q => ∃ (p : Addr) (ys : List V) (y : V), x = .ref p ∧ xs = [y] ∧ SqL K H p ys ∧ flatV y = true ∧ ys.all flatV = true ∧ Q (.int (ys.countP fun z => eqV z y : Nat)) H
theorem count_eqU {x : V} : ∀ {xs : List V} {us : List Value}, Vals xs us → xs.all flatV = true → us.countP (eqU x) = xs.countP fun y => eqV y x
  | _, _, .nil, _ => rfl
  | y :: xs, u :: us, .cons r t, f => by
    rw [List.all_cons, Bool.and_eq_true] at f
    rw [List.countP_cons, List.countP_cons, eqU_of r f.1, count_eqU t f.2]
theorem mt_countV : MtR X "list.count" (rCntV X.K) := by
  intro pins s σ H x xs v us Q I rx rxs h
  obtain ⟨p, ys, y, rfl, rfl, hs, fy, fs, q⟩ := h
  cases rx
  obtain ⟨u, rfl, ru⟩ := rxs.one
  obtain ⟨its, rv, ⟨⟨cls, dd, data, sl⟩, n, ho, hc, hdn, hd⟩, hlen⟩ := I.list hs
  simp only at hc hd
  subst hc hd
  refine call_meets PySem.F.slot_list_count ⟨_, ho, rfl⟩ PySem.F.entry_list_count (PySem.F.args_list_count_2 _ _)
    (SeqAt.list_countAt p its.toArray n dd sl u (eqU y)) ⟨ho, fun w hw => mem_eqAt ru fy rv fs w (by simpa using hw), ?_⟩
  have ec : its.toArray.toList.countP (eqU y) = ys.countP fun z => eqV z y := count_eqU rv fs
  refine ⟨.int (ys.countP fun z => eqV z y : Nat), H, I.tok _, ⟨s.toks, ?_⟩, q⟩
  show Value.int ((its.toArray.toList.countP (eqU y) : Nat) : Int) s.toks = _
  rw [ec]
theorem count_p {K : PySem.W.Frag} : MlP K (rCntV K) mCount := by
  intro ρ H st a us xs ys ds d Q hs hl hu hx e h
  unfold mCount at e
  split at e
  · split at e
    · rename_i u ws e1 e2
      cases e
      obtain ⟨x, rfl, q⟩ := one_inv hx
      obtain ⟨rfl, f⟩ := fv_eq e1 q
      obtain ⟨rfl, f2⟩ := fvs_eq e2 hu
      exact ⟨a, _, _, rfl, rfl, hl, f, f2, h _ H (Same.refl H) (.int _)⟩
    · cases e
  · cases e
end
end Fx
/-! Fx: defs whose calls know that no repr is under way (repr of containers asks it); repr. -/
namespace Fx
open PySem PySem.Spec PyProof.Rows L2

/-- a promise kept where nothing is being shown -/
structure GnOk (P : Program) (w : World) (K : PySem.W.Frag) (mg : Str → Option Value) (base : Heap) (CX : CXT) (k : Nat) (f : Addr) (fd : FuncData) (ps : List Str) (sp : Sp) : Prop where
  many : ∀ vs H Q E, sp vs H Q E → vs.length = ps.length
  go : ∀ (A : Around) (outer : List Env) (s : Shared) (H : Hp) (args : Args) (us : List Value) (vs : List V) (Q : VK) (E : XK), A.guards = some [] → Room k A → Env0 P w K mg base A outer s H →
    BindsTo s fd args (ps.zip us) → Vals vs us → sp vs H Q E → codeAny (model P w) A (.call (.ref f) args) (L2.CR CX outer P w H s Q E) s
section
variable {P : Program} {w : World} {K : PySem.W.Frag} {mg : Str → Option Value} {base : Heap} {CX : CXT} {k : Nat} {f : Addr} {fd : FuncData} {ps : List Str} {sp sp' : Sp}
theorem GnOk.of (F : FnOk P w K mg base CX k f fd ps sp) : GnOk P w K mg base CX k f fd ps sp :=
  { many := F.len, go := fun A outer s H args us vs Q E _ => F.run A outer s H args us vs Q E }
theorem GnOk.imp (F : GnOk P w K mg base CX k f fd ps sp) (h : ∀ vs H Q E, sp' vs H Q E → sp vs H Q E) : GnOk P w K mg base CX k f fd ps sp' :=
  { many := fun vs H Q E q => F.many vs H Q E (h vs H Q E q)
    go := fun A outer s H args us vs Q E hg hr he hb hv hs => F.go A outer s H args us vs Q E hg hr he hb hv (h vs H Q E hs) }
/-- the end of a call, for whoever called -/
theorem end_of {X : Cx} {E : XK} {pins : List (Addr × Obj)} {σ : L2.St} {H : Hp} {s s' : Shared} {Q : VK} {r : Result} (hx : Passes CX X E) (I : Inv X pins σ H s) (h : L2.CR CX X.stack X.prog X.w H s Q E r s') :
    match r with
    | .ok (.ret u) => EP X pins σ Q u s'
    | .ok _ => False
    | .error e => X.xe e s' := by
  match r with
  | .error e => exact hx pins σ H s e s' I h
  | .ok (.ret u) => exact I.after h
  | .ok .next => exact h
  | .ok .brk => exact h
  | .ok .cont => exact h
theorem run_gn {X : Cx} {E : XK} {pins : List (Addr × Obj)} {σ : L2.St} {H : Hp} {s : Shared} {Q : VK} {us : List Value} {vs dvs : List V} {ds : List Value} (F : GnOk X.prog X.w X.K X.mg X.base CX k f fd ps sp) (hr : Room k X.A) (hgd : X.A.guards = some [])
    (hb : Binds X.K fd ps ds) (hd : Vals dvs ds) (hx : Passes CX X E) (I : Inv X pins σ H s) (r : Vals vs us) (h : sp (vs ++ dvs) H Q E) :
    wpAny (model X.prog X.w) X.A (call (.ref f) us) (EP X pins σ Q) X.xe s := by
  have all : Vals (vs ++ dvs) (us ++ ds) := r.append hd
  have many : (us ++ ds).length = ps.length := all.length.symm.trans (F.many _ _ _ _ h)
  have run := F.go X.A X.stack s H ⟨us, []⟩ (us ++ ds) (vs ++ dvs) Q E hgd hr I.env0 (hb s us I.kIn many) all h
  refine wpAny_call (codeAny_mono run fun q s2 hq => ?_)
  have e := end_of hx I hq
  match q with
  | .error _ => exact e
  | .ok (.ret _) => exact e
  | .ok .next => exact e.elim
  | .ok .brk => exact e.elim
  | .ok .cont => exact e.elim
theorem run_gnk {X : Cx} {E : XK} {pins : List (Addr × Obj)} {σ : L2.St} {H : Hp} {s : Shared} {Q : VK} {us ws : List Value} {vs zs : List V} {ks : List Str} {g : List Value → List Value → List Value} {gV : List V → List V → List V}
    (F : GnOk X.prog X.w X.K X.mg X.base CX k f fd ps sp) (hr : Room k X.A) (hgd : X.A.guards = some []) (hb : KBinds X.K fd ps ks g gV) (hx : Passes CX X E) (I : Inv X pins σ H s) (r : Vals vs us) (rz : Vals zs ws) (h : sp (gV vs zs) H Q E) :
    wpAny (model X.prog X.w) X.A (call (.ref f) us (ks.zip ws)) (EP X pins σ Q) X.xe s := by
  have all := hb.rel r rz
  have many : (g us ws).length = ps.length := all.length.symm.trans (F.many _ _ _ _ h)
  have run := F.go X.A X.stack s H ⟨us, ks.zip ws⟩ (g us ws) (gV vs zs) Q E hgd hr I.env0 (hb.to s us ws I.kIn many) all h
  refine wpAny_call (codeAny_mono run fun q s2 hq => ?_)
  have e := end_of hx I hq
  match q with
  | .error _ => exact e
  | .ok (.ret _) => exact e
  | .ok .next => exact e.elim
  | .ok .brk => exact e.elim
  | .ok .cont => exact e.elim
theorem gn_call {X : Cx} {E : XK} {x : Str} {p pos : Pos} {e : Expr} {es : List Expr} {t : TA} {dvs : List V} {ds : List Value} (F : GnOk X.prog X.w X.K X.mg X.base CX k f fd ps sp) (hr : Room k X.A) (hgd : X.A.guards = some []) (hg : Gl X x) (hm : X.mg x = some (.ref f))
    (hk : PySem.W.keepIn X.K (.ref f) = true) (hb : Binds X.K fd ps ds) (hd : Vals dvs ds) (hx : Passes CX X E) (ha : PA X (e :: es) t) (hdb : (x == ("__debug__" : Str)) = false := by decide)
    (he : starEach (e :: es) X.env = (false, eval e X.env) :: starEach es X.env := by rfl) (hpl : (backTo pos (starEach es X.env)).any (·.1) = false := by rfl) : PE X (.Call (.Name x p) (e :: es) [] pos) (tCall sp dvs E t) :=
  ⟨fun pins s σ H Q I h => wpAny_Call_Name_kw (ld_glob I hg hm (PySem.W.callWith_K (h₀ := X.base) I.ok.mod.kin hk
    (thn (ha.run pos pins s σ H _ I h) fun us s1 ⟨vs, H1, I1, r, q⟩ => ⟨I1.kIn, run_gn F hr hgd hb hd hx I1 r q⟩) he hpl) hdb)⟩
theorem gn_call0 {X : Cx} {E : XK} {x : Str} {p pos : Pos} {dvs : List V} {ds : List Value} (F : GnOk X.prog X.w X.K X.mg X.base CX k f fd ps sp) (hr : Room k X.A) (hgd : X.A.guards = some []) (hg : Gl X x) (hm : X.mg x = some (.ref f))
    (hk : PySem.W.keepIn X.K (.ref f) = true) (hb : Binds X.K fd ps ds) (hd : Vals dvs ds) (hx : Passes CX X E) (hdb : (x == ("__debug__" : Str)) = false := by decide) : PE X (.Call (.Name x p) [] [] pos) (tCall sp dvs E tNil) :=
  ⟨fun pins s σ H Q I h => wpAny_Call_Name_kw (ld_glob I hg hm (PySem.W.callWith_K0 I.kIn hk (run_gn (us := []) F hr hgd hb hd hx I .nil h)) hdb)⟩
theorem gn_callK {X : Cx} {E : XK} {x : Str} {p pos : Pos} {e : Expr} {es : List Expr} {kws : List Keyword} {t tk : TA} {ks : List Str} {g : List Value → List Value → List Value} {gV : List V → List V → List V}
    (F : GnOk X.prog X.w X.K X.mg X.base CX k f fd ps sp) (hr : Room k X.A) (hgd : X.A.guards = some []) (hg : Gl X x) (hm : X.mg x = some (.ref f)) (hk : PySem.W.keepIn X.K (.ref f) = true) (hb : KBinds X.K fd ps ks g gV) (hx : Passes CX X E)
    (ha : PA X (e :: es) t) (hkw : PK X kws tk) (hall : (backToKw pos (keywordEach kws X.env)).all (·.1.isSome) = true := by rfl) (hks : (backToKw pos (keywordEach kws X.env)).filterMap (·.1) = ks := by rfl)
    (hdb : (x == ("__debug__" : Str)) = false := by decide) (he : starEach (e :: es) X.env = (false, eval e X.env) :: starEach es X.env := by rfl)
    (hpl : ((backTo pos (starEach (e :: es) X.env)).any (·.1) || (backToKw pos (keywordEach kws X.env)).any (·.1.isNone)) = false := by rfl) : PE X (.Call (.Name x p) (e :: es) kws pos) (tCallK sp gV E t tk) :=
  ⟨fun pins s σ H Q I h => wpAny_Call_Name_kw (ld_glob I hg hm (PySem.W.callWith_KW (h₀ := X.base) I.ok.mod.kin hk hall
    (thn (ha.run pos pins s σ H _ I h) fun us s1 ⟨vs, H1, I1, r, q⟩ => thn (hkw.run pos pins s1 σ H1 _ I1 q) fun ws s2 ⟨zs, H2, I2, rz, q2⟩ =>
      ⟨I2.kIn, (by rw [hks]; exact run_gnk F hr hgd hb hx I2 r rz q2)⟩) hpl he) hdb)⟩

/-- a def by its body, the body knowing that nothing is being shown -/
theorem gn_of {x qual : Str} {st : Stmt} {N : List Str} (F : L2.Fun K x qual st f fd) (S : FnScope N ps (defScope st)) (many : ∀ vs H Q E, sp vs H Q E → vs.length = ps.length)
    (body : ∀ (cdv : Value) (A : Around) (outer : List Env) (s : Shared) (H : Hp) (vs : List V) (Q : VK) (E : XK), A.guards = some [] → Room k (A.deeper (envOfC qual (defScope st) s.heap.objs.size f cdv)) → sp vs H Q E →
      ∃ t, PSs (cxOf CX P w K mg base N qual (defScope st) f cdv A outer s H E) (defBody st) t ∧ t { nx := fun _ H' => Q .non H', rt := Q } (L2.start N vs) H) : GnOk P w K mg base CX (k + 1) f fd ps sp := by
  obtain ⟨oc, od, kV, doc, pm, an, cdv, ct, osl, rfl, lk, hcd⟩ := F.ex
  refine { many := many, go := fun A outer s H args us vs Q E hgd hr e0 hb r hsp => ?_ }
  have KX : K.In s.heap := e0.mod.kin.keeps fun b o e => (e0.bs b o e).1
  have places : ∀ y ∈ ps.zip us, (defScope st).names.lookup y.1 = some .local ∨ ((defScope st).names.lookup y.1 = some .cell ∧ ((cellsFrom (s.heap.objs.size + 1) (defScope st).names []).lookup y.1).isSome = true) := by
    rintro ⟨n, v⟩ hy
    cases S.par n (List.of_mem_zip hy).1 with
    | inl q => exact .inl q
    | inr q => exact .inr ⟨q, PySem.W.cellsFrom_some _ _ _ (.inl q)⟩
  refine codeAny_call_function hr.depth (KX _ _ lk) rfl S.co S.gen rfl (PySem.W.codeRec_of KX hcd) (hb _ _ _ _ (wpAny_newFunctionEnv_cells S.kind places fun env he s1 y => ?_))
  subst he
  obtain ⟨t, ht, hq⟩ := body cdv A outer s H vs Q E hgd (hr.deeper _) hsp
  have I := inv_start (CX := CX) (E := E) (cd := cdv) (f := f) (qual := qual) S hr.hd e0 (many _ _ _ _ hsp) r y
  refine ⟨(e0.mod.nolimit.keeps fun b o e => (e0.bs b o e).1).keeps y.toInCall.keep, codeAny_func (wpAny_mono (ht.run [] s1 (L2.start N vs) H _ I hq) (fun fl s2 hs => ?_) fun e s2 hs => hs)⟩
  match fl with
  | .ret u =>
    obtain ⟨v, σ2, H2, J, rv, q⟩ := hs
    exact ⟨v, H2, J.os, J.bare, J.base, J.hok, rv, q⟩
  | .next =>
    obtain ⟨σ2, H2, J, q⟩ := hs
    exact ⟨V.non, H2, J.os, J.bare, J.base, J.hok, rfl, q⟩
  | .brk => exact hs.elim fun _ ⟨_, _, q⟩ => q.elim
  | .cont => exact hs.elim fun _ ⟨_, _, q⟩ => q.elim
end

/-! ### calls and defs, by data -/
section
variable {X : Cx} {E : XK} {e : Expr} {es : List Expr} {pos p : Pos} {fs : FA}
theorem v_gcall {k n : Nat} {f : Addr} {fd : FuncData} {ps : List Str} {CX : CXT} {F : DF} {x : Str} (G : GnOk X.prog X.w X.K X.mg X.base CX k f fd ps (spF X.K n F)) (hr : Room k X.A) (hgd : X.A.guards = some []) (hg : Gl X x) (hm : X.mg x = some (.ref f)) (hk : PySem.W.keepIn X.K (.ref f) = true) (hb : Binds X.K fd ps [])
    (hx : Passes CX X E) (ha : VA X E (e :: es) fs) (hdb : (x == ("__debug__" : Str)) = false := by decide) (he : starEach (e :: es) X.env = (false, eval e X.env) :: starEach es X.env := by rfl) (hpl : (backTo pos (starEach es X.env)).any (·.1) = false := by rfl) :
    VE X E (.Call (.Name x p) (e :: es) [] pos) (fCall n F fs) := by
  refine PE.imp (gn_call G hr hgd hg hm hk hb .nil hx ha hdb he hpl) fun σ H Q ⟨ρ, env, st, r, w, hf, hQ⟩ => ?_
  refine rd_bind w hf hQ fun xs ds s1 H1 ρ1 t1 w1 r1 hf hQ => ?_
  split at hf
  · rename_i hl
    rw [List.append_nil]
    exact ⟨ρ1, ds, s1, r, r1, w1.st, hl, hf, hQ⟩
  · cases hf
theorem v_gcall0 {k : Nat} {f : Addr} {fd : FuncData} {ps : List Str} {CX : CXT} {F : DF} {x : Str} (G : GnOk X.prog X.w X.K X.mg X.base CX k f fd ps (spF X.K 0 F)) (hr : Room k X.A) (hgd : X.A.guards = some []) (hg : Gl X x) (hm : X.mg x = some (.ref f)) (hk : PySem.W.keepIn X.K (.ref f) = true) (hb : Binds X.K fd ps [])
    (hx : Passes CX X E) (hdb : (x == ("__debug__" : Str)) = false := by decide) : VE X E (.Call (.Name x p) [] [] pos) (fCall 0 F fNil) := by
  refine PE.imp (gn_call0 G hr hgd hg hm hk hb .nil hx hdb) fun σ H Q ⟨ρ, env, st, r, w, hf, hQ⟩ => ?_
  exact ⟨ρ, [], st, r, .nil, w.st, rfl, hf, hQ⟩
end
section
variable {P : Program} {w : World} {K : PySem.W.Frag} {mg : Str → Option Value} {base : Heap}
/-- a def that raises nothing, by its body's function -/
theorem gn_ok {x qual : Str} {st : Stmt} {f : Addr} {fd : FuncData} {N ps : List Str} {k : Nat} {fb : FS} (F : L2.Fun K x qual st f fd) (S : FnScope N ps (defScope st))
    (hb : ∀ (cdv : Value) (A : Around) (outer : List Env) (s : Shared) (H : Hp) (E : XK), A.guards = some [] → Room k (A.deeper (envOfC qual (defScope st) s.heap.objs.size f cdv)) → VSs (cxOf CX0 P w K mg base N qual (defScope st) f cdv A outer s H E).nox E0 (defBody st) fb) :
    GnOk P w K mg base CX0 (k + 1) f fd ps (spF K ps.length (fDef ps.length N.length fb)) := by
  refine gn_of F S (fun vs H Q E ⟨ρ, ds, st, r, h1, h2, h3, _⟩ => h1.1.trans h3) fun cdv A outer s H vs Q E hgd hr ⟨ρ, ds, st, r, h1, h2, h3, h4, h5⟩ => ?_
  refine ⟨_, (hb cdv A outer s H E hgd hr).nox, ?_⟩
  unfold fDef at h4
  split at h4
  · rename_i en s1 e
    cases h4
    exact ⟨ρ, _, st, _, ⟨start_en h1 h3, h2⟩, e, fun σ' H' ρ' t w => h5 .non H' ρ' t w.st .non⟩
  · rename_i d s1 e
    cases h4
    exact ⟨ρ, _, st, _, ⟨start_en h1 h3, h2⟩, e, fun v H' ρ' t w q => h5 v H' ρ' t w q⟩
  · cases h4
end

/-! ### the end of a law -/
section
variable {P : Program} {w : World} {K : PySem.W.Frag} {mg : Str → Option Value} {CX : CXT}
/-- what is tracked ahead of the law's call: the script alone, and only where it is not the module's -/
def tr0 (K : PySem.W.Frag) (a : Addr) (vs : List Value) (ns : List Int) : Hp := fun b =>
  if b = a ∧ K.lookup a = none then some (.frz { cls := .type "list", data := .seq vs.toArray } (.lst (ns.map V.int))) else none
theorem tr0_cases (K : PySem.W.Frag) (a : Addr) (vs : List Value) (ns : List Int) (b : Addr) : tr0 K a vs ns b = none ∨
    (b = a ∧ K.lookup a = none ∧ tr0 K a vs ns b = some (.frz { cls := .type "list", data := .seq vs.toArray } (.lst (ns.map V.int)))) := by
  by_cases h : b = a ∧ K.lookup a = none
  · exact .inr ⟨h.1, h.2, if_pos h⟩
  · exact .inl (if_neg h)
theorem law_end {k : Nat} {fa a : Addr} {fd : FuncData} {x : Str} {sp : Sp} {s₁ : Shared} {vs : List Value} {ns : List Int} {mb : Str → Option Value}
    (KX : K.In s₁.heap) (hns : s₁.heap.Ns mainGlobals mg) (hb : s₁.heap.Ns builtinsNs mb) (hbb : ∀ x : Str, x ≠ "__name__" → mb x = bootBuiltins x) (hlim : s₁.heap.NoLimit) (hg : s₁.gens = #[])
    (ha : s₁.heap.get? a = some { cls := .type "list", data := .seq vs.toArray }) (hi : IntsAre vs ns) (hl : ns.length ≤ sizeLine) (hr : Room k callerA)
    (F : ∀ base : Heap, K.In base → base.Ns mainGlobals mg → GnOk P w K mg base CX k fa fd [x] sp) (bd : ∀ (s : Shared) (u : Value), BindsTo s fd ⟨[u], []⟩ [(x, u)])
    (good : ∀ H : Hp, L2.Only H → SqL K H a (ns.map V.int) → sp [.ref a] H (fun v _ => v = .bl true) fun _ _ _ => False)
    (hCX : ∀ H e s', CX [] H s₁ (fun _ _ _ => False) e s' → False) :
    codeAny (model P w) callerA (.call (.ref fa) ⟨[.ref a], []⟩) (fun r s' => r = .ok (.ret (.bool true)) ∧ OldK s₁.heap s'.heap ∧ s'.os = s₁.os ∧ AllBare s'.gens) s₁ := by
  have rv := L2.vals_ints hi
  have lenV : vs.length = ns.length := hi.length
  have cs := tr0_cases K a vs ns
  -- an untracked object stands in the heap with the script hidden
  have seen : ∀ {b : Addr} {o : Obj}, s₁.heap.get? b = some o → (b = a → K.lookup a ≠ none) → (hidT s₁.heap (tr0 K a vs ns)).get? b = some o := fun {b o} e n => hidT_get e ((cs b).elim id fun z => absurd z.2.1 (n z.1))
  have spaces : ∀ {b : Addr} {m : Str → Option Value}, s₁.heap.Ns b m → (hidT s₁.heap (tr0 K a vs ns)).Ns b m := fun {b m} ⟨o, es, ep, e, d, r⟩ =>
    ⟨o, es, ep, seen e fun q => by
      subst q
      rw [ha] at e
      cases e
      exact absurd d (by simp), d, r⟩
  have kin : K.In (hidT s₁.heap (tr0 K a vs ns)) := fun b o e => seen (KX b o e) fun q => by rw [← q, e]; simp
  have hM : Mod K mg (hidT s₁.heap (tr0 K a vs ns)) := { kin := kin, glob := spaces hns, blt := ⟨mb, spaces hb, hbb⟩, nolimit := let ⟨m, h1, h2⟩ := hlim; ⟨m, spaces h1, h2⟩ }
  have okH : HOk P w (tr0 K a vs ns) s₁.heap := fun b u q => by
    rcases cs b with z | ⟨rfl, _, z⟩
    · rw [z] at q; cases q
    · rw [z] at q
      cases q
      exact ⟨ha, by rw [List.length_map]; exact hl, vs, _, rv, ha⟩
  have e0 : Env0 P w K mg (hidT s₁.heap (tr0 K a vs ns)) callerA [] s₁ (tr0 K a vs ns) :=
    { frames := rfl, mod := hM, bs := fun b o e => of_hidT e, bsz := Nat.le_of_eq (hidT_size _ _), funs := trivial, frf := fun b m => (nomatch m), hok := okH, bare := .of_eq hg }
  have sq : SqL K (tr0 K a vs ns) a (ns.map V.int) := by
    cases hk : K.lookup a with
    | none => exact .inl (.inr ⟨_, if_pos ⟨rfl, hk⟩⟩)
    | some o =>
      have e := KX a o hk
      rw [ha] at e
      cases e
      exact .inr ⟨_, vs.toArray, _, hk, rfl, rfl, rfl, by rw [List.size_toArray, lenV]; exact hl, by simpa using rv⟩
  have only : L2.Only (tr0 K a vs ns) := fun b => (cs b).imp id fun z => ⟨_, _, z.2.2⟩
  refine codeAny_mono ((F _ kin (spaces hns)).go callerA [] s₁ _ ⟨[.ref a], []⟩ [.ref a] [.ref a] _ _ rfl hr e0 (bd s₁ (.ref a)) (.cons rfl .nil) (good _ only sq)) fun r s' h => ?_
  match r with
  | .error e => exact (hCX _ e s' h).elim
  | .ok .next => exact False.elim h
  | .ok .brk => exact False.elim h
  | .ok .cont => exact False.elim h
  | .ok (.ret u) =>
    obtain ⟨v, H', os, bare, un, ok', rel, q⟩ := h
    have q : v = V.bl true := q
    subst q
    have eu : u = Value.bool true := rel
    subst eu
    refine ⟨rfl, .of_keep fun b o e => ?_, os, bare⟩
    rcases cs b with z | ⟨_, _, z⟩
    · exact un.keep b o e z (fun m => by cases m) (fun m => by cases m)
    · have o1 := (okH b _ z).1
      have o2 := (ok' b _ (un.frzs b _ _ z)).1
      exact o2.trans (o1.symm.trans e)
end
theorem walk_gn {l : PySem.W.OpenLaw} {n k : Nat} {q : Program} {loose : List Str} {XP : (Str → Option Value) → Heap → Prop} {YP : World → Heap → Prop} {d : DefRec} {K : Params → PySem.W.Frag} {CX : World → CXT} {sp : World → Sp} {x : Str}
    (hn : l.most = some n) (hn2 : n ≤ sizeLine) (hdf : d.params.defaults = []) (hr : Room k callerA) (hY : ∀ (w : World) (h : Heap), YP w h → (K w.params).In h)
    (F : ∀ (w : World) (mg : Str → Option Value) (fa : Addr) (h : Heap), (K w.params).In h → h.Ns mainGlobals mg → mg d.name = some (.ref fa) →
      ∃ fd : FuncData, (∀ (s : Shared) (u : Value), BindsTo s fd ⟨[u], []⟩ [(x, u)]) ∧
        ∀ base : Heap, (K w.params).In base → base.Ns mainGlobals mg → GnOk l.prog w (K w.params) mg base (CX w) k fa fd [x] (sp w))
    (good : ∀ (w : World) (H : Hp) (a : Addr) (ns : List Int), ns.length ≤ n → (∀ z ∈ ns, Builtin.Int.intBits z ≤ 1048576) → L2.Only H → SqL (K w.params) H a (ns.map V.int) → sp w [.ref a] H (fun v _ => v = .bl true) fun _ _ _ => False)
    (hCX : ∀ (w : World) (H : Hp) (s : Shared) (e : Value) (s' : Shared), CX w [] H s (fun _ _ _ => False) e s' → False) :
    PySem.W.WalkO q loose XP YP l.row.toRowW d [] (fun f vs => PySem.call f vs) := by
  refine Att.attach_callB hn hdf fun w s₀ s₁ mg mb fa o pm cd doc a vs ns G Y ho hd hcd hmg hobj hints hlen hbits hg => ?_
  obtain ⟨fd, bd, hF⟩ := F w mg fa _ (hY w _ Y) G.T.g hmg
  exact law_end (hY w _ Y) G.T.g G.T.b G.T.builtins G.T.nolimit hg hobj hints (Nat.le_trans hlen hn2) hr hF bd (fun H hO hS => good w H a ns hlen hbits hO hS) fun H e s' => hCX w H s₁ e s'
end Fx
/-! Fx: rules as a printer writes them; a def with all that a caller wants. -/
namespace Fx
open PySem PySem.Spec PyProof.Rows L2
section
variable {X : Cx} {E : XK} {e a b c : Expr} {es : List Expr} {pos p : Pos} {fa fb fc fe : FE} {fs : FA} {ft fu : FT} {g : FG} {gs : FGs} {s s1 : Stmt} {ss : List Stmt} {f f1 f2 : FS}
theorem gs_consR (h1 : VG X E e g) (h2 : VGs X E es gs) (hs : (assignEach (e :: es) X.env).map (·.2) = assign e X.env :: (assignEach es X.env).map (·.2) := by rfl) : VGs X E (e :: es) (gsCons g gs) := gs_cons h1 h2 (pgs_cons h1 h2 hs)
theorem g_tupR {k n : Nat} (hc : X.calm = true) (h : VGs X E es gs) (hn : (assignEach es X.env).length = n := by rfl) (hst : (assignEach es X.env).findIdx? (·.1) = none := by rfl) : VG X E (.Tuple es k pos) (gTp n gs) := g_tup (pg_tup hc h hn hst)
theorem g_lstR {k n : Nat} (hc : X.calm = true) (h : VGs X E es gs) (hn : (assignEach es X.env).length = n := by rfl) (hst : (assignEach es X.env).findIdx? (·.1) = none := by rfl) : VG X E (.Tuple es k pos) (gLs n gs) := g_lst (pg_unl hc h hn hst)
theorem s_parR {i j : Nat} {x y : Str} {px py pt : Pos} {kt k2 pt2} (hc : X.calm = true) (hN : X.N.Nodup) (hi : X.N[i]? = some x) (hj : X.N[j]? = some y) (hij : i ≠ j)
    (hx : X.env.scope.names.lookup x = some .local) (hy : X.env.scope.names.lookup y = some .local) (ha : VA X E [a, b] fs)
    (hw : swappedStores [.Tuple [.Name x px, .Name y py] kt pt] (.Tuple [a, b] k2 pt2) X.env = pure (some [x, y]))
    (hs : swapsWithSole [.Tuple [.Name x px, .Name y py] kt pt] (.Tuple [a, b] k2 pt2) pos.line X.env = pure false := by rfl) :
    VS X E (.Assign [.Tuple [.Name x px, .Name y py] kt pt] (.Tuple [a, b] k2 pt2) pos) (fPar i j fs) := s_par (ps_par hc hN hi hj hij hx hy ha hw hs)
/-- a def: called by its name with all its arguments it tells what F tells -/
structure Df (P : Program) (w : World) (K : PySem.W.Frag) (mg : Str → Option Value) (base : Heap) (k : Nat) (x : Str) (n : Nat) (F : DF) : Prop where
  ex : ∃ (f : Addr) (fd : FuncData) (ps : List Str), GnOk P w K mg base CX0 k f fd ps (spF K n F) ∧ mg x = some (.ref f) ∧ PySem.W.keepIn K (.ref f) = true ∧ Binds K fd ps []
theorem v_callD {k n : Nat} {F : DF} {x : Str} (G : Df X.prog X.w X.K X.mg X.base k x n F) (hr : Room k X.A) (hgd : X.A.guards = some []) (hg : Gl X x) (ha : VA X E0 (e :: es) fs) (hdb : (x == ("__debug__" : Str)) = false := by decide)
    (he : starEach (e :: es) X.env = (false, eval e X.env) :: starEach es X.env := by rfl) (hpl : (backTo pos (starEach es X.env)).any (·.1) = false := by rfl) : VE X E0 (.Call (.Name x p) (e :: es) [] pos) (fCall n F fs) := by
  obtain ⟨f, fd, ps, h1, h2, h3, h4⟩ := G.ex
  exact v_gcall h1 hr hgd hg h2 h3 h4 pass0 ha hdb he hpl
theorem v_callD0 {k : Nat} {F : DF} {x : Str} (G : Df X.prog X.w X.K X.mg X.base k x 0 F) (hr : Room k X.A) (hgd : X.A.guards = some []) (hg : Gl X x) (hdb : (x == ("__debug__" : Str)) = false := by decide) : VE X E0 (.Call (.Name x p) [] [] pos) (fCall 0 F fNil) := by
  obtain ⟨f, fd, ps, h1, h2, h3, h4⟩ := G.ex
  exact v_gcall0 h1 hr hgd hg h2 h3 h4 pass0 hdb
end
section
variable {P : Program} {w : World} {K : PySem.W.Frag} {mg : Str → Option Value} {base : Heap}
theorem df_ok {x qual : Str} {st : Stmt} {f : Addr} {fd : FuncData} {N ps : List Str} {k n m : Nat} {fb : FS} (F : Fun K x qual st f fd) (hm : mg x = some (.ref f)) (bi : Binds K fd ps []) (S : FnScope N ps (defScope st)) (hn : ps.length = n) (hN : N.length = m)
    (hb : ∀ (cdv : Value) (A : Around) (outer : List Env) (s : Shared) (H : Hp) (E : XK), A.guards = some [] → Room k (A.deeper (envOfC qual (defScope st) s.heap.objs.size f cdv)) → VSs (cxOf CX0 P w K mg base N qual (defScope st) f cdv A outer s H E).nox E0 (defBody st) fb) :
    Df P w K mg base (k + 1) x n (fDef n m fb) := by
  subst hn; subst hN
  exact ⟨f, fd, ps, gn_ok F S hb, hm, F.kp, bi⟩
theorem df_imp {k n : Nat} {x : Str} {F G : DF} (h : Df P w K mg base k x n F)
    (e : ∀ ds st r, ds.length = n → D.oks st.length ds = true → StOk st → G ds st = some r → ∃ d s more, r = .ok d s ∧ F ds st = some (.ok d (s ++ more)) ∧ (more = [] ∨ (st.length ≤ s.length ∧ D.ok s.length d = true ∧ StOk s))) : Df P w K mg base k x n G := by
  obtain ⟨f, fd, ps, h1, h2, h3, h4⟩ := h.ex
  exact ⟨f, fd, ps, h1.imp (spF_le e), h2, h3, h4⟩
/-- the same without a store in sight -/
theorem df_eq {k n : Nat} {x : Str} {F G : DF} (h : Df P w K mg base k x n F) (e : ∀ ds st r, ds.length = n → G ds st = some r → F ds st = some r ∧ ∃ d s, r = .ok d s) : Df P w K mg base k x n G :=
  df_imp h fun ds st r hn _ _ hg => by
    obtain ⟨h1, d, s, rfl⟩ := e ds st r hn hg
    exact ⟨d, s, [], rfl, by rw [List.append_nil]; exact h1, .inl rfl⟩
end
/-- turns enough for Euclid -/
def fuelGcd (env : En) (i : Nat) : Nat := match env[i]? with
  | some (some (.int j)) => j.natAbs + 1
  | _ => 0
end Fx
/-! Fx: how the combinators are worked out (for simp), loops by invariants. -/
namespace Fx
open PySem PySem.Spec PyProof.Rows L2
section
variable {env : En} {st : Sto}
@[simp] theorem ap_var {i : Nat} : fVar i env st = (match env[i]? with | some (some d) => some (.ok d st) | _ => none) := rfl
@[simp] theorem ap_c {d : D} : fC d env st = some (.ok d st) := rfl
@[simp] theorem ap_op {g : Sto → D → D → Option D} {a b : FE} : fOp g a b env st = bnd (a env st) fun x s1 => bnd (b env s1) fun y s2 => (g s2 x y).map (R.ok · s2) := rfl
@[simp] theorem ap_un {g : Sto → D → Option D} {a : FE} : fUn g a env st = bnd (a env st) fun x s1 => (g s1 x).map (R.ok · s1) := rfl
@[simp] theorem ap_if {t : FT} {a b : FE} : fIf t a b env st = bnd (t env st) fun c s1 => if c = true then a env s1 else b env s1 := rfl
@[simp] theorem ap_nil : fNil env st = some (.ok [] st) := rfl
@[simp] theorem ap_cons {a : FE} {r : FA} : fCons a r env st = bnd (a env st) fun x s1 => bnd (r env s1) fun xs s2 => some (.ok (x :: xs) s2) := rfl
@[simp] theorem ap_tup {a : FA} : fTup a env st = bnd (a env st) fun xs s1 => if xs.length ≤ 1000 then some (.ok (.tup xs) s1) else none := rfl
@[simp] theorem ap_lst {a : FA} : fLst a env st = bnd (a env st) fun xs s1 => if xs.length ≤ 1000 then some (.ok (.lst xs) s1) else none := rfl
@[simp] theorem ap_lstC {a : FA} : fLstC a env st = bnd (a env st) fun xs s1 => if xs.length ≤ 1000 then some (.ok (.ref s1.length) (s1 ++ [.lst xs])) else none := rfl
@[simp] theorem ap_tV {a : FE} : tV a env st = bnd (a env st) fun x s1 => match x with | .bl b => some (.ok b s1) | _ => none := rfl
@[simp] theorem ap_and2 {a b : FT} : tAnd2 a b env st = bnd (a env st) fun c s1 => if c = true then b env s1 else some (.ok false s1) := rfl
@[simp] theorem ap_or2 {a b : FT} : tOr2 a b env st = bnd (a env st) fun c s1 => if c = true then some (.ok true s1) else b env s1 := rfl
@[simp] theorem ap_not1 {a : FT} : tNot1 a env st = bnd (a env st) fun c s1 => some (.ok (!c) s1) := rfl
@[simp] theorem ap_and {a b : FE} : fAnd a b env st = bnd (a env st) fun x s1 => match x with | .bl c => if c = true then b env s1 else some (.ok (.bl false) s1) | _ => none := rfl
@[simp] theorem ap_or {a b : FE} : fOr a b env st = bnd (a env st) fun x s1 => match x with | .bl c => if c = true then some (.ok (.bl true) s1) else b env s1 | _ => none := rfl
@[simp] theorem ap_not {a : FE} : fNot a env st = bnd (a env st) fun x s1 => match x with | .bl c => some (.ok (.bl (!c)) s1) | _ => none := rfl
@[simp] theorem ap_pass : fPass env st = some (.nx env st) := rfl
@[simp] theorem ap_seq {a b : FS} : fSeq a b env st = (match a env st with | some (.nx e1 s1) => b e1 s1 | r => r) := rfl
@[simp] theorem ap_ret {e : FE} : fRet e env st = sb (e env st) fun d s1 => some (.rt d s1) := rfl
@[simp] theorem ap_retN : fRetN env st = some (.rt .non st) := rfl
@[simp] theorem ap_expr {e : FE} : fExpr e env st = sb (e env st) fun _ s1 => some (.nx env s1) := rfl
@[simp] theorem ap_break : fBreak env st = some (.bk env st) := rfl
@[simp] theorem ap_cont : fCont env st = some (.ct env st) := rfl
@[simp] theorem ap_ifS {t : FT} {a b : FS} : fIfS t a b env st = sb (t env st) fun c s1 => if c = true then a env s1 else b env s1 := rfl
@[simp] theorem ap_set {i : Nat} {e : FE} : fSet i e env st = sb (e env st) fun d s1 => some (.nx (env.set i (some d)) s1) := rfl
@[simp] theorem ap_par {i j : Nat} {a : FA} : fPar i j a env st = sb (a env st) fun ds s1 => match ds with | [x, y] => some (.nx ((env.set i (some x)).set j (some y)) s1) | _ => none := rfl
@[simp] theorem ap_asg {e : FE} {g : FG} : fAsg e g env st = sb (e env st) fun d s1 => sb (g d env s1) fun env2 s2 => some (.nx env2 s2) := rfl
@[simp] theorem ap_nm {i : Nat} {d : D} : gNm i d env st = some (.ok (env.set i (some d)) st) := rfl
@[simp] theorem ap_gsNil : gsNil [] env st = some (.ok env st) := rfl
@[simp] theorem ap_gsCons {g : FG} {h : FGs} {d : D} {r : List D} : gsCons g h (d :: r) env st = bnd (g d env st) fun env1 s1 => h r env1 s1 := rfl
@[simp] theorem ap_gTp {n : Nat} {g : FGs} {ds : List D} : gTp n g (.tup ds) env st = if ds.length = n then g ds env st else none := rfl
@[simp] theorem ap_gTpf {n : Nat} {g : FGs} {ds : List D} : gTp n g (.frt ds) env st = if ds.length = n then g ds env st else none := rfl
@[simp] theorem ap_gLs {n : Nat} {g : FGs} {ds : List D} : gLs n g (.lst ds) env st = if ds.length = n then g ds env st else none := rfl
@[simp] theorem ap_for {fi : FI} {g : FG} {body : FS} : fFor fi g body env st = sb (fi env st) fun items s1 => forL g body items env s1 := rfl
@[simp] theorem ap_while {m : En → Sto → Nat} {t : FT} {body : FS} : fWhile m t body env st = whL t body (m env st) env st := rfl
@[simp] theorem ap_iLst {a : FE} : iLst a env st = bnd (a env st) fun d s1 => (seqL d).map (R.ok · s1) := rfl
@[simp] theorem ap_iTp {a : FE} : iTp a env st = bnd (a env st) fun d s1 => (seqT d).map (R.ok · s1) := rfl
@[simp] theorem ap_iRg1 {fs : FA} : iRg1 fs env st = bnd (fs env st) fun ds s1 => match ds with | [.int j] => if -(2 ^ 62) ≤ j ∧ j < 2 ^ 62 then some (.ok (intsFrom 0 j.toNat) s1) else none | _ => none := rfl
@[simp] theorem ap_call {n : Nat} {F : DF} {a : FA} : fCall n F a env st = bnd (a env st) fun ds s1 => if ds.length = n then F ds s1 else none := rfl
@[simp] theorem ap_ca {g : Sto → List D → Option D} {a : FA} : fCa g a env st = bnd (a env st) fun ds s1 => (g s1 ds).map (R.ok · s1) := rfl
@[simp] theorem ap_slL {a : FE} {lo hi : FO} : fSlL a lo hi env st = bnd (a env st) fun d s1 => bnd (lo env s1) fun l s2 => bnd (hi env s2) fun u s3 => (seqS s3 d).map fun xs => .ok (.lst (cutD xs l u)) s3 := rfl
@[simp] theorem ap_rev {a : FE} : fRev a env st = bnd (a env st) fun d s1 => (seqS s1 d).map fun xs => .ok (.lst xs.reverse) s1 := rfl
@[simp] theorem ap_oNo : oNo env st = some (.ok none st) := rfl
@[simp] theorem ap_oSome {f : FE} : oSome f env st = bnd (f env st) fun d s1 => match d with | .int i => some (.ok (some i) s1) | _ => none := rfl
@[simp] theorem ap_subL {o i : FE} {d : D} : gSubL o i d env st = bnd (o env st) fun x s1 => bnd (i env s1) fun y s2 => match x, y with
  | .ref n, .int k => match s2[n]? with
    | some (.lst xs) => match ixN xs.length k with
      | some j => some (.ok env (s2.set n (.lst (xs.set j d))))
      | none => none
    | _ => none
  | _, _ => none := rfl
@[simp] theorem ap_mtC {T : String} {g : Cell → List D → Option (D × Cell)} {o : FE} {a : FA} : fMtC T g o a env st = bnd (o env st) fun x s1 => match x with
  | .ref n => match s1[n]? with
    | some c0 => if cellT c0 = some T then bnd (a env s1) fun ds s2 => match s2[n]? with
        | some c => (g c ds).map fun q => .ok q.1 (s2.set n q.2)
        | none => none
      else none
    | none => none
  | _ => none := rfl
@[simp] theorem ap_mtL {g : Sto → List D → List D → Option D} {o : FE} {a : FA} : fMtL g o a env st = bnd (o env st) fun x s1 => match seqS s1 x with
  | some _ => bnd (a env s1) fun ds s2 => match seqS s2 x with
    | some xs => (g s2 xs ds).map (R.ok · s2)
    | none => none
  | none => none := rfl
@[simp] theorem ap_lc {fi : FI} {g : FG} {ft : FT} {fe : FE} {vs : List Nat} : fLc fi g ft fe vs env st = bnd (lcF fi g ft fe vs env st) fun ds s1 => some (.ok (.lst ds) s1) := rfl
@[simp] theorem ap_lcC {fi : FI} {g : FG} {ft : FT} {fe : FE} {vs : List Nat} : fLcC fi g ft fe vs env st = bnd (lcF fi g ft fe vs env st) fun ds s1 => some (.ok (.ref s1.length) (s1 ++ [.lst ds])) := rfl
@[simp] theorem ap_lcF {fi : FI} {g : FG} {ft : FT} {fe : FE} {vs : List Nat} : lcF fi g ft fe vs env st = bnd (fi env st) fun items s1 => if items.length ≤ 100000 then lcL g ft fe (wipeD env vs) items s1 else none := rfl
@[simp] theorem ap_tYes : tYes1 env st = some (.ok true st) := rfl
@[simp] theorem ap_lcL0 {g : FG} {ft : FT} {fe : FE} : lcL g ft fe env [] st = some (.ok [] st) := rfl
@[simp] theorem ap_lcL1 {g : FG} {ft : FT} {fe : FE} {d : D} {ds : List D} : lcL g ft fe env (d :: ds) st = bnd (noX (g d env st)) fun env1 s1 => bnd (noX (ft env1 s1)) fun c s2 =>
    if c = true then bnd (noX (fe env1 s2)) fun y s3 => bnd (lcL g ft fe env ds s3) fun ys s4 => some (.ok (y :: ys) s4)
    else lcL g ft fe env ds s2 := rfl
@[simp] theorem noX_ok' {α : Type} {a : α} {s : Sto} : noX (some (.ok a s)) = some (.ok a s) := rfl
@[simp] theorem noX_none {α : Type} : noX (none : Option (R α)) = none := rfl
@[simp] theorem wipeD_nil : wipeD env [] = env := rfl
@[simp] theorem wipeD_cons {v : Nat} {vs : List Nat} : wipeD env (v :: vs) = (wipeD env vs).set v none := rfl
@[simp] theorem ap_catC {a b : FE} : fCatC a b env st = bnd (a env st) fun x s1 => bnd (b env s1) fun y s2 => match seqP s2 x, seqP s2 y with
  | some xs, some ys => if xs.length + ys.length ≤ 1000000 then some (.ok (.ref s2.length) (s2 ++ [.lst (xs ++ ys)])) else none
  | _, _ => none := rfl
theorem ap_def {n N : Nat} {fb : FS} {ds : List D} : fDef n N fb ds st = match fb (ds.map some ++ List.replicate (N - n) none) st with
  | some (.nx _ s) => some (.ok .non s)
  | some (.rt d s) => some (.ok d s)
  | _ => none := rfl
theorem def_rt {n N : Nat} {fb : FS} {ds : List D} {d : D} {s : Sto} (he : ds.map some ++ List.replicate (N - n) none = env) (h : fb env st = some (.rt d s)) : fDef n N fb ds st = some (.ok d s) := by
  unfold fDef
  rw [he, h]
theorem def_nx {n N : Nat} {fb : FS} {ds : List D} {e2 : En} {s : Sto} (he : ds.map some ++ List.replicate (N - n) none = env) (h : fb env st = some (.nx e2 s)) : fDef n N fb ds st = some (.ok .non s) := by
  unfold fDef
  rw [he, h]
theorem seq_nx {a b : FS} {e1 : En} {s1 : Sto} (h : a env st = some (.nx e1 s1)) : fSeq a b env st = b e1 s1 := by
  unfold fSeq
  rw [h]
theorem seq_rt {a b : FS} {d : D} {s1 : Sto} (h : a env st = some (.rt d s1)) : fSeq a b env st = some (.rt d s1) := by
  unfold fSeq
  rw [h]
end
/-- a loop that comes to its end -/
theorem forL_all {g : FG} {body : FS} (I : En → Sto → Prop) : ∀ {ds : List D} {env : En} {st : Sto},
    (∀ d ∈ ds, ∀ env st, I env st → ∃ env1 s1, g d env st = some (.ok env1 s1) ∧ ∃ env2 s2, (body env1 s1 = some (.nx env2 s2) ∨ body env1 s1 = some (.ct env2 s2)) ∧ I env2 s2) →
    I env st → ∃ env2 s2, forL g body ds env st = some (.nx env2 s2) ∧ I env2 s2
  | [], env, st, _, h0 => ⟨env, st, rfl, h0⟩
  | d :: ds, env, st, h, h0 => by
    obtain ⟨env1, s1, e1, env2, s2, e2, h2⟩ := h d List.mem_cons_self env st h0
    obtain ⟨env3, s3, e3, h3⟩ := forL_all I (ds := ds) (fun d m => h d (List.mem_cons_of_mem _ m)) h2
    refine ⟨env3, s3, ?_, h3⟩
    unfold forL
    rw [e1, sb_ok]
    rcases e2 with e2 | e2 <;> rw [e2] <;> exact e3
end Fx
/-! Fx: exact numbers (tuples of a top and a bottom) as rationals. -/
namespace Fx
open PySem PySem.Spec PyProof.Rows L2

def rD (q : Rat) : D := .tup [.int q.num, .int q.den]
def decR : D → Option Rat
  | .tup [.int a, .int b] => if 0 < b ∧ Int.gcd a b = 1 then some (Rat.divInt a b) else none
  | _ => none
theorem divInt_low {a b : Int} (h : 0 < b) (g : Int.gcd a b = 1) : (Rat.divInt a b).num = a ∧ ((Rat.divInt a b).den : Int) = b := by
  have g' : b.gcd a = 1 := by rw [Int.gcd_comm]; exact g
  rw [Rat.num_divInt, Rat.den_divInt, g', if_neg (by omega), Int.sign_eq_one_of_pos h]
  refine ⟨by simp, ?_⟩
  rw [Nat.div_one]
  omega
theorem decR_some {d : D} {q : Rat} (h : decR d = some q) : d = rD q := by
  unfold decR at h
  split at h
  · rename_i a b
    split at h
    · rename_i hc
      cases h
      obtain ⟨e1, e2⟩ := divInt_low hc.1 hc.2
      unfold rD
      rw [e1, e2]
    · cases h
  · cases h
theorem rat_gcd (q : Rat) : Int.gcd q.num q.den = 1 := by
  have := q.reduced
  unfold Nat.Coprime at this
  rw [Int.gcd_eq_natAbs_gcd_natAbs]
  exact this
theorem rat_den_pos (q : Rat) : (0 : Int) < (q.den : Int) := by have := q.den_pos; omega
@[simp] theorem decR_rD (q : Rat) : decR (rD q) = some q := by
  show (if 0 < (q.den : Int) ∧ Int.gcd q.num q.den = 1 then some (Rat.divInt q.num q.den) else none) = _
  rw [if_pos ⟨rat_den_pos q, rat_gcd q⟩, Rat.num_divInt_den]
/-- small enough to be reckoned with -/
def Rs (q : Rat) : Prop := q.num.natAbs.log2 < 4000 ∧ q.den.log2 < 4000
instance (q : Rat) : Decidable (Rs q) := inferInstanceAs (Decidable (_ ∧ _))
/-- by powers of two -/
def Rz (n : Nat) (q : Rat) : Prop := q.num.natAbs < 2 ^ n ∧ q.den < 2 ^ n
theorem log2_lt {a n : Nat} (h : a < 2 ^ n) (hn : 0 < n) : a.log2 < n := PySem.Flt.log2_lt_of hn h
theorem lt_of_log2 {a n : Nat} (h : a.log2 < n) : a < 2 ^ n := Nat.lt_of_lt_of_le Nat.lt_log2_self (Nat.pow_le_pow_right (by decide) h)
theorem Rz.rs {n : Nat} {q : Rat} (h : Rz n q) (h0 : 0 < n) (hn : n ≤ 4000) : Rs q := ⟨Nat.lt_of_lt_of_le (log2_lt h.1 h0) hn, Nat.lt_of_lt_of_le (log2_lt h.2 h0) hn⟩
set_option exponentiation.threshold 5000 in
theorem Rs.rz {q : Rat} (h : Rs q) : Rz 4000 q := ⟨lt_of_log2 h.1, lt_of_log2 h.2⟩
theorem Rz.mono {n m : Nat} {q : Rat} (h : Rz n q) (l : n ≤ m) : Rz m q := ⟨Nat.lt_of_lt_of_le h.1 (Nat.pow_le_pow_right (by decide) l), Nat.lt_of_lt_of_le h.2 (Nat.pow_le_pow_right (by decide) l)⟩
theorem Sz.of {i : Int} {n : Nat} (h : i.natAbs < 2 ^ n) (h0 : 0 < n) (l : n ≤ 60000000) : Sz i := Nat.lt_of_lt_of_le (log2_lt h h0) l
theorem mul_lt {i j : Int} {a b : Nat} (ha : i.natAbs < 2 ^ a) (hb : j.natAbs < 2 ^ b) : (i * j).natAbs < 2 ^ (a + b) := wide_lt ha hb
theorem add_lt {i j : Int} {a : Nat} (ha : i.natAbs < 2 ^ a) (hb : j.natAbs < 2 ^ a) : (i + j).natAbs < 2 ^ (a + 1) := by
  have : 2 ^ (a + 1) = 2 ^ a + 2 ^ a := by rw [Nat.pow_succ]; omega
  omega
theorem sub_lt {i j : Int} {a : Nat} (ha : i.natAbs < 2 ^ a) (hb : j.natAbs < 2 ^ a) : (i - j).natAbs < 2 ^ (a + 1) := by
  have : 2 ^ (a + 1) = 2 ^ a + 2 ^ a := by rw [Nat.pow_succ]; omega
  omega
theorem Rz.den {n : Nat} {q : Rat} (h : Rz n q) : (q.den : Int).natAbs < 2 ^ n := by simpa using h.2
theorem divInt_small {a b : Int} (hb : b ≠ 0) : (Rat.divInt a b).num.natAbs ≤ a.natAbs ∧ (Rat.divInt a b).den ≤ b.natAbs := by
  rw [Rat.num_divInt, Rat.den_divInt, if_neg hb]
  refine ⟨?_, Nat.div_le_self _ _⟩
  have h : (b.sign * a / ((b.gcd a : Nat) : Int)).natAbs ≤ (b.sign * a).natAbs := by
    rw [Int.natAbs_ediv_of_dvd]
    · exact Nat.div_le_self _ _
    · exact Int.dvd_mul_of_dvd_right (Int.gcd_dvd_right ..)
  refine Nat.le_trans h ?_
  rw [Int.natAbs_mul]
  have : b.sign.natAbs ≤ 1 := by
    rcases Int.lt_trichotomy b 0 with h | h | h
    · rw [Int.sign_eq_neg_one_of_neg h]; decide
    · exact absurd h hb
    · rw [Int.sign_eq_one_of_pos h]; decide
  calc b.sign.natAbs * a.natAbs ≤ 1 * a.natAbs := Nat.mul_le_mul_right _ this
    _ = a.natAbs := Nat.one_mul _
theorem Rz.divInt {n : Nat} {a b : Int} (ha : a.natAbs < 2 ^ n) (hb : b.natAbs < 2 ^ n) (h : b ≠ 0) : Rz n (Rat.divInt a b) :=
  ⟨Nat.lt_of_le_of_lt (divInt_small h).1 ha, Nat.lt_of_le_of_lt (divInt_small h).2 hb⟩
theorem add_eq (p q : Rat) : p + q = Rat.divInt (p.num * q.den + q.num * p.den) (p.den * q.den) := by
  have h1 := rat_den_pos p
  have h2 := rat_den_pos q
  conv => lhs; rw [← Rat.num_divInt_den p, ← Rat.num_divInt_den q]
  rw [Rat.divInt_add_divInt _ _ (by omega) (by omega)]
theorem sub_eq (p q : Rat) : p - q = Rat.divInt (p.num * q.den - q.num * p.den) (p.den * q.den) := by
  have h1 := rat_den_pos p
  have h2 := rat_den_pos q
  conv => lhs; rw [← Rat.num_divInt_den p, ← Rat.num_divInt_den q]
  rw [Rat.divInt_sub_divInt _ _ (by omega) (by omega)]
theorem mul_eq (p q : Rat) : p * q = Rat.divInt (p.num * q.num) (p.den * q.den) := by
  conv => lhs; rw [← Rat.num_divInt_den p, ← Rat.num_divInt_den q]
  rw [Rat.divInt_mul_divInt]
theorem div_eq (p q : Rat) : p / q = Rat.divInt (p.num * q.den) (p.den * q.num) := by
  rw [Rat.div_def]
  conv => lhs; rw [← Rat.num_divInt_den p, ← Rat.num_divInt_den q]
  rw [Rat.inv_divInt, Rat.divInt_mul_divInt]
theorem den_mul_ne (p q : Rat) : (p.den * q.den : Int) ≠ 0 := by
  have h1 := rat_den_pos p
  have h2 := rat_den_pos q
  exact Int.ne_of_gt (Int.mul_pos h1 h2)
theorem Rz.add {n : Nat} {p q : Rat} (hp : Rz n p) (hq : Rz n q) : Rz (n + n + 1) (p + q) := by
  rw [add_eq]
  refine Rz.divInt (add_lt (mul_lt hp.1 hq.den) (mul_lt hq.1 hp.den)) ?_ (den_mul_ne p q)
  exact Nat.lt_of_lt_of_le (mul_lt hp.den hq.den) (Nat.pow_le_pow_right (by decide) (by omega))
theorem Rz.sub {n : Nat} {p q : Rat} (hp : Rz n p) (hq : Rz n q) : Rz (n + n + 1) (p - q) := by
  rw [sub_eq]
  refine Rz.divInt (sub_lt (mul_lt hp.1 hq.den) (mul_lt hq.1 hp.den)) ?_ (den_mul_ne p q)
  exact Nat.lt_of_lt_of_le (mul_lt hp.den hq.den) (Nat.pow_le_pow_right (by decide) (by omega))
theorem Rz.mul {n : Nat} {p q : Rat} (hp : Rz n p) (hq : Rz n q) : Rz (n + n + 1) (p * q) := by
  rw [mul_eq]
  refine Rz.divInt ?_ ?_ (den_mul_ne p q)
  · exact Nat.lt_of_lt_of_le (mul_lt hp.1 hq.1) (Nat.pow_le_pow_right (by decide) (by omega))
  · exact Nat.lt_of_lt_of_le (mul_lt hp.den hq.den) (Nat.pow_le_pow_right (by decide) (by omega))
theorem Rz.div {n : Nat} {p q : Rat} (hp : Rz n p) (hq : Rz n q) (h : q ≠ 0) : Rz (n + n + 1) (p / q) := by
  rw [div_eq]
  have hn : q.num ≠ 0 := fun e => h (Rat.num_eq_zero.mp e)
  have h1 := rat_den_pos p
  refine Rz.divInt ?_ ?_ (Int.mul_ne_zero (by omega) hn)
  · exact Nat.lt_of_lt_of_le (mul_lt hp.1 hq.den) (Nat.pow_le_pow_right (by decide) (by omega))
  · exact Nat.lt_of_lt_of_le (mul_lt hp.den hq.1) (Nat.pow_le_pow_right (by decide) (by omega))
/-! Euclid, as Python does it -/
theorem gcd_fmod (a b : Int) : Int.gcd b (a.fmod b) = Int.gcd a b := by
  rw [Int.fmod_def]
  rw [show a - b * a.fdiv b = a + b * (-(a.fdiv b)) by rw [Int.mul_neg]; omega]
  rw [Int.gcd_comm a b, Int.gcd_add_mul_left_right]
theorem fmod_small (a b : Int) (h : b ≠ 0) : (a.fmod b).natAbs < b.natAbs := by
  have pos : ∀ (a b : Int), 0 < b → (a.fmod b).natAbs < b.natAbs := fun a b h => by
    have h1 := Int.fmod_nonneg_of_pos a h
    have h2 := Int.fmod_lt_of_pos a h
    omega
  rcases Int.lt_or_gt_of_ne h with h | h
  · have e := Int.neg_fmod_neg (-a) (-b)
    rw [Int.neg_neg, Int.neg_neg] at e
    rw [e, Int.natAbs_neg, ← Int.natAbs_neg b]
    exact pos _ _ (by omega)
  · exact pos a b h
@[simp] theorem dNe_int {st : Sto} {a b : Int} : dNe st (.int a) (.int b) = some (.bl (!(a == b))) := by
  simp [dNe, pdS, pd, SeqAt.shaped, PyData.canLay0, PyData.depth, PyData.eqv]
@[simp] theorem dEq_int {st : Sto} {a b : Int} : dEq st (.int a) (.int b) = some (.bl (a == b)) := by
  simp [dEq, pdS, pd, SeqAt.shaped, PyData.canLay0, PyData.depth, PyData.eqv]
theorem eqv_rat (p q : Rat) : PyData.eqv (.tuple [.int p.num, .int p.den]) (.tuple [.int q.num, .int q.den]) = decide (p = q) := by
  simp only [PyData.eqv, PyData.eqvAll, Bool.and_true]
  by_cases h : p = q
  · subst h; simp
  · rw [decide_eq_false h]
    by_cases h1 : p.num = q.num
    · have h2 : ¬ (p.den : Int) = q.den := fun e => h (Rat.ext h1 (by omega))
      simp [h1, h2]
    · simp [h1]
@[simp] theorem dEq_rD {st : Sto} {p q : Rat} : dEq st (rD p) (rD q) = some (.bl (decide (p = q))) := by
  show (match some (PyData.tuple [.int p.num, .int p.den]), some (PyData.tuple [.int q.num, .int q.den]) with
    | some a, some b => if SeqAt.shaped a = true ∧ SeqAt.shaped b = true then some (D.bl (PyData.eqv a b)) else none
    | _, _ => none) = _
  simp only
  rw [eqv_rat, if_pos ⟨rfl, rfl⟩]
@[simp] theorem dNe_rD {st : Sto} {p q : Rat} : dNe st (rD p) (rD q) = some (.bl (!decide (p = q))) := by
  show (match some (PyData.tuple [.int p.num, .int p.den]), some (PyData.tuple [.int q.num, .int q.den]) with
    | some a, some b => if SeqAt.shaped a = true ∧ SeqAt.shaped b = true then some (D.bl (!PyData.eqv a b)) else none
    | _, _ => none) = _
  simp only
  rw [eqv_rat, if_pos ⟨rfl, rfl⟩]
theorem rD_nat (i : Int) : D.tup [.int i, .int 1] = rD (i : Rat) := by simp [rD]
theorem log2_mono {a b : Nat} (h : a ≤ b) : a.log2 ≤ b.log2 := by
  by_cases h0 : a = 0
  · subst h0; simp
  · rw [Nat.le_log2 (by omega)]
    exact Nat.le_trans (Nat.log2_self_le h0) h
theorem low_pos (t b : Int) (h : 0 < b) : t.fdiv (Int.gcd t b : Nat) = (Rat.divInt t b).num ∧ b.fdiv (Int.gcd t b : Nat) = (Rat.divInt t b).den := by
  rw [Rat.num_divInt, Rat.den_divInt, if_neg (by omega), Int.sign_eq_one_of_pos h, Int.one_mul, Int.gcd_comm b t]
  rw [Int.fdiv_eq_ediv_of_dvd (Int.gcd_dvd_left ..), Int.fdiv_eq_ediv_of_dvd (Int.gcd_dvd_right ..)]
  refine ⟨rfl, ?_⟩
  have : (b.natAbs : Int) = b := by omega
  rw [Int.natCast_ediv, this]
theorem low_neg (t b : Int) (h : b < 0) : t.fdiv (-(Int.gcd t b : Nat)) = (Rat.divInt t b).num ∧ b.fdiv (-(Int.gcd t b : Nat)) = (Rat.divInt t b).den := by
  rw [Rat.num_divInt, Rat.den_divInt, if_neg (by omega), Int.sign_eq_neg_one_of_neg h, Int.gcd_comm b t]
  rw [Int.fdiv_eq_ediv_of_dvd (Int.neg_dvd.mpr (Int.gcd_dvd_left ..)), Int.fdiv_eq_ediv_of_dvd (Int.neg_dvd.mpr (Int.gcd_dvd_right ..)), Int.ediv_neg, Int.ediv_neg]
  refine ⟨by rw [Int.neg_one_mul, Int.neg_ediv_of_dvd (Int.gcd_dvd_left ..)], ?_⟩
  have : (b.natAbs : Int) = -b := by omega
  rw [Int.natCast_ediv, this, Int.neg_ediv_of_dvd (Int.gcd_dvd_right ..)]
theorem gcd_ok {t b : Int} (hb : b ≠ 0) (hl : b.natAbs.log2 < 8500) : ((Int.gcd t b : Nat) : Int) ≠ 0 ∧ ((Int.gcd t b : Nat) : Int).natAbs.log2 < 9000 := by
  have h1 : 0 < Int.gcd t b := Int.gcd_pos_of_ne_zero_right _ hb
  refine ⟨by omega, ?_⟩
  have h2 : Int.gcd t b ≤ b.natAbs := Nat.le_of_dvd (by omega) (Int.gcd_eq_natAbs_gcd_natAbs t b ▸ Nat.gcd_dvd_right _ _)
  have := log2_mono h2
  simp only [Int.natAbs_natCast]
  omega
theorem dDiv_ok {st : Sto} {i j : Int} (h : j ≠ 0) (l : j.natAbs.log2 < 9000) : dDiv st (.int i) (.int j) = some (.int (i.fdiv j)) := if_pos ⟨h, l⟩
theorem dMul_ok {st : Sto} {i j : Int} (h : Sz i) (l : Sz j) : dMul st (.int i) (.int j) = some (.int (i * j)) := if_pos ⟨h, l⟩
theorem Rs.sz {q : Rat} (h : Rs q) : Sz q.num ∧ Sz q.den := by
  unfold Rs at h
  unfold Sz
  simp only [Int.natAbs_natCast]
  omega
set_option exponentiation.threshold 10000 in
theorem Rs.dd {p q : Rat} (h : Rs p) (k : Rs q) : ((p.den : Int) * q.den).natAbs.log2 < 8500 := by
  have := mul_lt h.rz.den k.rz.den
  exact Nat.lt_of_lt_of_le (log2_lt this (by decide)) (by decide)
set_option exponentiation.threshold 10000 in
theorem Rs.dn {p q : Rat} (h : Rs p) (k : Rs q) : ((p.den : Int) * q.num).natAbs.log2 < 8500 := by
  have := mul_lt h.rz.den k.rz.1
  exact Nat.lt_of_lt_of_le (log2_lt this (by decide)) (by decide)
theorem ix_rD0 {st : Sto} {q : Rat} : dIx st (rD q) (.int 0) = some (.int q.num) := rfl
theorem ix_rD1 {st : Sto} {q : Rat} : dIx st (rD q) (.int 1) = some (.int q.den) := rfl
@[simp] theorem kitB_int_int : kitB "int" "int" = some true := by decide +kernel
@[simp] theorem kitB_bool_int : kitB "bool" "int" = some true := by decide +kernel
@[simp] theorem kitB_tuple_int : kitB "tuple" "int" = some false := by decide +kernel
@[simp] theorem kitB_str_int : kitB "str" "int" = some false := by decide +kernel
@[simp] theorem kitB_list_int : kitB "list" "int" = some false := by decide +kernel
@[simp] theorem kitB_dict_int : kitB "dict" "int" = some false := by decide +kernel
@[simp] theorem kitB_NoneType_int : kitB "NoneType" "int" = some false := by decide +kernel
@[simp] theorem kitB_int_bool : kitB "int" "bool" = some false := by decide +kernel
@[simp] theorem kitB_bool_bool : kitB "bool" "bool" = some true := by decide +kernel
@[simp] theorem kitB_tuple_bool : kitB "tuple" "bool" = some false := by decide +kernel
@[simp] theorem kitB_str_bool : kitB "str" "bool" = some false := by decide +kernel
@[simp] theorem kitB_list_bool : kitB "list" "bool" = some false := by decide +kernel
@[simp] theorem kitB_dict_bool : kitB "dict" "bool" = some false := by decide +kernel
@[simp] theorem kitB_NoneType_bool : kitB "NoneType" "bool" = some false := by decide +kernel
@[simp] theorem kitB_int_tuple : kitB "int" "tuple" = some false := by decide +kernel
@[simp] theorem kitB_bool_tuple : kitB "bool" "tuple" = some false := by decide +kernel
@[simp] theorem kitB_tuple_tuple : kitB "tuple" "tuple" = some true := by decide +kernel
@[simp] theorem kitB_str_tuple : kitB "str" "tuple" = some false := by decide +kernel
@[simp] theorem kitB_list_tuple : kitB "list" "tuple" = some false := by decide +kernel
@[simp] theorem kitB_dict_tuple : kitB "dict" "tuple" = some false := by decide +kernel
@[simp] theorem kitB_NoneType_tuple : kitB "NoneType" "tuple" = some false := by decide +kernel
@[simp] theorem seqLT_tup {st : Sto} {xs : List D} : seqLT st (.tup xs) = some xs := rfl
@[simp] theorem seqLT_lst {st : Sto} {xs : List D} : seqLT st (.lst xs) = some xs := rfl
@[simp] theorem seqLT_frz {st : Sto} {xs : List D} : seqLT st (.frz xs) = some xs := rfl
@[simp] theorem seqL_lst {xs : List D} : seqL (.lst xs) = some xs := rfl
@[simp] theorem seqT_tup {xs : List D} : seqT (.tup xs) = some xs := rfl
@[simp] theorem seqS_lst {st : Sto} {xs : List D} : seqS st (.lst xs) = some xs := rfl
@[simp] theorem seqS_frz {st : Sto} {xs : List D} : seqS st (.frz xs) = some xs := rfl
@[simp] theorem seqP_lst {st : Sto} {xs : List D} : seqP st (.lst xs) = some xs := rfl
@[simp] theorem asBls_nil : asBls [] = some [] := rfl
@[simp] theorem asBls_cons {b : Bool} {ds : List D} : asBls (.bl b :: ds) = (asBls ds).map (b :: ·) := rfl
/-- the loop of Euclid over two slots -/
theorem gcd_loop (a b : Int) : ∀ (n : Nat) (st : Sto), b.natAbs < n → ∃ c : Int, whL (tV (fOp dNe (fVar 1) (fC (.int 0)))) (fPar 0 1 (fCons (fVar 1) (fCons (fOp dMod (fVar 0) (fVar 1)) fNil))) n [some (.int a), some (.int b)] st = some (.nx [some (.int c), some (.int 0)] st) ∧ c.natAbs = Int.gcd a b := by
  intro n
  induction n generalizing a b with
  | zero => intro st h; omega
  | succ n ih =>
    intro st h
    unfold whL
    by_cases hb : b = 0
    · subst hb
      exact ⟨a, by simp, by simp⟩
    · have hs := fmod_small a b hb
      obtain ⟨c, h1, h2⟩ := ih b (a.fmod b) st (by omega)
      refine ⟨c, ?_, by rw [h2, gcd_fmod]⟩
      simp [dMod, hb, h1]
/-- .. over slots further on, the others kept -/
theorem gcd_loop2 (x y z : Option D) (a b : Int) : ∀ (n : Nat) (st : Sto), b.natAbs < n → ∃ c : Int, whL (tV (fOp dNe (fVar 3) (fC (.int 0)))) (fPar 2 3 (fCons (fVar 3) (fCons (fOp dMod (fVar 2) (fVar 3)) fNil))) n [x, y, some (.int a), some (.int b), z] st = some (.nx [x, y, some (.int c), some (.int 0), z] st) ∧ c.natAbs = Int.gcd a b ∧ (0 ≤ a → 0 ≤ b → 0 ≤ c) := by
  intro n
  induction n generalizing a b with
  | zero => intro st h; omega
  | succ n ih =>
    intro st h
    unfold whL
    by_cases hb : b = 0
    · subst hb
      exact ⟨a, by simp, by simp, fun h _ => h⟩
    · have hs := fmod_small a b hb
      obtain ⟨c, h1, h2, h3⟩ := ih b (a.fmod b) st (by omega)
      refine ⟨c, ?_, by rw [h2, gcd_fmod], fun ha hb' => h3 hb' (Int.fmod_nonneg_of_pos a (by omega))⟩
      simp [dMod, hb, h1]
end Fx
/-! Fx: dicts in cells, what repr shows, walks over either kind of sequence. -/
namespace Fx
open PySem PySem.Spec PyProof.Rows L2

/-! ### the pairs of a dict -/
def keyD : Key → D
  | .inl i => .int i
  | .inr x => .str x
def dKey : D → Option Key
  | .int i => some (.inl i)
  | .str x => some (.inr x)
  | _ => none
section
variable {α β : Type}
def valA (kvs : List (Key × α)) (k : Key) : Option α := (kvs.find? fun kv => decide (kv.1 = k)).map (·.2)
def putA (kvs : List (Key × α)) (k : Key) (v : α) : List (Key × α) :=
  if (kvs.any fun kv => decide (kv.1 = k)) = true then kvs.map (fun kv => if kv.1 = k then (kv.1, v) else kv) else kvs ++ [(k, v)]
def mergeA (kvs more : List (Key × α)) : List (Key × α) := more.foldl (fun acc kv => putA acc kv.1 kv.2) kvs
theorem valA_nil {k : Key} : valA ([] : List (Key × α)) k = none := rfl
theorem valA_cons {p : Key × α} {r : List (Key × α)} {k : Key} : valA (p :: r) k = if p.1 = k then some p.2 else valA r k := by
  unfold valA
  by_cases h : p.1 = k <;> simp [List.find?_cons, h]
theorem valA_any (k : Key) : ∀ kvs : List (Key × α), (kvs.any fun kv => decide (kv.1 = k)) = (valA kvs k).isSome
  | [] => rfl
  | p :: r => by
    rw [List.any_cons, valA_cons, valA_any k r]
    by_cases h : p.1 = k <;> simp [h]
theorem valA_put {kvs : List (Key × α)} {k j : Key} {v : α} : valA (putA kvs k v) j = if j = k then some v else valA kvs j := by
  unfold putA
  rw [valA_any]
  split
  · rename_i h
    induction kvs with
    | nil => cases h
    | cons p r ih =>
      rw [List.map_cons, valA_cons, valA_cons]
      rw [valA_cons] at h
      by_cases hp : p.1 = k
      · rw [if_pos hp]
        by_cases hj : j = k
        · subst hj
          simp [hp]
        · have : ¬ p.1 = j := fun e => hj (by rw [← e, hp])
          simp only [if_neg this, if_neg hj]
          have : ∀ r : List (Key × α), valA (r.map fun kv => if kv.1 = k then (kv.1, v) else kv) j = valA r j := by
            intro r
            induction r with
            | nil => rfl
            | cons q r ih =>
              rw [List.map_cons, valA_cons, valA_cons, ih]
              by_cases hq : q.1 = k
              · rw [if_pos hq]
                have : ¬ q.1 = j := fun e => hj (by rw [← e, hq])
                simp only [if_neg this]
              · rw [if_neg hq]
          rw [this]
      · rw [if_neg hp] at h ⊢
        rw [ih h]
        by_cases hj : j = k
        · subst hj
          simp [hp]
        · simp only [if_neg hj]
  · rename_i h0
    have h : valA kvs k = none := by
      cases q : valA kvs k with
      | none => rfl
      | some _ => rw [q] at h0; exact absurd rfl h0
    clear h0
    induction kvs with
    | nil =>
      rw [List.nil_append, valA_cons, valA_nil]
      by_cases hj : j = k
      · subst hj; simp
      · have : ¬ k = j := fun e => hj e.symm
        simp [hj, this]
    | cons p r ih =>
      rw [valA_cons] at h
      by_cases hp : p.1 = k
      · rw [if_pos hp] at h; cases h
      · rw [if_neg hp] at h
        rw [List.cons_append, valA_cons, valA_cons, ih h]
        by_cases hj : j = k
        · subst hj
          simp [hp]
        · simp only [if_neg hj]
theorem putA_length (kvs : List (Key × α)) (k : Key) (v : α) : (putA kvs k v).length ≤ kvs.length + 1 := by
  unfold putA
  split <;> simp
theorem mergeA_length : ∀ (more kvs : List (Key × α)), (mergeA kvs more).length ≤ kvs.length + more.length
  | [], kvs => Nat.le_refl _
  | p :: r, kvs => by
    have := mergeA_length r (putA kvs p.1 p.2)
    have h2 := putA_length kvs p.1 p.2
    show (mergeA (putA kvs p.1 p.2) r).length ≤ _
    simp only [List.length_cons]
    omega
end
theorem valV_valA {kvs : List (Key × V)} {k : Key} : valV kvs k = valA kvs k := rfl
theorem putK_putA {kvs : List (Key × V)} {k : Key} {v : V} : putK kvs k v = putA kvs k v := rfl
section
variable {K : PySem.W.Frag} {H H' : Hp} {ρ ρ' : Mp} {v : V} {d : D} {xs : List (Key × V)} {ds : List (Key × D)} {st : Sto}
theorem DRk.nil : DRk K H ρ [] [] := ⟨rfl, fun i x d e _ => by simp at e⟩
theorem DRk.cons {x : Key × V} {y : Key × D} (k : x.1 = y.1) (h : DR K H ρ x.2 y.2) (t : DRk K H ρ xs ds) : DRk K H ρ (x :: xs) (y :: ds) := by
  refine ⟨by simp [t.1], fun i x' d' e1 e2 => ?_⟩
  cases i with
  | zero => simp at e1 e2; subst e1; subst e2; exact ⟨k, h⟩
  | succ i => exact t.2 i x' d' (by simpa using e1) (by simpa using e2)
theorem DRk.cons_inv {y : Key × D} (h : DRk K H ρ xs (y :: ds)) : ∃ x r, xs = x :: r ∧ x.1 = y.1 ∧ DR K H ρ x.2 y.2 ∧ DRk K H ρ r ds := by
  cases xs with
  | nil => have := h.1; simp at this
  | cons x r =>
    have := h.2 0 x y rfl rfl
    exact ⟨x, r, rfl, this.1, this.2, by simpa using h.1, fun i x' d' e1 e2 => h.2 (i + 1) x' d' (by simpa using e1) (by simpa using e2)⟩
theorem DRk.nil_inv (h : DRk K H ρ xs []) : xs = [] := by
  have := h.1
  cases xs with
  | nil => rfl
  | cons x xs => simp at this
theorem DRk.keys : ∀ {ds : List (Key × D)} {xs : List (Key × V)}, DRk K H ρ xs ds → xs.map (·.1) = ds.map (·.1)
  | [], xs, h => by rw [h.nil_inv]; rfl
  | y :: ds, xs, h => by
    obtain ⟨x, r, rfl, e, _, t⟩ := h.cons_inv
    rw [List.map_cons, List.map_cons, e, DRk.keys t]
theorem DRk.val {k : Key} : ∀ {ds : List (Key × D)} {xs : List (Key × V)}, DRk K H ρ xs ds → (∃ v d, valA xs k = some v ∧ valA ds k = some d ∧ DR K H ρ v d) ∨ (valA xs k = none ∧ valA ds k = none)
  | [], xs, h => by rw [h.nil_inv]; exact .inr ⟨rfl, rfl⟩
  | y :: ds, xs, h => by
    obtain ⟨x, r, rfl, e, q, t⟩ := h.cons_inv
    rw [valA_cons, valA_cons, e]
    by_cases hk : y.1 = k
    · simp only [if_pos hk]
      exact .inl ⟨_, _, rfl, rfl, q⟩
    · simp only [if_neg hk]
      exact t.val
theorem DRk.repl {k : Key} (hv : DR K H ρ v d) : ∀ {ds : List (Key × D)} {xs : List (Key × V)}, DRk K H ρ xs ds → DRk K H ρ (xs.map fun kv => if kv.1 = k then (kv.1, v) else kv) (ds.map fun kv => if kv.1 = k then (kv.1, d) else kv)
  | [], xs, h => by rw [h.nil_inv]; exact .nil
  | y :: ds, xs, h => by
    obtain ⟨x, r, rfl, e, q, t⟩ := h.cons_inv
    rw [List.map_cons, List.map_cons, e]
    by_cases hk : y.1 = k
    · simp only [if_pos hk]
      exact .cons rfl hv (DRk.repl hv t)
    · simp only [if_neg hk]
      exact .cons e q (DRk.repl hv t)
theorem DRk.snoc {k : Key} (hv : DR K H ρ v d) : ∀ {ds : List (Key × D)} {xs : List (Key × V)}, DRk K H ρ xs ds → DRk K H ρ (xs ++ [(k, v)]) (ds ++ [(k, d)])
  | [], xs, h => by rw [h.nil_inv]; exact .cons rfl hv .nil
  | y :: ds, xs, h => by
    obtain ⟨x, r, rfl, e, q, t⟩ := h.cons_inv
    exact .cons e q (DRk.snoc hv t)
theorem DRk.put {k : Key} (h : DRk K H ρ xs ds) (hv : DR K H ρ v d) : DRk K H ρ (putA xs k v) (putA ds k d) := by
  have e : (xs.any fun kv => decide (kv.1 = k)) = (ds.any fun kv => decide (kv.1 = k)) := by
    rw [valA_any, valA_any]
    rcases h.val (k := k) with ⟨_, _, e1, e2, _⟩ | ⟨e1, e2⟩ <;> rw [e1, e2] <;> rfl
  unfold putA
  rw [e]
  split
  · exact h.repl hv
  · exact h.snoc hv
theorem DRk.merge : ∀ {es : List (Key × D)} {ys : List (Key × V)} {ds : List (Key × D)} {xs : List (Key × V)}, DRk K H ρ ys es → DRk K H ρ xs ds → DRk K H ρ (mergeA xs ys) (mergeA ds es)
  | [], ys, ds, xs, h, t => by rw [h.nil_inv]; exact t
  | y :: es, ys, ds, xs, h, t => by
    obtain ⟨x, r, rfl, e, q, h⟩ := h.cons_inv
    show DRk K H ρ (mergeA (putA xs x.1 x.2) r) (mergeA (putA ds y.1 y.2) es)
    rw [e]
    exact DRk.merge h (t.put q)
/-- the dict that d is -/
def dctOf (st : Sto) : D → Option (List (Key × D))
  | .ref n => match st[n]? with
    | some (.dct k) => some k
    | some (.dcf k) => some k
    | _ => none
  | _ => none
theorem dctOf_inv (s : StR K H ρ st) (h : DR K H ρ v d) {kvs : List (Key × D)} (e : dctOf st d = some kvs) : ∃ a xs, v = .ref a ∧ Rd H a (.dK xs) ∧ DRk K H ρ xs kvs := by
  cases h <;> first | cases e | skip
  rename_i n a h
  unfold dctOf at e
  simp only at e
  split at e
  · rename_i k hk
    cases e
    obtain ⟨xs, q1, q2⟩ := s.cell _ _ _ h hk
    exact ⟨a, xs, rfl, .inl q1, q2⟩
  · rename_i k hk
    cases e
    obtain ⟨o, xs, q1, q2⟩ := s.cell _ _ _ h hk
    exact ⟨a, xs, rfl, .inr ⟨o, q1⟩, q2⟩
  · cases e
theorem dKey_eq {k : Key} (h : DR K H ρ v d) (e : dKey d = some k) : v = kV k := by
  cases h <;> first | cases e | skip
  · rfl
  · rfl
theorem keyD_dr {k : Key} : DR K H ρ (kV k) (keyD k) := by
  cases k
  · exact .int _
  · exact .str _
end

/-! ### expressions and statements on dicts -/
def fDctC : FE := fun _ st => some (.ok (.ref st.length) (st ++ [.dct []]))
def fGetK (a b : FE) : FE := fun env st => bnd (a env st) fun x s1 => bnd (b env s1) fun y s2 => match dctOf s2 x, dKey y with
  | some kvs, some k => (valA kvs k).map (R.ok · s2)
  | _, _ => none
def isDct (st : Sto) (d : D) : Bool := (dctOf st d).isSome
def fGet1 (a b : FE) : FE := fun env st => bnd (a env st) fun x s1 => if isDct s1 x = true then bnd (b env s1) fun y s2 => match dctOf s2 x, dKey y with
  | some kvs, some k => some (.ok ((valA kvs k).getD .non) s2)
  | _, _ => none else none
def fGet2 (a b c : FE) : FE := fun env st => bnd (a env st) fun x s1 => if isDct s1 x = true then bnd (b env s1) fun y s2 => bnd (c env s2) fun z s3 => match dctOf s3 x, dKey y with
  | some kvs, some k => some (.ok ((valA kvs k).getD z) s3)
  | _, _ => none else none
def fPutK (a b c : FE) : FS := fun env st => sb (c env st) fun v s1 => sb (a env s1) fun x s2 => sb (b env s2) fun y s3 => match x, dKey y with
  | .ref n, some k => match s3[n]? with
    | some (.dct kvs) => if kvs.length ≤ 1000000 then some (.nx env (s3.set n (.dct (putA kvs k v)))) else none
    | _ => none
  | _, _ => none
section
variable {X : Cx} {E : XK} {e o i a b value : Expr} {es : List Expr} {pos pos' p apos cpos : Pos} {fa fb fc : FE} {fs : FA} {K : PySem.W.Frag}
theorem v_dctC : VE X E (.Dict [] [] pos) fDctC := by
  refine PE.imp pe_dnewK fun σ H Q ⟨ρ, env, st, r, w, hf, hQ⟩ => ?_
  cases hf
  refine fun p hp => ?_
  have s : Step ρ H (ρ.add p) (upd H p (.dK [])) := .cell hp
  exact hQ _ _ _ s (w.st.newCell hp ⟨[], upd_same, .nil⟩) (.ref (cell_ix w.st))
theorem v_getK (hu : X.A.units + 1 < cLine) (ha : VE X E o fa) (hb : VE X E i fb) (hs : NoSl i) : VE X E (.Subscript o i pos) (fGetK fa fb) := by
  refine PE.imp (pe_dget hu ha hb hs) fun σ H Q ⟨ρ, env, st, r, w, hf, hQ⟩ => ?_
  refine rd_bind w hf hQ fun x dx s1 H1 ρ1 t1 w1 r1 hf hQ => ?_
  refine rd_bind w1 hf hQ fun y dy s2 H2 ρ2 t2 w2 r2 hf hQ => ?_
  split at hf
  · rename_i kvs k e1 e2
    obtain ⟨d, e3, rfl⟩ := map_some hf
    obtain ⟨a, xs, rfl, q1, q2⟩ := dctOf_inv w2.st (r1.step t2) e1
    have := dKey_eq r2 e2
    subst this
    rcases q2.val (k := k) with ⟨v, d', e4, e5, e6⟩ | ⟨e4, e5⟩
    · rw [e3] at e5
      cases e5
      exact ⟨a, v, rfl, .inl ⟨xs, k, q1, rfl, by rw [valV_valA, e4]⟩, hQ.val w2.st e6⟩
    · rw [e3] at e5; cases e5
  · cases hf
theorem isD_of {H : Hp} {ρ : Mp} {st : Sto} {v : V} {d : D} (s : StR K H ρ st) (r : DR K H ρ v d) (e : isDct st d = true) : ∃ a, v = .ref a ∧ IsD H a := by
  unfold isDct at e
  obtain ⟨kvs, e⟩ := Option.isSome_iff_exists.mp e
  obtain ⟨a, xs, rfl, q, _⟩ := dctOf_inv s r e
  exact ⟨a, rfl, .inl ⟨xs, q⟩⟩
theorem v_get1 (hu : X.A.units + 1 < cLine) (ho : VE X E o fa) (ha : VE X E a fb) (m : M1 X o "get" apos a cpos) : VE X E (.Call (.Attribute o "get" apos) [a] [] cpos) (fGet1 fa fb) := by
  refine PE.imp (pe_dget1 hu ho ha m) fun σ H Q ⟨ρ, env, st, r, w, hf, hQ⟩ => ?_
  refine rd_bind w hf hQ fun x dx s1 H1 ρ1 t1 w1 r1 hf hQ => ?_
  split at hf
  case isFalse => cases hf
  rename_i hd
  obtain ⟨q, rfl, isd⟩ := isD_of w1.st r1 hd
  refine ⟨q, rfl, isd, ?_⟩
  refine rd_bind w1 hf hQ fun y dy s2 H2 ρ2 t2 w2 r2 hf hQ => ?_
  split at hf
  · rename_i kvs k e1 e2
    cases hf
    obtain ⟨a, xs, ea, q1, q2⟩ := dctOf_inv w2.st (r1.step t2) e1
    cases ea
    have := dKey_eq r2 e2
    subst this
    refine ⟨valV xs k, .inl ⟨xs, k, q1, rfl, rfl⟩, ?_⟩
    rcases q2.val (k := k) with ⟨v, d', e4, e5, e6⟩ | ⟨e4, e5⟩
    · rw [valV_valA, e4]; rw [e5] at hQ
      exact hQ.val w2.st e6
    · rw [valV_valA, e4]; rw [e5] at hQ
      exact hQ.val w2.st .non
  · cases hf
theorem v_get2 (hu : X.A.units + 1 < cLine) (ho : VE X E o fa) (ha : VE X E a fb) (hb : VE X E b fc) (m : M2 X o "get" apos a b cpos) : VE X E (.Call (.Attribute o "get" apos) [a, b] [] cpos) (fGet2 fa fb fc) := by
  refine PE.imp (pe_dget2 hu ho ha hb m) fun σ H Q ⟨ρ, env, st, r, w, hf, hQ⟩ => ?_
  refine rd_bind w hf hQ fun x dx s1 H1 ρ1 t1 w1 r1 hf hQ => ?_
  split at hf
  case isFalse => cases hf
  rename_i hd
  obtain ⟨q, rfl, isd⟩ := isD_of w1.st r1 hd
  refine ⟨q, rfl, isd, ?_⟩
  refine rd_bind w1 hf hQ fun y dy s2 H2 ρ2 t2 w2 r2 hf hQ => ?_
  refine rd_bind w2 hf hQ fun z dz s3 H3 ρ3 t3 w3 r3 hf hQ => ?_
  split at hf
  · rename_i kvs k e1 e2
    cases hf
    obtain ⟨a, xs, ea, q1, q2⟩ := dctOf_inv w3.st (r1.step (t2.trans t3)) e1
    cases ea
    have := dKey_eq r2 e2
    subst this
    refine ⟨valV xs k, .inl ⟨xs, k, q1, rfl, rfl⟩, ?_⟩
    rcases q2.val (k := k) with ⟨v, d', e4, e5, e6⟩ | ⟨e4, e5⟩
    · rw [valV_valA, e4]; rw [e5] at hQ
      exact hQ.val w3.st e6
    · rw [valV_valA, e4]; rw [e5] at hQ
      exact hQ.val w3.st r3
  · cases hf
theorem s_putK (hu : X.A.units + 1 < cLine) (ho : VE X E o fa) (hi : VE X E i fb) (hv : VE X E value fc) (hs : swapsWith value (some (.Subscript o i pos')) pos.line X.env = pure false := by rfl) :
    VS X E (.Assign [.Subscript o i pos'] value pos) (fPutK fa fb fc) := by
  refine PS.imp (ps_dput hu ho hi hv hs) fun Dn σ H ⟨ρ, env, st, r, w, hf, hQ⟩ => ?_
  refine rd_sb w hf hQ fun u du s1 H1 ρ1 t1 w1 r1 hf hQ => ?_
  refine rd_sb w1 hf hQ fun x dx s2 H2 ρ2 t2 w2 r2 hf hQ => ?_
  refine rd_sb w2 hf hQ fun y dy s3 H3 ρ3 t3 w3 r3 hf hQ => ?_
  cases e1 : dKey dy with
  | none => rw [e1] at hf; cases dx <;> cases hf
  | some k =>
    rw [e1] at hf
    cases dx <;> first | cases hf | skip
    rename_i n
    simp only at hf
    split at hf
    · rename_i kvs hk
      split at hf
      · rename_i hl
        cases hf
        obtain ⟨a, rfl, q1⟩ := (r2.step t3).ref_inv
        obtain ⟨xs, q2, q3⟩ := w3.st.dctAt q1 hk
        have := dKey_eq r3 e1
        subst this
        have nf : NoFz (H3 a) := by rw [q2]; trivial
        have t4 : Step ρ3 H3 ρ3 (upd H3 a (.dK (putK xs k u))) := .write q1 nf
        refine ⟨a, _, rfl, .inl ⟨xs, k, q2, rfl, ?_, rfl⟩, ?_⟩
        · exact Nat.lt_of_le_of_lt (m := 1000000) (by rw [q3.1]; exact hl) (by decide)
        · exact hQ σ _ ρ3 t4 ⟨w3.en.step t4, w3.st.write q1 nf ⟨_, upd_same, (DRk.put q3 ((r1.step t2).step t3)).step t4⟩⟩
      · cases hf
    · cases hf
end
end Fx
/-! Fx: sorted(d), dict(..), walks over dicts, repr. -/
namespace Fx
open PySem PySem.Spec PyProof.Rows L2

/-! ### sorted texts -/
def leS (a b : Str) : Bool := !ltCps b.cps.toList a.cps.toList
def sortS (ks : List Str) : List Str := ks.mergeSort leS
theorem leS_iff {a b : Str} : leS a b = true ↔ ¬ b.cps.toList < a.cps.toList := by
  unfold leS
  rw [ltCps_eq]
  simp
theorem leS_trans (a b c : Str) (h1 : leS a b = true) (h2 : leS b c = true) : leS a c = true :=
  leS_iff.mpr (List.le_trans (leS_iff.mp h1) (leS_iff.mp h2))
theorem leS_total (a b : Str) : (leS a b || leS b a) = true := by
  rw [Bool.or_eq_true, leS_iff, leS_iff]
  exact List.le_total _ _
theorem leS_anti {a b : Str} (h1 : leS a b = true) (h2 : leS b a = true) : a = b := by
  have h := List.le_antisymm (leS_iff.mp h1) (leS_iff.mp h2)
  obtain ⟨⟨a⟩⟩ := a
  obtain ⟨⟨b⟩⟩ := b
  exact congrArg _ (congrArg _ h)
theorem risingS_all : ∀ {l : List Str} {p : Str}, risingS p l = true → (∀ x ∈ l, leS p x = true) ∧ l.Pairwise fun a b => leS a b = true
  | [], p, _ => ⟨fun _ m => (nomatch m), List.Pairwise.nil⟩
  | x :: r, p, h => by
    unfold risingS at h
    obtain ⟨h1, h2⟩ := Bool.and_eq_true_iff.mp h
    obtain ⟨q1, q2⟩ := risingS_all h2
    refine ⟨fun y m => ?_, List.pairwise_cons.mpr ⟨q1, q2⟩⟩
    rcases List.mem_cons.mp m with rfl | m
    · exact h1
    · exact leS_trans _ _ _ h1 (q1 y m)
theorem sortedS_pw {l : List Str} (h : sortedS l = true) : l.Pairwise fun a b => leS a b = true := by
  cases l with
  | nil => exact List.Pairwise.nil
  | cons x r =>
    obtain ⟨q1, q2⟩ := risingS_all (show risingS x r = true from h)
    exact List.pairwise_cons.mpr ⟨q1, q2⟩
theorem sortS_uniq {ys ks : List Str} (p : ys.Perm ks) (h : ys.Pairwise fun a b => leS a b = true) : ys = sortS ks :=
  List.Perm.eq_of_pairwise (le := fun a b => leS a b = true) (fun a b _ _ h1 h2 => leS_anti h1 h2) h (List.pairwise_mergeSort leS_trans leS_total ks) (p.trans (List.mergeSort_perm ks leS).symm)
/-- the keys, all texts -/
def keysS : List (Key × D) → Option (List Str)
  | [] => some []
  | (.inr x, _) :: r => (keysS r).map (x :: ·)
  | (.inl _, _) :: _ => none
theorem keysS_eq : ∀ {kvs : List (Key × D)} {ks : List Str}, keysS kvs = some ks → kvs.map (·.1) = ks.map Sum.inr
  | [], ks, h => by cases h; rfl
  | (.inr x, d) :: r, ks, h => by
    obtain ⟨zs, e, rfl⟩ := map_some (show (keysS r).map (x :: ·) = some ks from h)
    rw [List.map_cons, List.map_cons, keysS_eq e]
  | (.inl i, d) :: r, ks, h => by cases h
def bSortK (st : Sto) : List D → Option D
  | [d] => (dctOf st d).bind fun kvs => (keysS kvs).bind fun ks => if ks.length < 64 then some (.lst ((sortS ks).map .str)) else none
  | _ => none
def rSortK : List V → Hp → VK → Prop := fun xs H Q => ∃ (a : Addr) (kvs : List (Key × V)) (ks : List Str), xs = [.ref a] ∧ Rd H a (.dK kvs) ∧ kvs.map (·.1) = ks.map Sum.inr ∧ ks.length < 64 ∧
    ∀ ys p, ys.Perm ks → sortedS ys = true → H p = none → Q (.ref p) (upd H p (.lst (ys.map V.str)))
theorem call_sortK {X : Cx} (hc : X.calm = true) : CallR X (.builtin "sorted") rSortK := call_sortedD hc
theorem strs_dr {K : PySem.W.Frag} {H : Hp} {ρ : Mp} : ∀ l : List Str, DRs K H ρ (l.map V.str) (l.map D.str)
  | [] => .nil
  | x :: l => .cons (.str x) (strs_dr l)
theorem sortK_p {K : PySem.W.Frag} : CaP K rSortK bSortK := by
  intro ρ H st xs ds d Q hs hx e h
  unfold bSortK at e
  split at e
  · obtain ⟨x, rfl, q⟩ := one_inv hx
    obtain ⟨kvs, e1, e⟩ := Option.bind_eq_some_iff.mp e
    obtain ⟨ks, e2, e⟩ := Option.bind_eq_some_iff.mp e
    split at e
    · rename_i hl
      cases e
      obtain ⟨a, ws, rfl, q1, q2⟩ := dctOf_inv hs q e1
      refine ⟨a, ws, ks, rfl, q1, by rw [q2.keys, keysS_eq e2], hl, fun ys p pm sr hp => ?_⟩
      have := sortS_uniq pm (sortedS_pw sr)
      subst this
      obtain ⟨sm, q⟩ := new_lst hs hp (strs_dr (K := K) (H := H) (ρ := ρ) (sortS ks))
      exact h _ _ sm q
    · cases e
  · cases e

/-! ### dict(..) -/
def asPr : D → Option (Key × D)
  | .tup [k, v] => (dKey k).map fun k => (k, v)
  | .frt [k, v] => (dKey k).map fun k => (k, v)
  | _ => none
def asPrs : List D → Option (List (Key × D))
  | [] => some []
  | d :: ds => (asPr d).bind fun p => (asPrs ds).map (p :: ·)
def fNewD (g : Sto → List D → Option (List (Key × D))) (a : FA) : FE := fun env st => bnd (a env st) fun ds s1 => (g s1 ds).map fun kvs => .ok (.ref s1.length) (s1 ++ [.dct kvs])
def CdP (K : PySem.W.Frag) (r : List V → Hp → VK → Prop) (g : Sto → List D → Option (List (Key × D))) : Prop := ∀ (ρ : Mp) (H : Hp) (st : Sto) (xs : List V) (ds : List D) (kvs : List (Key × D)) (Q : VK), StR K H ρ st → DRs K H ρ xs ds → g st ds = some kvs →
  (∀ p ys, H p = none → DRk K H ρ ys kvs → Q (.ref p) (upd H p (.dK ys))) → r xs H Q
section
variable {X : Cx} {E : XK} {pos p : Pos} {fs : FA} {e : Expr} {es : List Expr} {K : PySem.W.Frag}
theorem v_newD {r : List V → Hp → VK → Prop} {g : Sto → List D → Option (List (Key × D))} (hc : CallR X (.type "dict") r) (hr : CdP X.K r g) (hg : Gl X "dict") (hm : X.mg "dict" = none) (hv : bootBuiltins "dict" = some (.type "dict")) (ha : VA X E (e :: es) fs)
    (he : starEach (e :: es) X.env = (false, eval e X.env) :: starEach es X.env := by rfl) (hpl : (backTo pos (starEach es X.env)).any (·.1) = false := by rfl) : VE X E (.Call (.Name "dict" p) (e :: es) [] pos) (fNewD g fs) := by
  refine PE.imp (pe_callTy hc hg hm hv ha (by decide) (by decide) he hpl) fun σ H Q ⟨ρ, env, st, r, w, hf, hQ⟩ => ?_
  refine rd_bind w hf hQ fun xs ds s1 H1 ρ1 t1 w1 r1 hf hQ => ?_
  obtain ⟨kvs, e1, rfl⟩ := map_some hf
  refine hr ρ1 H1 s1 xs ds kvs Q w1.st r1 e1 fun p ys hp hk => ?_
  have s : Step ρ1 H1 (ρ1.add p) (upd H1 p (.dK ys)) := .cell hp
  exact hQ _ _ _ s (w1.st.newCell hp ⟨ys, upd_same, hk.step s⟩) (.ref (cell_ix w1.st))
def bDictD (st : Sto) : List D → Option (List (Key × D))
  | [d] => dctOf st d
  | _ => none
theorem dictD_p : CdP K (fun xs H Q => ∃ (a : Addr) (kvs : List (Key × V)), xs = [.ref a] ∧ Rd H a (.dK kvs) ∧ ∀ p, H p = none → Q (.ref p) (upd H p (.dK kvs))) bDictD := by
  intro ρ H st xs ds kvs Q hs hx e h
  unfold bDictD at e
  split at e
  · obtain ⟨x, rfl, q⟩ := one_inv hx
    obtain ⟨a, ws, rfl, q1, q2⟩ := dctOf_inv hs q e
    exact ⟨a, ws, rfl, q1, fun p hp => h p ws hp q2⟩
  · cases e
def bDictL (st : Sto) : List D → Option (List (Key × D))
  | [d] => ((seqS st d).bind asPrs).map (mergeA [])
  | _ => none
theorem asPr_inv {H : Hp} {ρ : Mp} {v : V} {d : D} {q : Key × D} (h : DR K H ρ v d) (e : asPr d = some q) : ∃ (p : Addr) (u : V), v = .ref p ∧ SqT K H p [kV q.1, u] ∧ DR K H ρ u q.2 := by
  unfold asPr at e
  split at e
  · obtain ⟨k, e1, rfl⟩ := map_some e
    obtain ⟨a, us, rfl, q1, q2⟩ := h.tup_inv
    obtain ⟨u, w, rfl, q3, q4⟩ := two_inv q2
    rw [dKey_eq q3 e1] at q1
    exact ⟨a, w, rfl, q1.seq, q4⟩
  · obtain ⟨k, e1, rfl⟩ := map_some e
    obtain ⟨a, us, rfl, q1, q2⟩ := h.frt_inv
    obtain ⟨u, w, rfl, q3, q4⟩ := two_inv q2
    rw [dKey_eq q3 e1] at q1
    exact ⟨a, w, rfl, q1.seq, q4⟩
  · cases e
theorem asPrs_inv {H : Hp} {ρ : Mp} : ∀ {ds : List D} {vs : List V} {qs : List (Key × D)}, DRs K H ρ vs ds → asPrs ds = some qs → ∃ (ps : List Addr) (kvs : List (Key × V)), vs = ps.map V.ref ∧ Paired (fun p kv => SqT K H p [kV kv.1, kv.2]) ps kvs ∧ DRk K H ρ kvs qs
  | [], vs, qs, h, e => by cases e; rw [h.nil_inv]; exact ⟨[], [], rfl, .nil, .nil⟩
  | d :: ds, vs, qs, h, e => by
    obtain ⟨q, e1, e⟩ := Option.bind_eq_some_iff.mp (show (asPr d).bind _ = some qs from e)
    obtain ⟨rs, e2, rfl⟩ := map_some e
    obtain ⟨x, xs, rfl, q1, q2⟩ := h.cons_inv
    obtain ⟨p, u, rfl, q3, q4⟩ := asPr_inv q1 e1
    obtain ⟨ps, kvs, rfl, q5, q6⟩ := asPrs_inv q2 e2
    exact ⟨p :: ps, (q.1, u) :: kvs, rfl, .cons q3 q5, .cons rfl q4 q6⟩
def rDictL (K : PySem.W.Frag) : List V → Hp → VK → Prop := fun xs H Q => ∃ (a : Addr) (ps : List Addr) (kvs : List (Key × V)), xs = [.ref a] ∧ SqL K H a (ps.map V.ref) ∧ Paired (fun p kv => SqT K H p [kV kv.1, kv.2]) ps kvs ∧
    ∀ p, H p = none → Q (.ref p) (upd H p (.dK (mergeK [] kvs)))
theorem dictL_p : CdP K (rDictL K) bDictL := by
  intro ρ H st xs ds kvs Q hs hx e h
  unfold bDictL at e
  split at e
  · obtain ⟨x, rfl, q⟩ := one_inv hx
    obtain ⟨qs, e1, rfl⟩ := map_some e
    obtain ⟨zs, e2, e3⟩ := Option.bind_eq_some_iff.mp e1
    obtain ⟨a, ws, rfl, q1, q2⟩ := seqS_inv hs q e2
    obtain ⟨ps, kvs, rfl, q3, q4⟩ := asPrs_inv q2 e3
    exact ⟨a, ps, kvs, rfl, q1, q3, fun p hp => h p _ hp (DRk.merge q4 .nil)⟩
  · cases e
/-- dict(t), t a tuple of pairs whose object is known -/
def rDictT (K : PySem.W.Frag) : List V → Hp → VK → Prop := fun xs H Q => ∃ (a : Addr) (o : Obj) (ps : List Addr) (kvs : List (Key × V)), xs = [.ref a] ∧ H a = some (.frz o (.tup (ps.map V.ref))) ∧ o.dict = none ∧ Paired (fun p kv => SqT K H p [kV kv.1, kv.2]) ps kvs ∧
    ∀ p, H p = none → Q (.ref p) (upd H p (.dK (mergeK [] kvs)))
theorem keyed_pairs {pins : List (Addr × Obj)} {σ : L2.St} {H : Hp} {s : Shared} (I : Inv X pins σ H s) : ∀ {ps : List Addr} {kvs : List (Key × V)}, Paired (fun p kv => SqT X.K H p [kV kv.1, kv.2]) ps kvs →
    ∃ qs : List (Key × Value × Value), KV kvs (qs.map fun q => (q.1, q.2.2)) ∧ Paired (fun p (q : Key × Value × Value) => IsTup s.heap p #[q.2.1, q.2.2] ∧ keyIs q.1 q.2.1 = true) ps qs
  | _, _, .nil => ⟨[], .nil, .nil⟩
  | _, _, .cons (b := kv) h t => by
    obtain ⟨qs, r1, r2⟩ := keyed_pairs I t
    obtain ⟨its, rv, ht, _⟩ := I.tuple h
    obtain ⟨u, y, rfl, ru, ry⟩ := vals2 rv
    exact ⟨(kv.1, u, y) :: qs, .cons ⟨rfl, ry⟩ r1, .cons ⟨ht, kV_is (P := X.prog) (w := X.w) ru⟩ r2⟩
theorem call_dictT (hc : X.calm = true) : CallR X (.type "dict") (rDictT X.K) := by
  rintro pins s σ H xs us Q I r ⟨a, o, ps, kvs, rfl, ha, ho, hp, q⟩
  obtain ⟨u, rfl, ru⟩ := vals1 r
  obtain rfl : u = Value.ref a := ru
  obtain ⟨hget, hz, its, rv, ob, hob, hcl, n, hdat⟩ := I.hok _ _ ha
  rw [hget] at hob
  cases hob
  have := refs_at rv
  subst this
  rw [List.length_map] at hz
  obtain ⟨qs, r1, r2⟩ := keyed_pairs I hp
  have len : ps.length = qs.length := Paired.length r2
  have arg := PairArg.tuple (prog := X.prog) (w := X.w) a (ps.map Value.ref).toArray (fun j => ps.getD j 0) (qs.map (·.2))
  refine call_dict_pairs (knd := mixKind X.prog X.w) (kvs := qs.map fun q => (q.1, q.2.2)) arg (I.ok.hd hc) ⟨⟨o, n, hget, hcl, ho, hdat⟩, by simp [len], fun j k v e => ?_⟩ ⟨by simp, fun i key v e => ?_⟩ (by simpa [← len] using hz) fun h' tk hd' keep => ?_
  · rw [List.getElem?_map] at e
    cases e2 : qs[j]? with
    | none => rw [e2] at e; cases e
    | some z =>
      rw [e2] at e
      have e : z.2 = (k, v) := Option.some.inj e
      obtain ⟨b, e3, e4, e5⟩ : ∃ b, ps[j]? = some b ∧ IsTup s.heap b #[z.2.1, z.2.2] ∧ keyIs z.1 z.2.1 = true := by
        have hj : j < ps.length := by rw [len]; exact (List.getElem?_eq_some_iff.mp e2).1
        obtain ⟨y, e6, e7⟩ := paired_get r2 (List.getElem?_eq_getElem hj)
        rw [e2] at e6
        cases e6
        exact ⟨_, List.getElem?_eq_getElem hj, e7⟩
      refine ⟨by simp [e3], .inl ?_⟩
      have : ps.getD j 0 = b := by simp [e3]
      show s.heap.IsTuple (ps.getD j 0) #[k, v]
      rw [this]
      rw [e] at e4
      exact e4
  · rw [PairRel, List.getElem?_map] at e
    cases e2 : qs[i]? with
    | none => rw [e2] at e; cases e
    | some z =>
      rw [e2] at e
      have e : z.2 = (key, v) := Option.some.inj e
      have hj : i < ps.length := by rw [len]; exact (List.getElem?_eq_some_iff.mp e2).1
      obtain ⟨y, e6, e7, e8⟩ := paired_get r2 (List.getElem?_eq_getElem hj)
      rw [e2] at e6
      cases e6
      rw [e] at e8
      exact ⟨z.1, by rw [List.getElem?_map, e2]; simp [e], e8⟩
  · have hm : (s.heap.objs.size == sysModules) = false := beq_eq_false_iff_ne.mpr (Nat.ne_of_gt I.big)
    have hlen : (mergeK [] kvs).length ≤ sizeLine := by
      have := length_mergeK kvs []
      have h2 : kvs.length = ps.length := (Paired.length hp).symm
      simp only [List.length_nil] at this
      omega
    exact ⟨.ref s.heap.objs.size, _, I.laid (o := .dK (mergeK [] kvs)) (t' := tk) (fun b o e => keep b o (by simp) e) (Nat.le_refl _) ⟨hlen, hm, merged [] (qs.map fun q => (q.1, q.2.2)), KV.merge r1 .nil, hd'⟩, rfl, q _ (I.hok.fresh (Nat.le_refl _))⟩
def bDictT (st : Sto) : List D → Option (List (Key × D))
  | [.tup ds] => (asPrs ds).map (mergeA [])
  | _ => none
theorem dictT_p : CdP K (rDictT K) bDictT := by
  intro ρ H st xs ds kvs Q hs hx e h
  unfold bDictT at e
  split at e
  · obtain ⟨x, rfl, q⟩ := one_inv hx
    obtain ⟨qs, e1, rfl⟩ := map_some e
    obtain ⟨a, ws, rfl, ⟨n, o, q1, q5⟩, q2⟩ := q.tup_inv
    obtain ⟨ps, kvs, rfl, q3, q4⟩ := asPrs_inv q2 e1
    exact ⟨a, o, ps, kvs, rfl, q1, q5, q3, fun p hp => h p _ hp (DRk.merge q4 .nil)⟩
  · cases e
end

/-! ### walks -/
/-- a list or a tuple -/
def iAny (fa : FE) : FI := fun env st => bnd (fa env st) fun d s1 => match seqL d with
  | some xs => some (.ok xs s1)
  | none => (seqT d).map (R.ok · s1)
/-- the dict walked is locked for good -/
def lockC (n : Nat) (st : Sto) : Option (List (Key × D) × Sto) := match st[n]? with
  | some (.dct kvs) => some (kvs, st.set n (.dcf kvs))
  | some (.dcf kvs) => some (kvs, st)
  | _ => none
def lockD (d : D) (st : Sto) : Option (List (Key × D) × Sto) := match d with
  | .ref n => lockC n st
  | _ => none
def iItems (fa : FE) : FI := fun env st => bnd (fa env st) fun d s1 => (lockD d s1).map fun z => .ok (z.1.map fun p => .frt [keyD p.1, p.2]) z.2
def iKeys (fa : FE) : FI := fun env st => bnd (fa env st) fun d s1 => (lockD d s1).map fun z => .ok (z.1.map fun p => keyD p.1) z.2
section
variable {X : Cx} {E : XK} {pos p apos cpos : Pos} {fa : FE} {e tg a b : Expr}
theorem i_any (h : VE X E e fa) : VI X E tg e (iAny fa) := by
  refine ⟨fun pins s σ H R I ⟨ρ, env, st, r, w, hf, hQ⟩ => ?_⟩
  have hf0 : bnd (fa env st) (fun d s1 => match seqL d with | some xs => some (Fx.R.ok xs s1) | none => (seqT d).map (Fx.R.ok · s1)) = some r := hf
  rcases bnd_some hf0 with ⟨d, s1, e1, e2⟩ | ⟨ex, s1, e1, e2⟩
  · cases q : seqL d with
    | some xs =>
      rw [q] at e2
      exact (i_list (tg := tg) h).run pins s σ H R I ⟨ρ, env, st, r, w, by unfold iLst; rw [e1, bnd_ok, q]; exact e2, hQ⟩
    | none =>
      rw [q] at e2
      exact (i_tup (tg := tg) h).run pins s σ H R I ⟨ρ, env, st, r, w, by unfold iTp; rw [e1, bnd_ok]; exact e2, hQ⟩
  · exact (i_list (tg := tg) h).run pins s σ H R I ⟨ρ, env, st, r, w, by unfold iLst; rw [e1, bnd_exc, e2], hQ⟩
/-- what an expression tells may be locked -/
def tLk (t : TE) : TE := fun σ H Q => t σ H fun x H1 => (∃ d u, x = .ref d ∧ H1 d = some u ∧ Mut (some u) ∧ ∀ od, Q x (upd H1 d (.frz od u))) ∨ Q x H1
theorem pe_lk {t : TE} (h : PE X e t) : PE X e (tLk t) := by
  refine ⟨fun pins s σ H Q I hq => thn (h.run pins s σ H _ I hq) fun v s1 ⟨x, H1, I1, rx, q⟩ => ?_⟩
  rcases q with ⟨d, u, rfl, hd, mu, q⟩ | q
  · obtain ⟨od, I2⟩ := I1.lock hd mu
    exact ⟨_, _, I2, rx, q od⟩
  · exact ⟨x, H1, I1, rx, q⟩
theorem lk_rd {α β : Type} {rel2 : Hp → Mp → β → α → Prop} {σ : L2.St} {H : Hp} {ρ : Mp} {env : En} {st : Sto} {k : List (Key × D) → α} {r : R α} {Q : β → Hp → Prop} {Qv : VK} (w : Wd X.K H ρ σ env st)
    (hf : bnd (fa env st) (fun d s1 => (lockD d s1).map fun z => Fx.R.ok (k z.1) z.2) = some r) (hQ : Fin rel2 X.K E ρ H Q r)
    (cont : ∀ a o xs kvs H1 ρ1 s1, Step ρ H ρ1 H1 → StR X.K H1 ρ1 s1 → H1 a = some (.frz o (.dK xs)) → DRk X.K H1 ρ1 xs kvs → r = .ok (k kvs) s1 → Qv (.ref a) H1) : tLk (rdE X.K E fa) σ H Qv := by
  refine rd_bind w hf hQ fun x dx s1 H1 ρ1 t1 w1 r1 hf hQ => ?_
  obtain ⟨⟨kvs, s2⟩, e1, rfl⟩ := map_some hf
  cases r1 <;> first | cases e1 | skip
  rename_i n a h
  unfold lockD lockC at e1
  simp only at e1
  split at e1
  · rename_i ks hk
    cases e1
    obtain ⟨xs, q1, q2⟩ := w1.st.dctAt h hk
    refine .inl ⟨a, _, rfl, q1, trivial, fun od => ?_⟩
    have nf : NoFz (H1 a) := by rw [q1]; trivial
    have t2 : Step ρ1 H1 ρ1 (upd H1 a (.frz od (.dK xs))) := .write h nf
    exact cont a od xs _ _ ρ1 _ (t1.trans t2) (w1.st.write h nf (c := .dcf kvs) ⟨od, xs, upd_same, q2.step t2⟩) upd_same (q2.step t2) rfl
  · rename_i ks hk
    cases e1
    obtain ⟨o, xs, q1, q2⟩ := w1.st.cell _ _ _ h hk
    exact .inr (cont a o xs _ _ ρ1 _ t1 w1.st q1 q2 rfl)
  · cases e1
theorem DRk.get {K : PySem.W.Frag} {H : Hp} {ρ : Mp} {xs : List (Key × V)} {ds : List (Key × D)} (h : DRk K H ρ xs ds) {i : Nat} {q : Key × D} (e : ds[i]? = some q) : ∃ v, xs[i]? = some (q.1, v) ∧ DR K H ρ v q.2 := by
  have hi : i < xs.length := by rw [h.1]; exact (List.getElem?_eq_some_iff.mp e).1
  obtain ⟨e1, e2⟩ := h.2 i _ _ (List.getElem?_eq_getElem hi) e
  exact ⟨_, by rw [List.getElem?_eq_getElem hi, ← e1], e2⟩
theorem i_keys (h : VE X E e fa) : VI X E tg e (Fx.iKeys fa) := by
  refine PI.imp (pi_keys (pe_lk h)) fun σ H Q ⟨ρ, env, st, r, w, hf, hQ⟩ => ?_
  refine lk_rd (fa := fa) (k := fun z : List (Key × D) => z.map fun p : Key × D => keyD p.1) w hf hQ fun a o xs kvs H1 ρ1 s1 t1 hs1 ha hk er => ?_
  subst er
  refine ⟨a, o, rfl, .inl ⟨xs, ha, hQ _ H1 ρ1 t1 hs1 fun ρ2 H2 st2 t2 hs2 => ⟨fun i d hd => ?_, fun i hi => ⟨t2.fz _ _ _ ha, by rw [hk.1]; simpa using hi⟩⟩⟩⟩
  rw [List.getElem?_map] at hd
  obtain ⟨z, e1, rfl⟩ := map_some hd
  obtain ⟨v, e2, e3⟩ := hk.get e1
  refine ⟨⟨t2.fz _ _ _ ha, (List.getElem?_eq_some_iff.mp e2).1⟩, fun x H' hy => ?_⟩
  obtain ⟨rfl, k, v', e4, rfl⟩ := hy
  rw [e2] at e4
  cases e4
  exact ⟨Same.refl _, keyD_dr⟩
theorem i_items {elts : List Expr} {kk : Nat} {tpos : Pos} (h : VE X E e fa) (hbase : attributeBase e "items" X.env (eval e X.env) = eval e X.env := by rfl) (hline : (apos.endLine == cpos.line) = true := by rfl) :
    VI X E (.Tuple elts kk tpos) (.Call (.Attribute e "items" apos) [] [] cpos) (Fx.iItems fa) := by
  refine PI.imp (pi_items (pe_lk h) hbase hline) fun σ H Q ⟨ρ, env, st, r, w, hf, hQ⟩ => ?_
  refine lk_rd (fa := fa) (k := fun z : List (Key × D) => z.map fun p : Key × D => D.frt [keyD p.1, p.2]) w hf hQ fun a o xs kvs H1 ρ1 s1 t1 hs1 ha hk er => ?_
  subst er
  refine ⟨a, o, xs, rfl, ha, hQ _ H1 ρ1 t1 hs1 fun ρ2 H2 st2 t2 hs2 => ⟨fun i d hd => ?_, fun i hi => ⟨t2.fz _ _ _ ha, by rw [hk.1]; simpa using hi⟩⟩⟩
  rw [List.getElem?_map] at hd
  obtain ⟨z, e1, rfl⟩ := map_some hd
  obtain ⟨v, e2, e3⟩ := hk.get e1
  refine ⟨⟨t2.fz _ _ _ ha, (List.getElem?_eq_some_iff.mp e2).1⟩, fun x H' hy => ?_⟩
  obtain ⟨T, k, v', e4, rfl, hT, rfl⟩ := hy
  rw [e2] at e4
  cases e4
  obtain ⟨sm, q⟩ := new_frt hs2 hT (.cons (keyD_dr (k := z.1)) (.cons (e3.far t2) .nil))
  exact ⟨sm, q⟩
end

/-! ### repr -/
theorem _root_.L2.Room.u1 {k : Nat} {A : Around} (r : Room k A) : A.units + 1 < cLine := by have := r.un; omega
theorem _root_.L2.Room.u100 {k : Nat} {A : Around} (r : Room k A) : A.units + 100 < cLine := by have := r.un; omega
def bRepr (st : Sto) : List D → Option D
  | [d] => match pdS st d with
    | some e => if SeqAt.shaped e = true ∧ e.showable = true ∧ e.shown.length ≤ 1000000 then some (.str e.shown) else none
    | none => none
  | _ => none
def rRepr (K : PySem.W.Frag) : List V → Hp → VK → Prop := fun xs H Q => ∃ x e, xs = [x] ∧ Dp K H x e ∧ SeqAt.shaped e = true ∧ e.showable = true ∧ e.shown.length ≤ sizeLine ∧ Q (.str e.shown) H
theorem call_repr {X : Cx} (hgd : X.A.guards = some []) (hu : X.A.units + 100 < cLine) : CallR X (.builtin "repr") (rRepr X.K) := by
  rintro pins s σ H xs us Q I r ⟨x, e, rfl, hd, sh, so, sz, q⟩
  obtain ⟨u, rfl, ru⟩ := vals1 r
  obtain ⟨as, rd⟩ := Dp.reads I e x u hd ru
  have nd : e.hasDict = true → sysModules ∉ as := PyData.noDict_hsm (PyData.hasDict_of_canLay e (SeqAt.canLay_of_shaped sh))
  have dp := SeqAt.depth_of_shaped sh
  cases u with
  | ref a => exact repr_of_reads' rd so nd hgd (by omega) (fun b o e => e) (fun h' t tk keep => ⟨.str e.shown, H, I.kept (t' := tk) keep, ⟨t, rfl⟩, q⟩) sz
  | none => cases rd; exact PySem.P.repr_of_none ⟨.str _, H, I.tok _, ⟨_, rfl⟩, q⟩
  | bool b => cases rd; exact PySem.P.repr_of_bool ⟨.str _, H, I.tok _, ⟨_, rfl⟩, q⟩
  | int i t => cases rd; exact PySem.P.repr_of_int (of_decide_eq_true so) ⟨.str _, H, I.tok _, ⟨_, rfl⟩, q⟩
  | str x t => cases rd; exact PySem.P.repr_of_str ⟨.str _, H, I.tok _, ⟨_, rfl⟩, q⟩ sz
  | _ => cases rd
theorem repr_p {K : PySem.W.Frag} : CaP K (rRepr K) bRepr := by
  intro ρ H st xs ds d Q hs hx e h
  unfold bRepr at e
  split at e
  · obtain ⟨x, rfl, q⟩ := one_inv hx
    split at e
    · rename_i pe he
      split at e
      · rename_i hc
        cases e
        exact ⟨x, pe, rfl, pdS_dp hs he q, hc.1, hc.2.1, le_line hc.2.2, h _ H (Same.refl H) (.str _)⟩
      · cases e
    · cases e
  · cases e

/-! ### texts compared -/
def dEqS (_ : Sto) (x y : D) : Option D := match x, y with
  | .str a, .str b => some (.bl (decide (a = b)))
  | _, _ => none
def dNeS (_ : Sto) (x y : D) : Option D := match x, y with
  | .str a, .str b => some (.bl (!decide (a = b)))
  | _, _ => none
theorem strV_dec {a b : Str} : decide (V.str a = V.str b) = decide (a = b) := by
  by_cases h : a = b <;> simp [h]
theorem eqS_p {K : PySem.W.Frag} : OpP K rEq dEqS := by
  intro ρ H st x y dx dy d Q hs hx hy e h
  unfold dEqS at e
  split at e
  · cases e; cases hx; cases hy
    exact ⟨rfl, h _ H (Same.refl H) (by rw [strV_dec]; exact .bl _)⟩
  · cases e
theorem neS_p {K : PySem.W.Frag} : OpP K rNe dNeS := by
  intro ρ H st x y dx dy d Q hs hx hy e h
  unfold dNeS at e
  split at e
  · cases e; cases hx; cases hy
    exact ⟨rfl, h _ H (Same.refl H) (by rw [strV_dec]; exact .bl _)⟩
  · cases e

/-! ### a def's cells that nobody knows any more are dropped -/
open Classical in
noncomputable def cl (F : DF) : DF := fun ds st => match F ds st with
  | some (.ok d s) => if st.length ≤ s.length ∧ D.ok st.length d = true ∧ ∀ (i : Nat) (c : Cell), i < st.length → s[i]? = some c → st[i]? = some c ∨ c.ok st.length = true then some (.ok d (s.take st.length)) else none
  | _ => none
theorem df_cl {P : Program} {w : World} {K : PySem.W.Frag} {mg : Str → Option Value} {base : Heap} {k n : Nat} {x : Str} {F : DF} (h : Df P w K mg base k x n F) : Df P w K mg base k x n (cl F) := by
  refine df_imp h fun ds st r hn ho hs hg => ?_
  unfold cl at hg
  split at hg
  · rename_i d s e
    split at hg
    · rename_i c
      obtain ⟨c1, c2, c3⟩ := c
      cases hg
      have len : (s.take st.length).length = st.length := by rw [List.length_take]; omega
      refine ⟨d, s.take st.length, s.drop st.length, rfl, by rw [List.take_append_drop]; exact e, .inr ⟨by omega, by rw [len]; exact c2, fun c m => ?_⟩⟩
      rw [len]
      obtain ⟨i, e1⟩ := List.getElem?_of_mem m
      have hi : i < st.length := by have := (List.getElem?_eq_some_iff.mp e1).1; omega
      rw [List.getElem?_take, if_pos hi] at e1
      rcases c3 i c hi e1 with z | z
      · exact hs c (List.mem_of_getElem? z)
      · exact z
    · cases hg
  · cases hg
theorem cl_pure {F : DF} {ds : List D} {st more : Sto} {d : D} (e : F ds st = some (.ok d (st ++ more))) (h : D.ok st.length d = true) : cl F ds st = some (.ok d st) := by
  unfold cl
  rw [e]
  simp only
  rw [if_pos ⟨by simp, h, fun i c hi q => .inl (by rw [List.getElem?_append_left hi] at q; exact q)⟩, List.take_left]
theorem cl_set {F : DF} {ds : List D} {st more : Sto} {d : D} {p : Nat} {c2 : Cell} (e : F ds st = some (.ok d (st.set p c2 ++ more))) (h : D.ok st.length d = true) (hc : c2.ok st.length = true) : cl F ds st = some (.ok d (st.set p c2)) := by
  unfold cl
  rw [e]
  simp only
  rw [if_pos]
  · rw [show st.length = (st.set p c2).length by simp, List.take_left]
  · refine ⟨by simp, h, fun i c hi q => ?_⟩
    rw [List.getElem?_append_left (by simpa using hi)] at q
    by_cases hp : p = i
    · subst hp
      rw [List.getElem?_set_self hi] at q
      cases q
      exact .inr hc
    · rw [List.getElem?_set_ne hp] at q
      exact .inl q
end Fx
/-! Fx: how dicts and repr are worked out. -/
namespace Fx
open PySem PySem.Spec PyProof.Rows L2
section
variable {env : En} {st : Sto}
theorem dAdd_int {i j : Int} : dAdd st (.int i) (.int j) = some (.int (i + j)) := rfl
@[simp] theorem ap_dctC : fDctC env st = some (.ok (.ref st.length) (st ++ [.dct []])) := rfl
@[simp] theorem ap_getK {a b : FE} : fGetK a b env st = bnd (a env st) fun x s1 => bnd (b env s1) fun y s2 => match dctOf s2 x, dKey y with
  | some kvs, some k => (valA kvs k).map (Fx.R.ok · s2)
  | _, _ => none := rfl
@[simp] theorem ap_get1 {a b : FE} : fGet1 a b env st = bnd (a env st) fun x s1 => if isDct s1 x = true then bnd (b env s1) fun y s2 => match dctOf s2 x, dKey y with
  | some kvs, some k => some (.ok ((valA kvs k).getD .non) s2)
  | _, _ => none else none := rfl
@[simp] theorem ap_get2 {a b c : FE} : fGet2 a b c env st = bnd (a env st) fun x s1 => if isDct s1 x = true then bnd (b env s1) fun y s2 => bnd (c env s2) fun z s3 => match dctOf s3 x, dKey y with
  | some kvs, some k => some (.ok ((valA kvs k).getD z) s3)
  | _, _ => none else none := rfl
@[simp] theorem ap_putK {a b c : FE} : fPutK a b c env st = sb (c env st) fun v s1 => sb (a env s1) fun x s2 => sb (b env s2) fun y s3 => match x, dKey y with
  | .ref n, some k => match s3[n]? with
    | some (.dct kvs) => if kvs.length ≤ 1000000 then some (.nx env (s3.set n (.dct (putA kvs k v)))) else none
    | _ => none
  | _, _ => none := rfl
@[simp] theorem ap_newD {g : Sto → List D → Option (List (Key × D))} {a : FA} : fNewD g a env st = bnd (a env st) fun ds s1 => (g s1 ds).map fun kvs => .ok (.ref s1.length) (s1 ++ [.dct kvs]) := rfl
@[simp] theorem ap_iAny {a : FE} : iAny a env st = bnd (a env st) fun d s1 => match seqL d with
  | some xs => some (.ok xs s1)
  | none => (seqT d).map (Fx.R.ok · s1) := rfl
@[simp] theorem ap_iItems {a : FE} : Fx.iItems a env st = bnd (a env st) fun d s1 => (lockD d s1).map fun z => .ok (z.1.map fun p => .frt [keyD p.1, p.2]) z.2 := rfl
@[simp] theorem ap_iKeys {a : FE} : Fx.iKeys a env st = bnd (a env st) fun d s1 => (lockD d s1).map fun z => .ok (z.1.map fun p => keyD p.1) z.2 := rfl
@[simp] theorem dKey_str {x : Str} : dKey (.str x) = some (.inr x) := rfl
@[simp] theorem dKey_int {i : Int} : dKey (.int i) = some (.inl i) := rfl
@[simp] theorem keyD_str {x : Str} : keyD (.inr x) = .str x := rfl
@[simp] theorem keyD_int {x : Int} : keyD (.inl x) = .int x := rfl
/-! a cell at the end of the store -/
@[simp] theorem last_get {c : Cell} : (st ++ [c])[st.length]? = some c := by rw [List.getElem?_append_right (Nat.le_refl _)]; simp
@[simp] theorem last_set {c d : Cell} : (st ++ [c]).set st.length d = st ++ [d] := by rw [List.set_append_right _ _ (Nat.le_refl _)]; simp
theorem dctOf_at {n : Nat} {k : List (Key × D)} (h : st[n]? = some (.dct k)) : dctOf st (.ref n) = some k := by simp only [dctOf, h]
theorem dctOf_atf {n : Nat} {k : List (Key × D)} (h : st[n]? = some (.dcf k)) : dctOf st (.ref n) = some k := by simp only [dctOf, h]
@[simp] theorem last_dct {k : List (Key × D)} : dctOf (st ++ [.dct k]) (.ref st.length) = some k := dctOf_at last_get
theorem isDct_of {d : D} {k : List (Key × D)} (h : dctOf st d = some k) : isDct st d = true := by unfold isDct; rw [h]; rfl
@[simp] theorem last_isDct {k : List (Key × D)} : isDct (st ++ [.dct k]) (.ref st.length) = true := isDct_of last_dct
end
section
variable {α β : Type}
theorem valA_map (f : α → β) (k : Key) : ∀ m : List (Key × α), valA (m.map fun p => (p.1, f p.2)) k = (valA m k).map f
  | [] => rfl
  | p :: r => by
    rw [List.map_cons, valA_cons, valA_cons, valA_map f k r]
    by_cases h : p.1 = k <;> simp [h]
theorem putA_map (f : α → β) (k : Key) (v : α) (m : List (Key × α)) : putA (m.map fun p => (p.1, f p.2)) k (f v) = (putA m k v).map fun p => (p.1, f p.2) := by
  unfold putA
  rw [List.any_map]
  have e : ((fun kv : Key × β => decide (kv.1 = k)) ∘ fun p : Key × α => (p.1, f p.2)) = fun kv => decide (kv.1 = k) := rfl
  rw [e]
  split
  · rw [List.map_map, List.map_map]
    apply List.map_congr_left
    intro p _
    simp only [Function.comp]
    by_cases h : p.1 = k <;> simp [h]
  · rw [List.map_append]; rfl
theorem mergeA_map (f : α → β) : ∀ (more m : List (Key × α)), mergeA (m.map fun p => (p.1, f p.2)) (more.map fun p => (p.1, f p.2)) = (mergeA m more).map fun p => (p.1, f p.2)
  | [], m => rfl
  | p :: r, m => by
    show mergeA (putA (m.map fun p => (p.1, f p.2)) p.1 (f p.2)) (r.map fun p => (p.1, f p.2)) = _
    rw [putA_map, mergeA_map f r]
    rfl
theorem valA_none {m : List (Key × α)} {k : Key} : valA m k = none ↔ k ∉ m.map (·.1) := by
  induction m with
  | nil => simp [valA_nil]
  | cons p r ih =>
    rw [valA_cons, List.map_cons, List.mem_cons, not_or]
    by_cases h : p.1 = k
    · simp [h]
    · rw [if_neg h, ih]
      exact ⟨fun q => ⟨fun e => h e.symm, q⟩, fun q => q.2⟩
theorem valA_some {m : List (Key × α)} {k : Key} (h : (valA m k).isSome = true) : k ∈ m.map (·.1) := by
  by_cases q : k ∈ m.map (·.1)
  · exact q
  · rw [valA_none.mpr q] at h; cases h
theorem putA_keys {m : List (Key × α)} {k : Key} {v : α} : (putA m k v).map (·.1) = if (valA m k).isSome = true then m.map (·.1) else m.map (·.1) ++ [k] := by
  unfold putA
  rw [valA_any]
  split
  · rw [List.map_map]
    apply List.map_congr_left
    intro p _
    simp only [Function.comp]
    by_cases h : p.1 = k <;> simp [h]
  · rw [List.map_append]; rfl
end
/-! ### dicts from texts to ints -/
abbrev MI := List (Key × Int)
def dI (m : MI) : List (Key × D) := m.map fun p => (p.1, .int p.2)
def at0 (m : MI) (x : Str) : Int := (valA m (.inr x)).getD 0
/-- the keys are texts of L, each once -/
structure Kd (L : List Str) (m : MI) : Prop where
  nd : (m.map (·.1)).Nodup
  str : ∀ k ∈ m.map (·.1), ∃ x ∈ L, k = .inr x
theorem Kd.nil {L : List Str} : Kd L [] := ⟨List.nodup_nil, fun _ m => by cases m⟩
theorem Kd.put {L : List Str} {m : MI} {x : Str} {i : Int} (h : Kd L m) (hx : x ∈ L) : Kd L (putA m (.inr x) i) := by
  constructor
  · rw [putA_keys]
    split
    · exact h.nd
    · rename_i n
      rw [List.nodup_append]
      refine ⟨h.nd, by simp, fun a ha b hb e => n ?_⟩
      rw [List.mem_singleton.mp hb] at e
      subst e
      cases q : valA m (.inr x) with
      | none => exact absurd ha (valA_none.mp q)
      | some _ => rfl
  · intro k hk
    rw [putA_keys] at hk
    split at hk
    · exact h.str k hk
    · rcases List.mem_append.mp hk with q | q
      · exact h.str k q
      · exact ⟨x, hx, List.mem_singleton.mp q⟩
theorem at0_put {m : MI} {x y : Str} {i : Int} : at0 (putA m (.inr x) i) y = if y = x then i else at0 m y := by
  unfold at0
  rw [valA_put]
  by_cases h : y = x
  · subst h; simp
  · have : ¬ (Sum.inr y : Key) = .inr x := fun e => h (Sum.inr.inj e)
    simp [h, this]
def ksOf (m : MI) : List Str := m.filterMap fun p => match p.1 with
  | .inr x => some x
  | .inl _ => none
theorem ks_some {L : List Str} : ∀ {m : MI}, (∀ k ∈ m.map (·.1), ∃ x ∈ L, k = .inr x) → keysS (dI m) = some (ksOf m) ∧ m.map (·.1) = (ksOf m).map Sum.inr
  | [], _ => ⟨rfl, rfl⟩
  | (.inl i, v) :: r, h => by
    obtain ⟨x, _, e⟩ := h (.inl i) (by simp)
    cases e
  | (.inr y, v) :: r, h => by
    obtain ⟨e1, e2⟩ := ks_some (L := L) (m := r) fun k hk => h k (List.mem_cons_of_mem _ hk)
    refine ⟨?_, ?_⟩
    · show (keysS (dI r)).map (y :: ·) = _
      rw [e1]; rfl
    · rw [List.map_cons, e2]; rfl
theorem Kd.sorted {L : List Str} {m : MI} (h : Kd L m) (hL : L.Pairwise fun a b => leS a b = true) (hn : L.Nodup) : keysS (dI m) = some (ksOf m) ∧ (ksOf m).length ≤ L.length ∧ sortS (ksOf m) = L.filter fun x => (valA m (.inr x)).isSome := by
  obtain ⟨e1, e2⟩ := ks_some h.str
  have nd : (ksOf m).Nodup := by
    have := h.nd
    rw [e2] at this
    exact (List.pairwise_map.mp this).imp fun h e => h (by rw [e])
  have mem : ∀ x, x ∈ ksOf m ↔ (x ∈ L ∧ (valA m (.inr x)).isSome = true) := fun x => by
    have q : x ∈ ksOf m ↔ (Sum.inr x : Key) ∈ m.map (·.1) := by rw [e2]; simp
    rw [q]
    constructor
    · intro z
      obtain ⟨y, hy, e⟩ := h.str _ z
      cases e
      refine ⟨hy, ?_⟩
      cases w : valA m (.inr x) with
      | none => exact absurd z (valA_none.mp w)
      | some _ => rfl
    · rintro ⟨_, z⟩
      by_cases w : (Sum.inr x : Key) ∈ m.map (·.1)
      · exact w
      · rw [valA_none.mpr w] at z; cases z
  have e3 : sortS (ksOf m) = L.filter fun x => (valA m (.inr x)).isSome := by
    refine (sortS_uniq ?_ (hL.filter _)).symm
    refine (List.perm_ext_iff_of_nodup (hn.filter _) nd).mpr fun x => ?_
    rw [List.mem_filter, mem]
  refine ⟨e1, ?_, e3⟩
  rw [← (List.mergeSort_perm (ksOf m) leS).length_eq]
  show (sortS (ksOf m)).length ≤ _
  rw [e3]
  exact List.length_filter_le _ _
/-- sorted(d) -/
theorem Kd.sortK {L : List Str} {m : MI} {st : Sto} {d : D} (h : Kd L m) (hL : L.Pairwise fun a b => leS a b = true) (hn : L.Nodup) (h64 : L.length < 64) (e : dctOf st d = some (dI m)) : bSortK st [d] = some (.lst ((L.filter fun x => (valA m (.inr x)).isSome).map .str)) := by
  obtain ⟨e1, e2, e3⟩ := h.sorted hL hn
  show (dctOf st d).bind _ = _
  rw [e]
  show (keysS (dI m)).bind _ = _
  rw [e1]
  show (if (ksOf m).length < 64 then some (D.lst ((sortS (ksOf m)).map .str)) else none) = _
  rw [if_pos (by omega), e3]
theorem valA_dI {m : MI} {k : Key} : valA (dI m) k = (valA m k).map .int := valA_map D.int k m
theorem putA_dI {m : MI} {k : Key} {i : Int} : putA (dI m) k (.int i) = dI (putA m k i) := putA_map D.int k i m
theorem dI_length {m : MI} : (dI m).length = m.length := List.length_map ..
theorem Kd.len {L : List Str} {m : MI} (h : Kd L m) (hL : L.Pairwise fun a b => leS a b = true) (hn : L.Nodup) : m.length ≤ L.length := by
  have e : m.length = (m.map (·.1)).length := by simp
  obtain ⟨e1, e2, e3⟩ := h.sorted hL hn
  rw [e, (ks_some h.str).2, List.length_map]
  exact e2
theorem at0_some {m : MI} {x : Str} (h : (valA m (.inr x)).isSome = true) : valA m (.inr x) = some (at0 m x) := by
  unfold at0
  obtain ⟨v, e⟩ := Option.isSome_iff_exists.mp h
  rw [e]; rfl
theorem at0_no {m : MI} {x : Str} (h : ¬ (valA m (.inr x)).isSome = true) : at0 m x = 0 := by
  unfold at0
  cases q : valA m (.inr x) with
  | none => rfl
  | some v => rw [q] at h; exact absurd rfl h
/-- a comprehension over known items that keeps the store -/
theorem lcL_fun {α : Type} {g : FG} {ft : FT} {fe : FE} {env : En} {st : Sto} {h : α → D} {b : α → Bool} {d : α → D} : ∀ {xs : List α},
    (∀ x ∈ xs, ∃ env1, g (h x) env st = some (.ok env1 st) ∧ ft env1 st = some (.ok (b x) st) ∧ (b x = true → fe env1 st = some (.ok (d x) st))) → lcL g ft fe env (xs.map h) st = some (.ok ((xs.filter b).map d) st)
  | [], _ => rfl
  | x :: xs, H => by
    obtain ⟨env1, e1, e2, e3⟩ := H x List.mem_cons_self
    have ih := lcL_fun (xs := xs) fun y m => H y (List.mem_cons_of_mem _ m)
    rw [List.map_cons, ap_lcL1, e1, noX_ok', bnd_ok, e2, noX_ok', bnd_ok]
    cases q : b x with
    | true =>
      rw [if_pos rfl, e3 q, noX_ok', bnd_ok, ih, bnd_ok, List.filter_cons_of_pos q, List.map_cons]
    | false => rw [if_neg (by simp), ih, List.filter_cons_of_neg (by rw [q]; simp)]
/-- the items of a list or a tuple -/
def seqAny (d : D) : Option (List D) := match seqL d with
  | some xs => some xs
  | none => seqT d
theorem any_eq {fa : FE} {env : En} {st s1 : Sto} {d : D} {xs : List D} (h : fa env st = some (.ok d s1)) (e : seqAny d = some xs) : iAny fa env st = some (.ok xs s1) := by
  unfold iAny
  rw [h, bnd_ok]
  unfold seqAny at e
  cases q : seqL d with
  | some ys => rw [q] at e; cases e; rfl
  | none => rw [q] at e; simp only at e ⊢; rw [e]; rfl
/-! ### repr -/
theorem repr_str {st : Sto} {d : D} {e : PyData} (h : pdS st d = some e) (h1 : SeqAt.shaped e = true) (h2 : e.showable = true) (h3 : e.shown.length ≤ 1000000) : bRepr st [d] = some (.str e.shown) := by
  unfold bRepr
  simp only [h]
  rw [if_pos ⟨h1, h2, h3⟩]
theorem neS_same {st : Sto} {x : Str} : dNeS st (.str x) (.str x) = some (.bl false) := by
  show some (D.bl (!decide (x = x))) = _
  simp
theorem eqS_same {st : Sto} {x : Str} : dEqS st (.str x) (.str x) = some (.bl true) := by
  show some (D.bl (decide (x = x))) = _
  simp
theorem ne_same {st : Sto} {x y : D} {e : PyData} (h1 : pdS st x = some e) (h2 : pdS st y = some e) (h : SeqAt.shaped e = true) : dNe st x y = some (.bl false) := by
  unfold dNe
  rw [h1, h2]
  simp only
  rw [if_pos ⟨h, h⟩, SeqAt.eqv_refl e (SeqAt.canLay_of_shaped h)]
  rfl

/-! ### a law that goes through its script -/
def rangeG : FA := fCons (fCa bMax2 (fCons (fC (.int 1)) (fCons (fCa bMin2 (fCons (fCa bLen (fCons (fVar 0) fNil)) (fCons (fC (.int 30)) fNil))) fNil))) fNil
theorem seqLT_fz {xs : List D} {st : Sto} : seqLT st (.frz xs) = some xs := rfl
theorem rangeG_eq (ns : List Int) (r : En) (st : Sto) : ∃ M : Nat, M ≤ 30 ∧ rangeG (some (.frz (ns.map D.int)) :: r) st = some (.ok [.int M] st) := by
  have hM : ∃ M : Nat, M ≤ 30 ∧ (if (if (30 : Int) < (ns.length : Int) then (30 : Int) else ns.length) > 1 then (if (30 : Int) < (ns.length : Int) then (30 : Int) else ns.length) else 1) = (M : Int) := by
    by_cases h : (30 : Int) < ns.length
    · exact ⟨30, by omega, by rw [if_pos h]; rfl⟩
    · rw [if_neg h]
      by_cases h2 : (ns.length : Int) > 1
      · exact ⟨ns.length, by omega, by rw [if_pos h2]⟩
      · exact ⟨1, by omega, by rw [if_neg h2]; rfl⟩
  obtain ⟨M, h1, h2⟩ := hM
  refine ⟨M, h1, ?_⟩
  unfold rangeG
  simp only [ap_cons, ap_nil, ap_ca, ap_c, ap_var, List.getElem?_cons_zero, bnd_ok, bLen, seqLT_fz, Option.map_some, bMin2, bMax2, List.length_map, h2]
theorem law_done {n : Nat} {body : FS} {ns : List Int}
    (H : ∀ k : Nat, k < 63 → ∀ r : En, r.length = n → ∀ st, ∃ r2 s2, body (some (.frz (ns.map D.int)) :: some (.int k) :: r) st = some (.nx (some (.frz (ns.map D.int)) :: r2) s2) ∧ r2.length = n + 1) :
    ∃ env2 s2, fFor (iRg1 rangeG) (gNm 1) body (some (.frz (ns.map D.int)) :: List.replicate (n + 1) none) [] = some (.nx env2 s2) := by
  obtain ⟨M, h1, h2⟩ := rangeG_eq ns (List.replicate (n + 1) none) []
  have c1 : -(2 ^ 62 : Int) ≤ (M : Int) ∧ (M : Int) < 2 ^ 62 := by constructor <;> omega
  obtain ⟨env2, s2, e, _⟩ := forL_all (g := gNm 1) (body := body) (fun env _ => ∃ r, env = some (.frz (ns.map D.int)) :: r ∧ r.length = n + 1) (ds := Fx.intsFrom 0 M) (env := some (.frz (ns.map D.int)) :: List.replicate (n + 1) none) (st := [])
    (fun d hd env st2 hI => by
      obtain ⟨r, rfl, hr⟩ := hI
      obtain ⟨k, hk, rfl⟩ : ∃ k : Nat, k < 63 ∧ d = .int k := by
        unfold Fx.intsFrom at hd
        obtain ⟨k, h1, h2⟩ := List.mem_map.mp hd
        exact ⟨k, by have := List.mem_range.mp h1; omega, by rw [← h2]; simp⟩
      cases r with
      | nil => simp at hr
      | cons x r =>
        obtain ⟨r2, s2, e, h⟩ := H k hk r (by simpa using hr) st2
        exact ⟨_, _, ap_nm, _, _, .inl e, r2, rfl, h⟩)
    ⟨_, rfl, by simp⟩
  refine ⟨env2, s2, ?_⟩
  rw [ap_for, ap_iRg1, h2, bnd_ok]
  simp only [if_pos c1, sb_ok, Int.toNat_natCast]
  exact e
theorem law_spF {K : PySem.W.Frag} {H : Hp} {a : Addr} {ns : List Int} {F : DF} (hbits : ∀ z ∈ ns, Builtin.Int.intBits z ≤ 1048576) (hS : SqL K H a (ns.map V.int))
    (h : ∀ N : Nat, N ≤ 1048577 → (∀ z ∈ ns, z.natAbs < 2 ^ N) → ∃ s2, F [.frz (ns.map D.int)] [] = some (.ok (.bl true) s2)) :
    spF K 1 F [.ref a] H (fun v _ => v = .bl true) fun _ _ _ => False := by
  obtain ⟨N, hN⟩ : ∃ N : Nat, N = 1048577 := ⟨_, rfl⟩
  have hb : ∀ z ∈ ns, z.natAbs < 2 ^ N := fun z m => by
    have h := hbits z m
    unfold Builtin.Int.intBits at h
    split at h
    · rename_i h0
      have : z = 0 := by simpa using h0
      rw [this]; exact Nat.pow_pos (by decide)
    · exact Fx.lt_of_log2 (by omega)
  obtain ⟨s2, e⟩ := h N (by omega) hb
  have hz : ZxL K H ⟨[], []⟩ a (ns.map V.int) := hS.elim (fun z => .inl ⟨fun m => m.elim (fun z => (nomatch z)) (fun z => (nomatch z)), z⟩) fun z => .inr (.inr z)
  refine ⟨⟨[], []⟩, [.frz (ns.map D.int)], [], _, DRs.cons (.frz hz (by simp) fun i x d e1 e2 => ?_) .nil, ⟨rfl, List.Pairwise.nil, fun n a c e => by simp at e, fun a m => (nomatch m)⟩, rfl, e, fun v H' ρ' _ _ h => ?_⟩
  · rw [List.getElem?_map] at e1 e2
    cases q : ns[i]? with
    | none => rw [q] at e1; cases e1
    | some n =>
      rw [q] at e1 e2
      cases e1; cases e2
      exact .int n
  · cases h; rfl
end Fx
/-! Fx: a dict's display, repr of lists with dicts. -/
namespace Fx
open PySem PySem.Spec PyProof.Rows L2

/-! ### {k: v} -/
def fDisp1 (a b : FE) : FE := fun env st => bnd (a env (st ++ [.dct []])) fun x s1 => bnd (b env s1) fun y s2 => match dKey x, s2[st.length]? with
  | some k, some (.dct []) => some (.ok (.ref st.length) (s2.set st.length (.dct [(k, y)])))
  | _, _ => none
section
variable {X : Cx} {E : XK} {a b : Expr} {fa fb : FE} {pos : Pos}
theorem v_disp1 (ha : VE X E a fa) (hb : VE X E b fb) : VE X E (.Dict [some a] [b] pos) (fDisp1 fa fb) := by
  refine PE.imp (pe_disp (pps_cons ha hb pps_nil) rfl rfl (by simp) (show (1 : Nat) ≤ 15 by decide)) fun σ H Q ⟨ρ, env, st, r, w, hf, hQ⟩ => ?_
  intro p hp
  have s0 : Step ρ H (ρ.add p) (upd H p (.dK [])) := .cell hp
  have w0 : Wd X.K (upd H p (.dK [])) (ρ.add p) σ env (st ++ [.dct []]) := ⟨w.en.step s0, w.st.newCell hp ⟨[], upd_same, .nil⟩⟩
  have hp0 : (ρ.add p).c[st.length]? = some p := cell_ix w.st
  refine rd_bind w0 hf (hQ.step s0) fun x dx s1 H1 ρ1 t1 w1 r1 hf hQ => ?_
  refine rd_bind w1 hf hQ fun y dy s2 H2 ρ2 t2 w2 r2 hf hQ => ?_
  split at hf
  · rename_i k e1 e2
    cases hf
    have hp2 : ρ2.c[st.length]? = some p := t2.ix (t1.ix hp0)
    obtain ⟨xs, q1, q2⟩ := w2.st.dctAt hp2 e2
    have := q2.nil_inv
    subst this
    have hk := dKey_eq r1 e1
    subst hk
    have nf : NoFz (H2 p) := by rw [q1]; trivial
    have t3 : Step ρ2 H2 ρ2 (upd H2 p (.dK [(k, y)])) := .write hp2 nf
    refine ⟨q1, [(k, y)], rfl, (show (1 : Nat) ≤ 15 by decide), ?_⟩
    exact hQ _ _ ρ2 t3 (w2.st.write hp2 nf ⟨_, upd_same, .cons rfl (r2.step t3) .nil⟩) (.ref hp2)
  · cases hf
end

/-! ### repr([..]) with dicts among the items -/
mutual
/-- of tuples alone -/
def flatP : PyData → Bool
  | .none => true
  | .bool _ => true
  | .int _ => true
  | .str _ => true
  | .tuple xs => flatPs xs
  | .list _ => false
  | .dict _ => false
def flatPs : List PyData → Bool
  | [] => true
  | x :: xs => flatP x && flatPs xs
end
mutual
theorem flat_as {h : Heap} : ∀ {e : PyData} {u : Value} {as : List Addr}, flatP e = true → Reads h u e as → as = []
  | .none, _, _, _, r => by cases r; rfl
  | .bool _, _, _, _, r => by cases r; rfl
  | .int _, _, _, _, r => by cases r; rfl
  | .str _, _, _, _, r => by cases r; rfl
  | .tuple xs, _, _, f, r => by
    cases r with
    | tuple h1 h2 h3 h4 => exact flats_as (show flatPs xs = true from f) h4
  | .list _, _, _, f, _ => by cases f
  | .dict _, _, _, f, _ => by cases f
theorem flats_as {h : Heap} : ∀ {es : List PyData} {us : List Value} {as : List Addr}, flatPs es = true → ReadsAll h us es as → as = []
  | [], _, _, _, r => by cases r; rfl
  | e :: es, _, _, f, r => by
    obtain ⟨f1, f2⟩ := Bool.and_eq_true_iff.mp (show (flatP e && flatPs es) = true from f)
    cases r with
    | cons r1 r2 => rw [flat_as f1 r1, flats_as f2 r2]; rfl
end
def kP : Key → PyData
  | .inl i => .int i
  | .inr x => .str x
/-- an item: of tuples alone, or a dict of such -/
inductive Sh (K : PySem.W.Frag) (H : Hp) : V → PyData → Prop
  | flat {v : V} {e : PyData} (h : Dp K H v e) (f : flatP e = true) : Sh K H v e
  | dct {a : Addr} {kvs : List (Key × V)} {ds : List PyData} (h : Rd H a (.dK kvs)) (d : DpAll K H (kvs.map (·.2)) ds) (f : flatPs ds = true) : Sh K H (.ref a) (.dict ((kvs.map fun p => kP p.1).zip ds))
inductive ShAll (K : PySem.W.Frag) (H : Hp) : List V → List PyData → Prop
  | nil : ShAll K H [] []
  | cons {v : V} {vs : List V} {e : PyData} {es : List PyData} (h : Sh K H v e) (t : ShAll K H vs es) : ShAll K H (v :: vs) (e :: es)
section
variable {X : Cx} {pins : List (Addr × Obj)} {σ : L2.St} {H : Hp} {s : Shared}
theorem keys_reads {h : Heap} : ∀ {kvs : List (Key × Value)} {es : List DictEntry}, PySem.Pairs (mixKind X.prog X.w) es kvs → ReadsAll h (es.map (·.key)) (kvs.map fun p => kP p.1) [] ∧ es.map (·.val) = kvs.map (·.2)
  | _, _, .nil => ⟨.nil, rfl⟩
  | _, _, .cons (e := e) (kv := kv) h1 h2 t => by
    obtain ⟨r1, r2⟩ := keys_reads t
    obtain ⟨k, v⟩ := kv
    refine ⟨?_, by rw [List.map_cons, List.map_cons, h2, r2]⟩
    have hk : keyIs k e.key = true := h1
    have : Reads h e.key (kP k) [] := by
      rcases keyIs_shape hk with ⟨i, t, rfl, e1⟩ | ⟨x, t, rfl, e1⟩
      · rw [e1]; exact .int i t
      · rw [e1]; exact .str x t
    exact .cons (as := []) (bs := []) this r1
theorem kv_vals : ∀ {kvs : List (Key × V)} {vs : List (Key × Value)}, KV kvs vs → Vals (kvs.map (·.2)) (vs.map (·.2)) ∧ kvs.map (·.1) = vs.map (·.1)
  | _, _, .nil => ⟨.nil, rfl⟩
  | _, _, .cons h t => by
    obtain ⟨r1, r2⟩ := kv_vals t
    exact ⟨.cons h.2 r1, by rw [List.map_cons, List.map_cons, h.1, r2]⟩
theorem Sh.reads (I : Inv X pins σ H s) {v : V} {e : PyData} {u : Value} (h : Sh X.K H v e) (r : RelV v u) : ∃ as, Reads s.heap u e as ∧ sysModules ∉ as := by
  cases h with
  | flat h f =>
    obtain ⟨as, q⟩ := Dp.reads I e v u h r
    have := flat_as f q
    subst this
    exact ⟨[], q, by simp⟩
  | @dct a kvs ds hd d f =>
    obtain rfl : u = Value.ref a := r
    obtain ⟨hz, hm, vs, kv, o, es, ep, hget, hx, hdat, hks, prs, nd⟩ := dk_rd I.hok hd
    obtain ⟨rv, rk⟩ := kv_vals kv
    obtain ⟨k1, k2⟩ := keys_reads (X := X) (h := s.heap) prs
    obtain ⟨as, q⟩ := Dp.readsAll I ds _ _ d rv
    have := flats_as f q
    subst this
    have lens : (kvs.map fun p => kP p.1).length = ds.length := by
      have h1 : ∀ {ds : List PyData} {vs : List V}, DpAll X.K H vs ds → vs.length = ds.length := by
        intro ds
        induction ds with
        | nil => intro vs h; cases h; rfl
        | cons d ds ih => intro vs h; cases h with | cons _ t => rw [List.length_cons, List.length_cons, ih t]
      have := h1 d
      rw [List.length_map] at this ⊢
      exact this
    refine ⟨a :: [] ++ [], Reads.dict hget hx.1 hdat ?_ ?_, ?_⟩
    · rw [List.map_fst_zip (by omega)]
      have : (kvs.map fun p => kP p.1) = vs.map fun p => kP p.1 := by
        have e1 : (kvs.map fun p => kP p.1) = (kvs.map (·.1)).map kP := by rw [List.map_map]; rfl
        have e2 : (vs.map fun p => kP p.1) = (vs.map (·.1)).map kP := by rw [List.map_map]; rfl
        rw [e1, e2, rk]
      rw [this]
      exact k1
    · rw [List.map_snd_zip (by omega), k2]
      exact q
    · simp
      exact fun e => (beq_eq_false_iff_ne.mp hm) e.symm
theorem ShAll.reads (I : Inv X pins σ H s) : ∀ {vs : List V} {es : List PyData} {us : List Value}, ShAll X.K H vs es → Vals vs us → ∃ as, ReadsAll s.heap us es as ∧ sysModules ∉ as
  | _, _, _, .nil, .nil => ⟨[], .nil, by simp⟩
  | _, _, _, .cons h t, .cons r rs => by
    obtain ⟨as, q1, n1⟩ := h.reads I r
    obtain ⟨bs, q2, n2⟩ := ShAll.reads I t rs
    exact ⟨as ++ bs, .cons q1 q2, fun m => (List.mem_append.mp m).elim n1 n2⟩
end
/-- a new list, and that it is not the table of modules -/
def LX (p : Addr) (xs : List V) (h : Heap) : Prop := (p == sysModules) = false ∧ ∃ its : List Value, Vals xs its ∧ h.get? p = some { cls := .type "list", data := .seq its.toArray }
def tLstX (t : TA) : TE := fun σ H Q => t σ H fun xs H1 => xs.length ≤ sizeLine ∧ ∀ p, H1 p = none → Q (.ref p) (upd H1 p (.ext (LX p xs)))
section
variable {X : Cx} {E : XK} {es : List Expr} {pos p pos' : Pos} {t : TA} {fs : FA}
theorem pe_lstX (h : PA X es t) : PE X (.List es pos) (tLstX t) := by
  refine ⟨fun pins s σ H Q I hq => ?_⟩
  refine wpAny_List_spliced (thn (h.run pos pins s σ H _ I hq) fun us s1 ⟨xs, H1, I1, r, z, q⟩ => ⟨by rw [← r.length]; exact z, ?_⟩)
  have hm : (s1.heap.objs.size == sysModules) = false := beq_eq_false_iff_ne.mpr (Nat.ne_of_gt I1.big)
  exact ⟨.ref s1.heap.objs.size, _, I1.laid (o := .ext (LX s1.heap.objs.size xs)) (t' := s1.toks) (fun b u e => Heap.get?_push_of_some _ e) (Nat.le_refl _)
    ⟨⟨hm, us, r, Heap.get?_push_size _ rfl⟩, ⟨_, Heap.get?_push_size _ rfl⟩, fun h1 h2 ⟨a, its, b, c⟩ k => ⟨a, its, b, k _ c⟩⟩, rfl, q _ (I1.hok.fresh (Nat.le_refl _))⟩
def rReprX (K : PySem.W.Frag) : List V → Hp → VK → Prop := fun xs H Q => ∃ a ys es, xs = [.ref a] ∧ H a = some (.ext (LX a ys)) ∧ ShAll K H ys es ∧ PyData.showableAll es = true ∧ PyData.depthAll es ≤ 60 ∧ (PyData.shown (.list es)).length ≤ sizeLine ∧ Q (.str (PyData.shown (.list es))) H
theorem call_reprX (hgd : X.A.guards = some []) (hu : X.A.units + 100 < cLine) : CallR X (.builtin "repr") (rReprX X.K) := by
  rintro pins s σ H xs us Q I r ⟨a, ys, es, rfl, ha, sh, so, dp, sz, q⟩
  obtain ⟨u, rfl, ru⟩ := vals1 r
  obtain rfl : u = Value.ref a := ru
  obtain ⟨⟨hm, its, rv, hget⟩, _, _⟩ := I.hok _ _ ha
  obtain ⟨as, ra, na⟩ := sh.reads I rv
  have rd : Reads s.heap (.ref a) (.list es) (a :: as) := .list hget rfl rfl (by simpa using ra)
  have ns : sysModules ∉ a :: as := fun m => by
    rcases List.mem_cons.mp m with z | z
    · exact beq_eq_false_iff_ne.mp hm z.symm
    · exact na z
  refine repr_of_reads' rd so (fun _ => ns) hgd ?_ (fun b o e => e) (fun h' t tk keep => ⟨.str _, H, I.kept (t' := tk) keep, ⟨t, rfl⟩, q⟩) sz
  show X.A.units + (PyData.depthAll es + 1 + 1) < cLine
  omega
/-- an item as what is shown -/
def shD (st : Sto) (d : D) : Option PyData := match dctOf st d with
  | some kvs => (pds (kvs.map (·.2))).bind fun ds => if flatPs ds = true then some (.dict ((kvs.map fun p => kP p.1).zip ds)) else none
  | none => (pd d).bind fun e => if flatP e = true then some e else none
def shDs (st : Sto) : List D → Option (List PyData)
  | [] => some []
  | d :: ds => (shD st d).bind fun e => (shDs st ds).map (e :: ·)
def fReprX (fs : FA) : FE := fun env st => bnd (fs env st) fun ds s1 => match shDs s1 ds with
  | some es => if ds.length ≤ 1000 ∧ PyData.showableAll es = true ∧ PyData.depthAll es ≤ 60 ∧ (PyData.shown (.list es)).length ≤ 10000000 then some (.ok (.str (PyData.shown (.list es))) s1) else none
  | none => none
theorem shD_sh {K : PySem.W.Frag} {H : Hp} {ρ : Mp} {st : Sto} {v : V} {d : D} {e : PyData} (s : StR K H ρ st) (h : shD st d = some e) (r : DR K H ρ v d) : Sh K H v e := by
  unfold shD at h
  split at h
  · rename_i kvs hk
    obtain ⟨ds, e1, h⟩ := Option.bind_eq_some_iff.mp h
    split at h
    · rename_i f
      cases h
      obtain ⟨a, xs, rfl, q1, q2⟩ := dctOf_inv s r hk
      have hv : ∀ {kvs : List (Key × D)} {xs : List (Key × V)}, DRk K H ρ xs kvs → DRs K H ρ (xs.map (·.2)) (kvs.map (·.2)) := by
        intro kvs
        induction kvs with
        | nil => intro xs h; rw [h.nil_inv]; exact .nil
        | cons y kvs ih =>
          intro xs h
          obtain ⟨x, r, rfl, _, q, t⟩ := h.cons_inv
          exact .cons q (ih t)
      have e2 : (kvs.map fun p => kP p.1) = xs.map fun p => kP p.1 := by
        have e1 : (kvs.map fun p => kP p.1) = (kvs.map (·.1)).map kP := by rw [List.map_map]; rfl
        have e2 : (xs.map fun p => kP p.1) = (xs.map (·.1)).map kP := by rw [List.map_map]; rfl
        rw [e1, e2, q2.keys]
      rw [e2]
      exact .dct q1 (pds_dp e1 (hv q2)) f
    · cases h
  · obtain ⟨e2, e1, h⟩ := Option.bind_eq_some_iff.mp h
    split at h
    · rename_i f
      cases h
      exact .flat (pd_dp e1 r) f
    · cases h
theorem shDs_sh {K : PySem.W.Frag} {H : Hp} {ρ : Mp} {st : Sto} (s : StR K H ρ st) : ∀ {ds : List D} {vs : List V} {es : List PyData}, shDs st ds = some es → DRs K H ρ vs ds → ShAll K H vs es
  | [], _, _, h, r => by cases h; rw [r.nil_inv]; exact .nil
  | d :: ds, _, _, h, r => by
    obtain ⟨e, e1, h⟩ := Option.bind_eq_some_iff.mp (show (shD st d).bind _ = some _ from h)
    obtain ⟨es, e2, rfl⟩ := map_some h
    obtain ⟨x, xs, rfl, q1, q2⟩ := r.cons_inv
    exact .cons (shD_sh s e1 q1) (shDs_sh s e2 q2)
theorem v_reprX (hgd : X.A.guards = some []) (hu : X.A.units + 100 < cLine) (hg : Gl X "repr") (hm : X.mg "repr" = none) (hv : bootBuiltins "repr" = some (.builtin "repr")) (ha : VA X E es fs)
    (he : starEach [Expr.List es pos'] X.env = (false, eval (Expr.List es pos') X.env) :: starEach [] X.env := by rfl) (hpl : (backTo pos (starEach [] X.env)).any (·.1) = false := by rfl) :
    VE X E (.Call (.Name "repr" p) [.List es pos'] [] pos) (fReprX fs) := by
  have arg : PA X [Expr.List es pos'] (tCons (tLstX (rdA X.K E fs)) tNil) := pa_cons (pe_lstX ha) pa_nil he
  refine PE.imp (pe_callB (call_reprX hgd hu) hg hm hv arg (by decide) (by decide) he hpl) fun σ H Q ⟨ρ, env, st, r, w, hf, hQ⟩ => ?_
  refine rd_bind w hf hQ fun xs ds s1 H1 ρ1 t1 w1 r1 hf hQ => ?_
  split at hf
  · rename_i es' e1
    split at hf
    · rename_i c
      cases hf
      refine ⟨Nat.le_trans (by rw [r1.1]; exact c.1) (by decide), fun p hp => ?_⟩
      have sm := Fx.same_upd (o := .ext (LX p xs)) hp
      have st2 := w1.st.same sm
      exact ⟨p, xs, es', rfl, upd_same, shDs_sh st2 e1 (r1.step (.same sm)), c.2.1, c.2.2.1, Nat.le_trans c.2.2.2 (by decide), hQ _ _ ρ1 (.same sm) st2 (.str _)⟩
    · cases hf
  · cases hf
end
end Fx
/-! Fx: defs with defaults, calls by keywords, exceptions raised and caught. -/
namespace Fx
open PySem PySem.Spec PyProof.Rows L2

/-! ### a def with defaults, one that raises -/
section
variable {P : Program} {w : World} {K : PySem.W.Frag} {mg : Str → Option Value} {base : Heap} {CX : CXT} {k : Nat} {f : Addr} {fd : FuncData} {ps : List Str} {sp : Sp}
theorem gn_ofD {x qual : Str} {st : Stmt} {N : List Str} {dvs : List V} {kws : List (Str × V)} (F : L2.FunD K x qual (defArgs st) (defBody st) (defScope st) dvs kws f fd) (S : FnScope N ps (defScope st)) (many : ∀ vs H Q E, sp vs H Q E → vs.length = ps.length)
    (body : ∀ (cdv : Value) (A : Around) (outer : List Env) (s : Shared) (H : Hp) (vs : List V) (Q : VK) (E : XK), A.guards = some [] → Room k (A.deeper (envOfC qual (defScope st) s.heap.objs.size f cdv)) → sp vs H Q E →
      ∃ t, PSs (cxOf CX P w K mg base N qual (defScope st) f cdv A outer s H E) (defBody st) t ∧ t { nx := fun _ H' => Q .non H', rt := Q } (L2.start N vs) H) : GnOk P w K mg base CX (k + 1) f fd ps sp := by
  obtain ⟨oc, od, dV, kV, doc, pm, an, cdv, ct, osl, rfl, lk, hcd, _, _⟩ := F.ex
  refine { many := many, go := fun A outer s H args us vs Q E hgd hr e0 hb r hsp => ?_ }
  have KX : K.In s.heap := e0.mod.kin.keeps fun b o e => (e0.bs b o e).1
  have places : ∀ y ∈ ps.zip us, (defScope st).names.lookup y.1 = some .local ∨ ((defScope st).names.lookup y.1 = some .cell ∧ ((cellsFrom (s.heap.objs.size + 1) (defScope st).names []).lookup y.1).isSome = true) := by
    rintro ⟨n, v⟩ hy
    cases S.par n (List.of_mem_zip hy).1 with
    | inl q => exact .inl q
    | inr q => exact .inr ⟨q, PySem.W.cellsFrom_some _ _ _ (.inl q)⟩
  refine codeAny_call_function hr.depth (KX _ _ lk) rfl S.co S.gen rfl (PySem.W.codeRec_of KX hcd) (hb _ _ _ _ (wpAny_newFunctionEnv_cells S.kind places fun env he s1 y => ?_))
  subst he
  obtain ⟨t, ht, hq⟩ := body cdv A outer s H vs Q E hgd (hr.deeper _) hsp
  have I := inv_start (CX := CX) (E := E) (cd := cdv) (f := f) (qual := qual) S hr.hd e0 (many _ _ _ _ hsp) r y
  refine ⟨(e0.mod.nolimit.keeps fun b o e => (e0.bs b o e).1).keeps y.toInCall.keep, codeAny_func (wpAny_mono (ht.run [] s1 (L2.start N vs) H _ I hq) (fun fl s2 hs => ?_) fun e s2 hs => hs)⟩
  match fl with
  | .ret u =>
    obtain ⟨v, σ2, H2, J, rv, q⟩ := hs
    exact ⟨v, H2, J.os, J.bare, J.base, J.hok, rv, q⟩
  | .next =>
    obtain ⟨σ2, H2, J, q⟩ := hs
    exact ⟨V.non, H2, J.os, J.bare, J.base, J.hok, rfl, q⟩
  | .brk => exact hs.elim fun _ ⟨_, _, q⟩ => q.elim
  | .cont => exact hs.elim fun _ ⟨_, _, q⟩ => q.elim
/-- a def that may raise, by its body's function -/
theorem gn_okX {x qual : Str} {st : Stmt} {N : List Str} {fb : FS} {dvs : List V} {kws : List (Str × V)} (F : L2.FunD K x qual (defArgs st) (defBody st) (defScope st) dvs kws f fd) (S : FnScope N ps (defScope st))
    (hb : ∀ (cdv : Value) (A : Around) (outer : List Env) (s : Shared) (H : Hp) (E : XK), A.guards = some [] → Room k (A.deeper (envOfC qual (defScope st) s.heap.objs.size f cdv)) → VSs (cxOf (L2.CX P w) P w K mg base N qual (defScope st) f cdv A outer s H E) E (defBody st) fb) :
    GnOk P w K mg base (L2.CX P w) (k + 1) f fd ps (spF K ps.length (fDefX ps.length N.length fb)) := by
  refine gn_ofD F S (fun vs H Q E ⟨ρ, ds, st, r, h1, h2, h3, _⟩ => h1.1.trans h3) fun cdv A outer s H vs Q E hgd hr ⟨ρ, ds, st, r, h1, h2, h3, h4, h5⟩ => ?_
  refine ⟨_, hb cdv A outer s H E hgd hr, ?_⟩
  unfold fDefX at h4
  split at h4
  · rename_i en s1 e
    cases h4
    exact ⟨ρ, _, st, _, ⟨start_en h1 h3, h2⟩, e, fun σ' H' ρ' t w => h5 .non H' ρ' t w.st .non⟩
  · rename_i d s1 e
    cases h4
    exact ⟨ρ, _, st, _, ⟨start_en h1 h3, h2⟩, e, fun v H' ρ' t w q => h5 v H' ρ' t w q⟩
  · rename_i ex s1 e
    cases h4
    exact ⟨ρ, _, st, _, ⟨start_en h1 h3, h2⟩, e, h5⟩
  · cases h4
end

/-! ### raise X('m') -/
def fRaise (C : Addr) : FS := fun _ st => some (.exc ⟨C, none⟩ st)
section
variable {X : Cx} {E : XK} {e : Expr} {pos : Pos} {C : Addr}
theorem s_raise (hc : X.calm = true) (tk : Takes X (fun cls d _ H => E cls d H)) (he : PMk X e (fun _ H Q => Q (.ref C) none H)) : VS X E (.Raise (some e) none pos) (fRaise C) := by
  refine PS.imp (ps_raise hc tk he) fun Dn σ H ⟨ρ, env, st, r, w, hf, hQ⟩ => ?_
  cases hf
  exact hQ (.ref C) none H ρ .refl w.st ⟨rfl, rfl⟩
end

/-! ### calls by keywords alone -/
abbrev VK' (X : Cx) (E : XK) (kws : List Keyword) (f : FA) : Prop := PK X kws (rdA X.K E f)
def fCallK (m n : Nat) (F : DF) (g : List D → List D) (a : FA) : FE := fun env st => bnd (a env st) fun zs s1 => if zs.length = m ∧ (g zs).length = n then F (g zs) s1 else none
section
variable {X : Cx} {E : XK} {e : Expr} {kws : List Keyword} {fa : FE} {fs : FA} {pos p kpos : Pos} {nm : Option Str}
theorem k_nil : VK' X E [] fNil := ⟨fun pos pins s σ H Q I ⟨ρ, env, st, r, w, hf, hQ⟩ => by
  cases hf
  exact pk_nil.run pos pins s σ H Q I (hQ.val w.st .nil)⟩
theorem k_cons (ha : VE X E e fa) (hr : VK' X E kws fs) : VK' X E (⟨nm, e, kpos⟩ :: kws) (fCons fa fs) := ⟨fun pos pins s σ H Q I ⟨ρ, env, st, r, w, hf, hQ⟩ => by
  refine (pk_cons ha hr).run pos pins s σ H Q I ?_
  refine rd_bind w hf hQ fun x dx s1 H1 ρ1 t1 w1 r1 hf hQ => ?_
  refine rd_bind w1 hf hQ fun y dy s2 H2 ρ2 t2 w2 r2 hf hQ => ?_
  cases hf
  exact hQ.val w2.st (.cons (r1.step t2) r2)⟩
variable {k m n : Nat} {f : Addr} {fd : FuncData} {ps ks : List Str} {CX : CXT} {F : DF} {x : Str} {g : List Value → List Value → List Value} {gV : List V → List V → List V} {gD : List D → List D}
theorem v_kw (G : GnOk X.prog X.w X.K X.mg X.base CX k f fd ps (spF X.K n F)) (hr : Room k X.A) (hgd : X.A.guards = some []) (hg : Gl X x) (hm : X.mg x = some (.ref f)) (hk : PySem.W.keepIn X.K (.ref f) = true)
    (hb : KBn X.K fd ps 0 ks g gV) (hx : Passes CX X E) (ha : VK' X E kws fs) (hks : (backToKw pos (keywordEach kws X.env)).filterMap (·.1) = ks) (hm2 : ks.length = m)
    (hd : ∀ (H : Hp) (ρ : Mp) (vs : List V) (ds : List D), ds.length = m → DRs X.K H ρ vs ds → DRs X.K H ρ (gV [] vs) (gD ds))
    (hall : (backToKw pos (keywordEach kws X.env)).all (·.1.isSome) = true := by rfl) (hdb : (x == ("__debug__" : Str)) = false := by decide)
    (hpl : ((backTo pos (starEach [] X.env)).any (·.1) || (backToKw pos (keywordEach kws X.env)).any (·.1.isNone)) = false := by rfl) : VE X E (.Call (.Name x p) [] kws pos) (fCallK m n F gD fs) := by
  refine ⟨fun pins s σ H Q I ⟨ρ, env, st, r, w, hf, hQ⟩ => ?_⟩
  refine wpAny_Call_Name_kw (ld_glob I hg hm ?_ hdb)
  refine PySem.W.callWith_KW0 (h₀ := X.base) I.ok.mod.kin hk hall ?_ hpl
  refine thn (ha.run pos pins s σ H (fun zs H1 => ∃ ρ1 s1 dzs r1, Step ρ H ρ1 H1 ∧ StR X.K H1 ρ1 s1 ∧ DRs X.K H1 ρ1 zs dzs ∧ dzs.length = m ∧ (gD dzs).length = n ∧ F (gD dzs) s1 = some r1 ∧ Fin (DR X.K) X.K E ρ1 H1 Q r1) I ?_) fun ws s2 hh => ?_
  · refine rd_bind w hf hQ fun zs dzs s1 H1 ρ1 t1 w1 r1 hf hQ => ?_
    split at hf
    · rename_i c
      exact ⟨ρ1, s1, dzs, _, t1, w1.st, r1, c.1, c.2, hf, hQ⟩
    · cases hf
  · obtain ⟨zs, H2, I2, rz, ρ1, s1, dzs, r1, t1, ss, rd, l1, l2, hF, hQ2⟩ := hh
    refine ⟨I2.kIn, ?_⟩
    rw [hks]
    have dg := hd H2 ρ1 zs dzs l1 rd
    have sp : spF X.K n F (gV [] zs) H2 Q E := ⟨ρ1, gD dzs, s1, r1, dg, ss, l2, hF, hQ2⟩
    have hlen : ws.length = ks.length := by rw [← rz.length, rd.1, l1, hm2]
    have bt := hb.to s2 [] ws I2.kIn rfl hlen
    have all := hb.rel (vs := []) (us := []) .nil rz
    refine wpAny_call (codeAny_mono (G.go X.A X.stack s2 H2 ⟨[], ks.zip ws⟩ (g [] ws) (gV [] zs) Q E hgd hr I2.env0 bt all sp) fun q s3 hq => ?_)
    have e := end_of hx I2 hq
    match q with
    | .error _ => exact e
    | .ok (.ret _) => exact e
    | .ok .next => exact e.elim
    | .ok .brk => exact e.elim
    | .ok .cont => exact e.elim
end

/-! ### a try whose clause returns a truth -/
section
variable {X : Cx} {CX : CXT} {k n : Nat} {f : Addr} {fd : FuncData} {ps : List Str} {sp : Sp} {x : Str} {p pos : Pos} {e : Expr} {es : List Expr} {F : DF} {fs : FA} {W : WX} {E : XK}
theorem run_gnS {pins : List (Addr × Obj)} {σ : L2.St} {H : Hp} {s : Shared} {Q : VK} {us : List Value} {vs : List V} (G : GnOk X.prog X.w X.K X.mg X.base CX k f fd ps sp) (hr : Room k X.A) (hgd : X.A.guards = some []) (hb : Binds X.K fd ps []) (hx : PassesAt CX X σ E)
    (I : Inv X pins σ H s) (r : Vals vs us) (h : sp vs H Q E) : wpAny (model X.prog X.w) X.A (call (.ref f) us) (EP X pins σ Q) X.xe s := by
  have many : us.length = ps.length := r.length.symm.trans (G.many _ _ _ _ h)
  have b := hb s us I.kIn (by rw [List.append_nil]; exact many)
  rw [List.append_nil] at b
  refine wpAny_call (codeAny_mono (G.go X.A X.stack s H ⟨us, []⟩ us vs Q E hgd hr I.env0 b r h) fun q s2 hq => ?_)
  match q with
  | .error e => exact hx pins H s e s2 I hq
  | .ok (.ret u) => exact I.after hq
  | .ok .next => exact False.elim hq
  | .ok .brk => exact False.elim hq
  | .ok .cont => exact False.elim hq
/-- a call that may raise, in a try's body -/
theorem v_callS (G : GnOk X.prog X.w X.K X.mg X.base (L2.CX X.prog X.w) k f fd ps (spF X.K n F)) (hr : Room k X.A) (hgd : X.A.guards = some []) (hg : Gl X x) (hm : X.mg x = some (.ref f)) (hk : PySem.W.keepIn X.K (.ref f) = true) (hb : Binds X.K fd ps [])
    (tk : Takes X W) (ha : ∀ E, VA X E (e :: es) fs) (hdb : (x == ("__debug__" : Str)) = false := by decide) (he : starEach (e :: es) X.env = (false, eval e X.env) :: starEach es X.env := by rfl) (hpl : (backTo pos (starEach es X.env)).any (·.1) = false := by rfl) :
    PE X (.Call (.Name x p) (e :: es) [] pos) (fun σ H Q => rdE X.K (WE W σ) (fCall n F fs) σ H Q) := by
  refine ⟨fun pins s σ H Q I ⟨ρ, env, st, r, w, hf, hQ⟩ => ?_⟩
  refine wpAny_Call_Name_kw (ld_glob I hg hm (PySem.W.callWith_K (h₀ := X.base) I.ok.mod.kin hk
    (thn ((ha (WE W σ)).run pos pins s σ H (fun vs H1 => spF X.K n F vs H1 Q (WE W σ)) I ?_) fun us s1 ⟨vs, H1, I1, r1, q⟩ => ⟨I1.kIn, run_gnS G hr hgd hb (passAt tk σ) I1 r1 q⟩) he hpl) hdb)
  refine rd_bind w hf hQ fun xs ds s1 H1 ρ1 t1 w1 r1 hf hQ => ?_
  split at hf
  · rename_i hl
    exact ⟨ρ1, ds, s1, r, r1, w1.st, hl, hf, hQ⟩
  · cases hf
/-- try: f(..) / except X as n: return (a known truth) -/
def fTryR (i : Nat) (fe : FE) (C : Addr) (v : Bool) : FS := fun env st => match fe env st with
  | some (.ok _ s) => some (.nx env s)
  | some (.exc ex s) => match ex.fs with
    | none => if ex.cls = C ∧ i < env.length then some (.rt (.bl v) s) else none
    | some _ => none
  | none => none
theorem s_tryRet {y nm : Str} {i : Nat} {call : Expr} {suite : List Stmt} {b₀ : Stmt} {np epos pos' : Pos} {C : Addr} {fe : FE} {v : Bool} (hs : X.stack = X.env :: X.outer) (hf : X.env.frame = some X.env.locals) (hN : X.N.Nodup) (hi : X.N[i]? = some nm) (hln : X.env.kindOf nm = some .local)
    (hc : Names X y (.ref C)) (tk : Takes X (fun _ _ _ _ => False)) (hex : PySem.W.exmOne X.K (.ref C) (.ref C) = some true)
    (hb : ∀ (W : WX) (pn : List (Addr × Obj)) (xe : Value → Shared → Prop), Takes (X.tr pn xe) W → PE (X.tr pn xe) call (fun σ H Q => rdE X.K (WE W σ) fe σ H Q))
    (hsw : ∀ (pn : List (Addr × Obj)) (xe : Value → Shared → Prop), swapsWith call none epos.line (X.tr pn xe).env = pure false)
    (hsu : ∀ (a : Addr) (oe : Obj) (pn : List (Addr × Obj)), Zc (.ref C) none oe → (∃ vs, oe.data = .fields vs) → PSs (X.suite a ((a, oe) :: pn)) (b₀ :: suite) (fun D σ H => σ[i]? = some (some (V.ref a)) ∧ D.rt (.bl v) H)) :
    VS X E (.Try [.Expr call epos] [.ExceptHandler (some (.Name y np)) (some nm) (b₀ :: suite) pos'] [] [] pos) (fTryR i fe C v) := by
  refine PS.imp (ps_try_as (tb := fun W D σ H => rdE X.K (WE W σ) fe σ H fun _ H1 => D.nx σ H1) (ts := fun a cls d D σ H => cls = .ref C ∧ d = none ∧ σ[i]? = some (some (V.ref a)) ∧ D.rt (.bl v) H) hs hf hN hi hln hc tk (fun W pn xe tk2 _ => pss_one (ps_expr (hb W pn xe tk2) (hsw pn xe))) ?_) ?_
  · intro a oe cls d pn hz hd
    refine ⟨fun pins s σ H D I h => ?_⟩
    obtain ⟨rfl, rfl, h1, h2⟩ := h
    exact (hsu a oe pn hz hd).run pins s σ H D I ⟨h1, h2⟩
  · intro Dn σ H ⟨ρ, env, st, r, w, hf, hQ⟩
    unfold fTryR at hf
    split at hf
    · rename_i d s e1
      cases hf
      exact ⟨ρ, env, st, _, w, e1, fun b H' ρ' t ss q => hQ σ H' ρ' t ⟨w.en.step t, ss⟩⟩
    · rename_i ex s e1
      split at hf
      · rename_i hfs
        split at hf
        · rename_i hcl
          cases hf
          refine ⟨ρ, env, st, _, w, e1, fun cv dx H' ρ' t ss hx => ?_⟩
          obtain ⟨x1, x2⟩ := hx
          rw [hfs] at x2
          have x2 : dx = none := x2
          rw [hcl.1] at x1
          refine ⟨true, by rw [x1]; exact hex, fun _ a ha => ⟨x1, x2, ?_, hQ (.bl v) H' ρ' t ss (.bl v)⟩, fun h => by cases h⟩
          rw [List.getElem?_set_self]
          rw [w.en.1]
          exact hcl.2
        · cases hf
      · cases hf
    · cases hf
end

/-! ### bundles: a def that may raise, its defaults, its keywords -/
/-- with CX told; dvs: the defaults that fill up -/
structure DfG (P : Program) (w : World) (K : PySem.W.Frag) (mg : Str → Option Value) (base : Heap) (CX : CXT) (k : Nat) (x : Str) (n : Nat) (F : DF) (dvs : List V) : Prop where
  ex : ∃ (f : Addr) (fd : FuncData) (ps : List Str) (ds : List Value), GnOk P w K mg base CX k f fd ps (spF K n F) ∧ mg x = some (.ref f) ∧ PySem.W.keepIn K (.ref f) = true ∧ Binds K fd ps ds ∧ Vals dvs ds
/-- called by keywords alone: ks their names, gD how they stand -/
structure DfK (P : Program) (w : World) (K : PySem.W.Frag) (mg : Str → Option Value) (base : Heap) (CX : CXT) (k : Nat) (x : Str) (n : Nat) (F : DF) (ks : List Str) (gD : List D → List D) : Prop where
  ex : ∃ (f : Addr) (fd : FuncData) (ps : List Str) (g : List Value → List Value → List Value) (gV : List V → List V → List V), GnOk P w K mg base CX k f fd ps (spF K n F) ∧ mg x = some (.ref f) ∧ PySem.W.keepIn K (.ref f) = true ∧ KBn K fd ps 0 ks g gV ∧
    ∀ (H : Hp) (ρ : Mp) (vs : List V) (ds : List D), ds.length = ks.length → DRs K H ρ vs ds → DRs K H ρ (gV [] vs) (gD ds)
/-- data that is a value by itself -/
def vD : V → D
  | .int i => .int i
  | .str x => .str x
  | .bl b => .bl b
  | _ => .non
def okV : V → Bool
  | .int _ => true
  | .str _ => true
  | .bl _ => true
  | .non => true
  | _ => false
theorem okV_dr {K : PySem.W.Frag} {H : Hp} {ρ : Mp} {v : V} (h : okV v = true) : DR K H ρ v (vD v) := by
  cases v <;> first | cases h | skip
  · exact .non
  · exact .bl _
  · exact .int _
  · exact .str _
theorem okVs_dr {K : PySem.W.Frag} {H : Hp} {ρ : Mp} : ∀ {vs : List V}, vs.all okV = true → DRs K H ρ vs (vs.map vD)
  | [], _ => .nil
  | v :: vs, h => by
    rw [List.all_cons, Bool.and_eq_true] at h
    exact .cons (okV_dr h.1) (okVs_dr h.2)
section
variable {X : Cx} {CX : CXT} {k n m : Nat} {x : Str} {p pos : Pos} {e : Expr} {es : List Expr} {kws : List Keyword} {F : DF} {fs : FA} {E : XK} {dvs : List V} {ks : List Str} {gD : List D → List D}
theorem v_callG (G : DfG X.prog X.w X.K X.mg X.base CX k x n F dvs) (hr : Room k X.A) (hgd : X.A.guards = some []) (hg : Gl X x) (hx : Passes CX X E) (hv : dvs.all okV = true) (ha : VA X E (e :: es) fs) (dd : List D) (hdd : dvs.map vD = dd) (hdb : (x == ("__debug__" : Str)) = false := by decide)
    (he : starEach (e :: es) X.env = (false, eval e X.env) :: starEach es X.env := by rfl) (hpl : (backTo pos (starEach es X.env)).any (·.1) = false := by rfl) : VE X E (.Call (.Name x p) (e :: es) [] pos) (fCallD n F fs dd) := by
  subst hdd
  obtain ⟨f, fd, ps, ds, h1, h2, h3, h4, h5⟩ := G.ex
  refine PE.imp (gn_call h1 hr hgd hg h2 h3 h4 h5 hx ha hdb he hpl) fun σ H Q ⟨ρ, env, st, r, w, hf, hQ⟩ => ?_
  refine rd_bind w hf hQ fun xs ds s1 H1 ρ1 t1 w1 r1 hf hQ => ?_
  split at hf
  · rename_i hl
    exact ⟨ρ1, _, s1, r, r1.append (okVs_dr hv), w1.st, hl, hf, hQ⟩
  · cases hf
theorem v_callK (G : DfK X.prog X.w X.K X.mg X.base CX k x n F ks gD) (hr : Room k X.A) (hgd : X.A.guards = some []) (hg : Gl X x) (hx : Passes CX X E) (ha : VK' X E kws fs) (hks : (backToKw pos (keywordEach kws X.env)).filterMap (·.1) = ks)
    (hall : (backToKw pos (keywordEach kws X.env)).all (·.1.isSome) = true := by rfl) (hdb : (x == ("__debug__" : Str)) = false := by decide)
    (hpl : ((backTo pos (starEach [] X.env)).any (·.1) || (backToKw pos (keywordEach kws X.env)).any (·.1.isNone)) = false := by rfl) : VE X E (.Call (.Name x p) [] kws pos) (fCallK ks.length n F gD fs) := by
  obtain ⟨f, fd, ps, g, gV, h1, h2, h3, h4, h5⟩ := G.ex
  exact v_kw h1 hr hgd hg h2 h3 h4 hx ha hks rfl h5 hall hdb hpl
end
section
variable {P : Program} {w : World} {K : PySem.W.Frag} {mg : Str → Option Value} {base : Heap} {k n : Nat} {x : Str} {F : DF}
/-- a plain def, called by keywords -/
theorem dfk_gn {CX : CXT} {qual : Str} {st : Stmt} {f : Addr} {fd : FuncData} {ps ks : List Str} {g : {α : Type} → List α → List α} {gD : List D → List D} (G : GnOk P w K mg base CX k f fd ps (spF K n F)) (Fn : L2.Fun K x qual st f fd) (hm : mg x = some (.ref f))
    (bi : ∀ (kV doc pm : Value) (an : Option Addr) (cdv ct : Value) (ws : List Value), ws.length = ks.length → bindArgs (PySem.W.fnOf x qual (defArgs st) (defBody st) (defScope st) .none kV doc pm an cdv ct) ⟨[], ks.zip ws⟩ = pure (ps.zip (g ws)))
    (hrel : ∀ {vs : List V} {ws : List Value}, Vals vs ws → Vals (g vs) (g ws)) (hd : ∀ (H : Hp) (ρ : Mp) (vs : List V) (ds : List D), ds.length = ks.length → DRs K H ρ vs ds → DRs K H ρ (g vs) (gD ds)) :
    DfK P w K mg base CX k x n F ks gD := by
  refine ⟨f, fd, ps, fun _ ws => g ws, fun _ vs => g vs, G, hm, Fn.kp, ⟨fun s us ws _ hu hl => ?_, fun _ r => hrel r⟩, hd⟩
  obtain ⟨oc, od, kV, doc, pm, an, cdv, ct, osl, rfl, lk, hcd⟩ := Fn.ex
  have : us = [] := List.eq_nil_of_length_eq_zero hu
  subst this
  exact .of_eq (bi kV doc pm an cdv ct ws hl)
/-- the two arguments in the other order; one as it is -/
def swap2 {α : Type} : List α → List α
  | [a, b] => [b, a]
  | l => l
theorem swap2_vals : ∀ {vs : List V} {ws : List Value}, Vals vs ws → Vals (swap2 vs) (swap2 ws)
  | _, _, .nil => .nil
  | _, _, .cons h .nil => .cons h .nil
  | _, _, .cons h (.cons h2 .nil) => .cons h2 (.cons h .nil)
  | _, _, .cons h (.cons h2 (.cons h3 t)) => .cons h (.cons h2 (.cons h3 t))
theorem swap2_dr {H : Hp} {ρ : Mp} (vs : List V) (ds : List D) (hl : ds.length = 2) (h : DRs K H ρ vs ds) : DRs K H ρ (swap2 vs) (swap2 ds) := by
  match ds, hl with
  | [a, b], _ =>
    obtain ⟨x, y, rfl, h1, h2⟩ := two_inv h
    exact .cons h2 (.cons h1 .nil)
end

section
variable {X : Cx} {k n : Nat} {x : Str} {p pos : Pos} {e : Expr} {es : List Expr} {F : DF} {fs : FA} {E : XK} {W : WX}
/-- a call of a plain def, whatever else may be raised around it -/
theorem v_callE (G : Df X.prog X.w X.K X.mg X.base k x n F) (hr : Room k X.A) (hgd : X.A.guards = some []) (hg : Gl X x) (ha : VA X E (e :: es) fs) (hdb : (x == ("__debug__" : Str)) = false := by decide)
    (he : starEach (e :: es) X.env = (false, eval e X.env) :: starEach es X.env := by rfl) (hpl : (backTo pos (starEach es X.env)).any (·.1) = false := by rfl) : VE X E (.Call (.Name x p) (e :: es) [] pos) (fCall n F fs) := by
  obtain ⟨f, fd, ps, h1, h2, h3, h4⟩ := G.ex
  exact v_gcall h1 hr hgd hg h2 h3 h4 pass0 ha hdb he hpl
theorem v_globStrE {z : Str} (hg : Gl X x) (hm : ∃ t, X.mg x = some (.str z t)) (hd : (x == ("__debug__" : Str)) = false := by decide) : VE X E (.Name x pos) (fC (.str z)) := let ⟨_, h⟩ := hm; v_globStr hg h hd
theorem v_globIntE {i : Int} (hg : Gl X x) (hm : ∃ t, X.mg x = some (.int i t)) (hd : (x == ("__debug__" : Str)) = false := by decide) : VE X E (.Name x pos) (fC (.int i)) := let ⟨_, h⟩ := hm; v_globInt hg h hd
theorem v_callT (G : DfG X.prog X.w X.K X.mg X.base (L2.CX X.prog X.w) k x n F []) (hr : Room k X.A) (hgd : X.A.guards = some []) (hg : Gl X x) (tk : Takes X W) (ha : ∀ E, VA X E (e :: es) fs) (hdb : (x == ("__debug__" : Str)) = false := by decide)
    (he : starEach (e :: es) X.env = (false, eval e X.env) :: starEach es X.env := by rfl) (hpl : (backTo pos (starEach es X.env)).any (·.1) = false := by rfl) :
    PE X (.Call (.Name x p) (e :: es) [] pos) (fun σ H Q => rdE X.K (WE W σ) (fCall n F fs) σ H Q) := by
  obtain ⟨f, fd, ps, ds, h1, h2, h3, h4, h5⟩ := G.ex
  cases h5
  exact v_callS h1 hr hgd hg h2 h3 h4 tk ha hdb he hpl
end
end Fx
/-! Fx: a law's end over a head by facts (the top by one run). -/
namespace Fx
open PySem PySem.Spec PyProof.Rows L2
abbrev AlX : Type := Bool × List He.FnW
/-- chk: what the end asks of the written part; fn: the defs -/
def obsX (chk : PySem.W.Frag → Bool) (fn : List He.DefD) (K : PySem.W.Frag) : AlX := (chk K && fn.all fun d => d.ok K, fn.map fun d => He.fnW K d.at_)
def SaysX (chk : PySem.W.Frag → Bool) (fn : List He.DefD) (K : PySem.W.Frag) : Prop := obsX chk fn K = He.valD fn
def obsXG (n : Nat) (chk : PySem.W.Frag → Bool) (fn : List He.DefD) (g : Addr → Option Obj) : AlX := obsX chk fn (He.frG g (He.asD g n))
def hookX (n : Nat) (chk : PySem.W.Frag → Bool) (fn : List He.DefD) : PySem.W.Hook where
  α := AlX
  obs := fun s => obsXG n chk fn s.heap.get?
  val := fun _ => He.valD fn
  says := fun _ h => ∃ K : PySem.W.Frag, K.In h ∧ SaysX chk fn K
  of := fun _ _ e => ⟨_, He.frG_in, e⟩
  keeps := fun _ _ _ ⟨K, hK, c⟩ k => ⟨K, PySem.W.Frag.In.keeps hK k, c⟩
theorem obsXG_eq {n : Nat} {chk : PySem.W.Frag → Bool} {fn : List He.DefD} {g : Addr → Option Obj} {s : Shared} (h : ∀ a, g a = s.heap.get? a) : obsXG n chk fn g = (hookX n chk fn).obs s := by
  have e : g = s.heap.get? := funext h
  rw [e] <;> rfl
section
variable {chk : PySem.W.Frag → Bool} {fn : List He.DefD} {K : PySem.W.Frag}
theorem SaysX.ck (c : SaysX chk fn K) : chk K = true := (He.ba (show (chk K && fn.all fun d => d.ok K) = true from congrArg (fun z : AlX => z.1) c)).1
theorem SaysX.def_ (c : SaysX chk fn K) (i : Nat) {d : He.DefD} (h : fn[i]? = some d := by rfl) : ∃ fd, FunD K d.name d.qual d.params d.body d.scope (d.dvs K) (d.kws K) (He.fAd K d.at_) fd := by
  have c2 := (He.ba (show (chk K && fn.all fun d => d.ok K) = true from congrArg (fun z : AlX => z.1) c)).2
  have e : fn.map (fun d => He.fnW K d.at_) = fn.map He.DefD.val := congrArg (fun z : AlX => z.2) c
  have e2 : (fn.map fun d => He.fnW K d.at_)[i]? = (fn.map He.DefD.val)[i]? := by rw [e]
  rw [List.getElem?_map, List.getElem?_map, h] at e2
  exact He.DefD.funD (Option.some.inj e2) (List.all_eq_true.mp c2 d (List.mem_of_getElem? h))
/-- facts of a list -/
def chkF (fa : List He.Fa) (more : PySem.W.Frag → Bool) (K : PySem.W.Frag) : Bool := (fa.all fun f => f.ok K) && more K
theorem chkF_fact {fa : List He.Fa} {more : PySem.W.Frag → Bool} (c : chkF fa more K = true) (i : Nat) {f : He.Fa} (h : fa[i]? = some f := by rfl) : f.ok K = true :=
  List.all_eq_true.mp (He.ba c).1 f (List.mem_of_getElem? h)
theorem chkF_more {fa : List He.Fa} {more : PySem.W.Frag → Bool} (c : chkF fa more K = true) : more K = true := (He.ba c).2
/-- a plain def -/
theorem fun_ofD {x qual : Str} {st : Stmt} {f : Addr} {fd : FuncData} (F : FunD K x qual (defArgs st) (defBody st) (defScope st) [] [] f fd) : L2.Fun K x qual st f fd := by
  obtain ⟨oc, od, dV, kV, doc, pm, an, cdv, ct, osl, e, lk, hcd, hD, hK⟩ := F.ex
  rcases hD with ⟨_, rfl⟩ | ⟨h, _⟩
  · exact ⟨⟨oc, od, kV, doc, pm, an, cdv, ct, osl, e, lk, hcd⟩, F.kp⟩
  · exact absurd rfl h
end
/-- ExcC, looked at -/
def excB (K : PySem.W.Frag) (D : Addr) : Bool := He.eqO (PySem.W.findIn K (.ref D) "__getattribute__") (some (some (.builtin "BaseException.__getattribute__"))) && (He.eqO (PySem.W.findIn K (.ref D) "__getattr__") (some none) && (decide (PySem.W.subIn K (.ref D) (.type "BaseException") = some true) && (PySem.W.hasDictIn K D &&
  (He.eqO (PySem.W.findIn K (.ref D) "__class__") (some (some (.builtin "object.__class__"))) && (He.eqO (PySem.W.specialIn K (.builtin "object.__class__") "__get__") (some (some (.builtin "getset_descriptor.__get__"))) && (decide (PySem.W.takesIn K (.builtin "object.__class__") = some true) && decide (PySem.W.mroIn K D (.type "object") = some true)))))))
theorem excB_ok {K : PySem.W.Frag} {D : Addr} (h : excB K D = true) : ExcC K D := by
  obtain ⟨h1, h⟩ := He.ba h
  obtain ⟨h2, h⟩ := He.ba h
  obtain ⟨h3, h⟩ := He.ba h
  obtain ⟨h4, h⟩ := He.ba h
  obtain ⟨h5, h⟩ := He.ba h
  obtain ⟨h6, h⟩ := He.ba h
  obtain ⟨h7, h8⟩ := He.ba h
  exact ⟨He.eqO_ok h1, He.eqO_ok h2, of_decide_eq_true h3, h4, He.eqO_ok h5, He.eqO_ok h6, of_decide_eq_true h7, of_decide_eq_true h8⟩
theorem id_vals {vs : List V} {ws : List Value} (h : Vals vs ws) : Vals vs ws := h
/-- a law, the written part told by the head -/
theorem walk_gnE {l : PySem.W.OpenLaw} {n k : Nat} {q : Program} {loose : List Str} {XP : (Str → Option Value) → Heap → Prop} {YP : World → Heap → Prop} {d : DefRec} {CX : CXT} {x : Str}
    (hn : l.most = some n) (hn2 : n ≤ sizeLine) (hdf : d.params.defaults = []) (hr : Room k callerA)
    (F : ∀ (w : World) (mg : Str → Option Value) (fa : Addr) (h : Heap), YP w h → h.Ns mainGlobals mg → mg d.name = some (.ref fa) →
      ∃ (K : PySem.W.Frag) (fd : FuncData) (sp : Sp), K.In h ∧ (∀ (s : Shared) (u : Value), BindsTo s fd ⟨[u], []⟩ [(x, u)]) ∧
        (∀ (H : Hp) (a : Addr) (ns : List Int), ns.length ≤ n → (∀ z ∈ ns, Builtin.Int.intBits z ≤ 1048576) → L2.Only H → SqL K H a (ns.map V.int) → sp [.ref a] H (fun v _ => v = .bl true) fun _ _ _ => False) ∧
        ∀ base : Heap, K.In base → base.Ns mainGlobals mg → GnOk l.prog w K mg base CX k fa fd [x] sp)
    (hCX : ∀ (H : Hp) (s : Shared) (e : Value) (s' : Shared), CX [] H s (fun _ _ _ => False) e s' → False) :
    PySem.W.WalkO q loose XP YP l.row.toRowW d [] (fun f vs => PySem.call f vs) := by
  refine Att.attach_callB hn hdf fun w s₀ s₁ mg mb fa o pm cd doc a vs ns G Y ho hd hcd hmg hobj hints hlen hbits hg => ?_
  obtain ⟨K, fd, sp, KX, bd, good, hF⟩ := F w mg fa _ Y G.T.g hmg
  exact law_end KX G.T.g G.T.b G.T.builtins G.T.nolimit hg hobj hints (Nat.le_trans hlen hn2) hr hF bd (fun H hO hS => good H a ns hlen hbits hO hS) fun H e s' => hCX H s₁ e s'
end Fx
namespace L_k01
open PySem PySem.Spec PyProof.Rows L2 Fx
def topS (i : Nat) : Stmt := PySem.Challenge.pw_fewestsent_k01_worths.main.body.getD i (.Pass ⟨0, 0, 0, 0⟩)
/-- what the built-in names and the constants are -/
structure Bi (mg : Str → Option Value) : Prop where
  abs : mg "abs" = none
  all : mg "all" = none
  bool : mg "bool" = none
  int : mg "int" = none
  isinstance : mg "isinstance" = none
  len : mg "len" = none
  max : mg "max" = none
  min : mg "min" = none
  range : mg "range" = none
  repr : mg "repr" = none
  sum : mg "sum" = none
  tuple : mg "tuple" = none
  c_NUMBER : ∃ t, mg "NUMBER" = some (.str "number" t)
  c_TRUTH : ∃ t, mg "TRUTH" = some (.str "truth" t)
/-- what the own exceptions are -/
structure Cs (K : PySem.W.Frag) (mg : Str → Option Value) (CF CC CT : Addr) : Prop where
  xF : PySem.W.excIn K CF [.type "ValueError", .type "Exception", .type "BaseException", .type "object"] "ValueError.__new__" = true
  gF : mg "NoWorth" = some (.ref CF)
  gC : mg "CellError" = some (.ref CC)
  gT : mg "NoTerm" = some (.ref CT)
  kF : PySem.W.keepIn K (.ref CF) = true
  bF : PySem.W.subIn K (.ref CF) (.type "BaseException") = some true
  tF : PySem.W.typeIn K (.ref CF) = some (.type "type")
  eF : PySem.W.exmOne K (.ref CF) (.ref CF) = some true
  ec : ExcC K CF
  iC : PySem.W.kitOne K (.ref CF) (.ref CC) = some true
  iT : PySem.W.kitOne K (.ref CF) (.ref CT) = some false

section
variable {CF CC CT : Addr} {P : Program} {w : World} {K : PySem.W.Frag} {mg : Str → Option Value} {base : Heap}
abbrev s_is_whole : Stmt := topS 7
theorem sc_is_whole : FnScope ["thing"] ["thing"] (defScope s_is_whole) := ⟨rfl, rfl, rfl, by decide +kernel, rfl, by decide +kernel, by decide +kernel⟩
def F_is_whole : DF := fDef 1 1 ((fRet (fAnd (fCa bIsi (fCons (fVar 0) (fCons (fC (.ty "int")) fNil))) (fNot (fCa bIsi (fCons (fVar 0) (fCons (fC (.ty "bool")) fNil)))))))
theorem d_is_whole (B : Bi mg)  {f : Addr} {fd : FuncData} (F : L2.Fun K "is_whole" "is_whole" s_is_whole f fd) (hm : mg "is_whole" = some (.ref f)) (bi : Binds K fd ["thing"] []) : Df P w K mg base 1 "is_whole" 1 F_is_whole := by
  refine df_ok F hm bi sc_is_whole rfl rfl fun cdv A outer s H E hgd hr => ?_
  exact (ss_one (s_ret (v_and (v_callB call_isi isi_p (by rfl) B.isinstance (by decide +kernel) (a_cons (v_var (pv 0)) (a_cons (v_ty (by rfl) B.int (by decide +kernel)) a_nil))) (v_one (v_not (v_callB call_isi isi_p (by rfl) B.isinstance (by decide +kernel) (a_cons (v_var (pv 0)) (a_cons (v_ty (by rfl) B.bool (by decide +kernel)) a_nil))))))))
abbrev s_divisor_of : Stmt := topS 8
theorem sc_divisor_of : FnScope ["one", "other"] ["one", "other"] (defScope s_divisor_of) := ⟨rfl, rfl, rfl, by decide +kernel, rfl, by decide +kernel, by decide +kernel⟩
def F_divisor_of : DF := fDef 2 2 ((fSeq (fWhile (fun env _ => fuelGcd env 1) (tV (fOp dNe (fVar 1) (fC (.int 0))))
  (fPar 0 1 (fCons (fVar 1) (fCons (fOp dMod (fVar 0) (fVar 1)) fNil))))
  (fRet (fCa bAbs (fCons (fVar 0) fNil)))))
theorem d_divisor_of (B : Bi mg)  {f : Addr} {fd : FuncData} (F : L2.Fun K "divisor_of" "divisor_of" s_divisor_of f fd) (hm : mg "divisor_of" = some (.ref f)) (bi : Binds K fd ["one", "other"] []) : Df P w K mg base 1 "divisor_of" 2 F_divisor_of := by
  refine df_ok F hm bi sc_divisor_of rfl rfl fun cdv A outer s H E hgd hr => ?_
  exact (ss_cons (s_while (fun env _ => fuelGcd env 1) PassesOwn.never (tv_cmp (op_neD hr.units) ne_p (v_var (pv 1)) v_int (nomark _))
  (ss_one (s_parR (i := 0) (j := 1) rfl sc_divisor_of.nd rfl rfl (by decide) rfl rfl (a_cons (v_var (pv 1)) (a_cons (v_op op_modN mod_p (v_var (pv 0)) (v_var (pv 1))) a_nil)) (by rfl))))
  (ss_one (s_ret (v_callB call_abs abs_p (by rfl) B.abs (by decide +kernel) (a_cons (v_var (pv 0)) a_nil)))))
abbrev s_is_number : Stmt := topS 9
theorem sc_is_number : FnScope ["thing", "one", "top", "bottom"] ["thing"] (defScope s_is_number) := ⟨rfl, rfl, rfl, by decide +kernel, rfl, by decide +kernel, by decide +kernel⟩
def F_is_number : DF := fDef 1 4 ((fSeq (fIfS (tOr2 (tNot1 (tV (fCa bIsi (fCons (fVar 0) (fCons (fC (.ty "tuple")) fNil))))) (tOr2 (tV (fOp dNe (fCa bLen (fCons (fVar 0) fNil)) (fC (.int 2)))) (tNot1 (tV (fCa bAll (fCons (fLc (iTp (fVar 0)) (gNm 1) tYes1 (fCall 1 F_is_whole (fCons (fVar 1) fNil)) [1]) fNil))))))
  (fRet (fC (.bl false)))
  fPass)
  (fSeq (fAsg (fVar 0) (gTp 2 (gsCons (gNm 2) (gsCons (gNm 3) gsNil))))
  (fRet (fAnd (fOp dGe (fVar 3) (fC (.int 1))) (fOp dEq (fCall 2 F_divisor_of (fCons (fVar 2) (fCons (fVar 3) fNil))) (fC (.int 1))))))))
theorem d_is_number (B : Bi mg) (g_is_whole : Df P w K mg base 1 "is_whole" 1 F_is_whole) (g_divisor_of : Df P w K mg base 1 "divisor_of" 2 F_divisor_of) {f : Addr} {fd : FuncData} (F : L2.Fun K "is_number" "is_number" s_is_number f fd) (hm : mg "is_number" = some (.ref f)) (bi : Binds K fd ["thing"] []) : Df P w K mg base 2 "is_number" 1 F_is_number := by
  refine df_ok F hm bi sc_is_number rfl rfl fun cdv A outer s H E hgd hr => ?_
  exact (ss_cons (s_if (PW.pt (tw_or (tv_not (tv_val (v_callB call_isi isi_p (by rfl) B.isinstance (by decide +kernel) (a_cons (v_var (pv 0)) (a_cons (v_ty (by rfl) B.tuple (by decide +kernel)) a_nil))))) (tw_or (tv_cmp (op_neD hr.units) ne_p (v_callB call_len_seq len_p (by rfl) B.len (by decide +kernel) (a_cons (v_var (pv 0)) a_nil)) v_int (nomark _)) (tw_or1 (tv_not (tv_val (v_callB (cr_all rfl) all_p (by rfl) B.all (by decide +kernel) (a_cons (v_lc (own := [("one", 1)]) (t := L2.gName 1) rfl sc_is_number.nd (i_tup (v_var (pv 0))) (blkOk_by (N := ["thing", "one", "top", "bottom"]) (sc := defScope s_is_number) (by decide +kernel)) (fun _ _ _ _ _ => (pg_name (i := 1) sc_is_number.nd rfl (Or.inl rfl))) (own_name (by decide)) (fun _ _ _ _ _ => pts0) (fun _ _ _ _ _ => (v_callD g_is_whole hr hgd (by rfl) (a_cons (v_var (pv 1)) a_nil)))) a_nil))))))))
  (ss_one (s_ret v_bl))
  ss_nil)
  (ss_cons (s_asg (v_var (pv 0)) (g_tupR rfl (gs_consR (g_name (i := 2) sc_is_number.nd rfl (.inl rfl)) (gs_consR (g_name (i := 3) sc_is_number.nd rfl (.inl rfl)) gs_nil))))
  (ss_one (s_ret (v_and (v_cmp op_ge cmp_p (v_var (pv 3)) v_int (nomark _)) (v_one (v_cmp (op_eqD hr.units) eq_p (v_callD g_divisor_of hr hgd (by rfl) (a_cons (v_var (pv 2)) (a_cons (v_var (pv 3)) a_nil))) v_int (nomark _))))))))
abbrev s_is_worth : Stmt := topS 10
theorem sc_is_worth : FnScope ["thing"] ["thing"] (defScope s_is_worth) := ⟨rfl, rfl, rfl, by decide +kernel, rfl, by decide +kernel, by decide +kernel⟩
def F_is_worth : DF := fDef 1 1 ((fRet (fOr (fCa bIsi (fCons (fVar 0) (fCons (fC (.ty "bool")) fNil))) (fCall 1 F_is_number (fCons (fVar 0) fNil)))))
theorem gn_is_worth (B : Bi mg) (g_is_number : Df P w K mg base 2 "is_number" 1 F_is_number) {f : Addr} {fd : FuncData} (F : L2.Fun K "is_worth" "is_worth" s_is_worth f fd) : GnOk P w K mg base CX0 3 f fd ["thing"] (spF K 1 F_is_worth) := by
  refine gn_ok F sc_is_worth fun cdv A outer s H E hgd hr => ?_
  exact (ss_one (s_ret (v_or (v_callB call_isi isi_p (by rfl) B.isinstance (by decide +kernel) (a_cons (v_var (pv 0)) (a_cons (v_ty (by rfl) B.bool (by decide +kernel)) a_nil))) (v_one (v_callD g_is_number hr hgd (by rfl) (a_cons (v_var (pv 0)) a_nil))))))
theorem d_is_worth (B : Bi mg) (g_is_number : Df P w K mg base 2 "is_number" 1 F_is_number) {f : Addr} {fd : FuncData} (F : L2.Fun K "is_worth" "is_worth" s_is_worth f fd) (hm : mg "is_worth" = some (.ref f)) (bi : Binds K fd ["thing"] []) : Df P w K mg base 3 "is_worth" 1 F_is_worth := ⟨f, fd, _, gn_is_worth B g_is_number F, hm, F.kp, bi⟩
abbrev s_kind_of_worth : Stmt := topS 11
theorem sc_kind_of_worth : FnScope ["worth"] ["worth"] (defScope s_kind_of_worth) := ⟨rfl, rfl, rfl, by decide +kernel, rfl, by decide +kernel, by decide +kernel⟩
def F_kind_of_worth : DF := fDef 1 1 ((fRet (fIf (tV (fCa bIsi (fCons (fVar 0) (fCons (fC (.ty "bool")) fNil)))) (fC (.str "truth")) (fC (.str "number")))))
theorem d_kind_of_worth (B : Bi mg)  {f : Addr} {fd : FuncData} (F : L2.Fun K "kind_of_worth" "kind_of_worth" s_kind_of_worth f fd) (hm : mg "kind_of_worth" = some (.ref f)) (bi : Binds K fd ["worth"] []) : Df P w K mg base 1 "kind_of_worth" 1 F_kind_of_worth := by
  refine df_ok F hm bi sc_kind_of_worth rfl rfl fun cdv A outer s H E hgd hr => ?_
  exact (ss_one (s_ret (v_ifExp (tv_val (v_callB call_isi isi_p (by rfl) B.isinstance (by decide +kernel) (a_cons (v_var (pv 0)) (a_cons (v_ty (by rfl) B.bool (by decide +kernel)) a_nil)))) (v_globStrE (by rfl) B.c_TRUTH) (v_globStrE (by rfl) B.c_NUMBER))))
abbrev s_lowest : Stmt := topS 12
theorem sc_lowest : FnScope ["top", "bottom", "by"] ["top", "bottom"] (defScope s_lowest) := ⟨rfl, rfl, rfl, by decide +kernel, rfl, by decide +kernel, by decide +kernel⟩
def F_lowest : DF := fDef 2 3 ((fSeq (fSet 2 (fIf (tV (fOp dGt (fVar 1) (fC (.int 0)))) (fCall 2 F_divisor_of (fCons (fVar 0) (fCons (fVar 1) fNil))) (fUn dNeg (fCall 2 F_divisor_of (fCons (fVar 0) (fCons (fVar 1) fNil))))))
  (fRet (fTup (fCons (fOp dDiv (fVar 0) (fVar 2)) (fCons (fOp dDiv (fVar 1) (fVar 2)) fNil))))))
theorem d_lowest (B : Bi mg) (g_divisor_of : Df P w K mg base 1 "divisor_of" 2 F_divisor_of) {f : Addr} {fd : FuncData} (F : L2.Fun K "lowest" "lowest" s_lowest f fd) (hm : mg "lowest" = some (.ref f)) (bi : Binds K fd ["top", "bottom"] []) : Df P w K mg base 2 "lowest" 2 F_lowest := by
  refine df_ok F hm bi sc_lowest rfl rfl fun cdv A outer s H E hgd hr => ?_
  exact (ss_cons (s_set (i := 2) sc_lowest.nd rfl (.inl rfl) (v_ifExp (tv_cmp op_gt cmp_p (v_var (pv 1)) v_int (nomark _)) (v_callD g_divisor_of hr hgd (by rfl) (a_cons (v_var (pv 0)) (a_cons (v_var (pv 1)) a_nil))) (v_un un_neg neg_p (v_callD g_divisor_of hr hgd (by rfl) (a_cons (v_var (pv 0)) (a_cons (v_var (pv 1)) a_nil))))))
  (ss_one (s_ret (v_tup (a_cons (v_op op_fdivG div_p (v_var (pv 0)) (v_var (pv 2))) (a_cons (v_op op_fdivG div_p (v_var (pv 1)) (v_var (pv 2))) a_nil))))))
abbrev s_number : Stmt := topS 13
theorem sc_number : FnScope ["top", "bottom"] ["top", "bottom"] (defScope s_number) := ⟨rfl, rfl, rfl, by decide +kernel, rfl, by decide +kernel, by decide +kernel⟩
def F_number (CF : Addr) : DF := fDefX 2 2 (fSeq (fIfS (tOr2 (tNot1 (tV (fCall 1 F_is_whole (fCons (fVar 0) fNil)))) (tOr2 (tNot1 (tV (fCall 1 F_is_whole (fCons (fVar 1) fNil)))) (tV (fOp dEq (fVar 1) (fC (.int 0))))))
  (fRaise CF)
  fPass)
  (fRet (fCall 2 F_lowest (fCons (fVar 0) (fCons (fVar 1) fNil)))))
theorem gn_number (T : Cs K mg CF CC CT) (g_is_whole : Df P w K mg base 1 "is_whole" 1 F_is_whole) (g_lowest : Df P w K mg base 2 "lowest" 2 F_lowest) {f : Addr} {fd : FuncData}
    (F : L2.FunD K "number" "number" (defArgs s_number) (defBody s_number) (defScope s_number) [V.int 1] [] f fd) : GnOk P w K mg base (L2.CX P w) 3 f fd ["top", "bottom"] (spF K 2 (F_number CF)) := by
  refine gn_okX F sc_number fun cdv A outer s H E hgd hr => ?_
  exact (ss_cons (s_if (PW.pt (tw_or (tv_not (tv_val (v_callE g_is_whole (hr.mono (by decide)) hgd (by rfl) (a_cons (v_var (pv 0)) a_nil)))) (tw_or (tv_not (tv_val (v_callE g_is_whole (hr.mono (by decide)) hgd (by rfl) (a_cons (v_var (pv 1)) a_nil)))) (tw_or1 (tv_cmp (op_eqD hr.units) eq_p (v_var (pv 1)) v_int (nomark _))))))
    (ss_one (s_raise rfl (takes_of rfl rfl rfl rfl) (pmk_own PySem.F.excBase_ValueError T.xF T.gF T.kF (raises_own T.bF T.tF) (by exact rfl))))
    ss_nil)
    (ss_one (s_ret (v_callE g_lowest hr hgd (by rfl) (a_cons (v_var (pv 0)) (a_cons (v_var (pv 1)) a_nil))))))
abbrev s_plus : Stmt := topS 14
theorem sc_plus : FnScope ["one", "other"] ["one", "other"] (defScope s_plus) := ⟨rfl, rfl, rfl, by decide +kernel, rfl, by decide +kernel, by decide +kernel⟩
def F_plus : DF := fDef 2 2 ((fRet (fCall 2 F_lowest (fCons (fOp dAdd (fOp dMul (fOp dIx (fVar 0) (fC (.int 0))) (fOp dIx (fVar 1) (fC (.int 1)))) (fOp dMul (fOp dIx (fVar 1) (fC (.int 0))) (fOp dIx (fVar 0) (fC (.int 1))))) (fCons (fOp dMul (fOp dIx (fVar 0) (fC (.int 1))) (fOp dIx (fVar 1) (fC (.int 1)))) fNil)))))
theorem gn_plus (B : Bi mg) (g_lowest : Df P w K mg base 2 "lowest" 2 F_lowest) {f : Addr} {fd : FuncData} (F : L2.Fun K "plus" "plus" s_plus f fd) : GnOk P w K mg base CX0 3 f fd ["one", "other"] (spF K 2 F_plus) := by
  refine gn_ok F sc_plus fun cdv A outer s H E hgd hr => ?_
  exact (ss_one (s_ret (v_callD g_lowest hr hgd (by rfl) (a_cons (v_op op_addA add_p (v_op op_mulX mul_p (v_ix ix_lt ix_p (v_var (pv 0)) v_int (fun _ _ => rfl)) (v_ix ix_lt ix_p (v_var (pv 1)) v_int (fun _ _ => rfl))) (v_op op_mulX mul_p (v_ix ix_lt ix_p (v_var (pv 1)) v_int (fun _ _ => rfl)) (v_ix ix_lt ix_p (v_var (pv 0)) v_int (fun _ _ => rfl)))) (a_cons (v_op op_mulX mul_p (v_ix ix_lt ix_p (v_var (pv 0)) v_int (fun _ _ => rfl)) (v_ix ix_lt ix_p (v_var (pv 1)) v_int (fun _ _ => rfl))) a_nil)))))
theorem d_plus (B : Bi mg) (g_lowest : Df P w K mg base 2 "lowest" 2 F_lowest) {f : Addr} {fd : FuncData} (F : L2.Fun K "plus" "plus" s_plus f fd) (hm : mg "plus" = some (.ref f)) (bi : Binds K fd ["one", "other"] []) : Df P w K mg base 3 "plus" 2 F_plus := ⟨f, fd, _, gn_plus B g_lowest F, hm, F.kp, bi⟩
abbrev s_minus : Stmt := topS 15
theorem sc_minus : FnScope ["one", "other"] ["one", "other"] (defScope s_minus) := ⟨rfl, rfl, rfl, by decide +kernel, rfl, by decide +kernel, by decide +kernel⟩
def F_minus : DF := fDef 2 2 ((fRet (fCall 2 F_lowest (fCons (fOp dSub (fOp dMul (fOp dIx (fVar 0) (fC (.int 0))) (fOp dIx (fVar 1) (fC (.int 1)))) (fOp dMul (fOp dIx (fVar 1) (fC (.int 0))) (fOp dIx (fVar 0) (fC (.int 1))))) (fCons (fOp dMul (fOp dIx (fVar 0) (fC (.int 1))) (fOp dIx (fVar 1) (fC (.int 1)))) fNil)))))
theorem d_minus (B : Bi mg) (g_lowest : Df P w K mg base 2 "lowest" 2 F_lowest) {f : Addr} {fd : FuncData} (F : L2.Fun K "minus" "minus" s_minus f fd) (hm : mg "minus" = some (.ref f)) (bi : Binds K fd ["one", "other"] []) : Df P w K mg base 3 "minus" 2 F_minus := by
  refine df_ok F hm bi sc_minus rfl rfl fun cdv A outer s H E hgd hr => ?_
  exact (ss_one (s_ret (v_callD g_lowest hr hgd (by rfl) (a_cons (v_op op_sub sub_p (v_op op_mulX mul_p (v_ix ix_lt ix_p (v_var (pv 0)) v_int (fun _ _ => rfl)) (v_ix ix_lt ix_p (v_var (pv 1)) v_int (fun _ _ => rfl))) (v_op op_mulX mul_p (v_ix ix_lt ix_p (v_var (pv 1)) v_int (fun _ _ => rfl)) (v_ix ix_lt ix_p (v_var (pv 0)) v_int (fun _ _ => rfl)))) (a_cons (v_op op_mulX mul_p (v_ix ix_lt ix_p (v_var (pv 0)) v_int (fun _ _ => rfl)) (v_ix ix_lt ix_p (v_var (pv 1)) v_int (fun _ _ => rfl))) a_nil)))))
abbrev s_times : Stmt := topS 16
theorem sc_times : FnScope ["one", "other"] ["one", "other"] (defScope s_times) := ⟨rfl, rfl, rfl, by decide +kernel, rfl, by decide +kernel, by decide +kernel⟩
def F_times : DF := fDef 2 2 ((fRet (fCall 2 F_lowest (fCons (fOp dMul (fOp dIx (fVar 0) (fC (.int 0))) (fOp dIx (fVar 1) (fC (.int 0)))) (fCons (fOp dMul (fOp dIx (fVar 0) (fC (.int 1))) (fOp dIx (fVar 1) (fC (.int 1)))) fNil)))))
theorem d_times (B : Bi mg) (g_lowest : Df P w K mg base 2 "lowest" 2 F_lowest) {f : Addr} {fd : FuncData} (F : L2.Fun K "times" "times" s_times f fd) (hm : mg "times" = some (.ref f)) (bi : Binds K fd ["one", "other"] []) : Df P w K mg base 3 "times" 2 F_times := by
  refine df_ok F hm bi sc_times rfl rfl fun cdv A outer s H E hgd hr => ?_
  exact (ss_one (s_ret (v_callD g_lowest hr hgd (by rfl) (a_cons (v_op op_mulX mul_p (v_ix ix_lt ix_p (v_var (pv 0)) v_int (fun _ _ => rfl)) (v_ix ix_lt ix_p (v_var (pv 1)) v_int (fun _ _ => rfl))) (a_cons (v_op op_mulX mul_p (v_ix ix_lt ix_p (v_var (pv 0)) v_int (fun _ _ => rfl)) (v_ix ix_lt ix_p (v_var (pv 1)) v_int (fun _ _ => rfl))) a_nil)))))
abbrev s_over : Stmt := topS 17
theorem sc_over : FnScope ["one", "other"] ["one", "other"] (defScope s_over) := ⟨rfl, rfl, rfl, by decide +kernel, rfl, by decide +kernel, by decide +kernel⟩
def F_over : DF := fDef 2 2 ((fRet (fIf (tV (fOp dEq (fOp dIx (fVar 1) (fC (.int 0))) (fC (.int 0)))) (fC .non) (fCall 2 F_lowest (fCons (fOp dMul (fOp dIx (fVar 0) (fC (.int 0))) (fOp dIx (fVar 1) (fC (.int 1)))) (fCons (fOp dMul (fOp dIx (fVar 0) (fC (.int 1))) (fOp dIx (fVar 1) (fC (.int 0)))) fNil))))))
theorem gn_over (B : Bi mg) (g_lowest : Df P w K mg base 2 "lowest" 2 F_lowest) {f : Addr} {fd : FuncData} (F : L2.Fun K "over" "over" s_over f fd) : GnOk P w K mg base CX0 3 f fd ["one", "other"] (spF K 2 F_over) := by
  refine gn_ok F sc_over fun cdv A outer s H E hgd hr => ?_
  exact (ss_one (s_ret (v_ifExp (tv_cmp (op_eqD hr.units) eq_p (v_ix ix_lt ix_p (v_var (pv 1)) v_int (fun _ _ => rfl)) v_int (nomark _)) v_non (v_callD g_lowest hr hgd (by rfl) (a_cons (v_op op_mulX mul_p (v_ix ix_lt ix_p (v_var (pv 0)) v_int (fun _ _ => rfl)) (v_ix ix_lt ix_p (v_var (pv 1)) v_int (fun _ _ => rfl))) (a_cons (v_op op_mulX mul_p (v_ix ix_lt ix_p (v_var (pv 0)) v_int (fun _ _ => rfl)) (v_ix ix_lt ix_p (v_var (pv 1)) v_int (fun _ _ => rfl))) a_nil))))))
theorem d_over (B : Bi mg) (g_lowest : Df P w K mg base 2 "lowest" 2 F_lowest) {f : Addr} {fd : FuncData} (F : L2.Fun K "over" "over" s_over f fd) (hm : mg "over" = some (.ref f)) (bi : Binds K fd ["one", "other"] []) : Df P w K mg base 3 "over" 2 F_over := ⟨f, fd, _, gn_over B g_lowest F, hm, F.kp, bi⟩
abbrev s_is_less : Stmt := topS 18
theorem sc_is_less : FnScope ["one", "other"] ["one", "other"] (defScope s_is_less) := ⟨rfl, rfl, rfl, by decide +kernel, rfl, by decide +kernel, by decide +kernel⟩
def F_is_less : DF := fDef 2 2 ((fRet (fOp dLt (fOp dMul (fOp dIx (fVar 0) (fC (.int 0))) (fOp dIx (fVar 1) (fC (.int 1)))) (fOp dMul (fOp dIx (fVar 1) (fC (.int 0))) (fOp dIx (fVar 0) (fC (.int 1)))))))
theorem d_is_less (B : Bi mg)  {f : Addr} {fd : FuncData} (F : L2.Fun K "is_less" "is_less" s_is_less f fd) (hm : mg "is_less" = some (.ref f)) (bi : Binds K fd ["one", "other"] []) : Df P w K mg base 1 "is_less" 2 F_is_less := by
  refine df_ok F hm bi sc_is_less rfl rfl fun cdv A outer s H E hgd hr => ?_
  exact (ss_one (s_ret (v_cmp op_lt cmp_p (v_op op_mulX mul_p (v_ix ix_lt ix_p (v_var (pv 0)) v_int (fun _ _ => rfl)) (v_ix ix_lt ix_p (v_var (pv 1)) v_int (fun _ _ => rfl))) (v_op op_mulX mul_p (v_ix ix_lt ix_p (v_var (pv 1)) v_int (fun _ _ => rfl)) (v_ix ix_lt ix_p (v_var (pv 0)) v_int (fun _ _ => rfl))) (nomark _))))
abbrev s_least : Stmt := topS 19
theorem sc_least : FnScope ["one", "other"] ["one", "other"] (defScope s_least) := ⟨rfl, rfl, rfl, by decide +kernel, rfl, by decide +kernel, by decide +kernel⟩
def F_least : DF := fDef 2 2 ((fRet (fIf (tV (fCall 2 F_is_less (fCons (fVar 1) (fCons (fVar 0) fNil)))) (fVar 1) (fVar 0))))
theorem d_least (B : Bi mg) (g_is_less : Df P w K mg base 1 "is_less" 2 F_is_less) {f : Addr} {fd : FuncData} (F : L2.Fun K "least" "least" s_least f fd) (hm : mg "least" = some (.ref f)) (bi : Binds K fd ["one", "other"] []) : Df P w K mg base 2 "least" 2 F_least := by
  refine df_ok F hm bi sc_least rfl rfl fun cdv A outer s H E hgd hr => ?_
  exact (ss_one (s_ret (v_ifExp (tv_val (v_callD g_is_less hr hgd (by rfl) (a_cons (v_var (pv 1)) (a_cons (v_var (pv 0)) a_nil)))) (v_var (pv 1)) (v_var (pv 0)))))
abbrev s_most : Stmt := topS 20
theorem sc_most : FnScope ["one", "other"] ["one", "other"] (defScope s_most) := ⟨rfl, rfl, rfl, by decide +kernel, rfl, by decide +kernel, by decide +kernel⟩
def F_most : DF := fDef 2 2 ((fRet (fIf (tV (fCall 2 F_is_less (fCons (fVar 0) (fCons (fVar 1) fNil)))) (fVar 1) (fVar 0))))
theorem d_most (B : Bi mg) (g_is_less : Df P w K mg base 1 "is_less" 2 F_is_less) {f : Addr} {fd : FuncData} (F : L2.Fun K "most" "most" s_most f fd) (hm : mg "most" = some (.ref f)) (bi : Binds K fd ["one", "other"] []) : Df P w K mg base 2 "most" 2 F_most := by
  refine df_ok F hm bi sc_most rfl rfl fun cdv A outer s H E hgd hr => ?_
  exact (ss_one (s_ret (v_ifExp (tv_val (v_callD g_is_less hr hgd (by rfl) (a_cons (v_var (pv 0)) (a_cons (v_var (pv 1)) a_nil)))) (v_var (pv 1)) (v_var (pv 0)))))
abbrev s_is_whole_worth : Stmt := topS 21
theorem sc_is_whole_worth : FnScope ["worth"] ["worth"] (defScope s_is_whole_worth) := ⟨rfl, rfl, rfl, by decide +kernel, rfl, by decide +kernel, by decide +kernel⟩
def F_is_whole_worth : DF := fDef 1 1 ((fRet (fAnd (fNot (fCa bIsi (fCons (fVar 0) (fCons (fC (.ty "bool")) fNil)))) (fOp dEq (fOp dIx (fVar 0) (fC (.int 1))) (fC (.int 1))))))
theorem d_is_whole_worth (B : Bi mg)  {f : Addr} {fd : FuncData} (F : L2.Fun K "is_whole_worth" "is_whole_worth" s_is_whole_worth f fd) (hm : mg "is_whole_worth" = some (.ref f)) (bi : Binds K fd ["worth"] []) : Df P w K mg base 1 "is_whole_worth" 1 F_is_whole_worth := by
  refine df_ok F hm bi sc_is_whole_worth rfl rfl fun cdv A outer s H E hgd hr => ?_
  exact (ss_one (s_ret (v_and (v_not (v_callB call_isi isi_p (by rfl) B.isinstance (by decide +kernel) (a_cons (v_var (pv 0)) (a_cons (v_ty (by rfl) B.bool (by decide +kernel)) a_nil)))) (v_one (v_cmp (op_eqD hr.units) eq_p (v_ix ix_lt ix_p (v_var (pv 0)) v_int (fun _ _ => rfl)) v_int (nomark _))))))
abbrev s__law_pool : Stmt := topS 23
theorem sc__law_pool : FnScope ["script", "k", "cell", "great", "mixed"] ["script", "k"] (defScope s__law_pool) := ⟨rfl, rfl, rfl, by decide +kernel, rfl, by decide +kernel, by decide +kernel⟩
def F__law_pool : DF := fDef 2 5 ((fSeq (fSet 2 (fOp dAdd (fOp dMul (fC (.int 11)) (fCa bSum (fCons (fSlL (fVar 0) oNo (oSome (fC (.int 63)))) fNil))) (fVar 1)))
  (fSeq (fIfS (tV (fOp dLt (fVar 1) (fCa bLen (fCons (fVar 0) fNil))))
  (fSet 2 (fOp dIx (fVar 0) (fVar 1)))
  fPass)
  (fSeq (fSet 3 (fCa bAbs (fCons (fVar 2) fNil)))
  (fSeq (fSet 4 (fOp dMod (fOp dMul (fOp dAdd (fOp dAdd (fOp dAdd (fOp dMod (fVar 3) (fC (.int 2147483629))) (fOp dMul (fOp dMul (fC (.int 7919)) (fVar 1)) (fVar 1))) (fOp dMul (fC (.int 31)) (fVar 1))) (fC (.int 17))) (fC (.int 48271))) (fC (.int 2147483647))))
  (fRet (fLstC (fCons (fOp dMul (fVar 3) (fCa bInt (fCons (fOp dGe (fVar 3) (fOp dPow (fC (.int 10)) (fC (.int 18)))) fNil))) (fCons (fOp dMod (fOp dMul (fVar 4) (fVar 4)) (fC (.int 2147483629))) fNil)))))))))
theorem d__law_pool (B : Bi mg)  {f : Addr} {fd : FuncData} (F : L2.Fun K "_law_pool" "_law_pool" s__law_pool f fd) (hm : mg "_law_pool" = some (.ref f)) (bi : Binds K fd ["script", "k"] []) : Df P w K mg base 1 "_law_pool" 2 F__law_pool := by
  refine df_ok F hm bi sc__law_pool rfl rfl fun cdv A outer s H E hgd hr => ?_
  exact (ss_cons (s_set (i := 2) sc__law_pool.nd rfl (.inl rfl) (v_op op_addA add_p (v_op op_mulX mul_p v_int (v_callB (cr_sum rfl) sum_p (by rfl) B.sum (by decide +kernel) (a_cons (v_slL (v_var (pv 0)) o_none (o_some v_int)) a_nil))) (v_var (pv 1))))
  (ss_cons (s_if (tv_cmp op_lt cmp_p (v_var (pv 1)) (v_callB call_len_seq len_p (by rfl) B.len (by decide +kernel) (a_cons (v_var (pv 0)) a_nil)) (nomark _))
  (ss_one (s_set (i := 2) sc__law_pool.nd rfl (.inl rfl) (v_ix ix_lt ix_p (v_var (pv 0)) (v_var (pv 1)) (fun _ _ => rfl))))
  ss_nil)
  (ss_cons (s_set (i := 3) sc__law_pool.nd rfl (.inl rfl) (v_callB call_abs abs_p (by rfl) B.abs (by decide +kernel) (a_cons (v_var (pv 2)) a_nil)))
  (ss_cons (s_set (i := 4) sc__law_pool.nd rfl (.inl rfl) (v_op op_modN mod_p (v_op op_mulX mul_p (v_op op_addA add_p (v_op op_addA add_p (v_op op_addA add_p (v_op op_modN mod_p (v_var (pv 3)) v_int) (v_op op_mulX mul_p (v_op op_mulX mul_p v_int (v_var (pv 1))) (v_var (pv 1)))) (v_op op_mulX mul_p v_int (v_var (pv 1)))) v_int) v_int) v_int))
  (ss_one (s_ret (v_lstC (a_cons (v_op op_mulX mul_p (v_var (pv 3)) (v_callTy call_int1 int_p (by rfl) B.int (by decide +kernel) (a_cons (v_cmp op_ge cmp_p (v_var (pv 3)) (v_op op_pow pow_p v_int v_int) (nomark _)) a_nil))) (a_cons (v_op op_modN mod_p (v_op op_mulX mul_p (v_var (pv 4)) (v_var (pv 4))) v_int) a_nil)))))))))
abbrev s__law_take : Stmt := topS 24
theorem sc__law_take : FnScope ["pool", "many", "found"] ["pool", "many"] (defScope s__law_take) := ⟨rfl, rfl, rfl, by decide +kernel, rfl, by decide +kernel, by decide +kernel⟩
def F__law_take : DF := fDef 2 3 ((fSeq (fIfS (tV (fOp dGt (fOp dIx (fVar 0) (fC (.int 0))) (fC (.int 0))))
  (fSeq (fSet 2 (fOp dMod (fOp dIx (fVar 0) (fC (.int 0))) (fVar 1)))
  (fSeq (fAsg (fOp dDiv (fOp dIx (fVar 0) (fC (.int 0))) (fVar 1)) (gSubL (fVar 0) (fC (.int 0))))
  (fRet (fVar 2))))
  fPass)
  (fSeq (fAsg (fOp dMod (fOp dAdd (fOp dMul (fOp dIx (fVar 0) (fC (.int 1))) (fC (.int 48271))) (fC (.int 11))) (fC (.int 2147483647))) (gSubL (fVar 0) (fC (.int 1))))
  (fRet (fOp dMod (fOp dDiv (fOp dMod (fOp dMul (fOp dIx (fVar 0) (fC (.int 1))) (fOp dIx (fVar 0) (fC (.int 1)))) (fC (.int 2147483629))) (fC (.int 16))) (fVar 1))))))
theorem d__law_take (B : Bi mg)  {f : Addr} {fd : FuncData} (F : L2.Fun K "_law_take" "_law_take" s__law_take f fd) (hm : mg "_law_take" = some (.ref f)) (bi : Binds K fd ["pool", "many"] []) : Df P w K mg base 1 "_law_take" 2 F__law_take := by
  refine df_ok F hm bi sc__law_take rfl rfl fun cdv A outer s H E hgd hr => ?_
  exact (ss_cons (s_if (tv_cmp op_gt cmp_p (v_ix ix_lt ix_p (v_var (pv 0)) v_int (fun _ _ => rfl)) v_int (nomark _))
  (ss_cons (s_set (i := 2) sc__law_take.nd rfl (.inl rfl) (v_op op_modN mod_p (v_ix ix_lt ix_p (v_var (pv 0)) v_int (fun _ _ => rfl)) (v_var (pv 1))))
  (ss_cons (s_asg (v_op op_fdivG div_p (v_ix ix_lt ix_p (v_var (pv 0)) v_int (fun _ _ => rfl)) (v_var (pv 1))) (g_subL (v_var (pv 0)) v_int (pg_sub (v_var (pv 0)) v_int set_list (fun _ => rfl))))
  (ss_one (s_ret (v_var (pv 2))))))
  ss_nil)
  (ss_cons (s_asg (v_op op_modN mod_p (v_op op_addA add_p (v_op op_mulX mul_p (v_ix ix_lt ix_p (v_var (pv 0)) v_int (fun _ _ => rfl)) v_int) v_int) v_int) (g_subL (v_var (pv 0)) v_int (pg_sub (v_var (pv 0)) v_int set_list (fun _ => rfl))))
  (ss_one (s_ret (v_op op_modN mod_p (v_op op_fdivG div_p (v_op op_modN mod_p (v_op op_mulX mul_p (v_ix ix_lt ix_p (v_var (pv 0)) v_int (fun _ _ => rfl)) (v_ix ix_lt ix_p (v_var (pv 0)) v_int (fun _ _ => rfl))) v_int) v_int) (v_var (pv 1)))))))
abbrev s__law_low : Stmt := topS 25
theorem sc__law_low : FnScope ["top_here", "bottom_here", "entry", "other_here", "sign"] ["top_here", "bottom_here"] (defScope s__law_low) := ⟨rfl, rfl, rfl, by decide +kernel, rfl, by decide +kernel, by decide +kernel⟩
def F__law_low : DF := fDef 2 5 ((fSeq (fPar 2 3 (fCons (fCa bAbs (fCons (fVar 0) fNil)) (fCons (fCa bAbs (fCons (fVar 1) fNil)) fNil)))
  (fSeq (fWhile (fun env _ => fuelGcd env 3) (tV (fOp dNe (fVar 3) (fC (.int 0))))
  (fPar 2 3 (fCons (fVar 3) (fCons (fOp dMod (fVar 2) (fVar 3)) fNil))))
  (fSeq (fSet 4 (fOp dIx (fLst (fCons (fC (.int 1)) (fCons (fUn dNeg (fC (.int 1))) fNil))) (fCa bInt (fCons (fOp dLt (fVar 1) (fC (.int 0))) fNil))))
  (fRet (fTup (fCons (fOp dDiv (fOp dMul (fVar 4) (fVar 0)) (fVar 2)) (fCons (fOp dDiv (fOp dMul (fVar 4) (fVar 1)) (fVar 2)) fNil))))))))
theorem d__law_low (B : Bi mg)  {f : Addr} {fd : FuncData} (F : L2.Fun K "_law_low" "_law_low" s__law_low f fd) (hm : mg "_law_low" = some (.ref f)) (bi : Binds K fd ["top_here", "bottom_here"] []) : Df P w K mg base 1 "_law_low" 2 F__law_low := by
  refine df_ok F hm bi sc__law_low rfl rfl fun cdv A outer s H E hgd hr => ?_
  exact (ss_cons (s_parR (i := 2) (j := 3) rfl sc__law_low.nd rfl rfl (by decide) rfl rfl (a_cons (v_callB call_abs abs_p (by rfl) B.abs (by decide +kernel) (a_cons (v_var (pv 0)) a_nil)) (a_cons (v_callB call_abs abs_p (by rfl) B.abs (by decide +kernel) (a_cons (v_var (pv 1)) a_nil)) a_nil)) (by rfl))
  (ss_cons (s_while (fun env _ => fuelGcd env 3) PassesOwn.never (tv_cmp (op_neD hr.units) ne_p (v_var (pv 3)) v_int (nomark _))
  (ss_one (s_parR (i := 2) (j := 3) rfl sc__law_low.nd rfl rfl (by decide) rfl rfl (a_cons (v_var (pv 3)) (a_cons (v_op op_modN mod_p (v_var (pv 2)) (v_var (pv 3))) a_nil)) (by rfl))))
  (ss_cons (s_set (i := 4) sc__law_low.nd rfl (.inl rfl) (v_ix ix_lt ix_p (v_lst (a_cons v_int (a_cons (v_un un_neg neg_p v_int) a_nil))) (v_callTy call_int1 int_p (by rfl) B.int (by decide +kernel) (a_cons (v_cmp op_lt cmp_p (v_var (pv 1)) v_int (nomark _)) a_nil)) (fun _ _ => rfl)))
  (ss_one (s_ret (v_tup (a_cons (v_op op_fdivG div_p (v_op op_mulX mul_p (v_var (pv 4)) (v_var (pv 0))) (v_var (pv 2))) (a_cons (v_op op_fdivG div_p (v_op op_mulX mul_p (v_var (pv 4)) (v_var (pv 1))) (v_var (pv 2))) a_nil))))))))
abbrev s__law_number : Stmt := topS 26
theorem sc__law_number : FnScope ["pool", "tops"] ["pool"] (defScope s__law_number) := ⟨rfl, rfl, rfl, by decide +kernel, rfl, by decide +kernel, by decide +kernel⟩
def F__law_number : DF := fDef 1 2 ((fSeq (fSet 1 (fLst (fCons (fC (.int 0)) (fCons (fC (.int 1)) (fCons (fUn dNeg (fC (.int 1))) (fCons (fC (.int 2)) (fCons (fC (.int 3)) (fCons (fUn dNeg (fC (.int 5))) (fCons (fC (.int 7)) (fCons (fOp dPow (fC (.int 10)) (fC (.int 30))) (fCons (fOp dSub (fUn dNeg (fOp dPow (fC (.int 10)) (fC (.int 30)))) (fC (.int 1))) fNil)))))))))))
  (fRet (fCall 2 F__law_low (fCons (fOp dIx (fVar 1) (fCall 2 F__law_take (fCons (fVar 0) (fCons (fC (.int 9)) fNil)))) (fCons (fOp dIx (fLst (fCons (fC (.int 1)) (fCons (fC (.int 1)) (fCons (fC (.int 1)) (fCons (fC (.int 2)) (fCons (fC (.int 3)) (fCons (fC (.int 4)) (fCons (fC (.int 6)) (fCons (fOp dPow (fC (.int 10)) (fC (.int 20))) fNil))))))))) (fCall 2 F__law_take (fCons (fVar 0) (fCons (fC (.int 8)) fNil)))) fNil))))))
theorem d__law_number (B : Bi mg) (g__law_low : Df P w K mg base 1 "_law_low" 2 F__law_low) (g__law_take : Df P w K mg base 1 "_law_take" 2 F__law_take) {f : Addr} {fd : FuncData} (F : L2.Fun K "_law_number" "_law_number" s__law_number f fd) (hm : mg "_law_number" = some (.ref f)) (bi : Binds K fd ["pool"] []) : Df P w K mg base 2 "_law_number" 1 F__law_number := by
  refine df_ok F hm bi sc__law_number rfl rfl fun cdv A outer s H E hgd hr => ?_
  exact (ss_cons (s_set (i := 1) sc__law_number.nd rfl (.inl rfl) (v_lst (a_cons v_int (a_cons v_int (a_cons (v_un un_neg neg_p v_int) (a_cons v_int (a_cons v_int (a_cons (v_un un_neg neg_p v_int) (a_cons v_int (a_cons (v_op op_pow pow_p v_int v_int) (a_cons (v_op op_sub sub_p (v_un un_neg neg_p (v_op op_pow pow_p v_int v_int)) v_int) a_nil)))))))))))
  (ss_one (s_ret (v_callD g__law_low hr hgd (by rfl) (a_cons (v_ix ix_lt ix_p (v_var (pv 1)) (v_callD g__law_take hr hgd (by rfl) (a_cons (v_var (pv 0)) (a_cons v_int a_nil))) (fun _ _ => rfl)) (a_cons (v_ix ix_lt ix_p (v_lst (a_cons v_int (a_cons v_int (a_cons v_int (a_cons v_int (a_cons v_int (a_cons v_int (a_cons v_int (a_cons (v_op op_pow pow_p v_int v_int) a_nil))))))))) (v_callD g__law_take hr hgd (by rfl) (a_cons (v_var (pv 0)) (a_cons v_int a_nil))) (fun _ _ => rfl)) a_nil))))))
abbrev s__law_of_two : Stmt := topS 27
theorem sc__law_of_two : FnScope ["word", "entry", "other_here", "sign", "less"] ["word", "entry", "other_here"] (defScope s__law_of_two) := ⟨rfl, rfl, rfl, by decide +kernel, rfl, by decide +kernel, by decide +kernel⟩
def F__law_of_two : DF := fDef 3 5 ((fSeq (fIfS (tV (fOp (dIn false) (fVar 0) (fTup (fCons (fC (.str "plus")) (fCons (fC (.str "minus")) fNil)))))
  (fSeq (fSet 3 (fOp dIx (fLst (fCons (fUn dNeg (fC (.int 1))) (fCons (fC (.int 1)) fNil))) (fCa bInt (fCons (fOp dEqS (fVar 0) (fC (.str "plus"))) fNil))))
  (fRet (fCall 2 F__law_low (fCons (fOp dAdd (fOp dMul (fOp dIx (fVar 1) (fC (.int 0))) (fOp dIx (fVar 2) (fC (.int 1)))) (fOp dMul (fOp dMul (fVar 3) (fOp dIx (fVar 2) (fC (.int 0)))) (fOp dIx (fVar 1) (fC (.int 1))))) (fCons (fOp dMul (fOp dIx (fVar 1) (fC (.int 1))) (fOp dIx (fVar 2) (fC (.int 1)))) fNil)))))
  fPass)
  (fSeq (fIfS (tV (fOp dEqS (fVar 0) (fC (.str "times"))))
  (fRet (fCall 2 F__law_low (fCons (fOp dMul (fOp dIx (fVar 1) (fC (.int 0))) (fOp dIx (fVar 2) (fC (.int 0)))) (fCons (fOp dMul (fOp dIx (fVar 1) (fC (.int 1))) (fOp dIx (fVar 2) (fC (.int 1)))) fNil))))
  fPass)
  (fSeq (fIfS (tV (fOp dEqS (fVar 0) (fC (.str "over"))))
  (fSeq (fIfS (tV (fOp dEq (fOp dIx (fVar 2) (fC (.int 0))) (fC (.int 0))))
  (fRet (fC .non))
  fPass)
  (fRet (fCall 2 F__law_low (fCons (fOp dMul (fOp dIx (fVar 1) (fC (.int 0))) (fOp dIx (fVar 2) (fC (.int 1)))) (fCons (fOp dMul (fOp dIx (fVar 1) (fC (.int 1))) (fOp dIx (fVar 2) (fC (.int 0)))) fNil)))))
  fPass)
  (fSeq (fSet 4 (fOp dLt (fOp dMul (fOp dIx (fVar 1) (fC (.int 0))) (fOp dIx (fVar 2) (fC (.int 1)))) (fOp dMul (fOp dIx (fVar 2) (fC (.int 0))) (fOp dIx (fVar 1) (fC (.int 1))))))
  (fSeq (fIfS (tV (fOp dEqS (fVar 0) (fC (.str "less"))))
  (fRet (fVar 4))
  fPass)
  (fRet (fOp dIx (fLst (fCons (fVar 2) (fCons (fVar 1) fNil))) (fCa bInt (fCons (fOp dEq (fVar 4) (fOp dEqS (fVar 0) (fC (.str "least")))) fNil))))))))))
theorem d__law_of_two (B : Bi mg) (g__law_low : Df P w K mg base 1 "_law_low" 2 F__law_low) {f : Addr} {fd : FuncData} (F : L2.Fun K "_law_of_two" "_law_of_two" s__law_of_two f fd) (hm : mg "_law_of_two" = some (.ref f)) (bi : Binds K fd ["word", "entry", "other_here"] []) : Df P w K mg base 2 "_law_of_two" 3 F__law_of_two := by
  refine df_ok F hm bi sc__law_of_two rfl rfl fun cdv A outer s H E hgd hr => ?_
  exact (ss_cons (s_if (tv_cmp op_in_seq in_p (v_var (pv 0)) (v_tup (a_cons v_str (a_cons v_str a_nil))) rfl)
  (ss_cons (s_set (i := 3) sc__law_of_two.nd rfl (.inl rfl) (v_ix ix_lt ix_p (v_lst (a_cons (v_un un_neg neg_p v_int) (a_cons v_int a_nil))) (v_callTy call_int1 int_p (by rfl) B.int (by decide +kernel) (a_cons (v_cmp op_eq eqS_p (v_var (pv 0)) v_str (nomark _)) a_nil)) (fun _ _ => rfl)))
  (ss_one (s_ret (v_callD g__law_low hr hgd (by rfl) (a_cons (v_op op_addA add_p (v_op op_mulX mul_p (v_ix ix_lt ix_p (v_var (pv 1)) v_int (fun _ _ => rfl)) (v_ix ix_lt ix_p (v_var (pv 2)) v_int (fun _ _ => rfl))) (v_op op_mulX mul_p (v_op op_mulX mul_p (v_var (pv 3)) (v_ix ix_lt ix_p (v_var (pv 2)) v_int (fun _ _ => rfl))) (v_ix ix_lt ix_p (v_var (pv 1)) v_int (fun _ _ => rfl)))) (a_cons (v_op op_mulX mul_p (v_ix ix_lt ix_p (v_var (pv 1)) v_int (fun _ _ => rfl)) (v_ix ix_lt ix_p (v_var (pv 2)) v_int (fun _ _ => rfl))) a_nil))))))
  ss_nil)
  (ss_cons (s_if (tv_cmp op_eq eqS_p (v_var (pv 0)) v_str (nomark _))
  (ss_one (s_ret (v_callD g__law_low hr hgd (by rfl) (a_cons (v_op op_mulX mul_p (v_ix ix_lt ix_p (v_var (pv 1)) v_int (fun _ _ => rfl)) (v_ix ix_lt ix_p (v_var (pv 2)) v_int (fun _ _ => rfl))) (a_cons (v_op op_mulX mul_p (v_ix ix_lt ix_p (v_var (pv 1)) v_int (fun _ _ => rfl)) (v_ix ix_lt ix_p (v_var (pv 2)) v_int (fun _ _ => rfl))) a_nil)))))
  ss_nil)
  (ss_cons (s_if (tv_cmp op_eq eqS_p (v_var (pv 0)) v_str (nomark _))
  (ss_cons (s_if (tv_cmp (op_eqD hr.units) eq_p (v_ix ix_lt ix_p (v_var (pv 2)) v_int (fun _ _ => rfl)) v_int (nomark _))
  (ss_one (s_ret v_non))
  ss_nil)
  (ss_one (s_ret (v_callD g__law_low hr hgd (by rfl) (a_cons (v_op op_mulX mul_p (v_ix ix_lt ix_p (v_var (pv 1)) v_int (fun _ _ => rfl)) (v_ix ix_lt ix_p (v_var (pv 2)) v_int (fun _ _ => rfl))) (a_cons (v_op op_mulX mul_p (v_ix ix_lt ix_p (v_var (pv 1)) v_int (fun _ _ => rfl)) (v_ix ix_lt ix_p (v_var (pv 2)) v_int (fun _ _ => rfl))) a_nil))))))
  ss_nil)
  (ss_cons (s_set (i := 4) sc__law_of_two.nd rfl (.inl rfl) (v_cmp op_lt cmp_p (v_op op_mulX mul_p (v_ix ix_lt ix_p (v_var (pv 1)) v_int (fun _ _ => rfl)) (v_ix ix_lt ix_p (v_var (pv 2)) v_int (fun _ _ => rfl))) (v_op op_mulX mul_p (v_ix ix_lt ix_p (v_var (pv 2)) v_int (fun _ _ => rfl)) (v_ix ix_lt ix_p (v_var (pv 1)) v_int (fun _ _ => rfl))) (nomark _)))
  (ss_cons (s_if (tv_cmp op_eq eqS_p (v_var (pv 0)) v_str (nomark _))
  (ss_one (s_ret (v_var (pv 4))))
  ss_nil)
  (ss_one (s_ret (v_ix ix_lt ix_p (v_lst (a_cons (v_var (pv 2)) (a_cons (v_var (pv 1)) a_nil))) (v_callTy call_int1 int_p (by rfl) B.int (by decide +kernel) (a_cons (v_cmp (op_eqD hr.units) eq_p (v_var (pv 4)) (v_cmp op_eq eqS_p (v_var (pv 0)) v_str (nomark _)) (nomark _)) a_nil)) (fun _ _ => rfl)))))))))
abbrev s__law_is_number : Stmt := topS 28
theorem sc__law_is_number : FnScope ["item", "entry"] ["item"] (defScope s__law_is_number) := ⟨rfl, rfl, rfl, by decide +kernel, rfl, by decide +kernel, by decide +kernel⟩
def F__law_is_number : DF := fDef 1 2 ((fSeq (fIfS (tOr2 (tNot1 (tV (fCa bIsi (fCons (fVar 0) (fCons (fC (.ty "tuple")) fNil))))) (tV (fOp dNe (fCa bLen (fCons (fVar 0) fNil)) (fC (.int 2)))))
  (fRet (fC (.bl false)))
  fPass)
  (fSeq (fIfS (tV (fOp dNe (fLc (iTp (fVar 0)) (gNm 1) (tOr2 (tNot1 (tV (fCa bIsi (fCons (fVar 1) (fCons (fC (.ty "int")) fNil))))) (tV (fCa bIsi (fCons (fVar 1) (fCons (fC (.ty "bool")) fNil))))) (fVar 1) [1]) (fLst fNil)))
  (fRet (fC (.bl false)))
  fPass)
  (fRet (fAnd (fOp dGe (fOp dIx (fVar 0) (fC (.int 1))) (fC (.int 1))) (fOp dEq (fCall 2 F__law_low (fCons (fOp dIx (fVar 0) (fC (.int 0))) (fCons (fOp dIx (fVar 0) (fC (.int 1))) fNil))) (fVar 0)))))))
theorem d__law_is_number (B : Bi mg) (g__law_low : Df P w K mg base 1 "_law_low" 2 F__law_low) {f : Addr} {fd : FuncData} (F : L2.Fun K "_law_is_number" "_law_is_number" s__law_is_number f fd) (hm : mg "_law_is_number" = some (.ref f)) (bi : Binds K fd ["item"] []) : Df P w K mg base 2 "_law_is_number" 1 F__law_is_number := by
  refine df_ok F hm bi sc__law_is_number rfl rfl fun cdv A outer s H E hgd hr => ?_
  exact (ss_cons (s_if (PW.pt (tw_or (tv_not (tv_val (v_callB call_isi isi_p (by rfl) B.isinstance (by decide +kernel) (a_cons (v_var (pv 0)) (a_cons (v_ty (by rfl) B.tuple (by decide +kernel)) a_nil))))) (tw_or1 (tv_cmp (op_neD hr.units) ne_p (v_callB call_len_seq len_p (by rfl) B.len (by decide +kernel) (a_cons (v_var (pv 0)) a_nil)) v_int (nomark _)))))
  (ss_one (s_ret v_bl))
  ss_nil)
  (ss_cons (s_if (tv_cmp (op_neD hr.units) ne_p (v_lc (own := [("entry", 1)]) (t := L2.gName 1) rfl sc__law_is_number.nd (i_tup (v_var (pv 0))) (blkOk_by (N := ["item", "entry"]) (sc := defScope s__law_is_number) (by decide +kernel)) (fun _ _ _ _ _ => (pg_name (i := 1) sc__law_is_number.nd rfl (Or.inl rfl))) (own_name (by decide)) (fun _ _ _ _ _ => (pts1 (PW.pt (tw_or (tv_not (tv_val (v_callB call_isi isi_p (by rfl) B.isinstance (by decide +kernel) (a_cons (v_var (pv 1)) (a_cons (v_ty (by rfl) B.int (by decide +kernel)) a_nil))))) (tw_or1 (tv_val (v_callB call_isi isi_p (by rfl) B.isinstance (by decide +kernel) (a_cons (v_var (pv 1)) (a_cons (v_ty (by rfl) B.bool (by decide +kernel)) a_nil))))))))) (fun _ _ _ _ _ => (v_var (pv 1)))) (v_lst a_nil) (nomark _))
  (ss_one (s_ret v_bl))
  ss_nil)
  (ss_one (s_ret (v_and (v_cmp op_ge cmp_p (v_ix ix_lt ix_p (v_var (pv 0)) v_int (fun _ _ => rfl)) v_int (nomark _)) (v_one (v_cmp (op_eqD hr.units) eq_p (v_callD g__law_low hr hgd (by rfl) (a_cons (v_ix ix_lt ix_p (v_var (pv 0)) v_int (fun _ _ => rfl)) (a_cons (v_ix ix_lt ix_p (v_var (pv 0)) v_int (fun _ _ => rfl)) a_nil))) (v_var (pv 0)) (nomark _))))))))
abbrev s__law_looks_right : Stmt := topS 29
theorem sc__law_looks_right : FnScope ["item", "whole", "due", "found", "truth"] ["item"] (defScope s__law_looks_right) := ⟨rfl, rfl, rfl, by decide +kernel, rfl, by decide +kernel, by decide +kernel⟩
def F__law_looks_right : DF := fDef 1 5 ((fSeq (fSet 1 (fAnd (fCa bIsi (fCons (fVar 0) (fCons (fC (.ty "int")) fNil))) (fNot (fCa bIsi (fCons (fVar 0) (fCons (fC (.ty "bool")) fNil))))))
  (fSeq (fSet 2 (fLst (fCons (fVar 1) (fCons (fCall 1 F__law_is_number (fCons (fVar 0) fNil)) (fCons (fOr (fCall 1 F__law_is_number (fCons (fVar 0) fNil)) (fCa bIsi (fCons (fVar 0) (fCons (fC (.ty "bool")) fNil)))) fNil)))))
  (fSeq (fSet 3 (fLst (fCons (fCall 1 F_is_whole (fCons (fVar 0) fNil)) (fCons (fCall 1 F_is_number (fCons (fVar 0) fNil)) (fCons (fCall 1 F_is_worth (fCons (fVar 0) fNil)) fNil)))))
  (fSeq (fIfS (tOr2 (tV (fOp dNeS (fCa bRepr (fCons (fVar 3) fNil)) (fCa bRepr (fCons (fVar 2) fNil)))) (tV (fOp dNeS (fCa bRepr (fCons (fCallK 1 1 F_is_worth id (fCons (fVar 0) fNil)) fNil)) (fCa bRepr (fCons (fOp dIx (fVar 2) (fC (.int 2))) fNil)))))
  (fRet (fC (.bl false)))
  fPass)
  (fSeq (fIfS (tNot1 (tV (fOp dIx (fVar 2) (fC (.int 2)))))
  (fRet (fC (.bl true)))
  fPass)
  (fSeq (fSet 4 (fCa bIsi (fCons (fVar 0) (fCons (fC (.ty "bool")) fNil))))
  (fSeq (fIfS (tV (fOp dNeS (fCall 1 F_kind_of_worth (fCons (fVar 0) fNil)) (fOp dIx (fLst (fCons (fC (.str "number")) (fCons (fC (.str "truth")) fNil))) (fCa bInt (fCons (fVar 4) fNil)))))
  (fRet (fC (.bl false)))
  fPass)
  (fRet (fOp dEqS (fCa bRepr (fCons (fCall 1 F_is_whole_worth (fCons (fVar 0) fNil)) fNil)) (fCa bRepr (fCons (fAnd (fNot (fVar 4)) (fOp dEq (fOp dIx (fVar 0) (fC (.int 1))) (fC (.int 1)))) fNil))))))))))))
theorem d__law_looks_right (B : Bi mg) (g__law_is_number : Df P w K mg base 2 "_law_is_number" 1 F__law_is_number) (g_is_worth : Df P w K mg base 3 "is_worth" 1 F_is_worth) (g_is_number : Df P w K mg base 2 "is_number" 1 F_is_number) (g_is_whole : Df P w K mg base 1 "is_whole" 1 F_is_whole) (g_k_is_worth_thing : DfK P w K mg base L2.CX0 3 "is_worth" 1 F_is_worth ["thing"] id) (g_kind_of_worth : Df P w K mg base 1 "kind_of_worth" 1 F_kind_of_worth) (g_is_whole_worth : Df P w K mg base 1 "is_whole_worth" 1 F_is_whole_worth) {f : Addr} {fd : FuncData} (F : L2.Fun K "_law_looks_right" "_law_looks_right" s__law_looks_right f fd) (hm : mg "_law_looks_right" = some (.ref f)) (bi : Binds K fd ["item"] []) : Df P w K mg base 4 "_law_looks_right" 1 F__law_looks_right := by
  refine df_ok F hm bi sc__law_looks_right rfl rfl fun cdv A outer s H E hgd hr => ?_
  exact (ss_cons (s_set (i := 1) sc__law_looks_right.nd rfl (.inl rfl) (v_and (v_callB call_isi isi_p (by rfl) B.isinstance (by decide +kernel) (a_cons (v_var (pv 0)) (a_cons (v_ty (by rfl) B.int (by decide +kernel)) a_nil))) (v_one (v_not (v_callB call_isi isi_p (by rfl) B.isinstance (by decide +kernel) (a_cons (v_var (pv 0)) (a_cons (v_ty (by rfl) B.bool (by decide +kernel)) a_nil)))))))
  (ss_cons (s_set (i := 2) sc__law_looks_right.nd rfl (.inl rfl) (v_lst (a_cons (v_var (pv 1)) (a_cons (v_callD g__law_is_number (hr.mono (by decide)) hgd (by rfl) (a_cons (v_var (pv 0)) a_nil)) (a_cons (v_or (v_callD g__law_is_number (hr.mono (by decide)) hgd (by rfl) (a_cons (v_var (pv 0)) a_nil)) (v_one (v_callB call_isi isi_p (by rfl) B.isinstance (by decide +kernel) (a_cons (v_var (pv 0)) (a_cons (v_ty (by rfl) B.bool (by decide +kernel)) a_nil))))) a_nil)))))
  (ss_cons (s_set (i := 3) sc__law_looks_right.nd rfl (.inl rfl) (v_lst (a_cons (v_callD g_is_whole (hr.mono (by decide)) hgd (by rfl) (a_cons (v_var (pv 0)) a_nil)) (a_cons (v_callD g_is_number (hr.mono (by decide)) hgd (by rfl) (a_cons (v_var (pv 0)) a_nil)) (a_cons (v_callD g_is_worth hr hgd (by rfl) (a_cons (v_var (pv 0)) a_nil)) a_nil)))))
  (ss_cons (s_if (PW.pt (tw_or (tv_cmp op_ne neS_p (v_callB (call_repr hgd hr.u100) repr_p (by rfl) B.repr (by decide +kernel) (a_cons (v_var (pv 3)) a_nil)) (v_callB (call_repr hgd hr.u100) repr_p (by rfl) B.repr (by decide +kernel) (a_cons (v_var (pv 2)) a_nil)) (nomark _)) (tw_or1 (tv_cmp op_ne neS_p (v_callB (call_repr hgd hr.u100) repr_p (by rfl) B.repr (by decide +kernel) (a_cons (v_callK g_k_is_worth_thing hr hgd (by rfl) pass0 (k_cons (v_var (pv 0)) k_nil) rfl) a_nil)) (v_callB (call_repr hgd hr.u100) repr_p (by rfl) B.repr (by decide +kernel) (a_cons (v_ix ix_lt ix_p (v_var (pv 2)) v_int (fun _ _ => rfl)) a_nil)) (nomark _)))))
  (ss_one (s_ret v_bl))
  ss_nil)
  (ss_cons (s_if (tv_not (tv_val (v_ix ix_lt ix_p (v_var (pv 2)) v_int (fun _ _ => rfl))))
  (ss_one (s_ret v_bl))
  ss_nil)
  (ss_cons (s_set (i := 4) sc__law_looks_right.nd rfl (.inl rfl) (v_callB call_isi isi_p (by rfl) B.isinstance (by decide +kernel) (a_cons (v_var (pv 0)) (a_cons (v_ty (by rfl) B.bool (by decide +kernel)) a_nil))))
  (ss_cons (s_if (tv_cmp op_ne neS_p (v_callD g_kind_of_worth (hr.mono (by decide)) hgd (by rfl) (a_cons (v_var (pv 0)) a_nil)) (v_ix ix_lt ix_p (v_lst (a_cons v_str (a_cons v_str a_nil))) (v_callTy call_int1 int_p (by rfl) B.int (by decide +kernel) (a_cons (v_var (pv 4)) a_nil)) (fun _ _ => rfl)) (nomark _))
  (ss_one (s_ret v_bl))
  ss_nil)
  (ss_one (s_ret (v_cmp op_eq eqS_p (v_callB (call_repr hgd hr.u100) repr_p (by rfl) B.repr (by decide +kernel) (a_cons (v_callD g_is_whole_worth (hr.mono (by decide)) hgd (by rfl) (a_cons (v_var (pv 0)) a_nil)) a_nil)) (v_callB (call_repr hgd hr.u100) repr_p (by rfl) B.repr (by decide +kernel) (a_cons (v_and (v_not (v_var (pv 4))) (v_one (v_cmp (op_eqD hr.units) eq_p (v_ix ix_lt ix_p (v_var (pv 0)) v_int (fun _ _ => rfl)) v_int (nomark _)))) a_nil)) (nomark _)))))))))))
abbrev s__law_refused : Stmt := topS 30
theorem sc__law_refused : FnScope ["top_here", "bottom_here", "e"] ["top_here", "bottom_here"] (defScope s__law_refused) := ⟨rfl, rfl, rfl, by decide +kernel, rfl, by decide +kernel, by decide +kernel⟩
def F__law_refused (CF : Addr) : DF := fDef 2 3 (fSeq (fTryR 2 (fCall 2 (F_number CF) (fCons (fVar 0) (fCons (fVar 1) fNil))) CF true) (fRet (fC (.bl false))))
theorem d__law_refused (B : Bi mg) (T : Cs K mg CF CC CT) (g_p2_number : DfG P w K mg base (L2.CX P w) 3 "number" 2 (F_number CF) []) {f : Addr} {fd : FuncData} (F : L2.Fun K "_law_refused" "_law_refused" s__law_refused f fd) (hm : mg "_law_refused" = some (.ref f)) (bi : Binds K fd ["top_here", "bottom_here"] []) : Df P w K mg base 4 "_law_refused" 2 (F__law_refused CF) := by
  refine df_ok F hm bi sc__law_refused rfl rfl fun cdv A outer s H E hgd hr => ?_
  refine ss_cons (s_tryRet (i := 2) (C := CF) (v := true) rfl rfl sc__law_refused.nd rfl rfl ⟨by exact rfl, by decide, .inl T.gF⟩ takes0 T.eF (fun W pn xe tk => v_callT g_p2_number hr hgd (by rfl) tk fun E => a_cons (v_var (pv 0)) (a_cons (v_var (pv 1)) a_nil)) (fun _ _ => rfl) fun a oe pn hz hd => ?_) (ss_one (s_ret v_bl))
  refine PSs.imp (pss_one (ps_ret (pe_and (pe_callB (call_isE T.ec hz hd) (by exact rfl) B.isinstance (by decide +kernel) (pa_cons (pe_var (i := 2) rfl (.inl rfl)) (pa_cons (pe_glob (v := .ref CC) (by exact rfl) T.gC rfl) pa_nil)))
    (pe_one (pe_not (pe_callB (call_isE T.ec hz hd) (by exact rfl) B.isinstance (by decide +kernel) (pa_cons (pe_var (i := 2) rfl (.inl rfl)) (pa_cons (pe_glob (v := .ref CT) (by exact rfl) T.gT rfl) pa_nil)))))))) fun D σ H h => ?_
  obtain ⟨h1, h2⟩ := h
  exact ⟨V.ref a, h1, .ref CC, .ref CC, true, rfl, (fun u hu => hu), T.iC, true, rfl, V.ref a, h1, .ref CT, .ref CT, false, rfl, (fun u hu => hu), T.iT, false, rfl, h2⟩
abbrev s__law_reckoned : Stmt := topS 31
theorem sc__law_reckoned : FnScope ["entry", "other_here", "found", "words", "word"] ["entry", "other_here"] (defScope s__law_reckoned) := ⟨rfl, rfl, rfl, by decide +kernel, rfl, by decide +kernel, by decide +kernel⟩
def F__law_reckoned : DF := fDef 2 5 ((fSeq (fSet 2 (fLst (fCons (fCall 2 F_plus (fCons (fVar 0) (fCons (fVar 1) fNil))) (fCons (fCall 2 F_minus (fCons (fVar 0) (fCons (fVar 1) fNil))) (fCons (fCall 2 F_times (fCons (fVar 0) (fCons (fVar 1) fNil))) (fCons (fCall 2 F_over (fCons (fVar 0) (fCons (fVar 1) fNil))) fNil))))))
  (fSeq (fSet 2 (fOp dAdd (fVar 2) (fLst (fCons (fCall 2 F_least (fCons (fVar 0) (fCons (fVar 1) fNil))) (fCons (fCall 2 F_most (fCons (fVar 0) (fCons (fVar 1) fNil))) (fCons (fCall 2 F_is_less (fCons (fVar 0) (fCons (fVar 1) fNil))) fNil))))))
  (fSeq (fSet 3 (fLst (fCons (fC (.str "plus")) (fCons (fC (.str "minus")) (fCons (fC (.str "times")) (fCons (fC (.str "over")) (fCons (fC (.str "least")) (fCons (fC (.str "most")) (fCons (fC (.str "less")) fNil)))))))))
  (fSeq (fIfS (tV (fOp dNeS (fCa bRepr (fCons (fVar 2) fNil)) (fCa bRepr (fCons (fLc (iLst (fVar 3)) (gNm 4) tYes1 (fCall 3 F__law_of_two (fCons (fVar 4) (fCons (fVar 0) (fCons (fVar 1) fNil)))) [4]) fNil))))
  (fRet (fC (.bl false)))
  fPass)
  (fRet (fAnd (fOp dEq (fCallK 2 2 F_plus swap2 (fCons (fVar 1) (fCons (fVar 0) fNil))) (fOp dIx (fVar 2) (fC (.int 0)))) (fOp dEq (fCallK 2 2 F_over swap2 (fCons (fVar 0) (fCons (fVar 1) fNil))) (fCall 3 F__law_of_two (fCons (fC (.str "over")) (fCons (fVar 1) (fCons (fVar 0) fNil))))))))))))
theorem d__law_reckoned (B : Bi mg) (g_over : Df P w K mg base 3 "over" 2 F_over) (g_times : Df P w K mg base 3 "times" 2 F_times) (g_minus : Df P w K mg base 3 "minus" 2 F_minus) (g_plus : Df P w K mg base 3 "plus" 2 F_plus) (g_is_less : Df P w K mg base 1 "is_less" 2 F_is_less) (g_most : Df P w K mg base 2 "most" 2 F_most) (g_least : Df P w K mg base 2 "least" 2 F_least) (g__law_of_two : Df P w K mg base 2 "_law_of_two" 3 F__law_of_two) (g_k_plus_other_one : DfK P w K mg base L2.CX0 3 "plus" 2 F_plus ["other", "one"] swap2) (g_k_over_other_one : DfK P w K mg base L2.CX0 3 "over" 2 F_over ["other", "one"] swap2) {f : Addr} {fd : FuncData} (F : L2.Fun K "_law_reckoned" "_law_reckoned" s__law_reckoned f fd) (hm : mg "_law_reckoned" = some (.ref f)) (bi : Binds K fd ["entry", "other_here"] []) : Df P w K mg base 4 "_law_reckoned" 2 F__law_reckoned := by
  refine df_ok F hm bi sc__law_reckoned rfl rfl fun cdv A outer s H E hgd hr => ?_
  exact (ss_cons (s_set (i := 2) sc__law_reckoned.nd rfl (.inl rfl) (v_lst (a_cons (v_callD g_plus hr hgd (by rfl) (a_cons (v_var (pv 0)) (a_cons (v_var (pv 1)) a_nil))) (a_cons (v_callD g_minus hr hgd (by rfl) (a_cons (v_var (pv 0)) (a_cons (v_var (pv 1)) a_nil))) (a_cons (v_callD g_times hr hgd (by rfl) (a_cons (v_var (pv 0)) (a_cons (v_var (pv 1)) a_nil))) (a_cons (v_callD g_over hr hgd (by rfl) (a_cons (v_var (pv 0)) (a_cons (v_var (pv 1)) a_nil))) a_nil))))))
  (ss_cons (s_set (i := 2) sc__law_reckoned.nd rfl (.inl rfl) (v_op op_addA add_p (v_var (pv 2)) (v_lst (a_cons (v_callD g_least (hr.mono (by decide)) hgd (by rfl) (a_cons (v_var (pv 0)) (a_cons (v_var (pv 1)) a_nil))) (a_cons (v_callD g_most (hr.mono (by decide)) hgd (by rfl) (a_cons (v_var (pv 0)) (a_cons (v_var (pv 1)) a_nil))) (a_cons (v_callD g_is_less (hr.mono (by decide)) hgd (by rfl) (a_cons (v_var (pv 0)) (a_cons (v_var (pv 1)) a_nil))) a_nil))))))
  (ss_cons (s_set (i := 3) sc__law_reckoned.nd rfl (.inl rfl) (v_lst (a_cons v_str (a_cons v_str (a_cons v_str (a_cons v_str (a_cons v_str (a_cons v_str (a_cons v_str a_nil)))))))))
  (ss_cons (s_if (tv_cmp op_ne neS_p (v_callB (call_repr hgd hr.u100) repr_p (by rfl) B.repr (by decide +kernel) (a_cons (v_var (pv 2)) a_nil)) (v_callB (call_repr hgd hr.u100) repr_p (by rfl) B.repr (by decide +kernel) (a_cons (v_lc (own := [("word", 4)]) (t := L2.gName 4) rfl sc__law_reckoned.nd (i_list (v_var (pv 3))) (blkOk_by (N := ["entry", "other_here", "found", "words", "word"]) (sc := defScope s__law_reckoned) (by decide +kernel)) (fun _ _ _ _ _ => (pg_name (i := 4) sc__law_reckoned.nd rfl (Or.inl rfl))) (own_name (by decide)) (fun _ _ _ _ _ => pts0) (fun _ _ _ _ _ => (v_callD g__law_of_two (hr.mono (by decide)) hgd (by rfl) (a_cons (v_var (pv 4)) (a_cons (v_var (pv 0)) (a_cons (v_var (pv 1)) a_nil)))))) a_nil)) (nomark _))
  (ss_one (s_ret v_bl))
  ss_nil)
  (ss_one (s_ret (v_and (v_cmp (op_eqD hr.units) eq_p (v_callK g_k_plus_other_one hr hgd (by rfl) pass0 (k_cons (v_var (pv 1)) (k_cons (v_var (pv 0)) k_nil)) rfl) (v_ix ix_lt ix_p (v_var (pv 2)) v_int (fun _ _ => rfl)) (nomark _)) (v_one (v_cmp (op_eqD hr.units) eq_p (v_callK g_k_over_other_one hr hgd (by rfl) pass0 (k_cons (v_var (pv 0)) (k_cons (v_var (pv 1)) k_nil)) rfl) (v_callD g__law_of_two (hr.mono (by decide)) hgd (by rfl) (a_cons v_str (a_cons (v_var (pv 1)) (a_cons (v_var (pv 0)) a_nil)))) (nomark _))))))))))
abbrev s_law : Stmt := topS 32
theorem sc_law : FnScope ["script", "k", "pool", "entry", "other_here", "top_here", "bottom_here", "some", "item", "odd"] ["script"] (defScope s_law) := ⟨rfl, rfl, rfl, by decide +kernel, rfl, by decide +kernel, by decide +kernel⟩
def F_law (CF : Addr) : DF := fDef 1 10 ((fSeq (fIfS (tV (fOp dNe (fCallD 2 (F_number CF) (fCons (fOp dMul (fC (.int 6)) (fOp dPow (fC (.int 10)) (fC (.int 40)))) (fCons (fOp dMul (fUn dNeg (fC (.int 4))) (fOp dPow (fC (.int 10)) (fC (.int 40)))) fNil)) []) (fTup (fCons (fUn dNeg (fC (.int 3))) (fCons (fC (.int 2)) fNil)))))
  (fRet (fC (.bl false)))
  fPass)
  (fSeq (fFor (iRg1 (fCons (fCa bMax2 (fCons (fC (.int 1)) (fCons (fCa bMin2 (fCons (fCa bLen (fCons (fVar 0) fNil)) (fCons (fC (.int 30)) fNil))) fNil))) fNil)) (gNm 1)
  (fSeq (fSet 2 (fCall 2 F__law_pool (fCons (fVar 0) (fCons (fVar 1) fNil))))
  (fSeq (fPar 3 4 (fCons (fCall 1 F__law_number (fCons (fVar 2) fNil)) (fCons (fCall 1 F__law_number (fCons (fVar 2) fNil)) fNil)))
  (fSeq (fPar 5 6 (fCons (fOp dSub (fCall 2 F__law_take (fCons (fVar 2) (fCons (fC (.int 41)) fNil))) (fC (.int 20))) (fCons (fOp dSub (fCall 2 F__law_take (fCons (fVar 2) (fCons (fC (.int 41)) fNil))) (fC (.int 20))) fNil)))
  (fSeq (fSet 7 (fLst (fCons (fVar 3) (fCons (fVar 4) (fCons (fVar 5) (fCons (fTup (fCons (fVar 5) (fCons (fVar 6) fNil))) (fCons (fTup (fCons (fVar 5) fNil)) (fCons (fTup (fCons (fC (.bl true)) (fCons (fC (.int 1)) fNil))) (fCons (fTup (fCons (fC (.int 1)) (fCons (fC (.bl true)) fNil))) fNil)))))))))
  (fSeq (fFor (iLst (fOp dAdd (fVar 7) (fLst (fCons (fC (.bl true)) (fCons (fC (.bl false)) (fCons (fC .non) (fCons (fLst (fCons (fC (.int 1)) (fCons (fC (.int 1)) fNil))) (fCons (fC (.str "1")) (fCons (fTup fNil) fNil))))))))) (gNm 8)
  (fIfS (tNot1 (tV (fCall 1 F__law_looks_right (fCons (fVar 8) fNil))))
  (fRet (fC (.bl false)))
  fPass))
  (fSeq (fIfS (tOr2 (tNot1 (tV (fCall 2 F__law_reckoned (fCons (fVar 3) (fCons (fVar 4) fNil))))) (tNot1 (tV (fCall 2 F__law_reckoned (fCons (fVar 3) (fCons (fVar 3) fNil))))))
  (fRet (fC (.bl false)))
  fPass)
  (fSeq (fIfS (tAnd2 (tV (fOp dNe (fVar 6) (fC (.int 0)))) (tV (fOp dNe (fCallD 2 (F_number CF) (fCons (fVar 5) (fCons (fVar 6) fNil)) []) (fCall 2 F__law_low (fCons (fVar 5) (fCons (fVar 6) fNil))))))
  (fRet (fC (.bl false)))
  fPass)
  (fSeq (fIfS (tV (fOp dNe (fCallK 2 2 (F_number CF) swap2 (fCons (fC (.int 3)) (fCons (fVar 5) fNil))) (fCall 2 F__law_low (fCons (fVar 5) (fCons (fC (.int 3)) fNil)))))
  (fRet (fC (.bl false)))
  fPass)
  (fSeq (fSet 9 (fLst (fCons (fC .non) (fCons (fC (.bl true)) (fCons (fC (.str "1")) (fCons (fOp dAdd (fC (.int 1)) (fVar 1)) (fCons (fTup (fCons (fC (.int 1)) (fCons (fC (.int 1)) fNil))) (fCons (fLst (fCons (fC (.int 1)) fNil)) fNil))))))))
  (fSeq (fFor (iLst (fOp dAdd (fSlL (fVar 9) oNo (oSome (fC (.int 3)))) (fSlL (fVar 9) (oSome (fC (.int 4))) oNo))) (gNm 8)
  (fIfS (tOr2 (tNot1 (tV (fCall 2 (F__law_refused CF) (fCons (fVar 8) (fCons (fC (.int 1)) fNil))))) (tNot1 (tV (fCall 2 (F__law_refused CF) (fCons (fC (.int 1)) (fCons (fVar 8) fNil))))))
  (fRet (fC (.bl false)))
  fPass))
  (fIfS (tOr2 (tNot1 (tV (fCall 2 (F__law_refused CF) (fCons (fVar 5) (fCons (fC (.int 0)) fNil))))) (tOr2 (tV (fOp dNe (fCallD 2 (F_number CF) (fCons (fVar 5) fNil) [.int 1]) (fTup (fCons (fVar 5) (fCons (fC (.int 1)) fNil))))) (tV (fOp dNotN (fCall 2 F_over (fCons (fVar 3) (fCons (fTup (fCons (fC (.int 0)) (fCons (fC (.int 1)) fNil))) fNil))) (fC .non)))))
  (fRet (fC (.bl false)))
  fPass))))))))))))
  (fRet (fC (.bl true))))))
theorem ok_law (B : Bi mg) (g_p2_number : DfG P w K mg base (L2.CX P w) 3 "number" 2 (F_number CF) []) (g__law_pool : Df P w K mg base 1 "_law_pool" 2 F__law_pool) (g__law_number : Df P w K mg base 2 "_law_number" 1 F__law_number) (g__law_take : Df P w K mg base 1 "_law_take" 2 F__law_take) (g__law_looks_right : Df P w K mg base 4 "_law_looks_right" 1 F__law_looks_right) (g__law_reckoned : Df P w K mg base 4 "_law_reckoned" 2 F__law_reckoned) (g__law_low : Df P w K mg base 1 "_law_low" 2 F__law_low) (g_k_number_bottom_top : DfK P w K mg base (L2.CX P w) 3 "number" 2 (F_number CF) ["bottom", "top"] swap2) (g__law_refused : Df P w K mg base 4 "_law_refused" 2 (F__law_refused CF)) (g_p1_number : DfG P w K mg base (L2.CX P w) 3 "number" 2 (F_number CF) [V.int 1]) (g_over : Df P w K mg base 3 "over" 2 F_over) {f : Addr} {fd : FuncData} (F : L2.Fun K "law" "law" s_law f fd) : GnOk P w K mg base CX0 5 f fd ["script"] (spF K 1 (F_law CF)) := by
  refine gn_ok F sc_law fun cdv A outer s H E hgd hr => ?_
  exact (ss_cons (s_if (tv_cmp (op_neD hr.units) ne_p (v_callG g_p2_number (hr.mono (by decide)) hgd (by rfl) passL (by decide) (a_cons (v_op op_mulX mul_p v_int (v_op op_pow pow_p v_int v_int)) (a_cons (v_op op_mulX mul_p (v_un un_neg neg_p v_int) (v_op op_pow pow_p v_int v_int)) a_nil)) [] rfl) (v_tup (a_cons (v_un un_neg neg_p v_int) (a_cons v_int a_nil))) (nomark _))
  (ss_one (s_ret v_bl))
  ss_nil)
  (ss_cons (s_for PassesOwn.never rfl (i_rng1 (by rfl) B.range (a_cons (v_callB (call_max2 rfl) max2_p (by rfl) B.max (by decide +kernel) (a_cons v_int (a_cons (v_callB (call_min2 rfl) min2_p (by rfl) B.min (by decide +kernel) (a_cons (v_callB call_len_seq len_p (by rfl) B.len (by decide +kernel) (a_cons (v_var (pv 0)) a_nil)) (a_cons v_int a_nil))) a_nil))) a_nil)) (g_name (i := 1) sc_law.nd rfl (.inl rfl))
  (ss_cons (s_set (i := 2) sc_law.nd rfl (.inl rfl) (v_callD g__law_pool (hr.mono (by decide)) hgd (by rfl) (a_cons (v_var (pv 0)) (a_cons (v_var (pv 1)) a_nil))))
  (ss_cons (s_parR (i := 3) (j := 4) rfl sc_law.nd rfl rfl (by decide) rfl rfl (a_cons (v_callD g__law_number (hr.mono (by decide)) hgd (by rfl) (a_cons (v_var (pv 2)) a_nil)) (a_cons (v_callD g__law_number (hr.mono (by decide)) hgd (by rfl) (a_cons (v_var (pv 2)) a_nil)) a_nil)) (by rfl))
  (ss_cons (s_parR (i := 5) (j := 6) rfl sc_law.nd rfl rfl (by decide) rfl rfl (a_cons (v_op op_sub sub_p (v_callD g__law_take (hr.mono (by decide)) hgd (by rfl) (a_cons (v_var (pv 2)) (a_cons v_int a_nil))) v_int) (a_cons (v_op op_sub sub_p (v_callD g__law_take (hr.mono (by decide)) hgd (by rfl) (a_cons (v_var (pv 2)) (a_cons v_int a_nil))) v_int) a_nil)) (by rfl))
  (ss_cons (s_set (i := 7) sc_law.nd rfl (.inl rfl) (v_lst (a_cons (v_var (pv 3)) (a_cons (v_var (pv 4)) (a_cons (v_var (pv 5)) (a_cons (v_tup (a_cons (v_var (pv 5)) (a_cons (v_var (pv 6)) a_nil))) (a_cons (v_tup (a_cons (v_var (pv 5)) a_nil)) (a_cons (v_tup (a_cons v_bl (a_cons v_int a_nil))) (a_cons (v_tup (a_cons v_int (a_cons v_bl a_nil))) a_nil)))))))))
  (ss_cons (s_for PassesOwn.never rfl (i_list (v_op op_addA add_p (v_var (pv 7)) (v_lst (a_cons v_bl (a_cons v_bl (a_cons v_non (a_cons (v_lst (a_cons v_int (a_cons v_int a_nil))) (a_cons v_str (a_cons (v_tup a_nil) a_nil))))))))) (g_name (i := 8) sc_law.nd rfl (.inl rfl))
  (ss_one (s_if (tv_not (tv_val (v_callD g__law_looks_right hr hgd (by rfl) (a_cons (v_var (pv 8)) a_nil))))
  (ss_one (s_ret v_bl))
  ss_nil)))
  (ss_cons (s_if (PW.pt (tw_or (tv_not (tv_val (v_callD g__law_reckoned hr hgd (by rfl) (a_cons (v_var (pv 3)) (a_cons (v_var (pv 4)) a_nil))))) (tw_or1 (tv_not (tv_val (v_callD g__law_reckoned hr hgd (by rfl) (a_cons (v_var (pv 3)) (a_cons (v_var (pv 3)) a_nil))))))))
  (ss_one (s_ret v_bl))
  ss_nil)
  (ss_cons (s_if (PW.pt (tw_and (tv_cmp (op_neD hr.units) ne_p (v_var (pv 6)) v_int (nomark _)) (tw_and1 (tv_cmp (op_neD hr.units) ne_p (v_callG g_p2_number (hr.mono (by decide)) hgd (by rfl) passL (by decide) (a_cons (v_var (pv 5)) (a_cons (v_var (pv 6)) a_nil)) [] rfl) (v_callD g__law_low (hr.mono (by decide)) hgd (by rfl) (a_cons (v_var (pv 5)) (a_cons (v_var (pv 6)) a_nil))) (nomark _)))))
  (ss_one (s_ret v_bl))
  ss_nil)
  (ss_cons (s_if (tv_cmp (op_neD hr.units) ne_p (v_callK g_k_number_bottom_top (hr.mono (by decide)) hgd (by rfl) passL (k_cons v_int (k_cons (v_var (pv 5)) k_nil)) rfl) (v_callD g__law_low (hr.mono (by decide)) hgd (by rfl) (a_cons (v_var (pv 5)) (a_cons v_int a_nil))) (nomark _))
  (ss_one (s_ret v_bl))
  ss_nil)
  (ss_cons (s_set (i := 9) sc_law.nd rfl (.inl rfl) (v_lst (a_cons v_non (a_cons v_bl (a_cons v_str (a_cons (v_op op_addA add_p v_int (v_var (pv 1))) (a_cons (v_tup (a_cons v_int (a_cons v_int a_nil))) (a_cons (v_lst (a_cons v_int a_nil)) a_nil))))))))
  (ss_cons (s_for PassesOwn.never rfl (i_list (v_op op_addA add_p (v_slL (v_var (pv 9)) o_none (o_some v_int)) (v_slL (v_var (pv 9)) (o_some v_int) o_none))) (g_name (i := 8) sc_law.nd rfl (.inl rfl))
  (ss_one (s_if (PW.pt (tw_or (tv_not (tv_val (v_callD g__law_refused hr hgd (by rfl) (a_cons (v_var (pv 8)) (a_cons v_int a_nil))))) (tw_or1 (tv_not (tv_val (v_callD g__law_refused hr hgd (by rfl) (a_cons v_int (a_cons (v_var (pv 8)) a_nil))))))))
  (ss_one (s_ret v_bl))
  ss_nil)))
  (ss_one (s_if (PW.pt (tw_or (tv_not (tv_val (v_callD g__law_refused hr hgd (by rfl) (a_cons (v_var (pv 5)) (a_cons v_int a_nil))))) (tw_or (tv_cmp (op_neD hr.units) ne_p (v_callG g_p1_number (hr.mono (by decide)) hgd (by rfl) passL (by decide) (a_cons (v_var (pv 5)) a_nil) [.int 1] rfl) (v_tup (a_cons (v_var (pv 5)) (a_cons v_int a_nil))) (nomark _)) (tw_or1 (tv_cmp op_notN notN_p (v_callD g_over (hr.mono (by decide)) hgd (by rfl) (a_cons (v_var (pv 3)) (a_cons (v_tup (a_cons v_int (a_cons v_int a_nil))) a_nil))) v_non (nomark _))))))
  (ss_one (s_ret v_bl))
  ss_nil)))))))))))))
  (ss_one (s_ret v_bl))))
end
end L_k01
namespace L_k01
open PySem PySem.Spec PyProof.Rows L2 Fx
noncomputable section
/-! ### the numbers' defs, worked out -/
theorem gcd_eq (a b : Int) (st : Sto) : F_divisor_of [.int a, .int b] st = some (.ok (.int (Int.gcd a b : Nat)) st) := by
  obtain ⟨c, h1, h2⟩ := gcd_loop a b (b.natAbs + 1) st (by omega)
  unfold F_divisor_of
  rw [ap_def]
  simp [fuelGcd, h1, bAbs, ← h2]
  omega
theorem lowest_eq (t b : Int) (st : Sto) (hb : b ≠ 0) (hl : b.natAbs.log2 < 8500) : F_lowest [.int t, .int b] st = some (.ok (rD (Rat.divInt t b)) st) := by
  obtain ⟨g1, g2⟩ := gcd_ok (t := t) hb hl
  unfold F_lowest
  rw [ap_def]
  by_cases h : 0 < b
  · obtain ⟨e1, e2⟩ := low_pos t b h
    simp [gcd_eq, dCmp, h, dDiv_ok g1 g2, e1, e2, rD]
  · obtain ⟨e1, e2⟩ := low_neg t b (by omega)
    have g3 : -((Int.gcd t b : Nat) : Int) ≠ 0 := by omega
    have g4 : (-((Int.gcd t b : Nat) : Int)).natAbs.log2 < 9000 := by rw [Int.natAbs_neg]; exact g2
    simp [gcd_eq, dCmp, h, dDiv_ok g3 g4, dNeg, e1, e2, rD]
theorem plus_eq (p q : Rat) (st : Sto) (hp : Rs p) (hq : Rs q) : F_plus [rD p, rD q] st = some (.ok (rD (p + q)) st) := by
  unfold F_plus
  rw [ap_def]
  simp [ix_rD0, ix_rD1, dMul_ok hp.sz.1 hq.sz.2, dMul_ok hq.sz.1 hp.sz.2, dMul_ok hp.sz.2 hq.sz.2, dAdd, lowest_eq _ _ _ (den_mul_ne p q) (hp.dd hq), add_eq]
theorem minus_eq (p q : Rat) (st : Sto) (hp : Rs p) (hq : Rs q) : F_minus [rD p, rD q] st = some (.ok (rD (p - q)) st) := by
  unfold F_minus
  rw [ap_def]
  simp [ix_rD0, ix_rD1, dMul_ok hp.sz.1 hq.sz.2, dMul_ok hq.sz.1 hp.sz.2, dMul_ok hp.sz.2 hq.sz.2, dSub, lowest_eq _ _ _ (den_mul_ne p q) (hp.dd hq), sub_eq]
theorem times_eq (p q : Rat) (st : Sto) (hp : Rs p) (hq : Rs q) : F_times [rD p, rD q] st = some (.ok (rD (p * q)) st) := by
  unfold F_times
  rw [ap_def]
  simp [ix_rD0, ix_rD1, dMul_ok hp.sz.1 hq.sz.1, dMul_ok hp.sz.2 hq.sz.2, lowest_eq _ _ _ (den_mul_ne p q) (hp.dd hq), mul_eq]
theorem over_eq (p q : Rat) (st : Sto) (hp : Rs p) (hq : Rs q) : F_over [rD p, rD q] st = some (.ok (if q = 0 then .non else rD (p / q)) st) := by
  unfold F_over
  rw [ap_def]
  by_cases h : q = 0
  · subst h
    simp [ix_rD0, ix_rD1]
  · have hn : q.num ≠ 0 := fun e => h (Rat.num_eq_zero.mp e)
    have h1 : (p.den : Int) * q.num ≠ 0 := Int.mul_ne_zero (by have := rat_den_pos p; omega) hn
    simp [ix_rD0, ix_rD1, dMul_ok hp.sz.1 hq.sz.2, dMul_ok hp.sz.2 hq.sz.1, lowest_eq _ _ _ h1 (hp.dn hq), div_eq, h]
theorem less_eq (p q : Rat) (st : Sto) (hp : Rs p) (hq : Rs q) : F_is_less [rD p, rD q] st = some (.ok (.bl (decide (p < q))) st) := by
  unfold F_is_less
  rw [ap_def]
  simp [ix_rD0, ix_rD1, dMul_ok hp.sz.1 hq.sz.2, dMul_ok hq.sz.1 hp.sz.2, dCmp, Rat.lt_iff]
theorem least_eq (p q : Rat) (st : Sto) (hp : Rs p) (hq : Rs q) : F_least [rD p, rD q] st = some (.ok (rD (if q < p then q else p)) st) := by
  unfold F_least
  rw [ap_def]
  by_cases h : q < p <;> simp [less_eq _ _ _ hq hp, h]
theorem most_eq (p q : Rat) (st : Sto) (hp : Rs p) (hq : Rs q) : F_most [rD p, rD q] st = some (.ok (rD (if p < q then q else p)) st) := by
  unfold F_most
  rw [ap_def]
  by_cases h : p < q <;> simp [less_eq _ _ _ hp hq, h]
/-! ### draws -/
/-- a pool's cell -/
def Pl (c : Cell) : Prop := ∃ a b : Int, c = .lst [.int a, .int b] ∧ 0 ≤ a ∧ 0 ≤ b ∧ b < 2147483647
theorem sz_small {i : Int} (h : i.natAbs < 2 ^ 200) : Sz i := Sz.of h (by decide) (by decide)
theorem sz_b {i : Int} (h0 : 0 ≤ i) (h : i < 2 ^ 100) : Sz i := sz_small (by
  have : (2 : Nat) ^ 100 < 2 ^ 200 := by decide
  omega)
theorem take_eq (n : Nat) (m : Int) (st : Sto) (c : Cell) (hm : 0 < m) (hm2 : m < 1000) (hc : st[n]? = some c) (hp : Pl c) :
    ∃ (v : Int) (c2 : Cell), 0 ≤ v ∧ v < m ∧ Pl c2 ∧ F__law_take [.ref n, .int m] st = some (.ok (.int v) (st.set n c2)) := by
  obtain ⟨a, b, rfl, ha, hb, hb2⟩ := hp
  have hs : ∀ c, (st.set n c)[n]? = some c := fun c => List.getElem?_set_self (List.getElem?_eq_some_iff.mp hc).1
  have hm0 : m ≠ 0 := by omega
  have hml : m.natAbs.log2 < 9000 := Nat.lt_of_lt_of_le (log2_lt (n := 10) (by omega) (by decide)) (by decide)
  by_cases h : 0 < a
  · refine ⟨a.fmod m, .lst [.int (a.fdiv m), .int b], Int.fmod_nonneg_of_pos a hm, Int.fmod_lt_of_pos a hm, ⟨_, _, rfl, ?_, hb, hb2⟩, ?_⟩
    · rw [Int.fdiv_eq_ediv_of_nonneg _ (by omega)]
      exact Int.ediv_nonneg (by omega) (by omega)
    · unfold F__law_take
      rw [ap_def]
      simp [dIx, seqLT, seqT, seqS, hc, atI, ixN, dCmp, h, dMod, hm0, dDiv_ok hm0 hml]
  · have a0 : a = 0 := by omega
    subst a0
    have e1 : (0 : Int) < 2147483647 := by decide
    have b1 := Int.fmod_nonneg_of_pos (b * 48271 + 11) e1
    have b2 := Int.fmod_lt_of_pos (b * 48271 + 11) e1
    generalize hw : (b * 48271 + 11).fmod 2147483647 = w at b1 b2
    refine ⟨((((w * w).fmod 2147483629).fdiv 16).fmod m), .lst [.int 0, .int w], Int.fmod_nonneg_of_pos _ hm, Int.fmod_lt_of_pos _ hm, ⟨_, _, rfl, Int.le_refl _, b1, b2⟩, ?_⟩
    unfold F__law_take
    rw [ap_def]
    have z1 : Sz b := sz_b hb (by omega)
    have z2 : Sz 48271 := sz_b (by decide) (by decide)
    have z3 : Sz w := sz_b b1 (by omega)
    have h16 : (16 : Int).natAbs.log2 < 9000 := by decide
    simp [dIx, seqLT, seqT, seqS, hc, atI, ixN, dCmp, dMod, hm0, dAdd, hs, dMul_ok z1 z2, hw, dMul_ok z3 z3, dDiv_ok (show (16 : Int) ≠ 0 by decide) h16]
theorem natAbs_sum {n : Nat} : ∀ {ns : List Int}, (∀ z ∈ ns, z.natAbs < 2 ^ n) → ns.sum.natAbs ≤ ns.length * 2 ^ n
  | [], _ => by simp
  | z :: ns, h => by
    have h1 := h z List.mem_cons_self
    have h2 := natAbs_sum (ns := ns) fun y m => h y (List.mem_cons_of_mem _ m)
    rw [List.sum_cons, List.length_cons, Nat.add_mul, Nat.one_mul]
    omega
theorem cut63 {xs : List D} (h : xs.length ≤ 63) : Fx.cutD xs none (some 63) = xs := by
  unfold Fx.cutD
  have e1 : HT.sIx xs.length 0 none = 0 := HT.sIx_none ..
  have e2 : HT.sIx xs.length xs.length (some 63) = min 63 xs.length := HT.sIx_nat xs.length xs.length 63
  rw [e1, e2, List.drop_zero, Nat.sub_zero]
  exact List.take_of_length_le (by omega)
theorem bits_lt {z : Int} (h : Builtin.Int.intBits z ≤ 1048576) : z.natAbs.log2 < 1048576 ∨ z = 0 := by
  unfold Builtin.Int.intBits at h
  split at h
  · rename_i h0
    right
    simpa using h0
  · left; omega
theorem pool_eq (N : Nat) (hN : N ≤ 1048577) (ns : List Int) (k : Nat) (st : Sto) (hl : ns.length ≤ 63) (hb : ∀ z ∈ ns, z.natAbs < 2 ^ N) (hk : k < 63) :
    ∃ c, Pl c ∧ F__law_pool [.frz (ns.map D.int), .int k] st = some (.ok (.ref st.length) (st ++ [c])) := by
  have hs := natAbs_sum hb
  have hs2 : ns.sum.natAbs < 2 ^ (N + 6) := by
    rw [Nat.pow_add]
    have : 0 < 2 ^ N := Nat.pow_pos (by decide)
    have h64 : (2 : Nat) ^ 6 = 64 := by decide
    rw [h64, Nat.mul_comm _ 64]
    exact Nat.lt_of_le_of_lt hs (Nat.mul_lt_mul_of_lt_of_le (by omega) (Nat.le_refl _) (by omega))
  have z1 : Sz ns.sum := Sz.of hs2 (by omega) (by omega)
  have z0 : Sz 11 := sz_small (by decide)
  -- the cell
  obtain ⟨cell, hcell, hce⟩ : ∃ cell : Int, cell.natAbs < 2 ^ (N + 20) ∧ (if (k : Int) < ns.length then (ns[k]?).getD 0 else 11 * ns.sum + k) = cell := by
    refine ⟨_, ?_, rfl⟩
    split
    · rename_i h
      have hk2 : k < ns.length := by omega
      rw [List.getElem?_eq_getElem hk2]
      exact Nat.lt_of_lt_of_le (hb _ (List.getElem_mem hk2)) (Nat.pow_le_pow_right (by decide) (by omega))
    · have e : (2 : Nat) ^ (N + 20) = 2 ^ (N + 6) * 2 ^ 14 := by rw [← Nat.pow_add]
      have e2 : (2 : Nat) ^ 14 = 16384 := by decide
      have : 0 < 2 ^ (N + 6) := Nat.pow_pos (by decide)
      rw [e, e2]
      omega
  have hg : (if cell < 0 then -cell else cell).natAbs = cell.natAbs := by split <;> omega
  generalize hgr : (if cell < 0 then -cell else cell) = great at hg
  have g0 : 0 ≤ great := by rw [← hgr]; split <;> omega
  have zg : Sz great := Sz.of (by rw [hg]; exact hcell) (by omega) (by omega)
  have m0 := Int.fmod_nonneg_of_pos great (show (0 : Int) < 2147483629 by decide)
  have m1 := Int.fmod_lt_of_pos great (show (0 : Int) < 2147483629 by decide)
  generalize hm : great.fmod 2147483629 = m at m0 m1
  have zk : Sz (k : Int) := sz_b (by omega) (by omega)
  have z7 : Sz 7919 := sz_small (by decide)
  have z7k : Sz (7919 * (k : Int)) := sz_b (by omega) (by omega)
  have z31 : Sz 31 := sz_small (by decide)
  have z48 : Sz 48271 := sz_small (by decide)
  have kk : 0 ≤ 7919 * (k : Int) * k ∧ 7919 * (k : Int) * k ≤ 7919 * 63 * 63 := by
    refine ⟨Int.mul_nonneg (by omega) (by omega), ?_⟩
    exact Int.mul_le_mul (by omega) (by omega) (by omega) (by omega)
  have zx : Sz (m + 7919 * (k : Int) * k + 31 * k + 17) := sz_b (by omega) (by omega)
  have w0 := Int.fmod_nonneg_of_pos ((m + 7919 * (k : Int) * k + 31 * k + 17) * 48271) (show (0 : Int) < 2147483647 by decide)
  have w1 := Int.fmod_lt_of_pos ((m + 7919 * (k : Int) * k + 31 * k + 17) * 48271) (show (0 : Int) < 2147483647 by decide)
  generalize hw : ((m + 7919 * (k : Int) * k + 31 * k + 17) * 48271).fmod 2147483647 = w at w0 w1
  have zw : Sz w := sz_b w0 (by omega)
  have u0 := Int.fmod_nonneg_of_pos (w * w) (show (0 : Int) < 2147483629 by decide)
  have u1 := Int.fmod_lt_of_pos (w * w) (show (0 : Int) < 2147483629 by decide)
  have zi : Sz (if (1000000000000000000 : Int) ≤ great then 1 else 0) := by split <;> exact sz_small (by decide)
  refine ⟨.lst [.int (great * (if (1000000000000000000 : Int) ≤ great then 1 else 0)), .int ((w * w).fmod 2147483629)], ⟨_, _, rfl, ?_, u0, by omega⟩, ?_⟩
  · split
    · omega
    · omega
  · unfold F__law_pool
    rw [ap_def]
    have hl2 : (ns.map D.int).length ≤ 63 := by simpa using hl
    by_cases h : (k : Int) < ns.length
    · have hk2 : k < ns.length := by omega
      have e1 : ns[k]? = some ns[k] := List.getElem?_eq_getElem hk2
      rw [if_pos h, e1] at hce
      have hix : dIx st (.frz (ns.map D.int)) (.int k) = some (.int cell) := by
        show atI (ns.map D.int) (k : Int) = _
        rw [show ((k : Nat) : Int) = ((k : Nat) : Int) from rfl, atI_nat (j := k) (v := D.int ns[k]) (by rw [List.getElem?_map, e1]; rfl)]
        rw [← hce]; rfl
      simp [bSum, cut63 hl2, dMul_ok z0 z1, dAdd, dCmp, bLen, h, hix, bAbs, hgr, dMod, hm, dMul_ok z7 zk, dMul_ok z7k zk, dMul_ok z31 zk, dMul_ok zx z48, hw, dPow, bInt, dMul_ok zg zi, dMul_ok zw zw]
    · rw [if_neg h] at hce
      simp [bSum, cut63 hl2, dMul_ok z0 z1, dAdd, dCmp, bLen, h, hce, bAbs, hgr, dMod, hm, dMul_ok z7 zk, dMul_ok z7k zk, dMul_ok z31 zk, dMul_ok zx z48, hw, dPow, bInt, dMul_ok zg zi, dMul_ok zw zw]
def TOPS : List D := [.int 0, .int 1, .int (-1), .int 2, .int 3, .int (-5), .int 7, .int 1000000000000000000000000000000, .int (-1000000000000000000000000000001)]
def BOTS : List D := [.int 1, .int 1, .int 1, .int 2, .int 3, .int 4, .int 6, .int 100000000000000000000]
theorem fdiv_sign (t : Int) (g : Int) : (-t).fdiv g = t.fdiv (-g) := by
  have := Int.neg_fdiv_neg t (-g)
  rw [Int.neg_neg] at this
  exact this
theorem abs_if (a : Int) : (if a < 0 then -a else a) = a.natAbs := by split <;> omega
theorem llow_eq (t b : Int) (st : Sto) (hb : b ≠ 0) (ht : t.natAbs.log2 < 8500) (hl : b.natAbs.log2 < 8500) : F__law_low [.int t, .int b] st = some (.ok (rD (Rat.divInt t b)) st) := by
  obtain ⟨c, h1, h2, h3⟩ := gcd_loop2 (some (.int t)) (some (.int b)) none t.natAbs b.natAbs (b.natAbs + 1) st (by omega)
  have hc : c = (Int.gcd t b : Nat) := by
    have e : Int.gcd (t.natAbs : Int) (b.natAbs : Int) = Int.gcd t b := by rw [Int.gcd_eq_natAbs_gcd_natAbs, Int.gcd_eq_natAbs_gcd_natAbs t b]; rfl
    have := h3 (by omega) (by omega)
    omega
  subst hc
  obtain ⟨g1, g2⟩ := gcd_ok (t := t) hb hl
  have z1 : Sz 1 := Sz.of (n := 10) (by decide) (by decide) (by decide)
  have zm : Sz (-1) := Sz.of (n := 10) (by decide) (by decide) (by decide)
  have zt : Sz t := Nat.lt_of_lt_of_le ht (by decide)
  have zb : Sz b := Nat.lt_of_lt_of_le hl (by decide)
  unfold F__law_low
  rw [ap_def]
  by_cases h : b < 0
  · obtain ⟨e1, e2⟩ := low_neg t b h
    simp [bAbs, abs_if, fuelGcd, h1, dNeg, bInt, dCmp, h, dIx, atI, ixN, dMul_ok zm zt, dMul_ok zm zb, dDiv_ok g1 g2, fdiv_sign, e1, e2, rD]
  · obtain ⟨e1, e2⟩ := low_pos t b (by omega)
    simp [bAbs, abs_if, fuelGcd, h1, dNeg, bInt, dCmp, h, dIx, atI, ixN, dMul_ok z1 zt, dMul_ok z1 zb, dDiv_ok g1 g2, e1, e2, rD]
theorem nth_all (Pr : D → Prop) (xs : List D) (v : Int) (h0 : 0 ≤ v) (h1 : v < xs.length) (h : ∀ x ∈ xs, Pr x) : ∃ x, atI xs v = some x ∧ Pr x := by
  obtain ⟨j, rfl⟩ : ∃ j : Nat, v = j := ⟨v.toNat, by omega⟩
  have hj : j < xs.length := by omega
  exact ⟨xs[j], atI_nat (List.getElem?_eq_getElem hj), h _ (List.getElem_mem hj)⟩
theorem number_eq (n : Nat) (st : Sto) (c : Cell) (hc : st[n]? = some c) (hp : Pl c) :
    ∃ (q : Rat) (c2 : Cell), Rz 110 q ∧ Pl c2 ∧ F__law_number [.ref n] st = some (.ok (rD q) (st.set n c2)) := by
  obtain ⟨v1, c1, a1, a2, p1, e1⟩ := take_eq n 9 st c (by decide) (by decide) hc hp
  have hc1 : (st.set n c1)[n]? = some c1 := List.getElem?_set_self (List.getElem?_eq_some_iff.mp hc).1
  obtain ⟨v2, c2, b1, b2, p2, e2⟩ := take_eq n 8 (st.set n c1) c1 (by decide) (by decide) hc1 p1
  rw [List.set_set] at e2
  obtain ⟨x, x1, t, rfl, x2⟩ := nth_all (fun d => ∃ t : Int, d = .int t ∧ t.natAbs < 2 ^ 110) TOPS v1 a1 a2 (by
    intro d m
    simp only [TOPS, List.mem_cons, List.not_mem_nil, or_false] at m
    rcases m with rfl | rfl | rfl | rfl | rfl | rfl | rfl | rfl | rfl <;> exact ⟨_, rfl, by decide⟩)
  obtain ⟨y, y1, b, rfl, y2, y3⟩ := nth_all (fun d => ∃ t : Int, d = .int t ∧ t.natAbs < 2 ^ 110 ∧ t ≠ 0) BOTS v2 b1 b2 (by
    intro d m
    simp only [BOTS, List.mem_cons, List.not_mem_nil, or_false] at m
    rcases m with rfl | rfl | rfl | rfl | rfl | rfl | rfl | rfl <;> exact ⟨_, rfl, by decide, by decide⟩)
  refine ⟨Rat.divInt t b, c2, Rz.divInt x2 y2 y3, p2, ?_⟩
  have l1 : t.natAbs.log2 < 8500 := Nat.lt_of_lt_of_le (log2_lt x2 (by decide)) (by decide)
  have l2 : b.natAbs.log2 < 8500 := Nat.lt_of_lt_of_le (log2_lt y2 (by decide)) (by decide)
  have x1' : atI TOPS v1 = some (D.int t) := x1
  have y1' : atI BOTS v2 = some (D.int b) := y1
  unfold TOPS at x1'
  unfold BOTS at y1'
  unfold F__law_number
  rw [ap_def]
  simp [dNeg, dPow, dSub, dIx, e1, e2, x1', y1', llow_eq _ _ _ y3 l1 l2]

theorem isnum_eq (q : Rat) (st : Sto) : F_is_number [rD q] st = some (.ok (.bl true) st) := by
  have hw : ∀ (i : Int) (st : Sto), F_is_whole [.int i] st = some (.ok (.bl true) st) := fun i st => by
    unfold F_is_whole
    rw [ap_def]
    simp [bIsi, tyD]
  have h1 : (1 : Int) ≤ q.den := by have := rat_den_pos q; omega
  unfold F_is_number
  rw [ap_def]
  simp [rD, bIsi, tyD, bLen, hw, bAll, dCmp, h1, gcd_eq, rat_gcd]
theorem rs0 : Rs 0 := by decide
theorem rs1 : Rs 1 := by decide
theorem rD_zero : D.tup [.int 0, .int 1] = rD 0 := rfl
theorem rD_one : D.tup [.int 1, .int 1] = rD 1 := rfl
set_option maxHeartbeats 4000000 in
theorem dEq_bl {st : Sto} {a b : Bool} : dEq st (.bl a) (.bl b) = some (.bl (a == b)) := by cases a <;> cases b <;> rfl
theorem at_new {st : Sto} {c : Cell} {l : Sto} : (st ++ c :: l)[st.length]? = some c := by
  rw [List.getElem?_append_right (Nat.le_refl _), Nat.sub_self]; rfl
/-! ### what is refused, what is made -/
theorem whole_int (i : Int) (st : Sto) : F_is_whole [.int i] st = some (.ok (.bl true) st) := by
  unfold F_is_whole
  rw [ap_def]
  simp [bIsi, tyD]
theorem number_ok (CF : Addr) (t b : Int) (st : Sto) (hb : b ≠ 0) (hl : b.natAbs.log2 < 8500) : F_number CF [.int t, .int b] st = some (.ok (rD (Rat.divInt t b)) st) := by
  unfold F_number
  unfold fDefX
  simp [whole_int, hb, lowest_eq t b st hb hl]
theorem number_no (CF : Addr) (t : Int) (st : Sto) : F_number CF [.int t, .int 0] st = some (.exc ⟨CF, none⟩ st) := by
  have e : dEq st (.int 0) (.int 0) = some (.bl true) := rfl
  unfold F_number
  unfold fDefX
  simp [whole_int, e, fRaise]
theorem refused_of (CF : Addr) (a b : D) (st : Sto) (h : F_number CF [a, b] st = some (.exc ⟨CF, none⟩ st)) : F__law_refused CF [a, b] st = some (.ok (.bl true) st) := by
  unfold F__law_refused
  rw [ap_def]
  simp [fTryR, h]
/-- what is not whole -/
theorem number_odd1 (CF : Addr) (d : D) (i : Int) (st : Sto) (h : F_is_whole [d] st = some (.ok (.bl false) st)) : F_number CF [d, .int i] st = some (.exc ⟨CF, none⟩ st) := by
  unfold F_number
  unfold fDefX
  simp [h, fRaise]
theorem number_odd2 (CF : Addr) (d : D) (i : Int) (st : Sto) (h : F_is_whole [d] st = some (.ok (.bl false) st)) : F_number CF [.int i, d] st = some (.exc ⟨CF, none⟩ st) := by
  unfold F_number
  unfold fDefX
  simp [h, whole_int, fRaise]
theorem odd_whole (st : Sto) : ∀ d ∈ [D.non, .bl true, .str "1", .tup [.int 1, .int 1], .lst [.int 1]], F_is_whole [d] st = some (.ok (.bl false) st) := by
  intro d hd
  simp only [List.mem_cons, List.not_mem_nil, or_false] at hd
  rcases hd with rfl | rfl | rfl | rfl | rfl <;> rfl

/-! ### each item looks right -/
theorem repr_b3 (a b c : Bool) (st : Sto) : bRepr st [.lst [.bl a, .bl b, .bl c]] = some (.str (PyData.shown (.list [.bool a, .bool b, .bool c]))) := by
  refine repr_str (e := .list [.bool a, .bool b, .bool c]) rfl (by cases a <;> cases b <;> cases c <;> decide) rfl ?_
  have := PyData.shown_le 160 (by decide) (.list [.bool a, .bool b, .bool c]) rfl
  have hw : PyData.weight (.list [.bool a, .bool b, .bool c]) = 3 := rfl
  rw [hw] at this
  omega
theorem repr_b1 (a : Bool) (st : Sto) : bRepr st [.bl a] = some (.str (PyData.shown (.bool a))) := by
  refine repr_str (e := .bool a) rfl (by cases a <;> decide) rfl ?_
  have := PyData.shown_le 160 (by decide) (.bool a) rfl
  have hw : PyData.weight (.bool a) = 0 := rfl
  rw [hw] at this
  omega
/-- not a worth -/
theorem looks_no (d : D) (w i : Bool) (st : Sto) (hi : bIsi st [d, .ty "int"] = some (.bl i)) (hb : bIsi st [d, .ty "bool"] = some (.bl false)) (hw : F_is_whole [d] st = some (.ok (.bl i) st))
    (hn : F_is_number [d] st = some (.ok (.bl false) st)) (hl : F__law_is_number [d] st = some (.ok (.bl false) st)) : F__law_looks_right [d] st = some (.ok (.bl true) st) := by
  have hwo : F_is_worth [d] st = some (.ok (.bl false) st) := by
    unfold F_is_worth
    rw [ap_def]
    simp [hb, hn]
  have r3 := repr_b3 i false false st
  have r1 := repr_b1 false st
  have ix : dIx st (.lst [.bl i, .bl false, .bl false]) (.int 2) = some (.bl false) := rfl
  unfold F__law_looks_right
  rw [ap_def]
  cases i <;> simp [hi, hb, hw, hn, hl, hwo, r3, r1, ix, neS_same, fCallK]
theorem looks_int (t : Int) (st : Sto) : F__law_looks_right [.int t] st = some (.ok (.bl true) st) := by
  have hn : F_is_number [.int t] st = some (.ok (.bl false) st) := by
    unfold F_is_number
    rw [ap_def]
    simp [bIsi, tyD]
  have hl : F__law_is_number [.int t] st = some (.ok (.bl false) st) := by
    unfold F__law_is_number
    rw [ap_def]
    simp [bIsi, tyD]
  exact looks_no _ true true st rfl rfl (whole_int t st) hn hl
theorem looks_bl (b : Bool) (st : Sto) : F__law_looks_right [.bl b] st = some (.ok (.bl true) st) := by
  have hn : F_is_number [.bl b] st = some (.ok (.bl false) st) := by
    unfold F_is_number
    rw [ap_def]
    simp [bIsi, tyD]
  have hl : F__law_is_number [.bl b] st = some (.ok (.bl false) st) := by
    unfold F__law_is_number
    rw [ap_def]
    simp [bIsi, tyD]
  have hi : bIsi st [.bl b, .ty "int"] = some (.bl true) := rfl
  have hb : bIsi st [.bl b, .ty "bool"] = some (.bl true) := rfl
  have hw : F_is_whole [.bl b] st = some (.ok (.bl false) st) := by
    unfold F_is_whole
    rw [ap_def]
    simp [hi, hb]
  have hwo : F_is_worth [.bl b] st = some (.ok (.bl true) st) := by
    unfold F_is_worth
    rw [ap_def]
    simp [hb]
  have hk : F_kind_of_worth [.bl b] st = some (.ok (.str "truth") st) := by
    unfold F_kind_of_worth
    rw [ap_def]
    simp [hb]
  have hww : F_is_whole_worth [.bl b] st = some (.ok (.bl false) st) := by
    unfold F_is_whole_worth
    rw [ap_def]
    simp [hb]
  have r3 := repr_b3 false false true st
  have r1 := repr_b1 true st
  have r0 := repr_b1 false st
  have ix : dIx st (.lst [.bl false, .bl false, .bl true]) (.int 2) = some (.bl true) := rfl
  have ix2 : dIx st (.lst [.str "number", .str "truth"]) (.int 1) = some (.str "truth") := rfl
  unfold F__law_looks_right
  rw [ap_def]
  simp [hi, hb, hw, hn, hl, hwo, r3, r1, r0, ix, ix2, hk, hww, neS_same, eqS_same, fCallK, bInt]
theorem looks_rest (st : Sto) : ∀ d ∈ [D.non, .lst [.int 1, .int 1], .str "1", .tup [], .tup [.bl true, .int 1], .tup [.int 1, .bl true]], F__law_looks_right [d] st = some (.ok (.bl true) st) := by
  intro d hd
  simp only [List.mem_cons, List.not_mem_nil, or_false] at hd
  rcases hd with rfl | rfl | rfl | rfl | rfl | rfl
  · exact looks_no _ false false st rfl rfl rfl rfl rfl
  · exact looks_no _ false false st rfl rfl rfl rfl rfl
  · exact looks_no _ false false st rfl rfl rfl rfl rfl
  · exact looks_no _ false false st rfl rfl rfl rfl rfl
  · exact looks_no _ false false st rfl rfl rfl rfl rfl
  · exact looks_no _ false false st rfl rfl rfl rfl rfl
theorem lnum_eq (q : Rat) (st : Sto) (hq : Rs q) : F__law_is_number [rD q] st = some (.ok (.bl true) st) := by
  have h1 : (1 : Int) ≤ q.den := by have := rat_den_pos q; omega
  have hd : (q.den : Int) ≠ 0 := by omega
  have hlow : F__law_low [.int q.num, .int q.den] st = some (.ok (rD q) st) := by
    rw [llow_eq q.num q.den st hd (Nat.lt_of_lt_of_le hq.1 (by decide)) (Nat.lt_of_lt_of_le (show (q.den : Int).natAbs.log2 < 4000 from hq.2) (by decide)), Rat.num_divInt_den]
  have hb : bIsi st [rD q, .ty "tuple"] = some (.bl true) := rfl
  have hlen : bLen st [rD q] = some (.int 2) := rfl
  have hlc : lcF (iTp (fVar 0)) (gNm 1) (tOr2 (tNot1 (tV (fCa bIsi (fCons (fVar 1) (fCons (fC (.ty "int")) fNil))))) (tV (fCa bIsi (fCons (fVar 1) (fCons (fC (.ty "bool")) fNil))))) (fVar 1) [1] [some (rD q), none] st = some (.ok [] st) := rfl
  unfold F__law_is_number
  rw [ap_def]
  have hnil : dNe st (.lst []) (.lst []) = some (.bl false) := ne_same (e := .list []) rfl rfl (by decide)
  simp [hb, hlen, ap_lc, -ap_lcF, hlc, hnil, ix_rD0, ix_rD1, dCmp, h1, hlow]
theorem looks_num (q : Rat) (st : Sto) (hq : Rs q) : F__law_looks_right [rD q] st = some (.ok (.bl true) st) := by
  have hn := isnum_eq q st
  have hl := lnum_eq q st hq
  have hi : bIsi st [rD q, .ty "int"] = some (.bl false) := rfl
  have hb : bIsi st [rD q, .ty "bool"] = some (.bl false) := rfl
  have hw : F_is_whole [rD q] st = some (.ok (.bl false) st) := by
    unfold F_is_whole
    rw [ap_def]
    simp [hi]
  have hwo : F_is_worth [rD q] st = some (.ok (.bl true) st) := by
    unfold F_is_worth
    rw [ap_def]
    simp [hb, hn]
  have hk : F_kind_of_worth [rD q] st = some (.ok (.str "number") st) := by
    unfold F_kind_of_worth
    rw [ap_def]
    simp [hb]
  have hww : F_is_whole_worth [rD q] st = some (.ok (.bl ((q.den : Int) == 1)) st) := by
    unfold F_is_whole_worth
    rw [ap_def]
    have e : dEq st (.int (q.den : Int)) (.int 1) = some (.bl ((q.den : Int) == 1)) := rfl
    simp only [ap_ret, ap_and, ap_not, ap_ca, ap_cons, ap_nil, ap_c, ap_var, ap_op, List.map_cons, List.map_nil, List.cons_append, List.nil_append, List.getElem?_cons_zero, bnd_ok, hb, Option.map_some, Bool.not_false, if_true, ix_rD1, e, sb_ok]
  have r3 := repr_b3 false true true st
  have r1 := repr_b1 true st
  have r0 := repr_b1 ((q.den : Int) == 1) st
  have ix : dIx st (.lst [.bl false, .bl true, .bl true]) (.int 2) = some (.bl true) := rfl
  have ix2 : dIx st (.lst [.str "number", .str "truth"]) (.int 0) = some (.str "number") := rfl
  have e : dEq st (.int (q.den : Int)) (.int 1) = some (.bl ((q.den : Int) == 1)) := rfl
  have lastE : fRet (fOp dEqS (fCa bRepr (fCons (fCall 1 F_is_whole_worth (fCons (fVar 0) fNil)) fNil)) (fCa bRepr (fCons (fAnd (fNot (fVar 4)) (fOp dEq (fOp dIx (fVar 0) (fC (.int 1))) (fC (.int 1)))) fNil)))
      [some (rD q), some (.bl false), some (.lst [.bl false, .bl true, .bl true]), some (.lst [.bl false, .bl true, .bl true]), some (.bl false)] st = some (.rt (.bl true) st) := by
    simp only [ap_ret, ap_and, ap_not, ap_ca, ap_cons, ap_nil, ap_c, ap_var, ap_op, ap_call, List.getElem?_cons_succ, List.getElem?_cons_zero, bnd_ok, List.length_cons, List.length_nil, Nat.zero_add, if_true, hww, Option.map_some, r0, Bool.not_false, ix_rD1, e, eqS_same, sb_ok]
  unfold F__law_looks_right
  refine def_rt rfl ?_
  refine (seq_nx (e1 := [some (rD q), some (.bl false), none, none, none]) (s1 := st) (by simp [hi])).trans ?_
  refine (seq_nx (e1 := [some (rD q), some (.bl false), some (.lst [.bl false, .bl true, .bl true]), none, none]) (s1 := st) (by simp [hl])).trans ?_
  refine (seq_nx (e1 := [some (rD q), some (.bl false), some (.lst [.bl false, .bl true, .bl true]), some (.lst [.bl false, .bl true, .bl true]), none]) (s1 := st) (by simp [hw, hn, hwo])).trans ?_
  refine (seq_nx (e1 := [some (rD q), some (.bl false), some (.lst [.bl false, .bl true, .bl true]), some (.lst [.bl false, .bl true, .bl true]), none]) (s1 := st) (by simp [r3, neS_same, fCallK, hwo, r1, ix])).trans ?_
  refine (seq_nx (e1 := [some (rD q), some (.bl false), some (.lst [.bl false, .bl true, .bl true]), some (.lst [.bl false, .bl true, .bl true]), none]) (s1 := st) (by simp [ix])).trans ?_
  refine (seq_nx (e1 := [some (rD q), some (.bl false), some (.lst [.bl false, .bl true, .bl true]), some (.lst [.bl false, .bl true, .bl true]), some (.bl false)]) (s1 := st) (by simp [hb])).trans ?_
  refine (seq_nx (e1 := [some (rD q), some (.bl false), some (.lst [.bl false, .bl true, .bl true]), some (.lst [.bl false, .bl true, .bl true]), some (.bl false)]) (s1 := st) (by simp [hk, bInt, ix2, neS_same])).trans ?_
  exact lastE

theorem looks_one (t : Int) (st : Sto) : F__law_looks_right [.tup [.int t]] st = some (.ok (.bl true) st) := by
  have h2 : dNe st (.int 1) (.int 2) = some (.bl true) := rfl
  have hlen : bLen st [.tup [.int t]] = some (.int 1) := rfl
  have hb : bIsi st [.tup [.int t], .ty "tuple"] = some (.bl true) := rfl
  have hn : F_is_number [.tup [.int t]] st = some (.ok (.bl false) st) := by
    unfold F_is_number
    rw [ap_def]
    simp [hb, hlen]
  have hl : F__law_is_number [.tup [.int t]] st = some (.ok (.bl false) st) := by
    unfold F__law_is_number
    rw [ap_def]
    simp [hb, hlen]
  exact looks_no _ false false st rfl rfl rfl hn hl
theorem dEq_pair (r : Rat) (a b : Int) (st : Sto) : dEq st (rD r) (.tup [.int a, .int b]) = some (.bl ((r.num == a) && (((r.den : Int) == b) && true))) := by
  show (match some (PyData.tuple [.int r.num, .int r.den]), some (PyData.tuple [.int a, .int b]) with
    | some a, some b => if SeqAt.shaped a = true ∧ SeqAt.shaped b = true then some (D.bl (PyData.eqv a b)) else none
    | _, _ => none) = _
  have s1 : ∀ i j : Int, SeqAt.shaped (.tuple [.int i, .int j]) = true := fun i j => rfl
  simp only [s1, and_self, if_true]
  rfl
theorem looks_pair (a b : Int) (st : Sto) (ha : a.natAbs < 2 ^ 100) (hb : b.natAbs < 2 ^ 100) : F__law_looks_right [.tup [.int a, .int b]] st = some (.ok (.bl true) st) := by
  by_cases h : 0 < b ∧ Int.gcd a b = 1
  · obtain ⟨e1, e2⟩ := divInt_low h.1 h.2
    have e : D.tup [.int a, .int b] = rD (Rat.divInt a b) := by
      unfold rD
      rw [e1, e2]
    rw [e]
    refine looks_num _ st ⟨?_, ?_⟩
    · rw [e1]
      exact Nat.lt_of_lt_of_le (Fx.log2_lt ha (by decide)) (by decide)
    · have : (Rat.divInt a b).den = b.natAbs := by omega
      rw [this]
      exact Nat.lt_of_lt_of_le (Fx.log2_lt hb (by decide)) (by decide)
  · have hlen : bLen st [.tup [.int a, .int b]] = some (.int 2) := rfl
    have ht : bIsi st [.tup [.int a, .int b], .ty "tuple"] = some (.bl true) := rfl
    have i0 : dIx st (.tup [.int a, .int b]) (.int 0) = some (.int a) := rfl
    have i1 : dIx st (.tup [.int a, .int b]) (.int 1) = some (.int b) := rfl
    have hlc : lcF (iTp (fVar 0)) (gNm 1) (tOr2 (tNot1 (tV (fCa bIsi (fCons (fVar 1) (fCons (fC (.ty "int")) fNil))))) (tV (fCa bIsi (fCons (fVar 1) (fCons (fC (.ty "bool")) fNil))))) (fVar 1) [1] [some (.tup [.int a, .int b]), none] st = some (.ok [] st) := rfl
    have hnil : dNe st (.lst []) (.lst []) = some (.bl false) := ne_same (e := .list []) rfl rfl (by decide)
    have hn : F_is_number [.tup [.int a, .int b]] st = some (.ok (.bl false) st) := by
      unfold F_is_number
      rw [ap_def]
      by_cases q : 1 ≤ b
      · have g : ¬ Int.gcd a b = 1 := fun z => h ⟨by omega, z⟩
        simp [ht, hlen, whole_int, bAll, dCmp, q, gcd_eq, g]
        omega
      · simp [ht, hlen, whole_int, bAll, dCmp, q]
    have hl : F__law_is_number [.tup [.int a, .int b]] st = some (.ok (.bl false) st) := by
      unfold F__law_is_number
      rw [ap_def]
      by_cases q : 1 ≤ b
      · have g : ¬ Int.gcd a b = 1 := fun z => h ⟨by omega, z⟩
        have hlow := llow_eq a b st (by omega) (Nat.lt_of_lt_of_le (Fx.log2_lt ha (by decide)) (by decide)) (Nat.lt_of_lt_of_le (Fx.log2_lt hb (by decide)) (by decide))
        have he : ((Rat.divInt a b).num == a && (((Rat.divInt a b).den : Int) == b && true)) = false := by
          rw [Bool.and_true]
          refine Bool.eq_false_iff.mpr fun z => ?_
          obtain ⟨z1, z2⟩ := Bool.and_eq_true_iff.mp z
          have z1 := eq_of_beq z1
          have z2 := eq_of_beq z2
          have := rat_gcd (Rat.divInt a b)
          rw [z1, z2] at this
          exact g this
        have hd := dEq_pair (Rat.divInt a b) a b st
        rw [he] at hd
        simp [ht, hlen, ap_lc, -ap_lcF, hlc, hnil, i0, i1, dCmp, q, hlow, hd]
      · simp [ht, hlen, ap_lc, -ap_lcF, hlc, hnil, i0, i1, dCmp, q]
    exact looks_no _ false false st rfl rfl rfl hn hl
/-! ### the law's own way to reckon -/
theorem low_of (t b : Int) (r : Rat) (st : Sto) (hb : b ≠ 0) (ht : t.natAbs < 2 ^ 250) (hl : b.natAbs < 2 ^ 250) (e : r = Rat.divInt t b) : F__law_low [.int t, .int b] st = some (.ok (rD r) st) := by
  rw [e]
  exact llow_eq t b st hb (Nat.lt_of_lt_of_le (Fx.log2_lt ht (by decide)) (by decide)) (Nat.lt_of_lt_of_le (Fx.log2_lt hl (by decide)) (by decide))
theorem pow_up {i : Int} {a : Nat} (h : i.natAbs < 2 ^ a) (l : a ≤ 250) : i.natAbs < 2 ^ 250 := Nat.lt_of_lt_of_le h (Nat.pow_le_pow_right (by decide) l)
theorem two_plus (p q : Rat) (st : Sto) (hp : Rz 110 p) (hq : Rz 110 q) : F__law_of_two [.str "plus", rD p, rD q] st = some (.ok (rD (p + q)) st) := by
  have p0 := hp.rs (by decide) (by decide)
  have q0 := hq.rs (by decide) (by decide)
  have z1 : Sz 1 := Sz.of (n := 10) (by decide) (by decide) (by decide)
  have n1 : Sz (1 * q.num) := by rw [Int.one_mul]; exact q0.sz.1
  have i1 : dIn false st (.str "plus") (.tup [.str "plus", .str "minus"]) = some (.bl true) := rfl
  have j1 : dEqS st (.str "plus") (.str "plus") = some (.bl true) := rfl
  have b1 : bInt st [.bl true] = some (.int 1) := rfl
  have k1 : dIx st (.lst [.int (-1), .int 1]) (.int 1) = some (.int 1) := rfl
  have hneg : dNeg st (.int 1) = some (.int (-1)) := rfl
  have low := low_of (p.num * q.den + 1 * q.num * p.den) (p.den * q.den) (p + q) st (den_mul_ne p q) (pow_up (a := 221) (by rw [Int.one_mul]; exact Fx.add_lt (Fx.mul_lt hp.1 hq.den) (Fx.mul_lt hq.1 hp.den)) (by decide)) (pow_up (Fx.mul_lt hp.den hq.den) (by decide)) (by rw [Int.one_mul]; exact add_eq p q)
  unfold F__law_of_two
  refine def_rt rfl ?_
  rw [seq_rt (d := rD (p + q)) (s1 := st)]
  simp only [ap_ifS, ap_tV, ap_op, ap_var, ap_c, ap_tup, ap_cons, ap_nil, List.map_cons, List.map_nil, List.cons_append, List.nil_append, List.replicate, List.getElem?_cons_succ, List.getElem?_cons_zero, bnd_ok, List.length_cons, List.length_nil, Nat.zero_add, Nat.reduceAdd, Nat.reduceLeDiff, if_true, i1, Option.map_some, sb_ok, ap_seq, ap_set, ap_lst, ap_un, hneg, ap_ca, j1, b1, k1, List.set_cons_succ, List.set_cons_zero, ap_ret, ap_call, ix_rD0, ix_rD1, dMul_ok p0.sz.1 q0.sz.2, dMul_ok z1 q0.sz.1, dMul_ok n1 p0.sz.2, dMul_ok p0.sz.2 q0.sz.2, dAdd_int, low]
theorem two_minus (p q : Rat) (st : Sto) (hp : Rz 110 p) (hq : Rz 110 q) : F__law_of_two [.str "minus", rD p, rD q] st = some (.ok (rD (p - q)) st) := by
  have p0 := hp.rs (by decide) (by decide)
  have q0 := hq.rs (by decide) (by decide)
  have zm : Sz (-1) := Sz.of (n := 10) (by decide) (by decide) (by decide)
  have em : -1 * q.num = -q.num := by omega
  have n1 : Sz (-1 * q.num) := by
    rw [em]
    show (-q.num).natAbs.log2 < 60000000
    rw [Int.natAbs_neg]
    exact q0.sz.1
  have i1 : dIn false st (.str "minus") (.tup [.str "plus", .str "minus"]) = some (.bl true) := rfl
  have j1 : dEqS st (.str "minus") (.str "plus") = some (.bl false) := rfl
  have b1 : bInt st [.bl false] = some (.int 0) := rfl
  have k1 : dIx st (.lst [.int (-1), .int 1]) (.int 0) = some (.int (-1)) := rfl
  have hneg : dNeg st (.int 1) = some (.int (-1)) := rfl
  have ev : p.num * q.den + -1 * q.num * p.den = p.num * q.den - q.num * p.den := by rw [em, Int.neg_mul]; omega
  have low := low_of (p.num * q.den + -1 * q.num * p.den) (p.den * q.den) (p - q) st (den_mul_ne p q) (pow_up (a := 221) (by rw [ev]; exact Fx.sub_lt (Fx.mul_lt hp.1 hq.den) (Fx.mul_lt hq.1 hp.den)) (by decide)) (pow_up (Fx.mul_lt hp.den hq.den) (by decide)) (by rw [ev]; exact sub_eq p q)
  unfold F__law_of_two
  refine def_rt rfl ?_
  rw [seq_rt (d := rD (p - q)) (s1 := st)]
  simp only [ap_ifS, ap_tV, ap_op, ap_var, ap_c, ap_tup, ap_cons, ap_nil, List.map_cons, List.map_nil, List.cons_append, List.nil_append, List.replicate, List.getElem?_cons_succ, List.getElem?_cons_zero, bnd_ok, List.length_cons, List.length_nil, Nat.zero_add, Nat.reduceAdd, Nat.reduceLeDiff, if_true, i1, Option.map_some, sb_ok, ap_seq, ap_set, ap_lst, ap_un, hneg, ap_ca, j1, b1, k1, List.set_cons_succ, List.set_cons_zero, ap_ret, ap_call, ix_rD0, ix_rD1, dMul_ok p0.sz.1 q0.sz.2, dMul_ok zm q0.sz.1, dMul_ok n1 p0.sz.2, dMul_ok p0.sz.2 q0.sz.2, dAdd_int, low]
theorem two_times (p q : Rat) (st : Sto) (hp : Rz 110 p) (hq : Rz 110 q) : F__law_of_two [.str "times", rD p, rD q] st = some (.ok (rD (p * q)) st) := by
  have p0 := hp.rs (by decide) (by decide)
  have q0 := hq.rs (by decide) (by decide)
  have i1 : dIn false st (.str "times") (.tup [.str "plus", .str "minus"]) = some (.bl false) := rfl
  have j1 : dEqS st (.str "times") (.str "times") = some (.bl true) := rfl
  have low := low_of (p.num * q.num) (p.den * q.den) (p * q) st (den_mul_ne p q) (pow_up (Fx.mul_lt hp.1 hq.1) (by decide)) (pow_up (Fx.mul_lt hp.den hq.den) (by decide)) (mul_eq p q)
  unfold F__law_of_two
  rw [ap_def]
  simp [i1, j1, ix_rD0, ix_rD1, dMul_ok p0.sz.1 q0.sz.1, dMul_ok p0.sz.2 q0.sz.2, low]
theorem two_over (p q : Rat) (st : Sto) (hp : Rz 110 p) (hq : Rz 110 q) : F__law_of_two [.str "over", rD p, rD q] st = some (.ok (if q = 0 then .non else rD (p / q)) st) := by
  have p0 := hp.rs (by decide) (by decide)
  have q0 := hq.rs (by decide) (by decide)
  have i1 : dIn false st (.str "over") (.tup [.str "plus", .str "minus"]) = some (.bl false) := rfl
  have j1 : dEqS st (.str "over") (.str "times") = some (.bl false) := rfl
  have j2 : dEqS st (.str "over") (.str "over") = some (.bl true) := rfl
  by_cases h : q = 0
  · subst h
    unfold F__law_of_two
    rw [ap_def]
    simp [i1, j1, j2, ix_rD0, ix_rD1]
  · have hn : q.num ≠ 0 := fun e => h (Rat.num_eq_zero.mp e)
    have h1 : (p.den : Int) * q.num ≠ 0 := Int.mul_ne_zero (by have := rat_den_pos p; omega) hn
    have low := low_of (p.num * q.den) (p.den * q.num) (p / q) st h1 (pow_up (Fx.mul_lt hp.1 hq.den) (by decide)) (pow_up (Fx.mul_lt hp.den hq.1) (by decide)) (div_eq p q)
    unfold F__law_of_two
    rw [ap_def]
    simp [i1, j1, j2, ix_rD0, ix_rD1, hn, h, dMul_ok p0.sz.1 q0.sz.2, dMul_ok p0.sz.2 q0.sz.1, low]
theorem two_less (p q : Rat) (st : Sto) (hp : Rz 110 p) (hq : Rz 110 q) : F__law_of_two [.str "less", rD p, rD q] st = some (.ok (.bl (decide (p < q))) st) := by
  have p0 := hp.rs (by decide) (by decide)
  have q0 := hq.rs (by decide) (by decide)
  have i1 : dIn false st (.str "less") (.tup [.str "plus", .str "minus"]) = some (.bl false) := rfl
  have j1 : dEqS st (.str "less") (.str "times") = some (.bl false) := rfl
  have j2 : dEqS st (.str "less") (.str "over") = some (.bl false) := rfl
  have j3 : dEqS st (.str "less") (.str "less") = some (.bl true) := rfl
  unfold F__law_of_two
  rw [ap_def]
  simp [i1, j1, j2, j3, ix_rD0, ix_rD1, dMul_ok p0.sz.1 q0.sz.2, dMul_ok q0.sz.1 p0.sz.2, dCmp, Rat.lt_iff]
theorem two_least (p q : Rat) (st : Sto) (hp : Rz 110 p) (hq : Rz 110 q) : F__law_of_two [.str "least", rD p, rD q] st = some (.ok (rD (if p < q then p else q)) st) := by
  have p0 := hp.rs (by decide) (by decide)
  have q0 := hq.rs (by decide) (by decide)
  have i1 : dIn false st (.str "least") (.tup [.str "plus", .str "minus"]) = some (.bl false) := rfl
  have j1 : dEqS st (.str "least") (.str "times") = some (.bl false) := rfl
  have j2 : dEqS st (.str "least") (.str "over") = some (.bl false) := rfl
  have j3 : dEqS st (.str "least") (.str "less") = some (.bl false) := rfl
  have j4 : dEqS st (.str "least") (.str "least") = some (.bl true) := rfl
  have x0 : dIx st (.lst [rD q, rD p]) (.int 0) = some (rD q) := rfl
  have x1 : dIx st (.lst [rD q, rD p]) (.int 1) = some (rD p) := rfl
  have e : ∀ b : Bool, dEq st (.bl b) (.bl true) = some (.bl b) := fun b => by cases b <;> rfl
  have lt : dLt st (.int (p.num * q.den)) (.int (q.num * p.den)) = some (.bl (decide (p < q))) := by simp [dCmp, Rat.lt_iff]
  unfold F__law_of_two
  rw [ap_def]
  by_cases h : p < q <;> simp [i1, j1, j2, j3, j4, ix_rD0, ix_rD1, dMul_ok p0.sz.1 q0.sz.2, dMul_ok q0.sz.1 p0.sz.2, lt, h, e, bInt, x0, x1]
theorem two_most (p q : Rat) (st : Sto) (hp : Rz 110 p) (hq : Rz 110 q) : F__law_of_two [.str "most", rD p, rD q] st = some (.ok (rD (if p < q then q else p)) st) := by
  have p0 := hp.rs (by decide) (by decide)
  have q0 := hq.rs (by decide) (by decide)
  have i1 : dIn false st (.str "most") (.tup [.str "plus", .str "minus"]) = some (.bl false) := rfl
  have j1 : dEqS st (.str "most") (.str "times") = some (.bl false) := rfl
  have j2 : dEqS st (.str "most") (.str "over") = some (.bl false) := rfl
  have j3 : dEqS st (.str "most") (.str "less") = some (.bl false) := rfl
  have j4 : dEqS st (.str "most") (.str "least") = some (.bl false) := rfl
  have x0 : dIx st (.lst [rD q, rD p]) (.int 0) = some (rD q) := rfl
  have x1 : dIx st (.lst [rD q, rD p]) (.int 1) = some (rD p) := rfl
  have e : ∀ b : Bool, dEq st (.bl b) (.bl false) = some (.bl !b) := fun b => by cases b <;> rfl
  have lt : dLt st (.int (p.num * q.den)) (.int (q.num * p.den)) = some (.bl (decide (p < q))) := by simp [dCmp, Rat.lt_iff]
  unfold F__law_of_two
  rw [ap_def]
  by_cases h : p < q <;> simp [i1, j1, j2, j3, j4, ix_rD0, ix_rD1, dMul_ok p0.sz.1 q0.sz.2, dMul_ok q0.sz.1 p0.sz.2, lt, h, e, bInt, x0, x1]
theorem least_same (p q : Rat) : (if q < p then q else p) = if p < q then p else q := by
  by_cases h1 : q < p
  · have : ¬ p < q := Rat.not_lt.mpr (Rat.le_of_lt h1)
    rw [if_pos h1, if_neg this]
  · by_cases h2 : p < q
    · rw [if_neg h1, if_pos h2]
    · rw [if_neg h1, if_neg h2]
      exact Rat.le_antisymm (Rat.not_lt.mp h1) (Rat.not_lt.mp h2)
/-! ### lists of worths are shown -/
structure ItOk1 (d : D) (e : PyData) : Prop where
  pd : Fx.pd d = some e
  lay : e.canLay0 = true
  dep : e.depth ≤ 1
  short : e.leavesShort 240 = true
  show1 : e.showable = true
  wt : e.weight ≤ 446
theorem it_non : ItOk1 .non .none := ⟨rfl, rfl, Nat.zero_le _, rfl, rfl, Nat.zero_le _⟩
theorem it_bl (b : Bool) : ItOk1 (.bl b) (.bool b) := ⟨rfl, rfl, Nat.zero_le _, rfl, rfl, Nat.zero_le _⟩
theorem int_leaf3 {i : Int} (h : i.natAbs < 2 ^ 222) : PyData.leavesShort 240 (.int i) = true ∧ PyData.showable (.int i) = true ∧ PyData.weight (.int i) ≤ 222 := by
  have hl : i.natAbs.log2 < 222 := Fx.log2_lt h (by decide)
  refine ⟨?_, ?_, ?_⟩
  · refine decide_eq_true ?_
    show (Str.ofString (toString i)).length ≤ 240
    rw [PySem.ofString_length]
    have := int_text_length_le (a := i) (k := 222) (by decide) hl
    omega
  · exact decide_eq_true (show i.natAbs.log2 < 1920 by omega)
  · show (if i == 0 then 0 else i.natAbs.log2 + 1) ≤ 222
    split <;> omega
theorem it_rat {r : Rat} (h : Rz 222 r) : ItOk1 (rD r) (.tuple [.int r.num, .int r.den]) := by
  obtain ⟨a1, a2, a3⟩ := int_leaf3 h.1
  obtain ⟨b1, b2, b3⟩ := int_leaf3 (i := (r.den : Int)) (by simpa using h.2)
  refine ⟨rfl, rfl, by show max 0 (max 0 0) + 1 ≤ 1; decide, ?_, ?_, ?_⟩
  · show (PyData.leavesShort 240 (.int r.num) && (PyData.leavesShort 240 (.int r.den) && true)) = true
    rw [a1, b1]; rfl
  · show (PyData.showable (.int r.num) && (PyData.showable (.int r.den) && true)) = true
    rw [a2, b2]; rfl
  · show PyData.weight (.int r.num) + 1 + (PyData.weight (.int r.den) + 1 + 0) ≤ 446
    omega
theorem its_ok : ∀ ds : List D, (∀ d ∈ ds, ∃ e, ItOk1 d e) → ∃ es, pds ds = some es ∧ PyData.canLayAll0 es = true ∧ PyData.depthAll es ≤ 1 ∧ PyData.leavesShortAll 240 es = true ∧ PyData.showableAll es = true ∧ PyData.weightAll es ≤ ds.length * 447
  | [], _ => ⟨[], rfl, rfl, Nat.zero_le _, rfl, rfl, Nat.zero_le _⟩
  | d :: ds, h => by
    obtain ⟨e, h0⟩ := h d List.mem_cons_self
    obtain ⟨es, h1, h2, h3, h4, h5, h6⟩ := its_ok ds fun x m => h x (List.mem_cons_of_mem _ m)
    refine ⟨e :: es, ?_, ?_, ?_, ?_, ?_, ?_⟩
    · show (Fx.pd d).bind (fun e => (pds ds).map (e :: ·)) = _
      rw [h0.pd, h1]; rfl
    · show (e.canLay0 && PyData.canLayAll0 es) = true
      rw [h0.lay, h2]; rfl
    · show max e.depth (PyData.depthAll es) ≤ 1
      have := h0.dep
      omega
    · show (e.leavesShort 240 && PyData.leavesShortAll 240 es) = true
      rw [h0.short, h4]; rfl
    · show (e.showable && PyData.showableAll es) = true
      rw [h0.show1, h5]; rfl
    · show e.weight + 1 + PyData.weightAll es ≤ (ds.length + 1) * 447
      have := h0.wt
      rw [Nat.add_mul, Nat.one_mul]
      omega
theorem repr_its (ds : List D) (st : Sto) (h : ∀ d ∈ ds, ∃ e, ItOk1 d e) (hl : ds.length ≤ 7) : ∃ s, bRepr st [.lst ds] = some (.str s) := by
  obtain ⟨es, h1, h2, h3, h4, h5, h6⟩ := its_ok ds h
  refine ⟨_, repr_str (e := .list es) ?_ ?_ h5 ?_⟩
  · show (pds ds).map PyData.list = _
    rw [h1]; rfl
  · show (PyData.canLayAll0 es && decide (PyData.depthAll es + 1 ≤ 64)) = true
    rw [h2, decide_eq_true (by omega)]; rfl
  · have := PyData.shown_le 240 (by decide) (.list es) h4
    have hw : PyData.weight (.list es) ≤ 7 * 447 := Nat.le_trans h6 (Nat.mul_le_mul_right _ hl)
    have : (240 + 2) * PyData.weight (.list es) ≤ 242 * (7 * 447) := Nat.mul_le_mul_left _ hw
    omega
/-! ### reckoned -/
def overD (p q : Rat) : D := if q = 0 then .non else rD (p / q)
def allD (p q : Rat) : List D := [rD (p + q), rD (p - q), rD (p * q), overD p q, rD (if p < q then p else q), rD (if p < q then q else p), .bl (decide (p < q))]
theorem it_all (p q : Rat) (hp : Rz 110 p) (hq : Rz 110 q) : ∀ d ∈ allD p q, ∃ e, ItOk1 d e := by
  intro d hd
  simp only [allD, List.mem_cons, List.not_mem_nil, or_false] at hd
  rcases hd with rfl | rfl | rfl | rfl | rfl | rfl | rfl
  · exact ⟨_, it_rat ((hp.add hq).mono (by decide))⟩
  · exact ⟨_, it_rat ((hp.sub hq).mono (by decide))⟩
  · exact ⟨_, it_rat ((hp.mul hq).mono (by decide))⟩
  · unfold overD
    split
    · exact ⟨_, it_non⟩
    · rename_i h
      exact ⟨_, it_rat ((hp.div hq h).mono (by decide))⟩
  · split
    · exact ⟨_, it_rat (hp.mono (by decide))⟩
    · exact ⟨_, it_rat (hq.mono (by decide))⟩
  · split
    · exact ⟨_, it_rat (hq.mono (by decide))⟩
    · exact ⟨_, it_rat (hp.mono (by decide))⟩
  · exact ⟨_, it_bl _⟩
theorem reckoned_eq (p q : Rat) (st : Sto) (hp : Rz 110 p) (hq : Rz 110 q) : F__law_reckoned [rD p, rD q] st = some (.ok (.bl true) st) := by
  have p0 := hp.rs (by decide) (by decide)
  have q0 := hq.rs (by decide) (by decide)
  obtain ⟨s, hs⟩ := repr_its (allD p q) st (it_all p q hp hq) (by show (7 : Nat) ≤ 7; decide)
  have w1 := two_plus p q st hp hq
  have w2 := two_minus p q st hp hq
  have w3 := two_times p q st hp hq
  have w4 : F__law_of_two [.str "over", rD p, rD q] st = some (.ok (overD p q) st) := two_over p q st hp hq
  have w5 := two_least p q st hp hq
  have w6 := two_most p q st hp hq
  have w7 := two_less p q st hp hq
  have f1 := plus_eq p q st p0 q0
  have f2 := minus_eq p q st p0 q0
  have f3 := times_eq p q st p0 q0
  have f4 : F_over [rD p, rD q] st = some (.ok (overD p q) st) := over_eq p q st p0 q0
  have f5 : F_least [rD p, rD q] st = some (.ok (rD (if p < q then p else q)) st) := by rw [least_eq p q st p0 q0, least_same]
  have f6 := most_eq p q st p0 q0
  have f7 := less_eq p q st p0 q0
  have f8 : F_over [rD q, rD p] st = some (.ok (overD q p) st) := over_eq q p st q0 p0
  have w8 : F__law_of_two [.str "over", rD q, rD p] st = some (.ok (overD q p) st) := two_over q p st hq hp
  have eo : dEq st (overD q p) (overD q p) = some (.bl true) := by
    unfold overD
    split
    · rfl
    · simp
  have ep : dEq st (rD (p + q)) (rD (p + q)) = some (.bl true) := by simp
  have cat : dAdd st (.lst [rD (p + q), rD (p - q), rD (p * q), overD p q]) (.lst [rD (if p < q then p else q), rD (if p < q then q else p), .bl (decide (p < q))]) = some (.lst (allD p q)) := rfl
  have i0 : dIx st (.lst (allD p q)) (.int 0) = some (rD (p + q)) := rfl
  have hlc : lcL (gNm 4) tYes1 (fCall 3 F__law_of_two (fCons (fVar 4) (fCons (fVar 0) (fCons (fVar 1) fNil)))) [some (rD p), some (rD q), some (.lst (allD p q)), some (.lst [.str "plus", .str "minus", .str "times", .str "over", .str "least", .str "most", .str "less"]), none] [.str "plus", .str "minus", .str "times", .str "over", .str "least", .str "most", .str "less"] st = some (.ok (allD p q) st) := by
    simp [w1, w2, w3, w4, w5, w6, w7, allD]
  unfold F__law_reckoned
  refine def_rt rfl ?_
  refine (seq_nx (e1 := [some (rD p), some (rD q), some (.lst [rD (p + q), rD (p - q), rD (p * q), overD p q]), none, none]) (s1 := st) (by simp [f1, f2, f3, f4])).trans ?_
  refine (seq_nx (e1 := [some (rD p), some (rD q), some (.lst (allD p q)), none, none]) (s1 := st) (by simp [f5, f6, f7, cat])).trans ?_
  refine (seq_nx (e1 := [some (rD p), some (rD q), some (.lst (allD p q)), some (.lst [.str "plus", .str "minus", .str "times", .str "over", .str "least", .str "most", .str "less"]), none]) (s1 := st) (by simp)).trans ?_
  refine (seq_nx (e1 := [some (rD p), some (rD q), some (.lst (allD p q)), some (.lst [.str "plus", .str "minus", .str "times", .str "over", .str "least", .str "most", .str "less"]), none]) (s1 := st) (by
    simp only [ap_ifS, ap_tV, ap_op, ap_ca, ap_cons, ap_nil, ap_var, ap_lc, ap_lcF, ap_iLst, List.getElem?_cons_succ, List.getElem?_cons_zero, bnd_ok, hs, Option.map_some, seqL]
    rw [if_pos (by decide)]
    simp only [wipeD_cons, wipeD_nil, List.set_cons_succ, List.set_cons_zero]
    rw [hlc]
    simp [hs, neS_same])).trans ?_
  simp [fCallK, swap2, f1, f8, w8, i0, eo]
noncomputable def body1 (CF : Addr) : FS := (fSeq (fSet 2 (fCall 2 F__law_pool (fCons (fVar 0) (fCons (fVar 1) fNil))))
  (fSeq (fPar 3 4 (fCons (fCall 1 F__law_number (fCons (fVar 2) fNil)) (fCons (fCall 1 F__law_number (fCons (fVar 2) fNil)) fNil)))
  (fSeq (fPar 5 6 (fCons (fOp dSub (fCall 2 F__law_take (fCons (fVar 2) (fCons (fC (.int 41)) fNil))) (fC (.int 20))) (fCons (fOp dSub (fCall 2 F__law_take (fCons (fVar 2) (fCons (fC (.int 41)) fNil))) (fC (.int 20))) fNil)))
  (fSeq (fSet 7 (fLst (fCons (fVar 3) (fCons (fVar 4) (fCons (fVar 5) (fCons (fTup (fCons (fVar 5) (fCons (fVar 6) fNil))) (fCons (fTup (fCons (fVar 5) fNil)) (fCons (fTup (fCons (fC (.bl true)) (fCons (fC (.int 1)) fNil))) (fCons (fTup (fCons (fC (.int 1)) (fCons (fC (.bl true)) fNil))) fNil)))))))))
  (fSeq (fFor (iLst (fOp dAdd (fVar 7) (fLst (fCons (fC (.bl true)) (fCons (fC (.bl false)) (fCons (fC .non) (fCons (fLst (fCons (fC (.int 1)) (fCons (fC (.int 1)) fNil))) (fCons (fC (.str "1")) (fCons (fTup fNil) fNil))))))))) (gNm 8)
  (fIfS (tNot1 (tV (fCall 1 F__law_looks_right (fCons (fVar 8) fNil))))
  (fRet (fC (.bl false)))
  fPass))
  (fSeq (fIfS (tOr2 (tNot1 (tV (fCall 2 F__law_reckoned (fCons (fVar 3) (fCons (fVar 4) fNil))))) (tNot1 (tV (fCall 2 F__law_reckoned (fCons (fVar 3) (fCons (fVar 3) fNil))))))
  (fRet (fC (.bl false)))
  fPass)
  (fSeq (fIfS (tAnd2 (tV (fOp dNe (fVar 6) (fC (.int 0)))) (tV (fOp dNe (fCallD 2 (F_number CF) (fCons (fVar 5) (fCons (fVar 6) fNil)) []) (fCall 2 F__law_low (fCons (fVar 5) (fCons (fVar 6) fNil))))))
  (fRet (fC (.bl false)))
  fPass)
  (fSeq (fIfS (tV (fOp dNe (fCallK 2 2 (F_number CF) swap2 (fCons (fC (.int 3)) (fCons (fVar 5) fNil))) (fCall 2 F__law_low (fCons (fVar 5) (fCons (fC (.int 3)) fNil)))))
  (fRet (fC (.bl false)))
  fPass)
  (fSeq (fSet 9 (fLst (fCons (fC .non) (fCons (fC (.bl true)) (fCons (fC (.str "1")) (fCons (fOp dAdd (fC (.int 1)) (fVar 1)) (fCons (fTup (fCons (fC (.int 1)) (fCons (fC (.int 1)) fNil))) (fCons (fLst (fCons (fC (.int 1)) fNil)) fNil))))))))
  (fSeq (fFor (iLst (fOp dAdd (fSlL (fVar 9) oNo (oSome (fC (.int 3)))) (fSlL (fVar 9) (oSome (fC (.int 4))) oNo))) (gNm 8)
  (fIfS (tOr2 (tNot1 (tV (fCall 2 (F__law_refused CF) (fCons (fVar 8) (fCons (fC (.int 1)) fNil))))) (tNot1 (tV (fCall 2 (F__law_refused CF) (fCons (fC (.int 1)) (fCons (fVar 8) fNil))))))
  (fRet (fC (.bl false)))
  fPass))
  (fIfS (tOr2 (tNot1 (tV (fCall 2 (F__law_refused CF) (fCons (fVar 5) (fCons (fC (.int 0)) fNil))))) (tOr2 (tV (fOp dNe (fCallD 2 (F_number CF) (fCons (fVar 5) fNil) [.int 1]) (fTup (fCons (fVar 5) (fCons (fC (.int 1)) fNil))))) (tV (fOp dNotN (fCall 2 F_over (fCons (fVar 3) (fCons (fTup (fCons (fC (.int 0)) (fCons (fC (.int 1)) fNil))) fNil))) (fC .non)))))
  (fRet (fC (.bl false)))
  fPass)))))))))))
noncomputable def rangeF : FA := (fCons (fCa bMax2 (fCons (fC (.int 1)) (fCons (fCa bMin2 (fCons (fCa bLen (fCons (fVar 0) fNil)) (fCons (fC (.int 30)) fNil))) fNil))) fNil)
theorem law_shape (CF : Addr) : F_law CF = fDef 1 10 ((fSeq (fIfS (tV (fOp dNe (fCallD 2 (F_number CF) (fCons (fOp dMul (fC (.int 6)) (fOp dPow (fC (.int 10)) (fC (.int 40)))) (fCons (fOp dMul (fUn dNeg (fC (.int 4))) (fOp dPow (fC (.int 10)) (fC (.int 40)))) fNil)) []) (fTup (fCons (fUn dNeg (fC (.int 3))) (fCons (fC (.int 2)) fNil)))))
  (fRet (fC (.bl false)))
  fPass)
  (fSeq (fFor (iRg1 rangeF) (gNm 1)
  (body1 CF))
  (fRet (fC (.bl true)))))) := rfl
/-! ### the law's loop -/
theorem rD_one_den (t : Int) : rD (Rat.divInt t 1) = .tup [.int t, .int 1] := by
  obtain ⟨e1, e2⟩ := divInt_low (a := t) (b := 1) (by decide) (by simp)
  unfold rD
  rw [e1, e2]
theorem ne_rD (r : Rat) (st : Sto) : dNe st (rD r) (rD r) = some (.bl false) := by simp
def itemBody : FS := (fIfS (tNot1 (tV (fCall 1 F__law_looks_right (fCons (fVar 8) fNil))))
  (fRet (fC (.bl false)))
  fPass)
def oddBody (CF : Addr) : FS := (fIfS (tOr2 (tNot1 (tV (fCall 2 (F__law_refused CF) (fCons (fVar 8) (fCons (fC (.int 1)) fNil))))) (tNot1 (tV (fCall 2 (F__law_refused CF) (fCons (fC (.int 1)) (fCons (fVar 8) fNil))))))
  (fRet (fC (.bl false)))
  fPass)
theorem item_loop (x0 x1 x2 x3 x4 x5 x6 x7 x9 : Option D) (st : Sto) : ∀ (ds : List D) (e8 : Option D), (∀ d ∈ ds, F__law_looks_right [d] st = some (.ok (.bl true) st)) → ∃ e8',
    forL (gNm 8) itemBody ds [x0, x1, x2, x3, x4, x5, x6, x7, e8, x9] st = some (.nx [x0, x1, x2, x3, x4, x5, x6, x7, e8', x9] st)
  | [], e8, _ => ⟨e8, rfl⟩
  | d :: ds, e8, h => by
    obtain ⟨e8', q⟩ := item_loop x0 x1 x2 x3 x4 x5 x6 x7 x9 st ds (some d) fun y m => h y (List.mem_cons_of_mem _ m)
    have hd := h d List.mem_cons_self
    refine ⟨e8', ?_⟩
    have step : itemBody [x0, x1, x2, x3, x4, x5, x6, x7, some d, x9] st = some (.nx [x0, x1, x2, x3, x4, x5, x6, x7, some d, x9] st) := by
      unfold itemBody
      simp [hd]
    unfold forL
    simp only [ap_nm, sb_ok, List.set_cons_succ, List.set_cons_zero]
    rw [step]
    exact q
theorem odd_loop (CF : Addr) (x0 x1 x2 x3 x4 x5 x6 x7 x9 : Option D) (st : Sto) : ∀ (ds : List D) (e8 : Option D), (∀ d ∈ ds, F_is_whole [d] st = some (.ok (.bl false) st)) → ∃ e8',
    forL (gNm 8) (oddBody CF) ds [x0, x1, x2, x3, x4, x5, x6, x7, e8, x9] st = some (.nx [x0, x1, x2, x3, x4, x5, x6, x7, e8', x9] st)
  | [], e8, _ => ⟨e8, rfl⟩
  | d :: ds, e8, h => by
    obtain ⟨e8', q⟩ := odd_loop CF x0 x1 x2 x3 x4 x5 x6 x7 x9 st ds (some d) fun y m => h y (List.mem_cons_of_mem _ m)
    have hd := h d List.mem_cons_self
    have r1 := refused_of CF d (.int 1) st (number_odd1 CF d 1 st hd)
    have r2 := refused_of CF (.int 1) d st (number_odd2 CF d 1 st hd)
    refine ⟨e8', ?_⟩
    have step : oddBody CF [x0, x1, x2, x3, x4, x5, x6, x7, some d, x9] st = some (.nx [x0, x1, x2, x3, x4, x5, x6, x7, some d, x9] st) := by
      unfold oddBody
      simp [r1, r2]
    unfold forL
    simp only [ap_nm, sb_ok, List.set_cons_succ, List.set_cons_zero]
    rw [step]
    exact q
/-! ### the law's one round -/
theorem first_eq (CF : Addr) (st : Sto) : F_number CF [.int (6 * 10 ^ 40), .int (-4 * 10 ^ 40)] st = some (.ok (.tup [.int (-3), .int 2]) st) := by
  rw [number_ok CF _ _ st (by decide) (by decide +kernel)]
  have e1 : (Rat.divInt (6 * 10 ^ 40) (-4 * 10 ^ 40)).num = -3 := by decide +kernel
  have e2 : (Rat.divInt (6 * 10 ^ 40) (-4 * 10 ^ 40)).den = 2 := by decide +kernel
  unfold rD
  rw [e1, e2]; rfl
theorem small_log {b : Int} (h : b.natAbs < 2 ^ 100) : b.natAbs.log2 < 8500 := Nat.lt_trans (Fx.log2_lt h (by decide)) (by decide)
theorem body1_eq (CF : Addr) (N : Nat) (hN : N ≤ 1048577) (ns : List Int) (hl : ns.length ≤ 63) (k : Nat) (st : Sto) (hb : ∀ z ∈ ns, z.natAbs < 2 ^ N) (hk : k < 63) (x2 x3 x4 x5 x6 x7 x8 x9 : Option D) :
    ∃ (y2 y3 y4 y5 y6 y7 y8 y9 : Option D) (s2 : Sto), body1 CF [some (.frz (ns.map D.int)), some (.int k), x2, x3, x4, x5, x6, x7, x8, x9] st = some (.nx [some (.frz (ns.map D.int)), some (.int k), y2, y3, y4, y5, y6, y7, y8, y9] s2) := by
  obtain ⟨c, c1, e1⟩ := pool_eq N hN ns k st hl hb hk
  obtain ⟨p, d1, hp, p1, t1⟩ := number_eq st.length (st ++ [c]) c last_get c1
  rw [last_set] at t1
  obtain ⟨q, d2, hq, p2, t2⟩ := number_eq st.length (st ++ [d1]) d1 last_get p1
  rw [last_set] at t2
  obtain ⟨v, d3, v0, v1, p3, t3⟩ := take_eq st.length 41 (st ++ [d2]) d2 (by decide) (by decide) last_get p2
  rw [last_set] at t3
  obtain ⟨w, d4, w0, w1, p4, t4⟩ := take_eq st.length 41 (st ++ [d3]) d3 (by decide) (by decide) last_get p3
  rw [last_set] at t4
  generalize hS : st ++ [d4] = S at t4
  obtain ⟨t, ht⟩ : ∃ t : Int, t = v - 20 := ⟨_, rfl⟩
  obtain ⟨b, hb'⟩ : ∃ b : Int, b = w - 20 := ⟨_, rfl⟩
  have tz : t.natAbs < 2 ^ 100 := Nat.lt_trans (show t.natAbs < 50 by omega) (by decide)
  have bz : b.natAbs < 2 ^ 100 := Nat.lt_trans (show b.natAbs < 50 by omega) (by decide)
  have s1 : ∀ st, dSub st (.int v) (.int 20) = some (.int t) := fun st => by rw [ht]; rfl
  have s2 : ∀ st, dSub st (.int w) (.int 20) = some (.int b) := fun st => by rw [hb']; rfl
  have hprs := hp.rs (by decide) (by decide)
  have hqrs := hq.rs (by decide) (by decide)
  obtain ⟨e8, I8⟩ := item_loop (some (.frz (ns.map D.int))) (some (.int k)) (some (.ref st.length)) (some (rD p)) (some (rD q)) (some (.int t)) (some (.int b)) (some (.lst [rD p, rD q, .int t, .tup [.int t, .int b], .tup [.int t], .tup [.bl true, .int 1], .tup [.int 1, .bl true]])) x9 S
    [rD p, rD q, .int t, .tup [.int t, .int b], .tup [.int t], .tup [.bl true, .int 1], .tup [.int 1, .bl true], .bl true, .bl false, .non, .lst [.int 1, .int 1], .str "1", .tup []] x8 (by
      have lr := looks_rest S
      intro d hd
      simp only [List.mem_cons, List.not_mem_nil, or_false] at hd
      rcases hd with rfl | rfl | rfl | rfl | rfl | rfl | rfl | rfl | rfl | rfl | rfl | rfl | rfl
      · exact looks_num p S hprs
      · exact looks_num q S hqrs
      · exact looks_int t S
      · exact looks_pair t b S tz bz
      · exact looks_one t S
      · exact lr _ (by simp)
      · exact lr _ (by simp)
      · exact looks_bl _ S
      · exact looks_bl _ S
      · exact lr _ (by simp)
      · exact lr _ (by simp)
      · exact lr _ (by simp)
      · exact lr _ (by simp))
  obtain ⟨f8, J8⟩ := odd_loop CF (some (.frz (ns.map D.int))) (some (.int k)) (some (.ref st.length)) (some (rD p)) (some (rD q)) (some (.int t)) (some (.int b)) (some (.lst [rD p, rD q, .int t, .tup [.int t, .int b], .tup [.int t], .tup [.bl true, .int 1], .tup [.int 1, .bl true]])) (some (.lst [.non, .bl true, .str "1", .int (1 + k), .tup [.int 1, .int 1], .lst [.int 1]])) S
    [.non, .bl true, .str "1", .tup [.int 1, .int 1], .lst [.int 1]] e8 (odd_whole S)
  have R1 := reckoned_eq p q S hp hq
  have R2 := reckoned_eq p p S hp hp
  have N3 := number_ok CF t 3 S (by decide) (by decide)
  have L3 := low_of t 3 _ S (by decide) (pow_up tz (by decide)) (by decide) rfl
  have N1 := number_ok CF t 1 S (by decide) (by decide)
  rw [rD_one_den] at N1
  have Z := refused_of CF (.int t) (.int 0) S (number_no CF t S)
  have O : F_over [rD p, .tup [.int 0, .int 1]] S = some (.ok .non S) := by
    rw [rD_zero, over_eq p 0 S hprs rs0, if_pos rfl]
  have cat : dAdd S (.lst [rD p, rD q, .int t, .tup [.int t, .int b], .tup [.int t], .tup [.bl true, .int 1], .tup [.int 1, .bl true]]) (.lst [.bl true, .bl false, .non, .lst [.int 1, .int 1], .str "1", .tup []]) = some (.lst [rD p, rD q, .int t, .tup [.int t, .int b], .tup [.int t], .tup [.bl true, .int 1], .tup [.int 1, .bl true], .bl true, .bl false, .non, .lst [.int 1, .int 1], .str "1", .tup []]) := rfl
  have cat2 : dAdd S (.lst [D.non, .bl true, .str "1"]) (.lst [.tup [.int 1, .int 1], .lst [.int 1]]) = some (.lst [.non, .bl true, .str "1", .tup [.int 1, .int 1], .lst [.int 1]]) := rfl
  have a1 : dAdd S (.int 1) (.int (k : Int)) = some (.int (1 + k)) := rfl
  have nt : dNe S (.tup [.int t, .int 1]) (.tup [.int t, .int 1]) = some (.bl false) := by
    rw [← rD_one_den]; exact ne_rD _ S
  have N7 : sb (tAnd2 (tV (fOp dNe (fVar 6) (fC (.int 0)))) (tV (fOp dNe (fCallD 2 (F_number CF) (fCons (fVar 5) (fCons (fVar 6) fNil)) []) (fCall 2 F__law_low (fCons (fVar 5) (fCons (fVar 6) fNil)))))
      [some (.frz (ns.map D.int)), some (.int k), some (.ref st.length), some (rD p), some (rD q), some (.int t), some (.int b), some (.lst [rD p, rD q, .int t, .tup [.int t, .int b], .tup [.int t], .tup [.bl true, .int 1], .tup [.int 1, .bl true]]), e8, x9] S) (fun c s1 => if c = true then (fRet (fC (.bl false))) [some (.frz (ns.map D.int)), some (.int k), some (.ref st.length), some (rD p), some (rD q), some (.int t), some (.int b), some (.lst [rD p, rD q, .int t, .tup [.int t, .int b], .tup [.int t], .tup [.bl true, .int 1], .tup [.int 1, .bl true]]), e8, x9] s1 else fPass [some (.frz (ns.map D.int)), some (.int k), some (.ref st.length), some (rD p), some (rD q), some (.int t), some (.int b), some (.lst [rD p, rD q, .int t, .tup [.int t, .int b], .tup [.int t], .tup [.bl true, .int 1], .tup [.int 1, .bl true]]), e8, x9] s1) = some (.nx [some (.frz (ns.map D.int)), some (.int k), some (.ref st.length), some (rD p), some (rD q), some (.int t), some (.int b), some (.lst [rD p, rD q, .int t, .tup [.int t, .int b], .tup [.int t], .tup [.bl true, .int 1], .tup [.int 1, .bl true]]), e8, x9] S) := by
    by_cases z : b = 0
    · simp [z]
    · have M1 := number_ok CF t b S z (small_log bz)
      have M2 := low_of t b _ S z (pow_up tz (by decide)) (pow_up bz (by decide)) rfl
      simp [z, fCallD, M1, M2]
  refine ⟨some (.ref st.length), some (rD p), some (rD q), some (.int t), some (.int b), some (.lst [rD p, rD q, .int t, .tup [.int t, .int b], .tup [.int t], .tup [.bl true, .int 1], .tup [.int 1, .bl true]]), f8, some (.lst [.non, .bl true, .str "1", .int (1 + k), .tup [.int 1, .int 1], .lst [.int 1]]), S, ?_⟩
  unfold body1
  refine (seq_nx (e1 := [some (.frz (ns.map D.int)), some (.int k), some (.ref st.length), x3, x4, x5, x6, x7, x8, x9]) (s1 := st ++ [c]) (by simp [e1])).trans ?_
  refine (seq_nx (e1 := [some (.frz (ns.map D.int)), some (.int k), some (.ref st.length), some (rD p), some (rD q), x5, x6, x7, x8, x9]) (s1 := st ++ [d2]) (by simp [t1, t2])).trans ?_
  refine (seq_nx (e1 := [some (.frz (ns.map D.int)), some (.int k), some (.ref st.length), some (rD p), some (rD q), some (.int t), some (.int b), x7, x8, x9]) (s1 := S) (by simp [t3, t4, s1, s2])).trans ?_
  refine (seq_nx (e1 := [some (.frz (ns.map D.int)), some (.int k), some (.ref st.length), some (rD p), some (rD q), some (.int t), some (.int b), some (.lst [rD p, rD q, .int t, .tup [.int t, .int b], .tup [.int t], .tup [.bl true, .int 1], .tup [.int 1, .bl true]]), x8, x9]) (s1 := S) (by simp)).trans ?_
  refine (seq_nx (e1 := [some (.frz (ns.map D.int)), some (.int k), some (.ref st.length), some (rD p), some (rD q), some (.int t), some (.int b), some (.lst [rD p, rD q, .int t, .tup [.int t, .int b], .tup [.int t], .tup [.bl true, .int 1], .tup [.int 1, .bl true]]), e8, x9]) (s1 := S) (by
    rw [ap_for]
    refine (congrArg (fun z => sb z _) (show _ = some (.ok [rD p, rD q, .int t, .tup [.int t, .int b], .tup [.int t], .tup [.bl true, .int 1], .tup [.int 1, .bl true], .bl true, .bl false, .non, .lst [.int 1, .int 1], .str "1", .tup []] S) by simp [cat, seqL])).trans ?_
    exact I8)).trans ?_
  refine (seq_nx (e1 := [some (.frz (ns.map D.int)), some (.int k), some (.ref st.length), some (rD p), some (rD q), some (.int t), some (.int b), some (.lst [rD p, rD q, .int t, .tup [.int t, .int b], .tup [.int t], .tup [.bl true, .int 1], .tup [.int 1, .bl true]]), e8, x9]) (s1 := S) (by simp [R1, R2])).trans ?_
  refine (seq_nx (e1 := [some (.frz (ns.map D.int)), some (.int k), some (.ref st.length), some (rD p), some (rD q), some (.int t), some (.int b), some (.lst [rD p, rD q, .int t, .tup [.int t, .int b], .tup [.int t], .tup [.bl true, .int 1], .tup [.int 1, .bl true]]), e8, x9]) (s1 := S) N7).trans ?_
  refine (seq_nx (e1 := [some (.frz (ns.map D.int)), some (.int k), some (.ref st.length), some (rD p), some (rD q), some (.int t), some (.int b), some (.lst [rD p, rD q, .int t, .tup [.int t, .int b], .tup [.int t], .tup [.bl true, .int 1], .tup [.int 1, .bl true]]), e8, x9]) (s1 := S) (by simp [fCallK, swap2, N3, L3])).trans ?_
  refine (seq_nx (e1 := [some (.frz (ns.map D.int)), some (.int k), some (.ref st.length), some (rD p), some (rD q), some (.int t), some (.int b), some (.lst [rD p, rD q, .int t, .tup [.int t, .int b], .tup [.int t], .tup [.bl true, .int 1], .tup [.int 1, .bl true]]), e8, some (.lst [.non, .bl true, .str "1", .int (1 + k), .tup [.int 1, .int 1], .lst [.int 1]])]) (s1 := S) (by simp [a1])).trans ?_
  refine (seq_nx (e1 := [some (.frz (ns.map D.int)), some (.int k), some (.ref st.length), some (rD p), some (rD q), some (.int t), some (.int b), some (.lst [rD p, rD q, .int t, .tup [.int t, .int b], .tup [.int t], .tup [.bl true, .int 1], .tup [.int 1, .bl true]]), f8, some (.lst [.non, .bl true, .str "1", .int (1 + k), .tup [.int 1, .int 1], .lst [.int 1]])]) (s1 := S) (by
    rw [ap_for]
    refine (congrArg (fun z => sb z _) (show _ = some (.ok [.non, .bl true, .str "1", .tup [.int 1, .int 1], .lst [.int 1]] S) by
      simp only [ap_iLst, ap_op, ap_slL, ap_var, ap_oNo, ap_oSome, ap_c, List.getElem?_cons_succ, List.getElem?_cons_zero, bnd_ok]
      rfl)).trans ?_
    exact J8)).trans ?_
  simp [Z, fCallD, N1, O, nt, dNotN]

theorem law_eq (CF : Addr) (N : Nat) (hN : N ≤ 1048577) (ns : List Int) (hl : ns.length ≤ 63) (hb : ∀ z ∈ ns, z.natAbs < 2 ^ N) : ∃ s2, F_law CF [.frz (ns.map D.int)] [] = some (.ok (.bl true) s2) := by
  obtain ⟨env2, s2, e⟩ := law_done (n := 8) (body := body1 CF) (ns := ns) fun k hk r hr st => by
    match r, hr with
    | [x2, x3, x4, x5, x6, x7, x8, x9], _ =>
      obtain ⟨y2, y3, y4, y5, y6, y7, y8, y9, s2, e⟩ := body1_eq CF N hN ns hl k st hb hk x2 x3 x4 x5 x6 x7 x8 x9
      exact ⟨_, s2, e, rfl⟩
  refine ⟨s2, ?_⟩
  rw [law_shape]
  refine def_rt rfl ?_
  refine (seq_nx (e1 := some (.frz (ns.map D.int)) :: List.replicate (8 + 1) none) (s1 := []) ?_).trans ?_
  · have F1 : F_number CF [.int 60000000000000000000000000000000000000000, .int (-40000000000000000000000000000000000000000)] [] = some (.ok (.tup [.int (-3), .int 2]) []) := first_eq CF []
    have m1 : dPow [] (.int 10) (.int 40) = some (.int (10 ^ 40)) := rfl
    have m2 : dMul [] (.int 6) (.int (10 ^ 40)) = some (.int (6 * 10 ^ 40)) := rfl
    have m3 : dMul [] (.int (-4)) (.int (10 ^ 40)) = some (.int (-4 * 10 ^ 40)) := rfl
    have n1 : dNeg [] (.int 4) = some (.int (-4)) := rfl
    have n2 : dNeg [] (.int 3) = some (.int (-3)) := rfl
    have nn : dNe [] (.tup [.int (-3), .int 2]) (.tup [.int (-3), .int 2]) = some (.bl false) := ne_same (e := .tuple [.int (-3), .int 2]) rfl rfl (by decide)
    simp only [ap_ifS, ap_tV, ap_op, ap_un, ap_c, ap_tup, ap_cons, ap_nil, bnd_ok, fCallD, m1, m2, m3, n1, n2, Option.map_some]
    simp [F1, nn, n2, List.replicate]
  · exact (seq_nx e).trans rfl
theorem law_sp {K : PySem.W.Frag} {H : Hp} {a : Addr} {ns : List Int} (CF : Addr) (hl : ns.length ≤ 63) (hbits : ∀ z ∈ ns, Builtin.Int.intBits z ≤ 1048576) (hS : SqL K H a (ns.map V.int)) :
    spF K 1 (F_law CF) [.ref a] H (fun v _ => v = .bl true) fun _ _ _ => False := law_spF hbits hS fun N hN hb => law_eq CF N hN ns hl hb
end
end L_k01
namespace L_k01
open PySem PySem.Spec PyProof.Rows L2 Fx
/-! ### what the top has written; the law's own head -/
def dd_is_whole : He.DefD := ⟨("is_whole", none), "is_whole", "is_whole", defArgs s_is_whole, defBody s_is_whole, defScope s_is_whole, [], []⟩
def dd_divisor_of : He.DefD := ⟨("divisor_of", none), "divisor_of", "divisor_of", defArgs s_divisor_of, defBody s_divisor_of, defScope s_divisor_of, [], []⟩
def dd_is_number : He.DefD := ⟨("is_number", none), "is_number", "is_number", defArgs s_is_number, defBody s_is_number, defScope s_is_number, [], []⟩
def dd_is_worth : He.DefD := ⟨("is_worth", none), "is_worth", "is_worth", defArgs s_is_worth, defBody s_is_worth, defScope s_is_worth, [], []⟩
def dd_kind_of_worth : He.DefD := ⟨("kind_of_worth", none), "kind_of_worth", "kind_of_worth", defArgs s_kind_of_worth, defBody s_kind_of_worth, defScope s_kind_of_worth, [], []⟩
def dd_lowest : He.DefD := ⟨("lowest", none), "lowest", "lowest", defArgs s_lowest, defBody s_lowest, defScope s_lowest, [], []⟩
def dd_number : He.DefD := ⟨("number", none), "number", "number", defArgs s_number, defBody s_number, defScope s_number, [.int 1], []⟩
def dd_plus : He.DefD := ⟨("plus", none), "plus", "plus", defArgs s_plus, defBody s_plus, defScope s_plus, [], []⟩
def dd_minus : He.DefD := ⟨("minus", none), "minus", "minus", defArgs s_minus, defBody s_minus, defScope s_minus, [], []⟩
def dd_times : He.DefD := ⟨("times", none), "times", "times", defArgs s_times, defBody s_times, defScope s_times, [], []⟩
def dd_over : He.DefD := ⟨("over", none), "over", "over", defArgs s_over, defBody s_over, defScope s_over, [], []⟩
def dd_is_less : He.DefD := ⟨("is_less", none), "is_less", "is_less", defArgs s_is_less, defBody s_is_less, defScope s_is_less, [], []⟩
def dd_least : He.DefD := ⟨("least", none), "least", "least", defArgs s_least, defBody s_least, defScope s_least, [], []⟩
def dd_most : He.DefD := ⟨("most", none), "most", "most", defArgs s_most, defBody s_most, defScope s_most, [], []⟩
def dd_is_whole_worth : He.DefD := ⟨("is_whole_worth", none), "is_whole_worth", "is_whole_worth", defArgs s_is_whole_worth, defBody s_is_whole_worth, defScope s_is_whole_worth, [], []⟩
def dd__law_pool : He.DefD := ⟨("_law_pool", none), "_law_pool", "_law_pool", defArgs s__law_pool, defBody s__law_pool, defScope s__law_pool, [], []⟩
def dd__law_take : He.DefD := ⟨("_law_take", none), "_law_take", "_law_take", defArgs s__law_take, defBody s__law_take, defScope s__law_take, [], []⟩
def dd__law_low : He.DefD := ⟨("_law_low", none), "_law_low", "_law_low", defArgs s__law_low, defBody s__law_low, defScope s__law_low, [], []⟩
def dd__law_number : He.DefD := ⟨("_law_number", none), "_law_number", "_law_number", defArgs s__law_number, defBody s__law_number, defScope s__law_number, [], []⟩
def dd__law_of_two : He.DefD := ⟨("_law_of_two", none), "_law_of_two", "_law_of_two", defArgs s__law_of_two, defBody s__law_of_two, defScope s__law_of_two, [], []⟩
def dd__law_is_number : He.DefD := ⟨("_law_is_number", none), "_law_is_number", "_law_is_number", defArgs s__law_is_number, defBody s__law_is_number, defScope s__law_is_number, [], []⟩
def dd__law_looks_right : He.DefD := ⟨("_law_looks_right", none), "_law_looks_right", "_law_looks_right", defArgs s__law_looks_right, defBody s__law_looks_right, defScope s__law_looks_right, [], []⟩
def dd__law_refused : He.DefD := ⟨("_law_refused", none), "_law_refused", "_law_refused", defArgs s__law_refused, defBody s__law_refused, defScope s__law_refused, [], []⟩
def dd__law_reckoned : He.DefD := ⟨("_law_reckoned", none), "_law_reckoned", "_law_reckoned", defArgs s__law_reckoned, defBody s__law_reckoned, defScope s__law_reckoned, [], []⟩
def dd_law : He.DefD := ⟨("law", none), "law", "law", defArgs s_law, defBody s_law, defScope s_law, [], []⟩
def fnL : List He.DefD := [dd_is_whole, dd_divisor_of, dd_is_number, dd_is_worth, dd_kind_of_worth, dd_lowest, dd_number, dd_plus, dd_minus, dd_times, dd_over, dd_is_less, dd_least, dd_most, dd_is_whole_worth, dd__law_pool, dd__law_take, dd__law_low, dd__law_number, dd__law_of_two, dd__law_is_number, dd__law_looks_right, dd__law_refused, dd__law_reckoned, dd_law]
def faL : List He.Fa := [.glo "is_whole", .glo "divisor_of", .glo "is_number", .glo "is_worth", .glo "kind_of_worth", .glo "lowest", .glo "number", .glo "plus", .glo "minus", .glo "times", .glo "over", .glo "is_less", .glo "least", .glo "most", .glo "is_whole_worth", .glo "_law_pool", .glo "_law_take", .glo "_law_low", .glo "_law_number", .glo "_law_of_two", .glo "_law_is_number", .glo "_law_looks_right", .glo "_law_refused", .glo "_law_reckoned", .glo "law", .free "abs", .free "all", .free "bool", .free "int", .free "isinstance", .free "len", .free "max", .free "min", .free "range", .free "repr", .free "sum", .free "tuple", .str "NUMBER" "number", .str "TRUTH" "truth", .glo "NoWorth", .glo "CellError", .glo "NoTerm"]
def moreL (K : PySem.W.Frag) : Bool := decide (PySem.W.excIn K (He.ga K "NoWorth") [.type "ValueError", .type "Exception", .type "BaseException", .type "object"] "ValueError.__new__" = true) && (PySem.W.keepIn K (.ref (He.ga K "NoWorth")) && (decide (PySem.W.subIn K (.ref (He.ga K "NoWorth")) (.type "BaseException") = some true) && (decide (PySem.W.typeIn K (.ref (He.ga K "NoWorth")) = some (.type "type")) && (decide (PySem.W.exmOne K (.ref (He.ga K "NoWorth")) (.ref (He.ga K "NoWorth")) = some true) && (decide (PySem.W.kitOne K (.ref (He.ga K "NoWorth")) (.ref (He.ga K "CellError")) = some true) && (decide (PySem.W.kitOne K (.ref (He.ga K "NoWorth")) (.ref (He.ga K "NoTerm")) = some false) && excB K (He.ga K "NoWorth")))))))
def chkL : PySem.W.Frag → Bool := chkF faL moreL
theorem all_mk {P : Program} {w : World} {K : PySem.W.Frag} {h : Heap} {mg : Str → Option Value} {fa : Addr} (X : K.In h) (G : h.Ns mainGlobals mg) (hfa : mg ("law" : Str) = some (.ref fa)) (c : SaysX chkL fnL K) :
    ∃ fd : FuncData, (∀ (s : Shared) (v : Value), BindsTo s fd ⟨[v], []⟩ [("script", v)]) ∧ ∀ base : Heap, K.In base → base.Ns mainGlobals mg → GnOk P w K mg base CX0 5 fa fd ["script"] (spF K 1 (F_law (He.ga K "NoWorth"))) := by
  obtain ⟨fd0, D0⟩ := c.def_ 0 (d := dd_is_whole) rfl
  have F0 := fun_ofD (st := s_is_whole) D0
  obtain ⟨fd1, D1⟩ := c.def_ 1 (d := dd_divisor_of) rfl
  have F1 := fun_ofD (st := s_divisor_of) D1
  obtain ⟨fd2, D2⟩ := c.def_ 2 (d := dd_is_number) rfl
  have F2 := fun_ofD (st := s_is_number) D2
  obtain ⟨fd3, D3⟩ := c.def_ 3 (d := dd_is_worth) rfl
  have F3 := fun_ofD (st := s_is_worth) D3
  obtain ⟨fd4, D4⟩ := c.def_ 4 (d := dd_kind_of_worth) rfl
  have F4 := fun_ofD (st := s_kind_of_worth) D4
  obtain ⟨fd5, D5⟩ := c.def_ 5 (d := dd_lowest) rfl
  have F5 := fun_ofD (st := s_lowest) D5
  obtain ⟨fd6, F6⟩ := c.def_ 6 (d := dd_number) rfl
  obtain ⟨fd7, D7⟩ := c.def_ 7 (d := dd_plus) rfl
  have F7 := fun_ofD (st := s_plus) D7
  obtain ⟨fd8, D8⟩ := c.def_ 8 (d := dd_minus) rfl
  have F8 := fun_ofD (st := s_minus) D8
  obtain ⟨fd9, D9⟩ := c.def_ 9 (d := dd_times) rfl
  have F9 := fun_ofD (st := s_times) D9
  obtain ⟨fd10, D10⟩ := c.def_ 10 (d := dd_over) rfl
  have F10 := fun_ofD (st := s_over) D10
  obtain ⟨fd11, D11⟩ := c.def_ 11 (d := dd_is_less) rfl
  have F11 := fun_ofD (st := s_is_less) D11
  obtain ⟨fd12, D12⟩ := c.def_ 12 (d := dd_least) rfl
  have F12 := fun_ofD (st := s_least) D12
  obtain ⟨fd13, D13⟩ := c.def_ 13 (d := dd_most) rfl
  have F13 := fun_ofD (st := s_most) D13
  obtain ⟨fd14, D14⟩ := c.def_ 14 (d := dd_is_whole_worth) rfl
  have F14 := fun_ofD (st := s_is_whole_worth) D14
  obtain ⟨fd15, D15⟩ := c.def_ 15 (d := dd__law_pool) rfl
  have F15 := fun_ofD (st := s__law_pool) D15
  obtain ⟨fd16, D16⟩ := c.def_ 16 (d := dd__law_take) rfl
  have F16 := fun_ofD (st := s__law_take) D16
  obtain ⟨fd17, D17⟩ := c.def_ 17 (d := dd__law_low) rfl
  have F17 := fun_ofD (st := s__law_low) D17
  obtain ⟨fd18, D18⟩ := c.def_ 18 (d := dd__law_number) rfl
  have F18 := fun_ofD (st := s__law_number) D18
  obtain ⟨fd19, D19⟩ := c.def_ 19 (d := dd__law_of_two) rfl
  have F19 := fun_ofD (st := s__law_of_two) D19
  obtain ⟨fd20, D20⟩ := c.def_ 20 (d := dd__law_is_number) rfl
  have F20 := fun_ofD (st := s__law_is_number) D20
  obtain ⟨fd21, D21⟩ := c.def_ 21 (d := dd__law_looks_right) rfl
  have F21 := fun_ofD (st := s__law_looks_right) D21
  obtain ⟨fd22, D22⟩ := c.def_ 22 (d := dd__law_refused) rfl
  have F22 := fun_ofD (st := s__law_refused) D22
  obtain ⟨fd23, D23⟩ := c.def_ 23 (d := dd__law_reckoned) rfl
  have F23 := fun_ofD (st := s__law_reckoned) D23
  obtain ⟨fd24, D24⟩ := c.def_ 24 (d := dd_law) rfl
  have F24 := fun_ofD (st := s_law) D24
  have e := hfa.symm.trans (He.glo_ok X G (chkF_fact c.ck 24 (f := .glo "law") rfl))
  cases e
  have B : Bi mg := ⟨He.free_ok X G (chkF_fact c.ck 25 (f := .free "abs") rfl), He.free_ok X G (chkF_fact c.ck 26 (f := .free "all") rfl), He.free_ok X G (chkF_fact c.ck 27 (f := .free "bool") rfl), He.free_ok X G (chkF_fact c.ck 28 (f := .free "int") rfl), He.free_ok X G (chkF_fact c.ck 29 (f := .free "isinstance") rfl), He.free_ok X G (chkF_fact c.ck 30 (f := .free "len") rfl), He.free_ok X G (chkF_fact c.ck 31 (f := .free "max") rfl), He.free_ok X G (chkF_fact c.ck 32 (f := .free "min") rfl), He.free_ok X G (chkF_fact c.ck 33 (f := .free "range") rfl), He.free_ok X G (chkF_fact c.ck 34 (f := .free "repr") rfl), He.free_ok X G (chkF_fact c.ck 35 (f := .free "sum") rfl), He.free_ok X G (chkF_fact c.ck 36 (f := .free "tuple") rfl), He.str_ok X G (chkF_fact c.ck 37 (f := .str "NUMBER" "number") rfl), He.str_ok X G (chkF_fact c.ck 38 (f := .str "TRUTH" "truth") rfl)⟩
  have m0 := He.glo_ok X G (chkF_fact c.ck 0 (f := .glo "is_whole") rfl)
  have m1 := He.glo_ok X G (chkF_fact c.ck 1 (f := .glo "divisor_of") rfl)
  have m2 := He.glo_ok X G (chkF_fact c.ck 2 (f := .glo "is_number") rfl)
  have m3 := He.glo_ok X G (chkF_fact c.ck 3 (f := .glo "is_worth") rfl)
  have m4 := He.glo_ok X G (chkF_fact c.ck 4 (f := .glo "kind_of_worth") rfl)
  have m5 := He.glo_ok X G (chkF_fact c.ck 5 (f := .glo "lowest") rfl)
  have m6 := He.glo_ok X G (chkF_fact c.ck 6 (f := .glo "number") rfl)
  have m7 := He.glo_ok X G (chkF_fact c.ck 7 (f := .glo "plus") rfl)
  have m8 := He.glo_ok X G (chkF_fact c.ck 8 (f := .glo "minus") rfl)
  have m9 := He.glo_ok X G (chkF_fact c.ck 9 (f := .glo "times") rfl)
  have m10 := He.glo_ok X G (chkF_fact c.ck 10 (f := .glo "over") rfl)
  have m11 := He.glo_ok X G (chkF_fact c.ck 11 (f := .glo "is_less") rfl)
  have m12 := He.glo_ok X G (chkF_fact c.ck 12 (f := .glo "least") rfl)
  have m13 := He.glo_ok X G (chkF_fact c.ck 13 (f := .glo "most") rfl)
  have m14 := He.glo_ok X G (chkF_fact c.ck 14 (f := .glo "is_whole_worth") rfl)
  have m15 := He.glo_ok X G (chkF_fact c.ck 15 (f := .glo "_law_pool") rfl)
  have m16 := He.glo_ok X G (chkF_fact c.ck 16 (f := .glo "_law_take") rfl)
  have m17 := He.glo_ok X G (chkF_fact c.ck 17 (f := .glo "_law_low") rfl)
  have m18 := He.glo_ok X G (chkF_fact c.ck 18 (f := .glo "_law_number") rfl)
  have m19 := He.glo_ok X G (chkF_fact c.ck 19 (f := .glo "_law_of_two") rfl)
  have m20 := He.glo_ok X G (chkF_fact c.ck 20 (f := .glo "_law_is_number") rfl)
  have m21 := He.glo_ok X G (chkF_fact c.ck 21 (f := .glo "_law_looks_right") rfl)
  have m22 := He.glo_ok X G (chkF_fact c.ck 22 (f := .glo "_law_refused") rfl)
  have m23 := He.glo_ok X G (chkF_fact c.ck 23 (f := .glo "_law_reckoned") rfl)
  have m24 := He.glo_ok X G (chkF_fact c.ck 24 (f := .glo "law") rfl)
  have b0 := F0.binds (ps := ["thing"]) fun _ _ _ _ _ _ us hl => match us, hl with | [_], _ => rfl
  have b1 := F1.binds (ps := ["one", "other"]) fun _ _ _ _ _ _ us hl => match us, hl with | [_, _], _ => rfl
  have b2 := F2.binds (ps := ["thing"]) fun _ _ _ _ _ _ us hl => match us, hl with | [_], _ => rfl
  have b3 := F3.binds (ps := ["thing"]) fun _ _ _ _ _ _ us hl => match us, hl with | [_], _ => rfl
  have b4 := F4.binds (ps := ["worth"]) fun _ _ _ _ _ _ us hl => match us, hl with | [_], _ => rfl
  have b5 := F5.binds (ps := ["top", "bottom"]) fun _ _ _ _ _ _ us hl => match us, hl with | [_, _], _ => rfl
  have b7 := F7.binds (ps := ["one", "other"]) fun _ _ _ _ _ _ us hl => match us, hl with | [_, _], _ => rfl
  have b8 := F8.binds (ps := ["one", "other"]) fun _ _ _ _ _ _ us hl => match us, hl with | [_, _], _ => rfl
  have b9 := F9.binds (ps := ["one", "other"]) fun _ _ _ _ _ _ us hl => match us, hl with | [_, _], _ => rfl
  have b10 := F10.binds (ps := ["one", "other"]) fun _ _ _ _ _ _ us hl => match us, hl with | [_, _], _ => rfl
  have b11 := F11.binds (ps := ["one", "other"]) fun _ _ _ _ _ _ us hl => match us, hl with | [_, _], _ => rfl
  have b12 := F12.binds (ps := ["one", "other"]) fun _ _ _ _ _ _ us hl => match us, hl with | [_, _], _ => rfl
  have b13 := F13.binds (ps := ["one", "other"]) fun _ _ _ _ _ _ us hl => match us, hl with | [_, _], _ => rfl
  have b14 := F14.binds (ps := ["worth"]) fun _ _ _ _ _ _ us hl => match us, hl with | [_], _ => rfl
  have b15 := F15.binds (ps := ["script", "k"]) fun _ _ _ _ _ _ us hl => match us, hl with | [_, _], _ => rfl
  have b16 := F16.binds (ps := ["pool", "many"]) fun _ _ _ _ _ _ us hl => match us, hl with | [_, _], _ => rfl
  have b17 := F17.binds (ps := ["top_here", "bottom_here"]) fun _ _ _ _ _ _ us hl => match us, hl with | [_, _], _ => rfl
  have b18 := F18.binds (ps := ["pool"]) fun _ _ _ _ _ _ us hl => match us, hl with | [_], _ => rfl
  have b19 := F19.binds (ps := ["word", "entry", "other_here"]) fun _ _ _ _ _ _ us hl => match us, hl with | [_, _, _], _ => rfl
  have b20 := F20.binds (ps := ["item"]) fun _ _ _ _ _ _ us hl => match us, hl with | [_], _ => rfl
  have b21 := F21.binds (ps := ["item"]) fun _ _ _ _ _ _ us hl => match us, hl with | [_], _ => rfl
  have b22 := F22.binds (ps := ["top_here", "bottom_here"]) fun _ _ _ _ _ _ us hl => match us, hl with | [_, _], _ => rfl
  have b23 := F23.binds (ps := ["entry", "other_here"]) fun _ _ _ _ _ _ us hl => match us, hl with | [_, _], _ => rfl
  have cm := chkF_more c.ck
  obtain ⟨q1, cm⟩ := He.ba cm
  obtain ⟨q2, cm⟩ := He.ba cm
  obtain ⟨q3, cm⟩ := He.ba cm
  obtain ⟨q4, cm⟩ := He.ba cm
  obtain ⟨q5, cm⟩ := He.ba cm
  obtain ⟨q6, cm⟩ := He.ba cm
  obtain ⟨q7, cm⟩ := He.ba cm
  have T : Cs K mg (He.ga K "NoWorth") (He.ga K "CellError") (He.ga K "NoTerm") := ⟨of_decide_eq_true q1, He.glo_ok X G (chkF_fact c.ck 39 (f := .glo "NoWorth") rfl), He.glo_ok X G (chkF_fact c.ck 40 (f := .glo "CellError") rfl), He.glo_ok X G (chkF_fact c.ck 41 (f := .glo "NoTerm") rfl), q2, of_decide_eq_true q3, of_decide_eq_true q4, of_decide_eq_true q5, excB_ok cm, of_decide_eq_true q6, of_decide_eq_true q7⟩
  refine ⟨fd24, fun s v => FunD.bindsA (ps := ["script"]) D24 (fun _ _ _ _ _ _ us hl => match us, hl with | [_], _ => rfl) s [v] rfl, fun base _ _ => ?_⟩
  have g_is_whole := d_is_whole (P := P) (w := w) (base := base) B   F0 m0 b0
  have g_divisor_of := d_divisor_of (P := P) (w := w) (base := base) B   F1 m1 b1
  have g_is_number := d_is_number (P := P) (w := w) (base := base) B  g_is_whole g_divisor_of F2 m2 b2
  have g_is_worth := d_is_worth (P := P) (w := w) (base := base) B  g_is_number F3 m3 b3
  have g_k_is_worth_thing : DfK P w K mg base L2.CX0 3 "is_worth" 1 F_is_worth ["thing"] id := dfk_gn (g := fun {α} => (fun l => l)) (gn_is_worth B g_is_number F3) F3 m3 (fun kV doc pm an cdv ct ws hl => match ws, hl with | [_], _ => rfl) (fun h => id_vals h) (fun _ _ _ _ _ h => h)
  have g_kind_of_worth := d_kind_of_worth (P := P) (w := w) (base := base) B   F4 m4 b4
  have g_lowest := d_lowest (P := P) (w := w) (base := base) B  g_divisor_of F5 m5 b5
  have g_p2_number : DfG P w K mg base (L2.CX P w) 3 "number" 2 (F_number (He.ga K "NoWorth")) [] := by
    obtain ⟨ds, hv, hb⟩ := F6.binds1 (ps := ["top", "bottom"]) 2 1 (by simp [dd_number, He.DefD.dvs]) (by rfl) (fun T kV doc pm an cdv ct us its hu hi => match us, its, hu, hi with | [_, _], [_], _, _ => ⟨_, rfl, rfl⟩)
    exact ⟨_, _, _, ds, gn_number T g_is_whole g_lowest F6, m6, F6.kp, hb, hv⟩
  have g_k_number_bottom_top : DfK P w K mg base (L2.CX P w) 3 "number" 2 (F_number (He.ga K "NoWorth")) ["bottom", "top"] swap2 := by
    obtain ⟨its, hb⟩ := FunD.kbindsD (ps := ["top", "bottom"]) F6 0 ["bottom", "top"] (fun _ _ ws => swap2 ws) (by simp [dd_number, He.DefD.dvs]) (fun _ _ hz => swap2_vals hz) (fun T kV doc pm an cdv ct us its ws hu hi hw => match us, its, ws, hu, hi, hw with | [], [_], [_, _], _, _, _ => ⟨_, rfl, rfl⟩)
    exact ⟨_, _, _, _, _, gn_number T g_is_whole g_lowest F6, m6, F6.kp, hb, (fun _ _ => swap2_dr)⟩
  have g_p1_number : DfG P w K mg base (L2.CX P w) 3 "number" 2 (F_number (He.ga K "NoWorth")) [V.int 1] := by
    obtain ⟨ds, hv, hb⟩ := F6.binds1 (ps := ["top", "bottom"]) 1 0 (by simp [dd_number, He.DefD.dvs]) (by rfl) (fun T kV doc pm an cdv ct us its hu hi => match us, its, hu, hi with | [_], [_], _, _ => ⟨_, rfl, rfl⟩)
    exact ⟨_, _, _, ds, gn_number T g_is_whole g_lowest F6, m6, F6.kp, hb, hv⟩
  have g_plus := d_plus (P := P) (w := w) (base := base) B  g_lowest F7 m7 b7
  have g_k_plus_other_one : DfK P w K mg base L2.CX0 3 "plus" 2 F_plus ["other", "one"] swap2 := dfk_gn (g := fun {α} => swap2) (gn_plus B g_lowest F7) F7 m7 (fun kV doc pm an cdv ct ws hl => match ws, hl with | [_, _], _ => rfl) (fun h => swap2_vals h) (fun _ _ => swap2_dr)
  have g_minus := d_minus (P := P) (w := w) (base := base) B  g_lowest F8 m8 b8
  have g_times := d_times (P := P) (w := w) (base := base) B  g_lowest F9 m9 b9
  have g_over := d_over (P := P) (w := w) (base := base) B  g_lowest F10 m10 b10
  have g_k_over_other_one : DfK P w K mg base L2.CX0 3 "over" 2 F_over ["other", "one"] swap2 := dfk_gn (g := fun {α} => swap2) (gn_over B g_lowest F10) F10 m10 (fun kV doc pm an cdv ct ws hl => match ws, hl with | [_, _], _ => rfl) (fun h => swap2_vals h) (fun _ _ => swap2_dr)
  have g_is_less := d_is_less (P := P) (w := w) (base := base) B   F11 m11 b11
  have g_least := d_least (P := P) (w := w) (base := base) B  g_is_less F12 m12 b12
  have g_most := d_most (P := P) (w := w) (base := base) B  g_is_less F13 m13 b13
  have g_is_whole_worth := d_is_whole_worth (P := P) (w := w) (base := base) B   F14 m14 b14
  have g__law_pool := d__law_pool (P := P) (w := w) (base := base) B   F15 m15 b15
  have g__law_take := d__law_take (P := P) (w := w) (base := base) B   F16 m16 b16
  have g__law_low := d__law_low (P := P) (w := w) (base := base) B   F17 m17 b17
  have g__law_number := d__law_number (P := P) (w := w) (base := base) B  g__law_low g__law_take F18 m18 b18
  have g__law_of_two := d__law_of_two (P := P) (w := w) (base := base) B  g__law_low F19 m19 b19
  have g__law_is_number := d__law_is_number (P := P) (w := w) (base := base) B  g__law_low F20 m20 b20
  have g__law_looks_right := d__law_looks_right (P := P) (w := w) (base := base) B  g__law_is_number g_is_worth g_is_number g_is_whole g_k_is_worth_thing g_kind_of_worth g_is_whole_worth F21 m21 b21
  have g__law_refused := d__law_refused (P := P) (w := w) (base := base) B T g_p2_number F22 m22 b22
  have g__law_reckoned := d__law_reckoned (P := P) (w := w) (base := base) B  g_over g_times g_minus g_plus g_is_less g_most g_least g__law_of_two g_k_plus_other_one g_k_over_other_one F23 m23 b23
  exact ok_law B g_p2_number g__law_pool g__law_number g__law_take g__law_looks_right g__law_reckoned g__law_low g_k_number_bottom_top g__law_refused g_p1_number g_over F24
end L_k01
namespace L_k01
open PySem PySem.Spec PyProof.Rows L2 Fx
abbrev hR : PySem.W.OpenRow := PySem.W.OpenLaw.row PySem.Challenge.rw_fewestsent_k01_worths
def loose0 : List PySem.Str := ["CellError", "NoTerm", "NoWorth", "NUMBER", "TRUTH", "is_whole", "divisor_of", "is_number", "is_worth", "kind_of_worth", "lowest", "number", "plus", "minus", "times", "over", "is_less", "least", "most", "is_whole_worth", "_law_pool", "_law_take", "_law_low", "_law_number", "_law_of_two", "_law_is_number", "_law_looks_right", "_law_refused", "_law_reckoned"]
def looseL : List PySem.Str := loose0
abbrev hkL : PySem.W.Hook := hookX 5 chkL fnL
def obL (s : PySem.W.SharedT) : AlX := obsXG 5 chkL fnL (HandSHeadRun.getT s)
theorem obL_eq (s : PySem.W.SharedT) : obL s = hkL.obs s.abs := obsXG_eq (HandSHeadRun.getT_eq s)
set_option maxHeartbeats 0 in
theorem runL (w : World) : HandSHeadRun.RunEq hR (PySem.W.view hR.prog [32]) hkL obL 1720 looseL w := by
  intro os
  kernel_rfl
end L_k01
open PySem PySem.W PySem.Calls PyProof.Rows
set_option maxHeartbeats 0 in
theorem PySem.Challenge.cw_fewestsent_k01_worths_holds : PySem.Challenge.rw_fewestsent_k01_worths.Holds := by
  w_on; o_law
  refine HandSHeadRun.head_any (r := OpenLaw.row PySem.Challenge.rw_fewestsent_k01_worths) (q := view (OpenLaw.row PySem.Challenge.rw_fewestsent_k01_worths).prog [32]) (H := L_k01.hkL) (ob := L_k01.obL) (M := 1720) (loose := L_k01.looseL) (d := HandSHeadRun.topDef (OpenLaw.row PySem.Challenge.rw_fewestsent_k01_worths).prog 32) (kwd := []) L_k01.obL_eq
    (by kernel_rfl) (fun s => by kernel_rfl) L_k01.runL (by kernel_rfl) (by kernel_rfl) (by kernel_rfl) (by rfl) (by first | assumption | decide +kernel) (by decide +kernel) ⟨rfl, rfl, rfl, rfl, rfl, by decide +kernel⟩ ?hw ?hc
  case hw => w_witness2
  case hc =>
    refine Fx.walk_gnE (l := PySem.Challenge.rw_fewestsent_k01_worths) (n := 63) (k := 5) (x := "script") (CX := L2.CX0) rfl (by decide) (by kernel_rfl) ⟨rfl, by decide, by decide⟩ ?F (fun _ _ _ _ z => z)
    intro w mg fa h Y G hmg0
    obtain ⟨K, KX, c⟩ := Y
    have hmg : mg ("law" : PySem.Str) = some (.ref fa) := by
      have e : (HandSHeadRun.topDef (OpenLaw.row PySem.Challenge.rw_fewestsent_k01_worths).prog 32).name = ("law" : PySem.Str) := by kernel_rfl
      rw [← e]
      exact hmg0
    obtain ⟨fd, hb, hF⟩ := L_k01.all_mk (P := (PySem.Challenge.rw_fewestsent_k01_worths).prog) (w := w) KX G hmg c
    exact ⟨K, fd, _, KX, hb, fun H a ns hl hbits _ hS => L_k01.law_sp _ hl hbits hS, hF⟩
#print axioms PySem.Challenge.cw_fewestsent_k01_worths_holds
