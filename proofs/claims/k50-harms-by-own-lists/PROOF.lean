import PyProof.Rows.All
import Wide.All
import OpenK.AllK
import Wide.FinOn
import HandS.ForMost
import HandS.ForExc
import HandS.TupAny
import HandS.CallSlots
import HandS.IsInst
import KE.GoesMore
import HandS.Iter
import HandS.ExcSuper
import HandS.ExcIs
import HandS.TryMany
import KE.KSuper
import KE.KExcSuper
import HandS.ExcInit
import KE.KExcIs
import PyProof.Rows.ReprR
import HandS.Ends
import HandS.HeadEnd
import HandS.Defaults
import HandS.HeadHook3
import HandS.WordsDict
import PySem.Challenge.RW_mendvault_k50_harms_by_own_lists
import PyProof.ReprLen
import PyProof.Rows.ReprShort
import HandS.HeadHook2
import HandS.Head0
import HandS.Head1
import HandS.Head2
section
set_option Elab.async false
set_option linter.all false
set_option maxRecDepth 100000
set_option maxHeartbeats 4000000
/-! The layer D: values as trees. D: frozen (shared) trees; O: owned trees (what may still be written). -/
namespace DL
open PySem L2

/-- a frozen tree -/
inductive D where
  | non | bl (b : Bool) | int (i : Int) | str (s : Str)
  | tup (xs : List D) | lst (xs : List D) | rol (xs : List D) | dic (kvs : List (Key × D)) | dct (kvs : List (List Key × D)) | obj (c : Nat) (fs : List D)
/-- a tree of which the upper part is owned: nobody else has it -/
inductive O where
  | fz (d : D)
  | lst (xs : List O) | dic (kvs : List (Key × O)) | dct (kvs : List (List Key × O)) | obj (c : Nat) (fs : List O)

mutual
def frz : O → D
  | .fz d => d
  | .lst xs => .lst (frzs xs)
  | .dic kvs => .dic (frzk kvs)
  | .dct kvs => .dct (frzt kvs)
  | .obj c fs => .obj c (frzs fs)
def frzs : List O → List D
  | [] => []
  | x :: xs => frz x :: frzs xs
def frzk : List (Key × O) → List (Key × D)
  | [] => []
  | (k, x) :: xs => (k, frz x) :: frzk xs
def frzt : List (List Key × O) → List (List Key × D)
  | [] => []
  | (k, x) :: xs => (k, frz x) :: frzt xs
end
theorem frzs_map : ∀ xs : List O, frzs xs = xs.map frz
  | [] => rfl
  | x :: xs => by rw [frzs, frzs_map xs]; rfl
theorem frzk_map : ∀ xs : List (Key × O), frzk xs = xs.map fun p => (p.1, frz p.2)
  | [] => rfl
  | (k, x) :: xs => by rw [frzk, frzk_map xs]; rfl
theorem frzt_map : ∀ xs : List (List Key × O), frzt xs = xs.map fun p => (p.1, frz p.2)
  | [] => rfl
  | (k, x) :: xs => by rw [frzt, frzt_map xs]; rfl
@[simp] theorem frz_fz (d : D) : frz (.fz d) = d := by simp [frz]
@[simp] theorem frz_lst (xs : List O) : frz (.lst xs) = .lst (xs.map frz) := by simp [frz, frzs_map]
@[simp] theorem frz_dic (xs : List (Key × O)) : frz (.dic xs) = .dic (xs.map fun p => (p.1, frz p.2)) := by simp [frz, frzk_map]
@[simp] theorem frz_dct (xs : List (List Key × O)) : frz (.dct xs) = .dct (xs.map fun p => (p.1, frz p.2)) := by simp [frz, frzt_map]
@[simp] theorem frz_obj (c : Nat) (xs : List O) : frz (.obj c xs) = .obj c (xs.map frz) := by simp [frz, frzs_map]

abbrev FS := Addr → Prop
/-- what the trees lean on: the written part, the classes with their attributes in the order in which they come -/
structure Ctx where
  K : PySem.W.Frag
  cls : Nat → Addr
  nms : Nat → List Str

/-- a frozen tree stands in the frozen heap -/
inductive Den (Γ : Ctx) (Z : Hp) : V → D → Prop
  | non : Den Γ Z .non .non
  | bl (b) : Den Γ Z (.bl b) (.bl b)
  | int (i) : Den Γ Z (.int i) (.int i)
  | str (s) : Den Γ Z (.str s) (.str s)
  | tup {a vs ds} : SqT Γ.K Z a vs → vs.length = ds.length → (∀ (i : Nat) v d, vs[i]? = some v → ds[i]? = some d → Den Γ Z v d) → Den Γ Z (.ref a) (.tup ds)
  | lst {a vs ds} : Z a = some (.lst vs) → vs.length = ds.length → (∀ (i : Nat) v d, vs[i]? = some v → ds[i]? = some d → Den Γ Z v d) → Den Γ Z (.ref a) (.lst ds)
  | rol {a vs ds} : SqL Γ.K Z a vs → vs.length = ds.length → (∀ (i : Nat) v d, vs[i]? = some v → ds[i]? = some d → Den Γ Z v d) → Den Γ Z (.ref a) (.rol ds)
  | dic {a ds} {kvs : List (Key × V)} : Z a = some (.dK kvs) → kvs.map (·.1) = ds.map (·.1) → (∀ (i : Nat) v d, (kvs.map (·.2))[i]? = some v → (ds.map (·.2))[i]? = some d → Den Γ Z v d) → Den Γ Z (.ref a) (.dic ds)
  | dct {a ds} {kvs : List (List Key × V)} : Z a = some (.dT kvs) → kvs.map (·.1) = ds.map (·.1) → (∀ (i : Nat) v d, (kvs.map (·.2))[i]? = some v → (ds.map (·.2))[i]? = some d → Den Γ Z v d) → Den Γ Z (.ref a) (.dct ds)
  | obj {a dx c vs ds} : Z a = some (.ins (Γ.cls c) dx ((Γ.nms c).zip vs)) → Z dx = some (.own a) → vs.length = ds.length → vs.length ≤ (Γ.nms c).length → (∀ (i : Nat) v d, vs[i]? = some v → ds[i]? = some d → Den Γ Z v d) → Den Γ Z (.ref a) (.obj c ds)

/-- how the parts of an owned node lie: each its own addresses, none the node's -/
structure Parts (n : Nat) (Fs : Nat → FS) (R F : FS) : Prop where
  own : ∀ i b, i < n → Fs i b → ¬ R b
  apart : ∀ i j b, i < n → j < n → i ≠ j → Fs i b → ¬ Fs j b
  all : ∀ b, F b ↔ R b ∨ ∃ i, i < n ∧ Fs i b

/-- an owned tree stands in the heap, F its own addresses -/
inductive Own (Γ : Ctx) (Z H : Hp) : V → O → FS → Prop
  | fz {v d F} : Den Γ Z v d → (∀ b, ¬ F b) → Own Γ Z H v (.fz d) F
  | lst {a vs os F} (Fs : Nat → FS) : H a = some (.lst vs) → vs.length = os.length → (∀ (i : Nat) v o, vs[i]? = some v → os[i]? = some o → Own Γ Z H v o (Fs i)) → Parts os.length Fs (· = a) F → Own Γ Z H (.ref a) (.lst os) F
  | dic {a os F} {kvs : List (Key × V)} (Fs : Nat → FS) : H a = some (.dK kvs) → kvs.map (·.1) = os.map (·.1) → (∀ (i : Nat) v o, (kvs.map (·.2))[i]? = some v → (os.map (·.2))[i]? = some o → Own Γ Z H v o (Fs i)) → Parts os.length Fs (· = a) F → Own Γ Z H (.ref a) (.dic os) F
  | dct {a os F} {kvs : List (List Key × V)} (Fs : Nat → FS) : H a = some (.dT kvs) → kvs.map (·.1) = os.map (·.1) → (∀ (i : Nat) v o, (kvs.map (·.2))[i]? = some v → (os.map (·.2))[i]? = some o → Own Γ Z H v o (Fs i)) → Parts os.length Fs (· = a) F → Own Γ Z H (.ref a) (.dct os) F
  | obj {a dx c vs os F} (Fs : Nat → FS) : H a = some (.ins (Γ.cls c) dx ((Γ.nms c).zip vs)) → H dx = some (.own a) → vs.length = os.length → vs.length ≤ (Γ.nms c).length → (∀ (i : Nat) v o, vs[i]? = some v → os[i]? = some o → Own Γ Z H v o (Fs i)) → Parts os.length Fs (fun b => b = a ∨ b = dx) F → Own Γ Z H (.ref a) (.obj c os) F

abbrev Env := List (Option O)
/-- the slots hold the trees; F all their own addresses -/
inductive Rel (Γ : Ctx) (Z H : Hp) : St → Env → FS → Prop
  | nil {F} : (∀ b, ¬ F b) → Rel Γ Z H [] [] F
  | skip {x σ env F} : Rel Γ Z H σ env F → Rel Γ Z H (x :: σ) (none :: env) F
  | cons {v σ o env F A G} : Own Γ Z H v o A → Rel Γ Z H σ env G → (∀ b, A b → ¬ G b) → (∀ b, F b ↔ A b ∨ G b) → Rel Γ Z H (some v :: σ) (some o :: env) F
/-- the frozen heap is part of the heap; nothing owned is in it -/
structure Sep (Z H : Hp) (F : FS) : Prop where
  sub : ∀ a o, Z a = some o → H a = some o
  out : ∀ a, F a → Z a = none
/-- from H to H': only what is in F, and new things, changed -/
structure Step (F : FS) (H Z : Hp) (F' : FS) (H' Z' : Hp) : Prop where
  keep : ∀ a o, H a = some o → ¬ F a → H' a = some o
  fz : ∀ a o, Z a = some o → Z' a = some o
  zold : ∀ a, Z' a ≠ none → Z a ≠ none ∨ F a ∨ H a = none
  fold : ∀ a, F' a → F a ∨ H a = none

section
variable {Γ : Ctx} {Z Z' Z1 Z2 H H' H1 H2 : Hp} {F F' F1 F2 A G : FS} {v : V} {d : D} {o : O} {σ : St} {env : Env}
theorem sqT_mono {K : PySem.W.Frag} {a : Addr} {vs : List V} (h : ∀ a o, Z a = some o → Z' a = some o) (q : SqT K Z a vs) : SqT K Z' a vs := by
  rcases q with (q | ⟨o, q⟩) | q
  · exact .inl (.inl (h _ _ q))
  · exact .inl (.inr ⟨o, h _ _ q⟩)
  · exact .inr q
theorem sqL_mono {K : PySem.W.Frag} {a : Addr} {vs : List V} (h : ∀ a o, Z a = some o → Z' a = some o) (q : SqL K Z a vs) : SqL K Z' a vs := by
  rcases q with (q | ⟨o, q⟩) | q
  · exact .inl (.inl (h _ _ q))
  · exact .inl (.inr ⟨o, h _ _ q⟩)
  · exact .inr q
theorem Den.mono (h : ∀ a o, Z a = some o → Z' a = some o) (q : Den Γ Z v d) : Den Γ Z' v d := by
  induction q with
  | non => exact .non
  | bl b => exact .bl b
  | int i => exact .int i
  | str s => exact .str s
  | tup s l _ ih => exact .tup (sqT_mono h s) l ih
  | lst s l _ ih => exact .lst (h _ _ s) l ih
  | rol s l _ ih => exact .rol (sqL_mono h s) l ih
  | dic s l _ ih => exact .dic (h _ _ s) l ih
  | dct s l _ ih => exact .dct (h _ _ s) l ih
  | obj s t l m _ ih => exact .obj (h _ _ s) (h _ _ t) l m ih

theorem Step.refl : Step F H Z F H Z := ⟨fun _ _ h _ => h, fun _ _ h => h, fun _ h => .inl h, fun _ h => .inl h⟩
theorem Step.trans (a : Step F H Z F1 H1 Z1) (b : Step F1 H1 Z1 F2 H2 Z2) : Step F H Z F2 H2 Z2 where
  keep := fun x o h n => b.keep x o (a.keep x o h n) fun z => by
    rcases a.fold x z with z | z
    · exact n z
    · rw [h] at z; cases z
  fz := fun x o h => b.fz x o (a.fz x o h)
  zold := fun x h => by
    rcases b.zold x h with z | z | z
    · exact a.zold x z
    · exact .inr (a.fold x z)
    · refine .inr ?_
      cases q : H x with
      | none => exact .inr rfl
      | some o =>
        by_cases hf : F x
        · exact .inl hf
        · rw [a.keep x o q hf] at z; cases z
  fold := fun x h => by
    rcases b.fold x h with z | z
    · exact a.fold x z
    · cases q : H x with
      | none => exact .inr rfl
      | some o =>
        by_cases hf : F x
        · exact .inl hf
        · rw [a.keep x o q hf] at z; cases z
/-- with a frame G beside -/
theorem Step.frame (a : Step F H Z F1 H1 Z1) (hA : ∀ b, A b ↔ F b ∨ G b) (hB : ∀ b, F2 b ↔ F1 b ∨ G b) : Step A H Z F2 H1 Z1 where
  keep := fun x o h n => a.keep x o h fun z => n ((hA x).2 (.inl z))
  fz := a.fz
  zold := fun x h => by
    rcases a.zold x h with z | z | z
    · exact .inl z
    · exact .inr (.inl ((hA x).2 (.inl z)))
    · exact .inr (.inr z)
  fold := fun x h => by
    rcases (hB x).1 h with z | z
    · rcases a.fold x z with z | z
      · exact .inl ((hA x).2 (.inl z))
      · exact .inr z
    · exact .inl ((hA x).2 (.inr z))
/-- what is forgotten at the end -/
theorem Step.drop (a : Step F H Z F1 H1 Z1) (h : ∀ b, F2 b → F1 b) : Step F H Z F2 H1 Z1 := ⟨a.keep, a.fz, a.zold, fun x q => a.fold x (h x q)⟩
/-- a bigger beginning -/
theorem Step.more (a : Step F H Z F1 H1 Z1) (h : ∀ b, F b → F2 b) : Step F2 H Z F1 H1 Z1 :=
  ⟨fun x o q n => a.keep x o q fun z => n (h x z), a.fz, fun x q => (a.zold x q).imp id fun z => z.imp (h x) id, fun x q => (a.fold x q).imp (h x) id⟩

theorem Own.there (h : Own Γ Z H v o F) : ∀ b, F b → H b ≠ none := by
  induction h with
  | fz _ n => exact fun b hb => absurd hb (n b)
  | @lst a vs os F Fs e l _ p ih =>
    intro b hb
    rcases (p.all b).1 hb with z | ⟨i, hi, z⟩
    · have z' : b = a := z
      rw [z', e]; simp
    · have h1 : i < vs.length := by omega
      exact ih i vs[i] os[i] (by simp [h1]) (by simp [hi]) b z
  | @dic a os F kvs Fs e l _ p ih =>
    intro b hb
    have hl : kvs.length = os.length := by simpa using congrArg List.length l
    rcases (p.all b).1 hb with z | ⟨i, hi, z⟩
    · have z' : b = a := z
      rw [z', e]; simp
    · have h1 : i < kvs.length := by omega
      exact ih i kvs[i].2 os[i].2 (by simp [h1]) (by simp [hi]) b z
  | @dct a os F kvs Fs e l _ p ih =>
    intro b hb
    have hl : kvs.length = os.length := by simpa using congrArg List.length l
    rcases (p.all b).1 hb with z | ⟨i, hi, z⟩
    · have z' : b = a := z
      rw [z', e]; simp
    · have h1 : i < kvs.length := by omega
      exact ih i kvs[i].2 os[i].2 (by simp [h1]) (by simp [hi]) b z
  | @obj a dx c vs os F Fs e e2 l _ _ p ih =>
    intro b hb
    rcases (p.all b).1 hb with z | ⟨i, hi, z⟩
    · have z' : b = a ∨ b = dx := z
      rcases z' with z' | z'
      · rw [z', e]; simp
      · rw [z', e2]; simp
    · have h1 : i < vs.length := by omega
      exact ih i vs[i] os[i] (by simp [h1]) (by simp [hi]) b z
/-- an owned tree stands as it was while others change -/
theorem Own.still (h : Own Γ Z H v o F) (hk : ∀ a o, F a → H a = some o → H' a = some o) (hz : ∀ a o, Z a = some o → Z' a = some o) : Own Γ Z' H' v o F := by
  induction h with
  | fz d n => exact .fz (d.mono hz) n
  | @lst a vs os F Fs e l _ p ih => exact .lst Fs (hk _ _ ((p.all a).2 (.inl rfl)) e) l (fun i v o h1 h2 => ih i v o h1 h2 fun b u hb hu => hk b u ((p.all b).2 (.inr ⟨i, (List.getElem?_eq_some_iff.mp h2).1, hb⟩)) hu) p
  | @dic a os F kvs Fs e l _ p ih => exact .dic Fs (hk _ _ ((p.all a).2 (.inl rfl)) e) l (fun i v o h1 h2 => ih i v o h1 h2 fun b u hb hu => hk b u ((p.all b).2 (.inr ⟨i, (by have := (List.getElem?_eq_some_iff.mp h2).1; simpa using this), hb⟩)) hu) p
  | @dct a os F kvs Fs e l _ p ih => exact .dct Fs (hk _ _ ((p.all a).2 (.inl rfl)) e) l (fun i v o h1 h2 => ih i v o h1 h2 fun b u hb hu => hk b u ((p.all b).2 (.inr ⟨i, (by have := (List.getElem?_eq_some_iff.mp h2).1; simpa using this), hb⟩)) hu) p
  | @obj a dx c vs os F Fs e e2 l m _ p ih => exact .obj Fs (hk _ _ ((p.all a).2 (.inl (.inl rfl))) e) (hk _ _ ((p.all dx).2 (.inl (.inr rfl))) e2) l m (fun i v o h1 h2 => ih i v o h1 h2 fun b u hb hu => hk b u ((p.all b).2 (.inr ⟨i, (List.getElem?_eq_some_iff.mp h2).1, hb⟩)) hu) p
theorem Own.iff (h : Own Γ Z H v o F) (e : ∀ b, F b ↔ F' b) : Own Γ Z H v o F' := by
  have : F = F' := funext fun b => propext (e b)
  rw [← this]; exact h
theorem Rel.iff (h : Rel Γ Z H σ env F) (e : ∀ b, F b ↔ F' b) : Rel Γ Z H σ env F' := by
  have : F = F' := funext fun b => propext (e b)
  rw [← this]; exact h
theorem Rel.there (h : Rel Γ Z H σ env F) : ∀ b, F b → H b ≠ none := by
  induction h with
  | nil n => exact fun b hb => absurd hb (n b)
  | skip _ ih => exact ih
  | cons o _ _ e ih => exact fun b hb => ((e b).1 hb).elim (o.there b) (ih b)
theorem Rel.still (h : Rel Γ Z H σ env F) (hk : ∀ a o, F a → H a = some o → H' a = some o) (hz : ∀ a o, Z a = some o → Z' a = some o) : Rel Γ Z' H' σ env F := by
  induction h with
  | nil n => exact .nil n
  | skip _ ih => exact .skip (ih hk)
  | cons o _ n e ih => exact .cons (o.still (fun a u ha => hk a u ((e a).2 (.inl ha))) hz) (ih fun a u ha => hk a u ((e a).2 (.inr ha))) n e
theorem Rel.len (h : Rel Γ Z H σ env F) : σ.length = env.length := by
  induction h with
  | nil _ => rfl
  | skip _ ih => simp [ih]
  | cons _ _ _ _ ih => simp [ih]
/-- the frame beside a step stands -/
theorem Rel.beside (h : Rel Γ Z H σ env G) (s : Step F H Z F1 H1 Z1) (n : ∀ b, G b → ¬ F b) : Rel Γ Z1 H1 σ env G := h.still (fun a o ha e => s.keep a o e (n a ha)) s.fz
theorem Own.beside (h : Own Γ Z H v o G) (s : Step F H Z F1 H1 Z1) (n : ∀ b, G b → ¬ F b) : Own Γ Z1 H1 v o G := h.still (fun a o ha e => s.keep a o e (n a ha)) s.fz
/-- .. and stays apart -/
theorem Step.apart (s : Step F H Z F1 H1 Z1) (n : ∀ b, G b → ¬ F b) (t : ∀ b, G b → H b ≠ none) : ∀ b, G b → ¬ F1 b := fun b hb z => by
  rcases s.fold b z with z | z
  · exact n b hb z
  · exact t b hb z
theorem Step.out (s : Step F H Z F1 H1 Z1) (n : ∀ b, G b → ¬ F b) (t : ∀ b, G b → H b ≠ none) (z : ∀ b, G b → Z b = none) : ∀ b, G b → Z1 b = none := fun b hb => by
  cases q : Z1 b with
  | none => rfl
  | some o =>
    rcases s.zold b (by rw [q]; simp) with y | y | y
    · exact absurd (z b hb) y
    · exact absurd y (n b hb)
    · exact absurd y (t b hb)
/-- a slot's tree, taken out -/
theorem Rel.get {i : Nat} (h : Rel Γ Z H σ env F) (e : env[i]? = some (some o)) : ∃ v A G, σ[i]? = some (some v) ∧ Own Γ Z H v o A ∧ Rel Γ Z H σ (env.set i none) G ∧ (∀ b, A b → ¬ G b) ∧ (∀ b, F b ↔ A b ∨ G b) := by
  induction h generalizing i with
  | nil _ => simp at e
  | @skip x σ env F r ih =>
    cases i with
    | zero => simp at e
    | succ i =>
      obtain ⟨v, A, G, h1, h2, h3, h4, h5⟩ := ih (i := i) (by simpa using e)
      exact ⟨v, A, G, by simpa using h1, h2, .skip h3, h4, h5⟩
  | @cons v σ o' env F A G ow r n f ih =>
    cases i with
    | zero =>
      simp at e; subst e
      exact ⟨v, A, G, rfl, ow, .skip r, n, f⟩
    | succ i =>
      obtain ⟨v', A', G', h1, h2, h3, h4, h5⟩ := ih (i := i) (by simpa using e)
      refine ⟨v', A', fun b => A b ∨ G' b, by simpa using h1, h2, .cons ow h3 (fun b ha hg => n b ha ((h5 b).2 (.inr hg))) (fun b => Iff.rfl), fun b ha hb => ?_, fun b => ?_⟩
      · rcases hb with hb | hb
        · exact n b hb ((h5 b).2 (.inl ha))
        · exact h4 b ha hb
      · rw [f b, h5 b]
        constructor
        · rintro (z | z | z)
          · exact .inr (.inl z)
          · exact .inl z
          · exact .inr (.inr z)
        · rintro (z | z | z)
          · exact .inr (.inl z)
          · exact .inl z
          · exact .inr (.inr z)
/-- a slot forgotten -/
theorem Rel.hide {i : Nat} (h : Rel Γ Z H σ env F) : ∃ G, Rel Γ Z H σ (env.set i none) G ∧ ∀ b, G b → F b := by
  induction h generalizing i with
  | nil n => exact ⟨_, .nil n, fun _ h => h⟩
  | @skip x σ env F r ih =>
    cases i with
    | zero => exact ⟨F, .skip r, fun _ h => h⟩
    | succ i =>
      obtain ⟨G, h1, h2⟩ := ih (i := i)
      exact ⟨G, .skip h1, h2⟩
  | @cons v σ o' env F A G ow r n f ih =>
    cases i with
    | zero => exact ⟨G, .skip r, fun b h => (f b).2 (.inr h)⟩
    | succ i =>
      obtain ⟨G', h1, h2⟩ := ih (i := i)
      exact ⟨_, .cons ow h1 (fun b ha hg => n b ha (h2 b hg)) (fun b => Iff.rfl), fun b h => (f b).2 (h.imp id (h2 b))⟩
/-- a tree is put into a slot -/
theorem Rel.put {i : Nat} (h : Rel Γ Z H σ env G) (hi : i < env.length) (ho : Own Γ Z H v o A) (n : ∀ b, A b → ¬ G b) : ∃ G' : FS, (∀ b, G' b → G b) ∧ Rel Γ Z H (σ.set i (some v)) (env.set i (some o)) (fun b => A b ∨ G' b) := by
  induction h generalizing i with
  | nil _ => simp at hi
  | @skip x σ env F r ih =>
    cases i with
    | zero => exact ⟨F, fun _ h => h, .cons ho r n fun _ => Iff.rfl⟩
    | succ i =>
      obtain ⟨G', h0, h1⟩ := ih (i := i) (by simpa using hi) n
      exact ⟨G', h0, .skip h1⟩
  | @cons v' σ o' env F A' G ow r m f ih =>
    cases i with
    | zero => exact ⟨G, fun b h => (f b).2 (.inr h), .cons ho r (fun b ha hg => n b ha ((f b).2 (.inr hg))) fun _ => Iff.rfl⟩
    | succ i =>
      obtain ⟨G', h0, h1⟩ := ih (i := i) (by simpa using hi) fun b ha hg => n b ha ((f b).2 (.inr hg))
      refine ⟨fun b => A' b ∨ G' b, fun b h => (f b).2 (h.imp id (h0 b)), .cons ow h1 (fun b ha hg => ?_) fun b => ?_⟩
      · rcases hg with hg | hg
        · exact n b hg ((f b).2 (.inl ha))
        · exact m b ha (h0 b hg)
      · constructor
        · rintro (z | z | z)
          · exact .inr (.inl z)
          · exact .inl z
          · exact .inr (.inr z)
        · rintro (z | z | z)
          · exact .inr (.inl z)
          · exact .inl z
          · exact .inr (.inr z)
/-- .. where it lay hidden, with all that was there -/
theorem Rel.back {i : Nat} (h : Rel Γ Z H σ env G) (e : env[i]? = some none) (hv : σ[i]? = some (some v)) (ho : Own Γ Z H v o A) (n : ∀ b, A b → ¬ G b) : Rel Γ Z H σ (env.set i (some o)) (fun b => A b ∨ G b) := by
  induction h generalizing i with
  | nil _ => simp at e
  | @skip x σ env F r ih =>
    cases i with
    | zero =>
      simp at hv; subst hv
      exact .cons ho r n fun _ => Iff.rfl
    | succ i => exact .skip (ih (i := i) (by simpa using e) (by simpa using hv) n)
  | @cons v' σ o' env F A' G ow r m f ih =>
    cases i with
    | zero => simp at e
    | succ i =>
      have h1 := ih (i := i) (by simpa using e) (by simpa using hv) fun b ha hg => n b ha ((f b).2 (.inr hg))
      refine .cons ow h1 (fun b ha hg => ?_) fun b => ?_
      · rcases hg with hg | hg
        · exact n b hg ((f b).2 (.inl ha))
        · exact m b ha hg
      · have := f b
        constructor
        · rintro (z | z)
          · exact .inr (.inl z)
          · rcases (f b).1 z with z | z
            · exact .inl z
            · exact .inr (.inr z)
        · rintro (z | z | z)
          · exact .inr ((f b).2 (.inl z))
          · exact .inl z
          · exact .inr ((f b).2 (.inr z))
/-- the frozen heap with an owned tree's addresses added -/
noncomputable def zfz (Z H : Hp) (A : FS) : Hp := by
  classical exact fun a => if A a then H a else Z a
theorem zfz_in {a : Addr} (h : A a) : zfz Z H A a = H a := by unfold zfz; simp [h]
theorem zfz_out {a : Addr} (h : ¬ A a) : zfz Z H A a = Z a := by unfold zfz; simp [h]
theorem Own.frozen (h : Own Γ Z H v o F) (hz : ∀ a o, Z a = some o → Z' a = some o) (hk : ∀ a o, F a → H a = some o → Z' a = some o) : Den Γ Z' v (frz o) := by
  induction h with
  | fz d n => rw [frz_fz]; exact d.mono hz
  | @lst a vs os F Fs e l _ p ih =>
    rw [frz_lst]
    refine .lst (hk _ _ ((p.all a).2 (.inl rfl)) e) (by simpa using l) fun i v d h1 h2 => ?_
    obtain ⟨o, h3, rfl⟩ : ∃ o, os[i]? = some o ∧ frz o = d := by simpa using h2
    exact ih i v o h1 h3 fun b u hb hu => hk b u ((p.all b).2 (.inr ⟨i, (List.getElem?_eq_some_iff.mp h3).1, hb⟩)) hu
  | @dic a os F kvs Fs e l _ p ih =>
    rw [frz_dic]
    refine .dic (hk _ _ ((p.all a).2 (.inl rfl)) e) (by rw [l]; simp [Function.comp_def]) fun i v d h1 h2 => ?_
    rw [List.map_map] at h2
    obtain ⟨⟨k, o⟩, h3, rfl⟩ : ∃ p, os[i]? = some p ∧ frz p.2 = d := by simpa using h2
    exact ih i v o h1 (by simp [h3]) fun b u hb hu => hk b u ((p.all b).2 (.inr ⟨i, (List.getElem?_eq_some_iff.mp h3).1, hb⟩)) hu
  | @dct a os F kvs Fs e l _ p ih =>
    rw [frz_dct]
    refine .dct (hk _ _ ((p.all a).2 (.inl rfl)) e) (by rw [l]; simp [Function.comp_def]) fun i v d h1 h2 => ?_
    rw [List.map_map] at h2
    obtain ⟨⟨k, o⟩, h3, rfl⟩ : ∃ p, os[i]? = some p ∧ frz p.2 = d := by simpa using h2
    exact ih i v o h1 (by simp [h3]) fun b u hb hu => hk b u ((p.all b).2 (.inr ⟨i, (List.getElem?_eq_some_iff.mp h3).1, hb⟩)) hu
  | @obj a dx c vs os F Fs e e2 l m _ p ih =>
    rw [frz_obj]
    refine .obj (hk _ _ ((p.all a).2 (.inl (.inl rfl))) e) (hk _ _ ((p.all dx).2 (.inl (.inr rfl))) e2) (by simpa using l) m fun i v d h1 h2 => ?_
    obtain ⟨o, h3, rfl⟩ : ∃ o, os[i]? = some o ∧ frz o = d := by simpa using h2
    exact ih i v o h1 h3 fun b u hb hu => hk b u ((p.all b).2 (.inr ⟨i, (List.getElem?_eq_some_iff.mp h3).1, hb⟩)) hu
/-- an owned tree beside G is frozen -/
theorem freeze (h : Own Γ Z H v o A) (s : Sep Z H (fun b => A b ∨ G b)) (n : ∀ b, A b → ¬ G b) :
    Den Γ (zfz Z H A) v (frz o) ∧ Sep (zfz Z H A) H G ∧ Step A H Z (fun _ => False) H (zfz Z H A) := by
  have z : ∀ a o, Z a = some o → zfz Z H A a = some o := fun a u e => by
    by_cases ha : A a
    · rw [s.out a (.inl ha)] at e; cases e
    · rw [zfz_out ha]; exact e
  refine ⟨h.frozen z fun a u ha e => by rw [zfz_in ha]; exact e, ⟨fun a u e => ?_, fun a ha => ?_⟩, ⟨fun _ _ e _ => e, z, fun a e => ?_, fun _ e => e.elim⟩⟩
  · by_cases ha : A a
    · rw [zfz_in ha] at e; exact e
    · rw [zfz_out ha] at e; exact s.sub a u e
  · rw [zfz_out fun z => n a z ha]
    exact s.out a (.inr ha)
  · by_cases ha : A a
    · exact .inr (.inl ha)
    · rw [zfz_out ha] at e; exact .inl e
end
end DL
end

section
set_option Elab.async false
set_option linter.all false
set_option maxRecDepth 100000
set_option maxHeartbeats 4000000
/-! The layer D: places within owned trees, the walk to them, a part changed. -/
namespace DL
open PySem L2

def kid : O → Nat → Option O
  | .fz _, _ => none
  | .lst xs, k => xs[k]?
  | .dic kvs, k => (kvs[k]?).map (·.2)
  | .dct kvs, k => (kvs[k]?).map (·.2)
  | .obj _ fs, k => fs[k]?
def setKid : O → Nat → O → O
  | .fz d, _, _ => .fz d
  | .lst xs, k, n => .lst (xs.set k n)
  | .dic kvs, k, n => .dic (match kvs[k]? with | some q => kvs.set k (q.1, n) | none => kvs)
  | .dct kvs, k, n => .dct (match kvs[k]? with | some q => kvs.set k (q.1, n) | none => kvs)
  | .obj c fs, k, n => .obj c (fs.set k n)
def sub : O → List Nat → Option O
  | o, [] => some o
  | o, k :: p => (kid o k).bind fun c => sub c p
def put : O → List Nat → O → O
  | _, [], n => n
  | o, k :: p, n => match kid o k with
    | some c => setKid o k (put c p n)
    | none => o
def getS (env : Env) (i : Nat) : Option O := match env[i]? with
  | some (some o) => some o
  | _ => none
def subS (env : Env) (i : Nat) (p : List Nat) : Option O := (getS env i).bind fun o => sub o p
def putS (env : Env) (i : Nat) (p : List Nat) (n : O) : Env := match getS env i with
  | some o => env.set i (some (put o p n))
  | none => env

/-- the walk in the heap -/
inductive Wk (H : Hp) : V → List Nat → V → Prop
  | nil {v} : Wk H v [] v
  | lst {a vs k p v1 v} : H a = some (.lst vs) → vs[k]? = some v1 → Wk H v1 p v → Wk H (.ref a) (k :: p) v
  | dic {a k p v1 v} {kvs : List (Key × V)} : H a = some (.dK kvs) → (kvs.map (·.2))[k]? = some v1 → Wk H v1 p v → Wk H (.ref a) (k :: p) v
  | dct {a k p v1 v} {kvs : List (List Key × V)} : H a = some (.dT kvs) → (kvs.map (·.2))[k]? = some v1 → Wk H v1 p v → Wk H (.ref a) (k :: p) v
  | obj {a C dx fs k p v1 v} : H a = some (.ins C dx fs) → (fs.map (·.2))[k]? = some v1 → Wk H v1 p v → Wk H (.ref a) (k :: p) v
def Wat (H : Hp) (σ : St) (i : Nat) (p : List Nat) (v : V) : Prop := ∃ v0, σ[i]? = some (some v0) ∧ Wk H v0 p v

theorem Wk.snoc {H : Hp} {v0 v v1 : V} {p q : List Nat} (h : Wk H v0 p v) (h2 : Wk H v q v1) : Wk H v0 (p ++ q) v1 := by
  induction h with
  | nil => exact h2
  | lst e1 e2 _ ih => exact .lst e1 e2 (ih h2)
  | dic e1 e2 _ ih => exact .dic e1 e2 (ih h2)
  | dct e1 e2 _ ih => exact .dct e1 e2 (ih h2)
  | obj e1 e2 _ ih => exact .obj e1 e2 (ih h2)
theorem sub_snoc : ∀ {p q : List Nat} {o o1 : O}, sub o p = some o1 → sub o (p ++ q) = sub o1 q
  | [], q, o, o1, h => by
    have e : o = o1 := by simpa [sub] using h
    rw [e]; rfl
  | k :: p, q, o, o1, h => by
    cases hk : kid o k with
    | none => simp [sub, hk] at h
    | some c =>
      have h' : sub c p = some o1 := by simpa [sub, hk] using h
      show (kid o k).bind _ = _
      rw [hk]
      exact sub_snoc h'
theorem set_map_snd {κ α : Type} {kvs : List (κ × α)} {k : Nat} {q : κ × α} {n : α} (h : kvs[k]? = some q) : (kvs.set k (q.1, n)).map (·.1) = kvs.map (·.1) := by
  apply List.ext_getElem?
  intro j
  by_cases e : j = k
  · subst e
    have hl : j < kvs.length := (List.getElem?_eq_some_iff.mp h).1
    simp [hl, h]
    simpa using congrArg Prod.fst (List.getElem?_eq_some_iff.mp h).2.symm
  · simp [List.getElem?_set_ne (Ne.symm e)]
section
variable {Γ : Ctx} {Z Z' H H' : Hp} {F A A1 G : FS} {v v0 : V} {o o1 : O} {σ : St} {env : Env} {i : Nat} {p : List Nat}
def newFs (Fs : Nat → FS) (k : Nat) (A1' A1 : FS) : Nat → FS := fun j => if j = k then (fun b => A1' b ∨ (Fs k b ∧ ¬ A1 b)) else Fs j
theorem newFs_at {Fs : Nat → FS} {k : Nat} {A1' A1 : FS} : newFs Fs k A1' A1 k = fun b => A1' b ∨ (Fs k b ∧ ¬ A1 b) := by unfold newFs; simp
theorem newFs_ne {Fs : Nat → FS} {k j : Nat} {A1' A1 : FS} (h : j ≠ k) : newFs Fs k A1' A1 j = Fs j := by unfold newFs; simp [h]
theorem Parts.new {n k : Nat} {Fs : Nat → FS} {R F A1 A1' : FS} (p : Parts n Fs R F) (hk : k < n) (h1 : ∀ b, A1 b → Fs k b) (h2 : ∀ b, A1' b → F b → A1 b) : Parts n (newFs Fs k A1' A1) R (fun b => A1' b ∨ (F b ∧ ¬ A1 b)) where
  own := fun i b hi hb => by
    by_cases e : i = k
    · subst e
      rw [newFs_at] at hb
      rcases hb with hb | hb
      · exact fun r => p.own i b hi (h1 b (h2 b hb ((p.all b).2 (.inl r)))) r
      · exact p.own i b hi hb.1
    · rw [newFs_ne e] at hb
      exact p.own i b hi hb
  apart := fun i j b hi hj ne hb hc => by
    by_cases e : i = k
    · subst e
      rw [newFs_at] at hb
      rw [newFs_ne (Ne.symm ne)] at hc
      rcases hb with hb | hb
      · exact p.apart i j b hi hj ne (h1 b (h2 b hb ((p.all b).2 (.inr ⟨j, hj, hc⟩)))) hc
      · exact p.apart i j b hi hj ne hb.1 hc
    · rw [newFs_ne e] at hb
      by_cases e2 : j = k
      · subst e2
        rw [newFs_at] at hc
        rcases hc with hc | hc
        · exact p.apart i j b hi hj ne hb (h1 b (h2 b hc ((p.all b).2 (.inr ⟨i, hi, hb⟩))))
        · exact p.apart i j b hi hj ne hb hc.1
      · rw [newFs_ne e2] at hc
        exact p.apart i j b hi hj ne hb hc
  all := fun b => by
    constructor
    · rintro (z | ⟨z, n1⟩)
      · exact .inr ⟨k, hk, by rw [newFs_at]; exact .inl z⟩
      · rcases (p.all b).1 z with z | ⟨i, hi, z⟩
        · exact .inl z
        · refine .inr ⟨i, hi, ?_⟩
          by_cases e : i = k
          · subst e; rw [newFs_at]; exact .inr ⟨z, n1⟩
          · rw [newFs_ne e]; exact z
    · rintro (z | ⟨i, hi, z⟩)
      · exact .inr ⟨(p.all b).2 (.inl z), fun y => p.own k b hk (h1 b y) z⟩
      · by_cases e : i = k
        · subst e
          rw [newFs_at] at z
          rcases z with z | z
          · exact .inl z
          · exact .inr ⟨(p.all b).2 (.inr ⟨i, hi, z.1⟩), z.2⟩
        · rw [newFs_ne e] at z
          exact .inr ⟨(p.all b).2 (.inr ⟨i, hi, z⟩), fun y => p.apart i k b hi hk e z (h1 b y)⟩
/-- a part within an owned tree, and the whole with another part there -/
theorem Own.focus : ∀ {p : List Nat} {o : O} {v0 : V} {A : FS}, Own Γ Z H v0 o A → Wk H v0 p v → sub o p = some o1 → ∃ A1, Own Γ Z H v o1 A1 ∧ (∀ b, A1 b → A b) ∧
    ∀ (Z' H' : Hp) (o1' : O) (A1' : FS), Own Γ Z' H' v o1' A1' → (∀ a u, A a → ¬ A1 a → H a = some u → H' a = some u) → (∀ a u, Z a = some u → Z' a = some u) → (∀ b, A1' b → A b → A1 b) →
      Own Γ Z' H' v0 (put o p o1') (fun b => A1' b ∨ (A b ∧ ¬ A1 b))
  | [], o, v0, A, h, w, e => by
    have e : o = o1 := by simpa [sub] using e
    subst e
    cases w
    refine ⟨A, h, fun _ h => h, fun Z' H' o1' A1' h1 _ _ _ => h1.iff fun b => ⟨.inl, ?_⟩⟩
    rintro (z | ⟨z, n⟩)
    · exact z
    · exact absurd z n
  | k :: p, o, v0, A, h, w, e => by
    obtain ⟨c, hc, e'⟩ : ∃ c, kid o k = some c ∧ sub c p = some o1 := by
      cases q : kid o k with
      | none => simp [sub, q] at e
      | some c => exact ⟨c, rfl, by simpa [sub, q] using e⟩
    have hput : ∀ n, put o (k :: p) n = setKid o k (put c p n) := fun n => by simp [put, hc]
    have toKid : ∀ {Fs : Nat → FS} {n : Nat} {R : FS} {A1 : FS} {H' : Hp}, Parts n Fs R A → ∀ j, j < n → (∀ b, A1 b → Fs k b) → k < n → j ≠ k → (∀ a u, A a → ¬ A1 a → H a = some u → H' a = some u) → ∀ a u, Fs j a → H a = some u → H' a = some u :=
      fun p j hj h1 hk ne hk2 a u ha hu => hk2 a u ((p.all a).2 (.inr ⟨j, hj, ha⟩)) (fun z => p.apart j k a hj hk ne ha (h1 a z)) hu
    cases h with
    | fz d n => simp [kid] at hc
    | @lst a vs os F Fs ea l ch pt =>
      have hc : os[k]? = some c := hc
      have hkn : k < os.length := (List.getElem?_eq_some_iff.mp hc).1
      cases w with
      | @lst _ vs' _ _ v1 _ ea' ev w =>
        rw [ea] at ea'; cases ea'
        obtain ⟨A1, o1w, s1, rp⟩ := Own.focus (ch k v1 c ev hc) w e'
        refine ⟨A1, o1w, fun b hb => (pt.all b).2 (.inr ⟨k, hkn, s1 b hb⟩), fun Z' H' o1' A1' h1 hk hz hd => ?_⟩
        rw [hput]
        refine .lst (newFs Fs k A1' A1) (hk a _ ((pt.all a).2 (.inl rfl)) (fun z => pt.own k a hkn (s1 a z) rfl) ea) (by simpa using l) (fun j v' o' h2 h3 => ?_) (by
          rw [List.length_set]; exact pt.new hkn s1 hd)
        by_cases ej : j = k
        · subst ej
          rw [List.getElem?_set_self hkn] at h3
          cases h3
          rw [ev] at h2; cases h2
          rw [newFs_at]
          refine rp Z' H' o1' A1' h1 (fun a u ha hn hu => hk a u ((pt.all a).2 (.inr ⟨j, hkn, ha⟩)) hn hu) hz fun b hb hf => hd b hb ((pt.all b).2 (.inr ⟨j, hkn, hf⟩))
        · rw [List.getElem?_set_ne (Ne.symm ej)] at h3
          rw [newFs_ne ej]
          exact (ch j v' o' h2 h3).still (toKid pt j (List.getElem?_eq_some_iff.mp h3).1 s1 hkn ej hk) hz
      | dic ea' => rw [ea] at ea'; cases ea'
      | dct ea' => rw [ea] at ea'; cases ea'
      | obj ea' => rw [ea] at ea'; cases ea'
    | @obj a dx cl vs os F Fs ea eb l m ch pt =>
      have hc : os[k]? = some c := hc
      have hkn : k < os.length := (List.getElem?_eq_some_iff.mp hc).1
      cases w with
      | @obj _ C dx' fs _ _ v1 _ ea' ev w =>
        rw [ea] at ea'; cases ea'
        have ev' : vs[k]? = some v1 := by
          rw [← ev, List.map_snd_zip]
          exact m
        obtain ⟨A1, o1w, s1, rp⟩ := Own.focus (ch k v1 c ev' hc) w e'
        refine ⟨A1, o1w, fun b hb => (pt.all b).2 (.inr ⟨k, hkn, s1 b hb⟩), fun Z' H' o1' A1' h1 hk hz hd => ?_⟩
        rw [hput]
        refine .obj (newFs Fs k A1' A1) (hk a _ ((pt.all a).2 (.inl (.inl rfl))) (fun z => pt.own k a hkn (s1 a z) (.inl rfl)) ea) (hk dx _ ((pt.all dx).2 (.inl (.inr rfl))) (fun z => pt.own k dx hkn (s1 dx z) (.inr rfl)) eb) (by simpa using l) m (fun j v' o' h2 h3 => ?_) (by
          rw [List.length_set]; exact pt.new hkn s1 hd)
        by_cases ej : j = k
        · subst ej
          rw [List.getElem?_set_self hkn] at h3
          cases h3
          rw [ev'] at h2; cases h2
          rw [newFs_at]
          refine rp Z' H' o1' A1' h1 (fun a u ha hn hu => hk a u ((pt.all a).2 (.inr ⟨j, hkn, ha⟩)) hn hu) hz fun b hb hf => hd b hb ((pt.all b).2 (.inr ⟨j, hkn, hf⟩))
        · rw [List.getElem?_set_ne (Ne.symm ej)] at h3
          rw [newFs_ne ej]
          exact (ch j v' o' h2 h3).still (toKid pt j (List.getElem?_eq_some_iff.mp h3).1 s1 hkn ej hk) hz
      | lst ea' => rw [ea] at ea'; cases ea'
      | dic ea' => rw [ea] at ea'; cases ea'
      | dct ea' => rw [ea] at ea'; cases ea'
    | @dic a os F kvs Fs ea l ch pt =>
      obtain ⟨q, hq, hqc⟩ : ∃ q, os[k]? = some q ∧ q.2 = c := by simpa [kid] using hc
      subst hqc
      have hkn : k < os.length := (List.getElem?_eq_some_iff.mp hq).1
      cases w with
      | @dic _ _ _ v1 _ kvs' ea' ev w =>
        rw [ea] at ea'; cases ea'
        obtain ⟨A1, o1w, s1, rp⟩ := Own.focus (ch k v1 q.2 ev (by simp [hq])) w e'
        refine ⟨A1, o1w, fun b hb => (pt.all b).2 (.inr ⟨k, hkn, s1 b hb⟩), fun Z' H' o1' A1' h1 hk hz hd => ?_⟩
        rw [hput]
        simp only [setKid, hq]
        refine .dic (newFs Fs k A1' A1) (hk a _ ((pt.all a).2 (.inl rfl)) (fun z => pt.own k a hkn (s1 a z) rfl) ea) (by rw [set_map_snd hq]; exact l) (fun j v' o' h2 h3 => ?_) (by
          rw [List.length_set]; exact pt.new hkn s1 hd)
        by_cases ej : j = k
        · subst ej
          simp [hkn] at h3
          subst h3
          rw [ev] at h2; cases h2
          rw [newFs_at]
          refine rp Z' H' o1' A1' h1 (fun a u ha hn hu => hk a u ((pt.all a).2 (.inr ⟨j, hkn, ha⟩)) hn hu) hz fun b hb hf => hd b hb ((pt.all b).2 (.inr ⟨j, hkn, hf⟩))
        · rw [List.getElem?_map, List.getElem?_set_ne (Ne.symm ej), ← List.getElem?_map] at h3
          rw [newFs_ne ej]
          exact (ch j v' o' h2 h3).still (toKid pt j (by have := (List.getElem?_eq_some_iff.mp h3).1; simpa using this) s1 hkn ej hk) hz
      | lst ea' => rw [ea] at ea'; cases ea'
      | obj ea' => rw [ea] at ea'; cases ea'
      | dct ea' => rw [ea] at ea'; cases ea'
    | @dct a os F kvs Fs ea l ch pt =>
      obtain ⟨q, hq, hqc⟩ : ∃ q, os[k]? = some q ∧ q.2 = c := by simpa [kid] using hc
      subst hqc
      have hkn : k < os.length := (List.getElem?_eq_some_iff.mp hq).1
      cases w with
      | @dct _ _ _ v1 _ kvs' ea' ev w =>
        rw [ea] at ea'; cases ea'
        obtain ⟨A1, o1w, s1, rp⟩ := Own.focus (ch k v1 q.2 ev (by simp [hq])) w e'
        refine ⟨A1, o1w, fun b hb => (pt.all b).2 (.inr ⟨k, hkn, s1 b hb⟩), fun Z' H' o1' A1' h1 hk hz hd => ?_⟩
        rw [hput]
        simp only [setKid, hq]
        refine .dct (newFs Fs k A1' A1) (hk a _ ((pt.all a).2 (.inl rfl)) (fun z => pt.own k a hkn (s1 a z) rfl) ea) (by rw [set_map_snd hq]; exact l) (fun j v' o' h2 h3 => ?_) (by
          rw [List.length_set]; exact pt.new hkn s1 hd)
        by_cases ej : j = k
        · subst ej
          simp [hkn] at h3
          subst h3
          rw [ev] at h2; cases h2
          rw [newFs_at]
          refine rp Z' H' o1' A1' h1 (fun a u ha hn hu => hk a u ((pt.all a).2 (.inr ⟨j, hkn, ha⟩)) hn hu) hz fun b hb hf => hd b hb ((pt.all b).2 (.inr ⟨j, hkn, hf⟩))
        · rw [List.getElem?_map, List.getElem?_set_ne (Ne.symm ej), ← List.getElem?_map] at h3
          rw [newFs_ne ej]
          exact (ch j v' o' h2 h3).still (toKid pt j (by have := (List.getElem?_eq_some_iff.mp h3).1; simpa using this) s1 hkn ej hk) hz
      | lst ea' => rw [ea] at ea'; cases ea'
      | obj ea' => rw [ea] at ea'; cases ea'
      | dic ea' => rw [ea] at ea'; cases ea'
theorem getS_some (h : getS env i = some o) : env[i]? = some (some o) := by
  unfold getS at h
  split at h
  · rename_i o' q; cases h; exact q
  · cases h
/-- .. within a slot -/
theorem Rel.focus (h : Rel Γ Z H σ env F) (w : Wat H σ i p v) (e : subS env i p = some o1) : ∃ A1, Own Γ Z H v o1 A1 ∧ (∀ b, A1 b → F b) ∧
    ∀ (Z' H' : Hp) (o1' : O) (A1' : FS), Own Γ Z' H' v o1' A1' → (∀ a u, F a → ¬ A1 a → H a = some u → H' a = some u) → (∀ a u, Z a = some u → Z' a = some u) → (∀ b, A1' b → F b → A1 b) →
      Rel Γ Z' H' σ (putS env i p o1') (fun b => A1' b ∨ (F b ∧ ¬ A1 b)) := by
  unfold subS at e
  cases hg : getS env i with
  | none => rw [hg] at e; cases e
  | some o =>
    rw [hg] at e
    have e : sub o p = some o1 := e
    have he := getS_some hg
    obtain ⟨v', A, G, hv, ow, rl, n, f⟩ := h.get he
    obtain ⟨v0, hv0, w⟩ := w
    rw [hv] at hv0; cases hv0
    obtain ⟨A1, o1w, s1, rp⟩ := ow.focus w e
    refine ⟨A1, o1w, fun b hb => (f b).2 (.inl (s1 b hb)), fun Z' H' o1' A1' h1 hk hz hd => ?_⟩
    have hi : i < env.length := (List.getElem?_eq_some_iff.mp he).1
    have rl' : Rel Γ Z' H' σ (env.set i none) G := rl.still (fun a u ha hu => hk a u ((f a).2 (.inr ha)) (fun z => n a (s1 a z) ha) hu) hz
    have ow' := rp Z' H' o1' A1' h1 (fun a u ha hn hu => hk a u ((f a).2 (.inl ha)) hn hu) hz fun b hb hA => hd b hb ((f b).2 (.inl hA))
    have bk := rl'.back (i := i) (by simp [hi]) hv ow' (fun b hb hg => by
      rcases hb with hb | hb
      · exact n b (s1 b (hd b hb ((f b).2 (.inr hg)))) hg
      · exact n b hb.1 hg)
    unfold putS
    rw [hg]
    rw [List.set_set] at bk
    refine bk.iff fun b => ?_
    rw [f b]
    constructor
    · rintro ((z | z) | z)
      · exact .inl z
      · exact .inr ⟨.inl z.1, z.2⟩
      · exact .inr ⟨.inr z, fun y => n b (s1 b y) z⟩
    · rintro (z | ⟨z | z, y⟩)
      · exact .inl (.inl z)
      · exact .inl (.inr ⟨z, y⟩)
      · exact .inr z
end
end DL
end

section
set_option Elab.async false
set_option linter.all false
set_option maxRecDepth 100000
set_option maxHeartbeats 4000000
/-! The layer D: results, judgements, how they are put together. -/
namespace DL
open PySem L2

inductive R (α : Type) where
  | ok (a : α) (e : Env) | err (c : Nat) (x : D) (e : Env) | bad
def R.bind {α β : Type} (r : R α) (k : α → Env → R β) : R β := match r with
  | .ok a e => k a e
  | .err c x e => .err c x e
  | .bad => .bad
@[simp] theorem R.bind_ok {α β : Type} (a : α) (e : Env) (k : α → Env → R β) : (R.ok a e).bind k = k a e := rfl
@[simp] theorem R.bind_err {α β : Type} (c : Nat) (x : D) (e : Env) (k : α → Env → R β) : (R.err (α := α) c x e).bind k = .err c x e := rfl
@[simp] theorem R.bind_bad {α β : Type} (k : α → Env → R β) : (R.bad (α := α)).bind k = .bad := rfl

/-- a frozen value, or a place in an owned tree of a slot -/
inductive AV where
  | tm (d : D) | pl (i : Nat) (p : List Nat)

/-- where an evaluation began -/
structure Base where
  F : FS
  H : Hp
  Z : Hp
structure Now (Γ : Ctx) (σ : St) (B : Base) (env : Env) (Z H : Hp) (F : FS) : Prop where
  rel : Rel Γ Z H σ env F
  sep : Sep Z H F
  step : Step B.F B.H B.Z F H Z
/-- only new things -/
structure Grow (Z H Z' H' : Hp) : Prop where
  keep : ∀ a o, H a = some o → H' a = some o
  fz : ∀ a o, Z a = some o → Z' a = some o
  new : ∀ a, Z' a ≠ none → Z a ≠ none ∨ H a = none
  sub : ∀ a o, Z' a = some o → H' a = some o

section
variable {Γ : Ctx} {Z Z' Z1 H H' H1 : Hp} {F F1 A G : FS} {v : V} {d : D} {σ : St} {env : Env} {B : Base}
theorem Grow.refl (h : ∀ a o, Z a = some o → H a = some o) : Grow Z H Z H := ⟨fun _ _ h => h, fun _ _ h => h, fun _ h => .inl h, h⟩
theorem Grow.new1 (h : ∀ a o, Z a = some o → H a = some o) {p : Addr} {o : HO} (n : H p = none) : Grow Z H (upd Z p o) (upd H p o) where
  keep := fun a u e => by rw [upd_ne (ne_of_none e n)]; exact e
  fz := fun a u e => by rw [upd_ne (ne_of_none (h a u e) n)]; exact e
  new := fun a e => by
    by_cases q : a = p
    · rw [q]; exact .inr n
    · rw [upd_ne q] at e; exact .inl e
  sub := fun a u e => by
    by_cases q : a = p
    · rw [q, upd_same] at e ⊢; exact e
    · rw [upd_ne q] at e ⊢; exact h a u e
theorem Grow.trans (a : Grow Z H Z1 H1) (b : Grow Z1 H1 Z' H') : Grow Z H Z' H' where
  keep := fun x o e => b.keep x o (a.keep x o e)
  fz := fun x o e => b.fz x o (a.fz x o e)
  new := fun x e => by
    rcases b.new x e with z | z
    · exact a.new x z
    · refine .inr ?_
      cases q : H x with
      | none => rfl
      | some o => rw [a.keep x o q] at z; cases z
  sub := b.sub
theorem Grow.step (g : Grow Z H Z' H') : Step F H Z F H' Z' := ⟨fun a o e _ => g.keep a o e, g.fz, fun a e => (g.new a e).imp id .inr, fun _ h => .inl h⟩
theorem Grow.sep (g : Grow Z H Z' H') (s : Sep Z H F) (t : ∀ b, F b → H b ≠ none) : Sep Z' H' F := ⟨g.sub, fun a ha => by
  cases q : Z' a with
  | none => rfl
  | some o =>
    rcases g.new a (by rw [q]; simp) with z | z
    · exact absurd (s.out a ha) z
    · exact absurd z (t a ha)⟩
theorem Now.grow (n : Now Γ σ B env Z H F) (g : Grow Z H Z' H') : Now Γ σ B env Z' H' F :=
  ⟨n.rel.still (fun a u _ e => g.keep a u e) g.fz, g.sep n.sep n.rel.there, n.step.trans g.step⟩
theorem Now.start (r : Rel Γ Z H σ env F) (s : Sep Z H F) : Now Γ σ ⟨F, H, Z⟩ env Z H F := ⟨r, s, .refl⟩
theorem Now.from {env1 : Env} (n : Now Γ σ ⟨F, H, Z⟩ env1 Z1 H1 F1) (s : Step B.F B.H B.Z F H Z) : Now Γ σ B env1 Z1 H1 F1 := ⟨n.rel, n.sep, s.trans n.step⟩
end

/-! ### results -/
/-- the attribute in which an error of class c keeps what it is told -/
def exnOf (Γ : Ctx) (c : Nat) : Str := ((Γ.nms c).head?).getD Str.empty
def ErrP (Γ : Ctx) (W : WX) (σ : St) (B : Base) (c : Nat) (x : D) (env : Env) : Prop := ∀ dd v Z' H' F', Now Γ σ B env Z' H' F' → Z' dd = some (.xd [(exnOf Γ c, v)]) → Den Γ Z' v x → W (.ref (Γ.cls c)) (some dd) σ H'
def PR (Γ : Ctx) (W : WX) (σ : St) (B : Base) {α : Type} (r : R α) (okp : α → Env → Prop) : Prop := match r with
  | .ok a e => okp a e
  | .err c x e => ErrP Γ W σ B c x e
  | .bad => False
section
variable {Γ : Ctx} {W : WX} {σ : St} {B : Base} {α β : Type} {r : R α} {okp ok1 : α → Env → Prop} {okb : β → Env → Prop} {env : Env} {F1 : FS} {H1 Z1 : Hp}
theorem ErrP.step {c : Nat} {x : D} (h : ErrP Γ W σ B c x env) (s : Step B.F B.H B.Z F1 H1 Z1) : ErrP Γ W σ ⟨F1, H1, Z1⟩ c x env := fun dd v Z' H' F' n => h dd v Z' H' F' (n.from s)
theorem PR.bind {k : α → Env → R β} (h : PR Γ W σ B (r.bind k) okb) (h1 : ∀ a e, r = .ok a e → PR Γ W σ B (k a e) okb → ok1 a e) : PR Γ W σ B r ok1 := by
  cases r with
  | ok a e => exact h1 a e rfl h
  | err c x e => exact h
  | bad => exact h
theorem PR.step (h : PR Γ W σ B r okp) (s : Step B.F B.H B.Z F1 H1 Z1) (h1 : ∀ a e, r = .ok a e → okp a e → ok1 a e) : PR Γ W σ ⟨F1, H1, Z1⟩ r ok1 := by
  cases r with
  | ok a e => exact h1 a e rfl h
  | err c x e => exact ErrP.step h s
  | bad => exact h
/-- bind, seen from a later base -/
theorem PR.bindS {k : α → Env → R β} (h : PR Γ W σ B (r.bind k) okb) (s : Step B.F B.H B.Z F1 H1 Z1) (h1 : ∀ a e, r = .ok a e → PR Γ W σ B (k a e) okb → ok1 a e) : PR Γ W σ ⟨F1, H1, Z1⟩ r ok1 :=
  PR.step (PR.bind (ok1 := fun a e => PR Γ W σ B (k a e) okb) h fun _ _ _ h => h) s h1
end

/-! ### what is wanted behind an evaluation. q: the heap is as it was -/
/-- a frozen value -/
def okF (Γ : Ctx) (σ : St) (q : Bool) (B : Base) (Q : VK) (d : D) (env : Env) : Prop := ∀ v Z H F, Now Γ σ B env Z H F → (q = true → H = B.H) → Den Γ Z v d → Q v H
def AVat (Γ : Ctx) (Z H : Hp) (σ : St) (x : AV) (v : V) : Prop := match x with
  | .tm d => Den Γ Z v d
  | .pl i p => Wat H σ i p v
/-- a value or a place -/
def okV (Γ : Ctx) (σ : St) (q : Bool) (B : Base) (Q : VK) (x : AV) (env : Env) : Prop := ∀ v Z H F, Now Γ σ B env Z H F → (q = true → H = B.H) → AVat Γ Z H σ x v → Q v H
/-- an owned value, beside the slots -/
def okE (Γ : Ctx) (σ : St) (B : Base) (Q : VK) (o : O) (env : Env) : Prop := ∀ v Z H A G, Own Γ Z H v o A → Rel Γ Z H σ env G → (∀ b, A b → ¬ G b) → Sep Z H (fun b => A b ∨ G b) → Step B.F B.H B.Z (fun b => A b ∨ G b) H Z → Q v H
def okT (Γ : Ctx) (σ : St) (q : Bool) (B : Base) (Q : Bool → Hp → Prop) (b : Bool) (env : Env) : Prop := ∀ Z H F, Now Γ σ B env Z H F → (q = true → H = B.H) → Q b H
def Dens (Γ : Ctx) (Z : Hp) (vs : List V) (ds : List D) : Prop := vs.length = ds.length ∧ ∀ (i : Nat) v d, vs[i]? = some v → ds[i]? = some d → Den Γ Z v d
def okA (Γ : Ctx) (σ : St) (q : Bool) (B : Base) (Q : List V → Hp → Prop) (ds : List D) (env : Env) : Prop := ∀ vs Z H F, Now Γ σ B env Z H F → (q = true → H = B.H) → Dens Γ Z vs ds → Q vs H

def tF (Γ : Ctx) (W : WX) (q : Bool) (f : Env → R D) : TE := fun σ H Q => ∃ Z env F, Rel Γ Z H σ env F ∧ Sep Z H F ∧ PR Γ W σ ⟨F, H, Z⟩ (f env) (okF Γ σ q ⟨F, H, Z⟩ Q)
def tV (Γ : Ctx) (W : WX) (q : Bool) (f : Env → R AV) : TE := fun σ H Q => ∃ Z env F, Rel Γ Z H σ env F ∧ Sep Z H F ∧ PR Γ W σ ⟨F, H, Z⟩ (f env) (okV Γ σ q ⟨F, H, Z⟩ Q)
def tE (Γ : Ctx) (W : WX) (f : Env → R O) : TE := fun σ H Q => ∃ Z env F, Rel Γ Z H σ env F ∧ Sep Z H F ∧ PR Γ W σ ⟨F, H, Z⟩ (f env) (okE Γ σ ⟨F, H, Z⟩ Q)
def tT (Γ : Ctx) (W : WX) (q : Bool) (f : Env → R Bool) : TT := fun σ H Q => ∃ Z env F, Rel Γ Z H σ env F ∧ Sep Z H F ∧ PR Γ W σ ⟨F, H, Z⟩ (f env) (okT Γ σ q ⟨F, H, Z⟩ Q)
def tA (Γ : Ctx) (W : WX) (q : Bool) (f : Env → R (List D)) : TA := fun σ H Q => ∃ Z env F, Rel Γ Z H σ env F ∧ Sep Z H F ∧ PR Γ W σ ⟨F, H, Z⟩ (f env) (okA Γ σ q ⟨F, H, Z⟩ Q)

abbrev DF (X : Cx) (Γ : Ctx) (W : WX) (q : Bool) (e : Expr) (f : Env → R D) : Prop := PE X e (tF Γ W q f)
abbrev DV (X : Cx) (Γ : Ctx) (W : WX) (q : Bool) (e : Expr) (f : Env → R AV) : Prop := PE X e (tV Γ W q f)
abbrev DE (X : Cx) (Γ : Ctx) (W : WX) (e : Expr) (f : Env → R O) : Prop := PE X e (tE Γ W f)
abbrev DT (X : Cx) (Γ : Ctx) (W : WX) (q : Bool) (e : Expr) (f : Env → R Bool) : Prop := PT X e (tT Γ W q f)
abbrev DA (X : Cx) (Γ : Ctx) (W : WX) (q : Bool) (es : List Expr) (f : Env → R (List D)) : Prop := PA X es (tA Γ W q f)

section
variable {X : Cx} {Γ : Ctx} {W : WX} {q qa qb qc : Bool} {e a b c : Expr} {pos : Pos}
theorem PE.imp {t t' : TE} (h : PE X e t) (i : ∀ σ H Q, t' σ H Q → t σ H Q) : PE X e t' := ⟨fun pins s σ H Q I hq => h.run pins s σ H Q I (i σ H Q hq)⟩
theorem PT.imp {t t' : TT} (h : PT X e t) (i : ∀ σ H Q, t' σ H Q → t σ H Q) : PT X e t' := ⟨fun pins s σ H Q I hq => h.run pins s σ H Q I (i σ H Q hq)⟩
theorem PA.imp {t t' : TA} {es : List Expr} (h : PA X es t) (i : ∀ σ H Q, t' σ H Q → t σ H Q) : PA X es t' := ⟨fun pos pins s σ H Q I hq => h.run pos pins s σ H Q I (i σ H Q hq)⟩

/-! ### constants -/
theorem df_c {v : V} {d : D} (h : PE X e (tC v)) (hd : ∀ Z, Den Γ Z v d) : DF X Γ W true e (fun env => .ok d env) :=
  PE.imp h fun σ H Q ⟨Z, env, F, r, s, p⟩ => p v Z H F (.start r s) (fun _ => rfl) (hd Z)
theorem df_int {i j} : DF X Γ W true (.Constant (.int i) j pos) (fun env => .ok (.int i) env) := df_c pe_int fun _ => .int _
theorem df_bl {b j} : DF X Γ W true (.Constant (.bool b) j pos) (fun env => .ok (.bl b) env) := df_c pe_bl fun _ => .bl _
theorem df_non {j} : DF X Γ W true (.Constant .none j pos) (fun env => .ok .non env) := df_c pe_non fun _ => .non
theorem df_str {x j} : DF X Γ W true (.Constant (.str x) j pos) (fun env => .ok (.str x) env) := df_c pe_str fun _ => .str _

/-! ### a value from a place -/
theorem DF.toV {f : Env → R D} (h : DF X Γ W q e f) : DV X Γ W q e (fun env => (f env).bind fun d e => .ok (.tm d) e) :=
  PE.imp h fun σ H Q ⟨Z, env, F, r, s, p⟩ => ⟨Z, env, F, r, s, PR.bind p fun d e1 _ p1 => p1⟩
theorem DF.toE {f : Env → R D} (h : DF X Γ W q e f) : DE X Γ W e (fun env => (f env).bind fun d e => .ok (.fz d) e) :=
  PE.imp h fun σ H Q ⟨Z, env, F, r, s, p⟩ => ⟨Z, env, F, r, s, PR.bind p fun d e1 _ p1 v Z1 H1 F1 n _ hd =>
    p1 v Z1 H1 (fun _ => False) F1 (.fz hd fun _ h => h) n.rel (fun _ h => h.elim) ⟨n.sep.sub, fun b h => n.sep.out b (h.resolve_left fun z => z)⟩ (n.step.drop fun b h => h.resolve_left fun z => z)⟩
/-- frozen -/
theorem DE.toF {f : Env → R O} (h : DE X Γ W e f) : DF X Γ W false e (fun env => (f env).bind fun o e => .ok (frz o) e) :=
  PE.imp h fun σ H Q ⟨Z, env, F, r, s, p⟩ => ⟨Z, env, F, r, s, PR.bind p fun o e1 _ p1 v Z1 H1 A G ow rl ap sp st => by
    obtain ⟨hd, sp2, st2⟩ := freeze ow sp ap
    exact p1 v _ H1 G ⟨rl.beside st2 fun b hb ha => ap b ha hb, sp2, (st.trans (st2.frame (G := G) (fun b => Iff.rfl) (F2 := G) fun b => ⟨.inr, fun z => z.resolve_left fun y => y⟩))⟩ (fun z => nomatch z) hd⟩
end
end DL
end

section
set_option Elab.async false
set_option linter.all false
set_option maxRecDepth 100000
set_option maxHeartbeats 4000000
/-! The layer D: names, places, what is seen at a place, operations by values. -/
namespace DL
open PySem L2

/-! ### what is seen -/
inductive View (Γ : Ctx) (Z H : Hp) : V → D → Prop
  | den {v d} : Den Γ Z v d → View Γ Z H v d
  | lst {a vs ds} : H a = some (.lst vs) → Dens Γ Z vs ds → View Γ Z H (.ref a) (.lst ds)
  | dic {a ds} {kvs : List (Key × V)} : H a = some (.dK kvs) → kvs.map (·.1) = ds.map (·.1) → Dens Γ Z (kvs.map (·.2)) (ds.map (·.2)) → View Γ Z H (.ref a) (.dic ds)
  | dct {a ds} {kvs : List (List Key × V)} : H a = some (.dT kvs) → kvs.map (·.1) = ds.map (·.1) → Dens Γ Z (kvs.map (·.2)) (ds.map (·.2)) → View Γ Z H (.ref a) (.dct ds)
  | obj {a dx c vs ds} : H a = some (.ins (Γ.cls c) dx ((Γ.nms c).zip vs)) → vs.length ≤ (Γ.nms c).length → Dens Γ Z vs ds → View Γ Z H (.ref a) (.obj c ds)
def vf (o : O) : O := .fz (frz o)
@[simp] theorem vf_fz (d : D) : vf (.fz d) = .fz d := by simp [vf]
def viewD : O → D × O
  | .fz d => (d, .fz d)
  | .lst os => (.lst (os.map frz), .lst (os.map vf))
  | .dic os => (.dic (os.map fun q => (q.1, frz q.2)), .dic (os.map fun q => (q.1, vf q.2)))
  | .dct os => (.dct (os.map fun q => (q.1, frz q.2)), .dct (os.map fun q => (q.1, vf q.2)))
  | .obj c os => (.obj c (os.map frz), .obj c (os.map vf))
def peek (x : AV) (env : Env) : Option (D × Env) := match x with
  | .tm d => some (d, env)
  | .pl i p => match subS env i p with
    | some o => some ((viewD o).1, putS env i p (viewD o).2)
    | none => none
section
variable {Γ : Ctx} {Z Z' H H' : Hp} {F A G : FS} {v : V} {d : D} {o : O} {σ : St} {env env' : Env} {B : Base} {x : AV}
theorem Dens.mono {vs : List V} {ds : List D} (h : ∀ a o, Z a = some o → Z' a = some o) (q : Dens Γ Z vs ds) : Dens Γ Z' vs ds := ⟨q.1, fun i v d h1 h2 => (q.2 i v d h1 h2).mono h⟩
theorem View.mono (h : ∀ a o, Z a = some o → Z' a = some o) (q : View Γ Z H v d) : View Γ Z' H v d := by
  cases q with
  | den q => exact .den (q.mono h)
  | lst e q => exact .lst e (q.mono h)
  | dic e k q => exact .dic e k (q.mono h)
  | dct e k q => exact .dct e k (q.mono h)
  | obj e l q => exact .obj e l (q.mono h)
/-- all parts of an owned node are frozen -/
theorem Own.kidsF {n : Nat} {Fs : Nat → FS} {R : FS} (p : Parts n Fs R A) {vs : List V} {os : List O} (hn : n = os.length) (ch : ∀ (i : Nat) v o, vs[i]? = some v → os[i]? = some o → Own Γ Z H v o (Fs i)) (hl : vs.length = os.length) (s : ∀ a, A a → Z a = none) :
    Dens Γ (zfz Z H fun b => A b ∧ ¬ R b) vs (os.map frz) ∧ ∀ (i : Nat) v o, vs[i]? = some v → (os.map vf)[i]? = some o → Own Γ (zfz Z H fun b => A b ∧ ¬ R b) H v o fun _ => False := by
  have key : ∀ (i : Nat) v o, vs[i]? = some v → os[i]? = some o → Den Γ (zfz Z H fun b => A b ∧ ¬ R b) v (frz o) := fun i v o h1 h2 => by
    have hi : i < n := by rw [hn]; exact (List.getElem?_eq_some_iff.mp h2).1
    refine (ch i v o h1 h2).frozen (fun a u e => ?_) fun a u ha e => ?_
    · rw [zfz_out]; exact e
      intro z
      rw [s a z.1] at e; cases e
    · rw [zfz_in ⟨(p.all a).2 (.inr ⟨i, hi, ha⟩), p.own i a hi ha⟩]; exact e
  refine ⟨⟨by simp [hl], fun i v d h1 h2 => ?_⟩, fun i v o h1 h2 => ?_⟩
  · obtain ⟨o, h3, rfl⟩ : ∃ o, os[i]? = some o ∧ frz o = d := by simpa using h2
    exact key i v o h1 h3
  · obtain ⟨o', h3, rfl⟩ : ∃ o', os[i]? = some o' ∧ vf o' = o := by simpa using h2
    exact .fz (key i v o' h1 h3) fun _ h => h
theorem noParts {n : Nat} {R : FS} : Parts n (fun _ _ => False) R R := ⟨fun _ _ _ h => h.elim, fun _ _ _ _ _ _ h => h.elim, fun b => ⟨.inl, fun h => h.elim id fun ⟨_, _, z⟩ => z.elim⟩⟩
/-- a node's parts are frozen, the node is seen -/
theorem Own.view (h : Own Γ Z H v o A) (s : ∀ a, A a → Z a = none) : ∃ R : FS, (∀ b, R b → A b) ∧ (∀ a, R a → zfz Z H (fun b => A b ∧ ¬ R b) a = none) ∧ View Γ (zfz Z H fun b => A b ∧ ¬ R b) H v (viewD o).1 ∧ Own Γ (zfz Z H fun b => A b ∧ ¬ R b) H v (viewD o).2 R := by
  have out : ∀ {R : FS}, (∀ b, R b → A b) → ∀ a, R a → zfz Z H (fun b => A b ∧ ¬ R b) a = none := fun hr a ha => by
    rw [zfz_out fun z => z.2 ha]; exact s a (hr a ha)
  cases h with
  | fz hd n =>
    have z0 : ∀ a o, Z a = some o → zfz Z H (fun b => A b ∧ ¬ A b) a = some o := fun a o e => by rw [zfz_out fun z => z.2 z.1]; exact e
    exact ⟨A, fun _ h => h, out fun _ h => h, .den (hd.mono z0), .fz (hd.mono z0) n⟩
  | @lst a vs os F Fs e l ch p =>
    obtain ⟨k1, k2⟩ := Own.kidsF p rfl ch l s
    exact ⟨(· = a), fun b h => (p.all b).2 (.inl h), out fun b h => (p.all b).2 (.inl h), .lst e k1, .lst _ e (by simpa using l) k2 noParts⟩
  | @dic a os F kvs Fs e l ch p =>
    have hl : kvs.length = os.length := by simpa using congrArg List.length l
    obtain ⟨k1, k2⟩ := Own.kidsF (vs := kvs.map (·.2)) (os := os.map (·.2)) p (by simp) ch (by simp [hl]) s
    refine ⟨(· = a), fun b h => (p.all b).2 (.inl h), out fun b h => (p.all b).2 (.inl h), .dic e (by rw [l]; simp [Function.comp_def]) (by simpa [Function.comp_def] using k1), .dic _ e (by rw [l]; simp [Function.comp_def]) (by simpa [Function.comp_def] using k2) noParts⟩
  | @dct a os F kvs Fs e l ch p =>
    have hl : kvs.length = os.length := by simpa using congrArg List.length l
    obtain ⟨k1, k2⟩ := Own.kidsF (vs := kvs.map (·.2)) (os := os.map (·.2)) p (by simp) ch (by simp [hl]) s
    refine ⟨(· = a), fun b h => (p.all b).2 (.inl h), out fun b h => (p.all b).2 (.inl h), .dct e (by rw [l]; simp [Function.comp_def]) (by simpa [Function.comp_def] using k1), .dct _ e (by rw [l]; simp [Function.comp_def]) (by simpa [Function.comp_def] using k2) noParts⟩
  | @obj a dx c vs os F Fs e e2 l m ch p =>
    obtain ⟨k1, k2⟩ := Own.kidsF p rfl ch l s
    exact ⟨fun b => b = a ∨ b = dx, fun b h => (p.all b).2 (.inl h), out fun b h => (p.all b).2 (.inl h), .obj e m k1, .obj _ e e2 (by simpa using l) m k2 noParts⟩
/-- at a place: the heap stays, the frozen part grows -/
theorem Now.freezeAt {R A1 : FS} {o' : O} {i : Nat} {p : List Nat} {o1 : O} (n : Now Γ σ B env Z H F) (w : Wat H σ i p v) (e : subS env i p = some o1)
    (hA : ∀ A1, Own Γ Z H v o1 A1 → (∀ b, A1 b → F b) → ∃ R : FS, (∀ b, R b → A1 b) ∧ Own Γ (zfz Z H fun b => A1 b ∧ ¬ R b) H v o' R) : ∃ Z' F', Now Γ σ B (putS env i p o') Z' H F' ∧ (∀ a o, Z a = some o → Z' a = some o) := by
  obtain ⟨A1, ow, s1, rp⟩ := n.rel.focus w e
  obtain ⟨R, hR, ow'⟩ := hA A1 ow s1
  have z : ∀ a u, Z a = some u → zfz Z H (fun b => A1 b ∧ ¬ R b) a = some u := fun a u e => by
    rw [zfz_out]; exact e
    intro q
    rw [n.sep.out a (s1 a q.1)] at e; cases e
  refine ⟨_, _, ⟨rp _ H o' R ow' (fun a u _ _ e => e) z fun b hb _ => hR b hb, ⟨fun a u e => ?_, fun a ha => ?_⟩, n.step.trans ⟨fun _ _ e _ => e, z, fun a e => ?_, fun a ha => .inl (ha.elim (fun h => s1 a (hR a h)) (·.1))⟩⟩, z⟩
  · by_cases q : A1 a ∧ ¬ R a
    · rw [zfz_in q] at e; exact e
    · rw [zfz_out q] at e; exact n.sep.sub a u e
  · rw [zfz_out fun q => ?_]
    · exact n.sep.out a (ha.elim (fun h => s1 a (hR a h)) (·.1))
    · rcases ha with ha | ha
      · exact q.2 ha
      · exact ha.2 q.1
  · by_cases q : A1 a ∧ ¬ R a
    · exact .inr (.inl (s1 a q.1))
    · rw [zfz_out q] at e; exact .inl e
theorem peek_ok (n : Now Γ σ B env Z H F) (a : AVat Γ Z H σ x v) (h : peek x env = some (d, env')) : ∃ Z' F', Now Γ σ B env' Z' H F' ∧ (∀ a o, Z a = some o → Z' a = some o) ∧ View Γ Z' H v d := by
  cases x with
  | tm d' =>
    have h' : d' = d ∧ env = env' := by simpa [peek] using h
    obtain ⟨rfl, rfl⟩ := h'
    exact ⟨Z, F, n, fun _ _ h => h, .den a⟩
  | pl i p =>
    simp only [peek] at h
    cases q : subS env i p with
    | none => rw [q] at h; cases h
    | some o =>
      rw [q] at h
      simp only [Option.some.injEq, Prod.mk.injEq] at h
      obtain ⟨rfl, rfl⟩ := h
      have a : Wat H σ i p v := a
      obtain ⟨A1, ow, s1, rp⟩ := n.rel.focus a q
      obtain ⟨R, hR, hz, hv, ow'⟩ := ow.view fun b hb => n.sep.out b (s1 b hb)
      have z : ∀ a u, Z a = some u → zfz Z H (fun b => A1 b ∧ ¬ R b) a = some u := fun a u e => by
        rw [zfz_out]; exact e
        intro q
        rw [n.sep.out a (s1 a q.1)] at e; cases e
      refine ⟨_, _, ⟨rp _ H _ R ow' (fun a u _ _ e => e) z fun b hb _ => hR b hb, ⟨fun a u e => ?_, fun a ha => ?_⟩, n.step.trans ⟨fun _ _ e _ => e, z, fun a e => ?_, fun a ha => .inl (ha.elim (fun h => s1 a (hR a h)) (·.1))⟩⟩, z, hv⟩
      · by_cases q : A1 a ∧ ¬ R a
        · rw [zfz_in q] at e; exact e
        · rw [zfz_out q] at e; exact n.sep.sub a u e
      · rcases ha with ha | ha
        · exact hz a ha
        · rw [zfz_out fun q => ha.2 q.1]
          exact n.sep.out a ha.1
      · by_cases q : A1 a ∧ ¬ R a
        · exact .inr (.inl (s1 a q.1))
        · rw [zfz_out q] at e; exact .inl e
end
end DL
end

section
set_option Elab.async false
set_option linter.all false
set_option maxRecDepth 100000
set_option maxHeartbeats 4000000
/-! The layer D: names, attributes, loads, operators. -/
namespace DL
open PySem L2

/-! ### names -/
def varV (i : Nat) (env : Env) : R AV := match getS env i with
  | some (.fz d) => .ok (.tm d) env
  | some _ => .ok (.pl i []) env
  | none => .bad
/-- a place's tree is frozen and handed out -/
def loadV (x : AV) (env : Env) : R D := match x with
  | .tm d => .ok d env
  | .pl i p => match subS env i p with
    | some o => .ok (frz o) (putS env i p (.fz (frz o)))
    | none => .bad
def load (f : Env → R AV) (env : Env) : R D := (f env).bind loadV
/-- a local's tree is handed over; the local has it no more -/
def moveE (i : Nat) (env : Env) : R O := match getS env i with
  | some o => .ok o (env.set i none)
  | none => .bad
def stab (x : AV) (q : Bool) : Bool := match x with
  | .tm _ => true
  | .pl _ [] => true
  | .pl _ _ => q
section
variable {X : Cx} {Γ : Ctx} {W : WX} {q qa qb qc : Bool} {e a b c : Expr} {pos : Pos}
theorem dv_var {i : Nat} {x : Str} (h : PE X (.Name x pos) (tVar i)) : DV X Γ W true (.Name x pos) (varV i) :=
  PE.imp h fun σ H Q ⟨Z, env, F, r, s, p⟩ => by
    unfold varV at p
    cases g : getS env i with
    | none => rw [g] at p; exact p.elim
    | some o =>
      rw [g] at p
      obtain ⟨v, A, G, hv, ow, _⟩ := r.get (getS_some g)
      refine ⟨v, hv, ?_⟩
      cases o with
      | fz d =>
        cases ow with
        | fz hd n => exact p v Z H F (.start r s) (fun _ => rfl) hd
      | _ => exact p v Z H F (.start r s) (fun _ => rfl) ⟨v, hv, .nil⟩
theorem DV.load {f : Env → R AV} (h : DV X Γ W q e f) : DF X Γ W q e (load f) :=
  PE.imp h fun σ H Q ⟨Z, env, F, r, s, p⟩ => ⟨Z, env, F, r, s, PR.bind p fun x e1 _ p1 v Z1 H1 F1 n hq hx => by
    cases x with
    | tm d => exact p1 v Z1 H1 F1 n hq hx
    | pl i pp =>
      simp only [loadV] at p1
      cases g : subS e1 i pp with
      | none => rw [g] at p1; exact p1.elim
      | some o =>
        rw [g] at p1
        obtain ⟨A1, ow, s1, rp⟩ := n.rel.focus hx g
        have z : ∀ a u, Z1 a = some u → zfz Z1 H1 A1 a = some u := fun a u e => by
          rw [zfz_out]; exact e
          intro y
          rw [n.sep.out a (s1 a y)] at e; cases e
        have hd : Den Γ (zfz Z1 H1 A1) v (frz o) := ow.frozen z fun a u ha e => by rw [zfz_in ha]; exact e
        have rl := rp (zfz Z1 H1 A1) H1 (.fz (frz o)) (fun _ => False) (.fz hd fun _ h => h) (fun _ _ _ _ e => e) z (fun _ h => h.elim)
        refine p1 v _ H1 _ ⟨rl, ⟨fun a u e => ?_, fun a ha => ?_⟩, n.step.trans ⟨fun _ _ e _ => e, z, fun a e => ?_, fun a ha => .inl (ha.elim (fun h => h.elim) (·.1))⟩⟩ hq hd
        · by_cases y : A1 a
          · rw [zfz_in y] at e; exact e
          · rw [zfz_out y] at e; exact n.sep.sub a u e
        · rcases ha with ha | ha
          · exact ha.elim
          · rw [zfz_out ha.2]; exact n.sep.out a ha.1
        · by_cases y : A1 a
          · exact .inr (.inl (s1 a y))
          · rw [zfz_out y] at e; exact .inl e⟩
theorem de_move {i : Nat} {x : Str} (h : PE X (.Name x pos) (tVar i)) : DE X Γ W (.Name x pos) (moveE i) :=
  PE.imp h fun σ H Q ⟨Z, env, F, r, s, p⟩ => by
    unfold moveE at p
    cases g : getS env i with
    | none => rw [g] at p; exact p.elim
    | some o =>
      rw [g] at p
      obtain ⟨v, A, G, hv, ow, rl, ap, f⟩ := r.get (getS_some g)
      have ef : F = fun b => A b ∨ G b := funext fun b => propext (f b)
      subst ef
      exact ⟨v, hv, p v Z H A G ow rl ap s .refl⟩
/-- a place seen again when the heap is as it was -/
theorem AVat.still {Z Z' H H' : Hp} {σ : St} {x : AV} {v : V} (h : AVat Γ Z H σ x v) (hs : stab x q = true) (hz : ∀ a o, Z a = some o → Z' a = some o) (hq : q = true → H' = H) : AVat Γ Z' H' σ x v := by
  cases x with
  | tm d => exact Den.mono hz h
  | pl i p =>
    obtain ⟨v0, e, w⟩ := h
    cases p with
    | nil => cases w; exact ⟨v, e, .nil⟩
    | cons k p => rw [hq hs]; exact ⟨v0, e, w⟩

/-! ### operators by values -/
def OpV (Γ : Ctx) (al : Bool) (r : R2) (g : D → D → Option D) : Prop := ∀ Z H v1 v2 d1 d2 d (Q : VK), (∀ a o, Z a = some o → H a = some o) → View Γ Z H v1 d1 → View Γ Z H v2 d2 → g d1 d2 = some d →
  (∀ v Z' H', Grow Z H Z' H' → (al = false → H' = H) → Den Γ Z' v d → Q v H') → r v1 v2 H Q
/-- two operands, places or values, the second one quiet if the first is a deep place -/
def two (fa fb : Env → R AV) (qb : Bool) {β : Type} (k : D → D → Env → R β) (env : Env) : R β :=
  (fa env).bind fun x e1 => (fb e1).bind fun y e2 => if stab x qb then (match peek x e2 with
    | some (d1, e3) => match peek y e3 with
      | some (d2, e4) => k d1 d2 e4
      | none => .bad
    | none => .bad) else .bad
def opF (g : D → D → Option D) (fa fb : Env → R AV) (qb : Bool) : Env → R D := two fa fb qb fun d1 d2 e => match g d1 d2 with
  | some d => .ok d e
  | none => .bad
theorem two_ok {σ : St} {H : Hp} {fa fb : Env → R AV} {β : Type} {k : D → D → Env → R β} {okb : Base → β → Env → Prop} {R : V → V → Hp → Prop}
    (hk : ∀ (B : Base) d1 d2 v1 v2 env Z H F, Now Γ σ B env Z H F → ((qa && qb) = true → H = B.H) → View Γ Z H v1 d1 → View Γ Z H v2 d2 → PR Γ W σ B (k d1 d2 env) (okb B) → R v1 v2 H) {env : Env} {Z : Hp} {F : FS} (r : Rel Γ Z H σ env F) (s : Sep Z H F)
    (p : PR Γ W σ ⟨F, H, Z⟩ (two fa fb qb k env) (okb ⟨F, H, Z⟩)) : tV Γ W qa fa σ H fun x H1 => tV Γ W qb fb σ H1 fun y H2 => R x y H2 := by
  refine ⟨Z, env, F, r, s, PR.bind p fun x e1 _ p1 v1 Z1 H1 F1 n1 q1 a1 => ⟨Z1, e1, F1, n1.rel, n1.sep, PR.bindS p1 n1.step fun y e2 _ p2 v2 Z2 H2 F2 n2 q2 a2 => ?_⟩⟩
  have n2' := n2.from n1.step
  by_cases hs : stab x qb = true
  · rw [if_pos hs] at p2
    have a1' : AVat Γ Z2 H2 σ x v1 := a1.still hs n2.step.fz q2
    cases hx : peek x e2 with
    | none => rw [hx] at p2; exact p2.elim
    | some w =>
      obtain ⟨d1, e3⟩ := w
      rw [hx] at p2
      obtain ⟨Z3, F3, n3, z3, w1⟩ := peek_ok n2' a1' hx
      have a2' : AVat Γ Z3 H2 σ y v2 := by
        cases y with
        | tm d => exact Den.mono z3 a2
        | pl i p => exact a2
      cases hy : peek y e3 with
      | none => simp only [hy] at p2; exact p2.elim
      | some w' =>
        obtain ⟨d2, e4⟩ := w'
        simp only [hy] at p2
        obtain ⟨Z4, F4, n4, z4, w2⟩ := peek_ok n3 a2' hy
        refine hk _ d1 d2 v1 v2 e4 Z4 H2 F4 n4 (fun hq => ?_) (w1.mono z4) w2 p2
        have hq := Bool.and_eq_true_iff.mp hq
        exact (q2 hq.2).trans (q1 hq.1)
  · rw [if_neg hs] at p2; exact p2.elim
theorem opF_ok {σ : St} {H : Hp} {fa fb : Env → R AV} {al : Bool} {r : R2} {g : D → D → Option D} (hg : OpV Γ al r g) {Q : VK} (h : tF Γ W (qa && qb && !al) (opF g fa fb qb) σ H Q) : tOp r (tV Γ W qa fa) (tV Γ W qb fb) σ H Q := by
  obtain ⟨Z, env, F, rl, s, p⟩ := h
  refine two_ok (k := fun d1 d2 e => match g d1 d2 with | some d => .ok d e | none => .bad) (okb := fun B => okF Γ σ (qa && qb && !al) B Q) (fun B d1 d2 v1 v2 env Z H F n hq w1 w2 p => ?_) rl s p
  cases e : g d1 d2 with
  | none => rw [e] at p; exact p.elim
  | some d =>
    rw [e] at p
    refine hg Z H v1 v2 d1 d2 d Q n.sep.sub w1 w2 e fun v Z' H' gr hal hd => p v Z' H' F (n.grow gr) (fun hh => ?_) hd
    rw [Bool.and_eq_true_iff] at hh
    rw [hal (by simpa using hh.2)]
    exact hq hh.1
theorem df_op {op : Operator} {al : Bool} {r : R2} {g : D → D → Option D} {fa fb : Env → R AV} (ho : OpR X (binaryOp op) r) (hg : OpV Γ al r g) (ha : DV X Γ W qa a fa) (hb : DV X Γ W qb b fb) : DF X Γ W (qa && qb && !al) (.BinOp a op b pos) (opF g fa fb qb) :=
  PE.imp (pe_op ho ha hb) fun σ H Q h => opF_ok hg h
theorem df_cmp {op : CmpOp} {al : Bool} {r : R2} {g : D → D → Option D} {fa fb : Env → R AV} (ho : OpR X (compareOp op) r) (hg : OpV Γ al r g) (ha : DV X Γ W qa a fa) (hb : DV X Γ W qb b fb) (hm : behindInMarks op b = false) : DF X Γ W (qa && qb && !al) (.Compare a [op] [b] pos) (opF g fa fb qb) :=
  PE.imp (pe_cmpR ho ha hb hm) fun σ H Q h => opF_ok hg h
/-- a value as a test -/
def testF (f : Env → R D) (env : Env) : R Bool := (f env).bind fun d e => match d with
  | .bl b => .ok b e
  | _ => .bad
theorem test_ok {σ : St} {H : Hp} {f : Env → R D} {Q : Bool → Hp → Prop} (h : tT Γ W q (testF f) σ H Q) : tTest (tF Γ W q f) σ H Q := by
  obtain ⟨Z, env, F, rl, s, p⟩ := h
  refine ⟨Z, env, F, rl, s, PR.bind p fun d e1 _ p1 v Z1 H1 F1 n hq hd => ?_⟩
  cases hd with
  | bl b => exact ⟨b, rfl, p1 Z1 H1 F1 n hq⟩
  | _ => exact p1.elim
theorem dt_cmp {op : CmpOp} {al : Bool} {r : R2} {g : D → D → Option D} {fa fb : Env → R AV} (ho : OpR X (compareOp op) r) (hg : OpV Γ al r g) (ha : DV X Γ W qa a fa) (hb : DV X Γ W qb b fb) (hm : behindInMarks op b = false) : DT X Γ W (qa && qb && !al) (.Compare a [op] [b] pos) (testF (opF g fa fb qb)) :=
  PT.imp (pt_cmpR ho ha hb hm) fun σ H Q h => opF_ok hg (test_ok h)
theorem dt_val {f : Env → R D} (h : DF X Γ W q e f) (he : ∀ whole, isTrue e X.env whole = (do let v ← whole; standAt e.pos; holding [v] (truthy v)) := by intro _; rfl) : DT X Γ W q e (testF f) :=
  PT.imp (pt_val h he) fun σ H Q h => test_ok h
/-- and, or, not as tests -/
def andT (f g : Env → R Bool) (env : Env) : R Bool := (f env).bind fun b e => if b then g e else .ok false e
def orT (f g : Env → R Bool) (env : Env) : R Bool := (f env).bind fun b e => if b then .ok true e else g e
def notT (f : Env → R Bool) (env : Env) : R Bool := (f env).bind fun b e => .ok (!b) e
abbrev DW (X : Cx) (Γ : Ctx) (W : WX) (q : Bool) (e : Expr) (f : Env → R Bool) : Prop := PW X e (tT Γ W q f)
theorem PW.imp {t t' : TT} (h : PW X e t) (i : ∀ σ H Q, t' σ H Q → t σ H Q) : PW X e t' := ⟨fun wh pins s σ H Q I hq => h.run wh pins s σ H Q I (i σ H Q hq)⟩
theorem okT.loosen {σ : St} {B : Base} {Q : Bool → Hp → Prop} {b : Bool} {env : Env} {q q' : Bool} (h : okT Γ σ q B Q b env) (i : q = true → q' = true) : okT Γ σ q' B Q b env := fun Z H F n hq => h Z H F n fun z => hq (i z)
theorem tT.tail {f : Env → R Bool} {σ : St} {H H1 Z Z1 : Hp} {F F1 : FS} {e1 : Env} {Q : Bool → Hp → Prop} (n : Now Γ σ ⟨F, H, Z⟩ e1 Z1 H1 F1) (hq : qa = true → H1 = H) (p : PR Γ W σ ⟨F, H, Z⟩ (f e1) (okT Γ σ (qa && qb) ⟨F, H, Z⟩ Q)) : tT Γ W qb f σ H1 Q :=
  ⟨Z1, e1, F1, n.rel, n.sep, PR.step p n.step fun b e2 _ h Z2 H2 F2 n2 hq2 => h Z2 H2 F2 (n2.from n.step) fun z => by
    have z := Bool.and_eq_true_iff.mp z
    exact (hq2 z.2).trans (hq z.1)⟩
theorem dw_and1 {f : Env → R Bool} (h : DT X Γ W q a f) : DW X Γ W q (.BoolOp .And [a] pos) f := pw_and1 h
theorem dw_or1 {f : Env → R Bool} (h : DT X Γ W q a f) : DW X Γ W q (.BoolOp .Or [a] pos) f := pw_or1 h
theorem dw_and {f g : Env → R Bool} {rest : List Expr} (h : DT X Γ W qa a f) (h2 : DW X Γ W qb (.BoolOp .And (b :: rest) pos) g) : DW X Γ W (qa && qb) (.BoolOp .And (a :: b :: rest) pos) (andT f g) :=
  PW.imp (pw_and h h2) fun σ H Q ⟨Z, env, F, rl, s, p⟩ => ⟨Z, env, F, rl, s, PR.bind p fun x e1 _ p1 Z1 H1 F1 n hq => by
    cases x with
    | true => exact tT.tail n hq p1
    | false => exact p1 Z1 H1 F1 n fun z => hq (Bool.and_eq_true_iff.mp z).1⟩
theorem dw_or {f g : Env → R Bool} {rest : List Expr} (h : DT X Γ W qa a f) (h2 : DW X Γ W qb (.BoolOp .Or (b :: rest) pos) g) : DW X Γ W (qa && qb) (.BoolOp .Or (a :: b :: rest) pos) (orT f g) :=
  PW.imp (pw_or h h2) fun σ H Q ⟨Z, env, F, rl, s, p⟩ => ⟨Z, env, F, rl, s, PR.bind p fun x e1 _ p1 Z1 H1 F1 n hq => by
    cases x with
    | false => exact tT.tail n hq p1
    | true => exact p1 Z1 H1 F1 n fun z => hq (Bool.and_eq_true_iff.mp z).1⟩
theorem DW.dt {f : Env → R Bool} (h : DW X Γ W q e f) : DT X Γ W q e f := PW.pt h
theorem dt_not {f : Env → R Bool} (h : DT X Γ W q a f) : DT X Γ W q (.UnaryOp .Not a pos) (notT f) :=
  PT.imp (pt_not h) fun σ H Q ⟨Z, env, F, rl, s, p⟩ => ⟨Z, env, F, rl, s, PR.bind p fun x e1 _ p1 => p1⟩
/-- .. as values -/
def andF (f g : Env → R D) (env : Env) : R D := (f env).bind fun d e => match d with
  | .bl true => g e
  | .bl false => .ok (.bl false) e
  | _ => .bad
def orF (f g : Env → R D) (env : Env) : R D := (f env).bind fun d e => match d with
  | .bl false => g e
  | .bl true => .ok (.bl true) e
  | _ => .bad
def notF (f : Env → R D) (env : Env) : R D := (f env).bind fun d e => match d with
  | .bl b => .ok (.bl (!b)) e
  | _ => .bad
theorem tF.tail {f : Env → R D} {σ : St} {H H1 Z Z1 : Hp} {F F1 : FS} {e1 : Env} {Q : VK} (n : Now Γ σ ⟨F, H, Z⟩ e1 Z1 H1 F1) (hq : qa = true → H1 = H) (p : PR Γ W σ ⟨F, H, Z⟩ (f e1) (okF Γ σ (qa && qb) ⟨F, H, Z⟩ Q)) : tF Γ W qb f σ H1 Q :=
  ⟨Z1, e1, F1, n.rel, n.sep, PR.step p n.step fun b e2 _ h v Z2 H2 F2 n2 hq2 hd => h v Z2 H2 F2 (n2.from n.step) (fun z => by
    have z := Bool.and_eq_true_iff.mp z
    exact (hq2 z.2).trans (hq z.1)) hd⟩
theorem df_one {op} {f : Env → R D} (h : DF X Γ W q a f) : DF X Γ W q (.BoolOp op [a] pos) f := pe_one h
theorem df_and {f g : Env → R D} {rest : List Expr} (h : DF X Γ W qa a f) (h2 : DF X Γ W qb (.BoolOp .And (b :: rest) pos) g) : DF X Γ W (qa && qb) (.BoolOp .And (a :: b :: rest) pos) (andF f g) :=
  PE.imp (pe_and h h2) fun σ H Q ⟨Z, env, F, rl, s, p⟩ => ⟨Z, env, F, rl, s, PR.bind p fun x e1 _ p1 v Z1 H1 F1 n hq hd => by
    cases hd with
    | bl c =>
      refine ⟨c, rfl, ?_⟩
      cases c with
      | true => exact tF.tail n hq p1
      | false => exact p1 _ Z1 H1 F1 n (fun z => hq (Bool.and_eq_true_iff.mp z).1) (.bl _)
    | _ => exact p1.elim⟩
theorem df_or {f g : Env → R D} {rest : List Expr} (h : DF X Γ W qa a f) (h2 : DF X Γ W qb (.BoolOp .Or (b :: rest) pos) g) : DF X Γ W (qa && qb) (.BoolOp .Or (a :: b :: rest) pos) (orF f g) :=
  PE.imp (pe_or h h2) fun σ H Q ⟨Z, env, F, rl, s, p⟩ => ⟨Z, env, F, rl, s, PR.bind p fun x e1 _ p1 v Z1 H1 F1 n hq hd => by
    cases hd with
    | bl c =>
      refine ⟨c, rfl, ?_⟩
      cases c with
      | false => exact tF.tail n hq p1
      | true => exact p1 _ Z1 H1 F1 n (fun z => hq (Bool.and_eq_true_iff.mp z).1) (.bl _)
    | _ => exact p1.elim⟩
theorem df_not {f : Env → R D} (h : DF X Γ W q a f) : DF X Γ W q (.UnaryOp .Not a pos) (notF f) :=
  PE.imp (pe_not h) fun σ H Q ⟨Z, env, F, rl, s, p⟩ => ⟨Z, env, F, rl, s, PR.bind p fun x e1 _ p1 v Z1 H1 F1 n hq hd => by
    cases hd with
    | bl c => exact ⟨c, rfl, p1 _ Z1 H1 F1 n hq (.bl _)⟩
    | _ => exact p1.elim⟩
/-- a if t else b -/
def ifF {α : Type} (t : Env → R Bool) (f g : Env → R α) (env : Env) : R α := (t env).bind fun b e => if b then f e else g e
theorem df_if {t : Env → R Bool} {f g : Env → R D} (h : DT X Γ W qc c t) (ha : DF X Γ W qa a f) (hb : DF X Γ W qb b g) : DF X Γ W (qc && (qa && qb)) (.IfExp c a b pos) (ifF t f g) :=
  PE.imp (pe_ifExp h ha hb) fun σ H Q ⟨Z, env, F, rl, s, p⟩ => ⟨Z, env, F, rl, s, PR.bind p fun x e1 _ p1 Z1 H1 F1 n hq => by
    have loose : ∀ {q' : Bool} {B : Base} {d : D} {env : Env}, ((qa && qb) = true → q' = true) → okF Γ σ (qc && (qa && qb)) B Q d env → okF Γ σ (qc && q') B Q d env := fun i h v Z H F n hq => h v Z H F n fun z => hq (by
      have z := Bool.and_eq_true_iff.mp z
      rw [z.1, i z.2]; rfl)
    cases x with
    | true =>
      refine tF.tail n hq ?_
      have p1 : PR Γ W σ ⟨F, H, Z⟩ (f e1) (okF Γ σ (qc && (qa && qb)) ⟨F, H, Z⟩ Q) := p1
      exact PR.step p1 .refl fun d e2 _ h => loose (fun z => (Bool.and_eq_true_iff.mp z).1) h
    | false =>
      refine tF.tail n hq ?_
      have p1 : PR Γ W σ ⟨F, H, Z⟩ (g e1) (okF Γ σ (qc && (qa && qb)) ⟨F, H, Z⟩ Q) := p1
      exact PR.step p1 .refl fun d e2 _ h => loose (fun z => (Bool.and_eq_true_iff.mp z).2) h⟩
end
end DL
end

section
set_option Elab.async false
set_option linter.all false
set_option maxRecDepth 100000
set_option maxHeartbeats 4000000
/-! The layer D: the operators themselves. -/
namespace DL
open PySem L2

def flat : D → Option V
  | .non => some .non
  | .bl b => some (.bl b)
  | .int i => some (.int i)
  | .str s => some (.str s)
  | _ => none
section
variable {Γ : Ctx} {Z H : Hp} {v : V} {d : D} {x : V}
theorem Den.flat (h : Den Γ Z v d) (e : flat d = some x) : v = x := by
  cases h <;> simp [DL.flat] at e <;> exact e
theorem View.flat (h : View Γ Z H v d) (e : flat d = some x) : v = x := by
  cases h with
  | den h => exact h.flat e
  | _ => simp [DL.flat] at e
theorem Den.ofFlat (e : DL.flat d = some x) : Den Γ Z x d := by
  cases d <;> simp [DL.flat] at e <;> subst e <;> constructor
theorem View.int {i : Int} (h : View Γ Z H v (.int i)) : v = .int i := h.flat rfl
theorem View.str {i : Str} (h : View Γ Z H v (.str i)) : v = .str i := h.flat rfl
theorem View.bl {i : Bool} (h : View Γ Z H v (.bl i)) : v = .bl i := h.flat rfl
theorem View.non (h : View Γ Z H v .non) : v = .non := h.flat rfl
theorem View.tup {ds : List D} (s : ∀ a o, Z a = some o → H a = some o) (h : View Γ Z H v (.tup ds)) : ∃ a vs, v = .ref a ∧ SqT Γ.K H a vs ∧ Dens Γ Z vs ds := by
  cases h with
  | den h => cases h with
    | tup q l c => exact ⟨_, _, rfl, sqT_mono s q, l, c⟩
theorem View.tupD {ds : List D} (h : View Γ Z H v (.tup ds)) : Den Γ Z v (.tup ds) := by
  cases h with
  | den h => exact h
theorem View.lstH {ds : List D} (s : ∀ a o, Z a = some o → H a = some o) (h : View Γ Z H v (.lst ds)) : ∃ a vs, v = .ref a ∧ H a = some (.lst vs) ∧ Dens Γ Z vs ds := by
  cases h with
  | den h => cases h with
    | lst q l c => exact ⟨_, _, rfl, s _ _ q, l, c⟩
  | lst q c => exact ⟨_, _, rfl, q, c⟩
theorem View.rolH {ds : List D} (s : ∀ a o, Z a = some o → H a = some o) (h : View Γ Z H v (.rol ds)) : ∃ a vs, v = .ref a ∧ SqL Γ.K H a vs ∧ Dens Γ Z vs ds := by
  cases h with
  | den h => cases h with
    | rol q l c => exact ⟨_, _, rfl, sqL_mono s q, l, c⟩
theorem View.dicH {ds : List (Key × D)} (s : ∀ a o, Z a = some o → H a = some o) (h : View Γ Z H v (.dic ds)) : ∃ (a : Addr) (kvs : List (Key × V)), v = .ref a ∧ H a = some (.dK kvs) ∧ kvs.map (·.1) = ds.map (·.1) ∧ Dens Γ Z (kvs.map (·.2)) (ds.map (·.2)) := by
  cases h with
  | den h => cases h with
    | dic q k c => exact ⟨_, _, rfl, s _ _ q, k, by have := congrArg List.length k; simpa using this, c⟩
  | dic q k c => exact ⟨_, _, rfl, q, k, c⟩
/-- the parts of a sequence, whichever it is -/
def items : D → Option (List D)
  | .tup ds => some ds
  | .lst ds => some ds
  | .rol ds => some ds
  | _ => none
theorem View.items {ds : List D} (s : ∀ a o, Z a = some o → H a = some o) (h : View Γ Z H v d) (e : items d = some ds) : ∃ a vs, v = .ref a ∧ (SqL Γ.K H a vs ∨ SqT Γ.K H a vs) ∧ Dens Γ Z vs ds := by
  cases d <;> simp [DL.items] at e <;> subst e
  · obtain ⟨a, vs, e, q, c⟩ := h.tup s
    exact ⟨a, vs, e, .inr q, c⟩
  · obtain ⟨a, vs, e, q, c⟩ := h.lstH s
    exact ⟨a, vs, e, .inl (SqL.of q), c⟩
  · obtain ⟨a, vs, e, q, c⟩ := h.rolH s
    exact ⟨a, vs, e, .inl q, c⟩
theorem Dens.nil : Dens Γ Z [] [] := ⟨rfl, fun i v d h => by simp at h⟩
theorem Dens.cons {vs : List V} {ds : List D} (h : Den Γ Z v d) (t : Dens Γ Z vs ds) : Dens Γ Z (v :: vs) (d :: ds) := ⟨by simp [t.1], fun i v' d' h1 h2 => by
  cases i with
  | zero => simp at h1 h2; rw [← h1, ← h2]; exact h
  | succ i => exact t.2 i v' d' (by simpa using h1) (by simpa using h2)⟩
theorem Dens.append {vs ws : List V} {ds es : List D} (h : Dens Γ Z vs ds) (t : Dens Γ Z ws es) : Dens Γ Z (vs ++ ws) (ds ++ es) := ⟨by simp [h.1, t.1], fun i v' d' h1 h2 => by
  by_cases q : i < vs.length
  · rw [List.getElem?_append_left q] at h1
    rw [List.getElem?_append_left (by rw [← h.1]; exact q)] at h2
    exact h.2 i v' d' h1 h2
  · rw [List.getElem?_append_right (by omega)] at h1
    rw [List.getElem?_append_right (by rw [← h.1]; omega), ← h.1] at h2
    exact t.2 _ v' d' h1 h2⟩
theorem Dens.drop {vs : List V} {ds : List D} (n : Nat) (h : Dens Γ Z vs ds) : Dens Γ Z (vs.drop n) (ds.drop n) := ⟨by simp [h.1], fun i v' d' h1 h2 => h.2 (n + i) v' d' (by simpa using h1) (by simpa using h2)⟩
theorem Dens.take {vs : List V} {ds : List D} (n : Nat) (h : Dens Γ Z vs ds) : Dens Γ Z (vs.take n) (ds.take n) := ⟨by simp [h.1], fun i v' d' h1 h2 => by
  by_cases q : i < n
  · rw [List.getElem?_take_of_lt q] at h1 h2
    exact h.2 i v' d' h1 h2
  · rw [List.getElem?_take_eq_none (by omega)] at h1; cases h1⟩
def cutL {α : Type} (xs : List α) (lo hi : Option Int) : List α := (xs.drop (HT.sIx xs.length 0 lo)).take (HT.sIx xs.length xs.length hi - HT.sIx xs.length 0 lo)
theorem Dens.cut {vs : List V} {ds : List D} (lo hi : Option Int) (h : Dens Γ Z vs ds) : Dens Γ Z (cutV vs lo hi) (cutL ds lo hi) := by
  unfold cutV cutL
  rw [h.1]
  exact (h.drop _).take _
/-- all flat -/
def flats : List D → Option (List V)
  | [] => some []
  | d :: ds => match flat d, flats ds with
    | some x, some xs => some (x :: xs)
    | _, _ => none
theorem flatV_flat (h : DL.flat d = some x) : flatV x = true := by cases d <;> simp [DL.flat] at h <;> subst h <;> rfl
theorem Dens.flats : ∀ {ds : List D} {vs xs : List V}, Dens Γ Z vs ds → flats ds = some xs → vs = xs ∧ xs.all flatV = true
  | [], vs, xs, h, e => by
    have e' : xs = [] := by simpa [DL.flats] using e.symm
    subst e'
    exact ⟨List.length_eq_zero_iff.mp h.1, rfl⟩
  | d :: ds, [], xs, h, e => by have := h.1; simp at this
  | d :: ds, v :: vs, xs, h, e => by
    cases f : DL.flat d with
    | none => simp [DL.flats, f] at e
    | some x =>
      cases g : DL.flats ds with
      | none => simp [DL.flats, f, g] at e
      | some ys =>
        simp [DL.flats, f, g] at e
        subst e
        have t : Dens Γ Z vs ds := ⟨by simpa using h.1, fun i v' d' h1 h2 => h.2 (i + 1) v' d' (by simpa using h1) (by simpa using h2)⟩
        obtain ⟨h1, h2⟩ := Dens.flats t g
        have h0 := (h.2 0 v d rfl rfl).flat f
        subst h1 h0
        exact ⟨rfl, by simp [flatV_flat f]; simpa using h2⟩
end

/-! ### + - * // % ** -/
def addD : D → D → Option D
  | .int i, .int j => some (.int (i + j))
  | .str i, .str j => if i.length + j.length ≤ sizeLine then some (.str (i ++ j)) else none
  | .tup xs, .tup ys => if xs.length + ys.length ≤ sizeLine then some (.tup (xs ++ ys)) else none
  | .lst xs, .lst ys => if xs.length + ys.length ≤ sizeLine then some (.lst (xs ++ ys)) else none
  | _, _ => none
def rAddA (K : PySem.W.Frag) : R2 := fun x y H Q => ((rI0 fun i j => .int (i + j)) x y H Q ∨ (∃ i j, x = .str i ∧ y = .str j ∧ i.length + j.length ≤ sizeLine ∧ Q (.str (i ++ j)) H)) ∨ (rCatA K x y H Q ∨ rCat x y H Q)
def intOp (C : Int → Int → Bool) (g : Int → Int → Int) : D → D → Option D
  | .int i, .int j => if C i j then some (.int (g i j)) else none
  | _, _ => none
def intCmp (g : Int → Int → Bool) : D → D → Option D
  | .int i, .int j => some (.bl (g i j))
  | _, _ => none
def tt2 : Int → Int → Bool := fun _ _ => true
abbrev subD := intOp tt2 fun i j => i - j
def mulC (i j : Int) : Bool := (decide (-(2 ^ 64) < i) && decide (i < 2 ^ 64)) || (decide (-(2 ^ 64) < j) && decide (j < 2 ^ 64))
abbrev mulD := intOp mulC fun i j => i * j
def divC (_ j : Int) : Bool := decide (0 < j) && decide (j < 1073741824)
abbrev fdivD := intOp divC fun i j => i / j
def modC (_ j : Int) : Bool := decide (0 < j)
abbrev modD := intOp modC fun i j => i % j
def powC (i j : Int) : Bool := decide (0 ≤ j) && decide (j ≤ 1000000) && decide (i.natAbs < 2 ^ 64)
abbrev powD := intOp powC fun i j => i ^ j.toNat
abbrev shlD := intOp powC fun i j => i * 2 ^ j.toNat
def shrC (_ j : Int) : Bool := decide (0 ≤ j)
abbrev shrD := intOp shrC fun i j => i / 2 ^ j.toNat
abbrev andD := intOp tt2 fun i j => Builtin.bitAnd i j
abbrev orD := intOp tt2 fun i j => Builtin.bitOr i j
abbrev xorD := intOp tt2 fun i j => Builtin.bitXor i j
/-- == of flat values -/
def eqD (d1 d2 : D) : Option D := match flat d1, flat d2 with
  | some x, some y => if scal x y then some (.bl (decide (x = y))) else none
  | _, _ => none
def neD (d1 d2 : D) : Option D := match flat d1, flat d2 with
  | some x, some y => if scal x y then some (.bl (!decide (x = y))) else none
  | _, _ => none
def ltD : D → D → Option D
  | .int i, .int j => some (.bl (decide (i < j)))
  | .str i, .str j => some (.bl (decide (i.cps.toList < j.cps.toList)))
  | _, _ => none
def gtD : D → D → Option D
  | .int i, .int j => some (.bl (decide (j < i)))
  | .str i, .str j => some (.bl (decide (j.cps.toList < i.cps.toList)))
  | _, _ => none
abbrev leD := intCmp fun i j => decide (i ≤ j)
abbrev geD := intCmp fun i j => decide (j ≤ i)
/-- is None -/
def isN (d : D) : Bool := match d with
  | .non => true
  | _ => false
def isND (d1 d2 : D) : Option D := match d2 with
  | .non => some (.bl (isN d1))
  | _ => none
def notND (d1 d2 : D) : Option D := match d2 with
  | .non => some (.bl (!isN d1))
  | _ => none
/-- in: one sign of a text; a flat value of a sequence; a key of a dict -/
def keyOf : D → Option Key
  | .int i => some (.inl i)
  | .str s => some (.inr s)
  | _ => none
def hasK {α : Type} (kvs : List (Key × α)) (k : Key) : Bool := kvs.any fun p => decide (p.1 = k)
def inB (d1 d2 : D) : Option Bool := match d2 with
  | .str z => match d1 with
    | .str i => if i.cps.size = 1 then some (decide (i.cps.getD 0 0 ∈ z.cps.toList)) else none
    | _ => none
  | .dic kvs => match keyOf d1 with
    | some k => some (hasK kvs k)
    | none => none
  | _ => match flat d1, items d2 with
    | some x, some ds => match flats ds with
      | some ys => some (inV x ys)
      | none => none
    | _, _ => none
def inD (d1 d2 : D) : Option D := (inB d1 d2).map .bl
def notInD (d1 d2 : D) : Option D := (inB d1 d2).map fun b => .bl (!b)
end DL
end

section
set_option Elab.async false
set_option linter.all false
set_option maxRecDepth 100000
set_option maxHeartbeats 4000000
/-! The layer D: that the operators by values are Python's. -/
namespace DL
open PySem L2
section
variable {Γ : Ctx} {X : Cx}
theorem intOp_ok {C : Int → Int → Bool} {C' : Int → Int → Prop} {g : Int → Int → Int} (h : ∀ i j, C i j = true → C' i j) : OpV Γ false (rI C' fun i j => .int (g i j)) (intOp C g) := by
  intro Z H v1 v2 d1 d2 d Q s w1 w2 e k
  unfold intOp at e
  split at e
  · rename_i i j
    split at e
    · rename_i hc
      cases e
      exact ⟨i, j, w1.int, w2.int, h i j hc, k _ Z H (.refl s) (fun _ => rfl) (.int _)⟩
    · cases e
  · cases e
theorem intOp0_ok {g : Int → Int → Int} : OpV Γ false (rI0 fun i j => .int (g i j)) (intOp tt2 g) := by
  intro Z H v1 v2 d1 d2 d Q s w1 w2 e k
  unfold intOp at e
  split at e
  · rename_i i j
    simp only [tt2, if_true] at e
    cases e
    exact ⟨i, j, w1.int, w2.int, k _ Z H (.refl s) (fun _ => rfl) (.int _)⟩
  · cases e
theorem intCmp_ok {g : Int → Int → Bool} : OpV Γ false (rI0 fun i j => .bl (g i j)) (intCmp g) := by
  intro Z H v1 v2 d1 d2 d Q s w1 w2 e k
  unfold intCmp at e
  split at e
  · rename_i i j
    cases e
    exact ⟨i, j, w1.int, w2.int, k _ Z H (.refl s) (fun _ => rfl) (.bl _)⟩
  · cases e
theorem sub_ok : OpV Γ false (rI0 fun i j => .int (i - j)) subD := intOp0_ok
theorem mul_ok : OpV Γ false (rI CMul fun i j => .int (i * j)) mulD := intOp_ok fun i j h => by
  simp only [mulC, Bool.or_eq_true, Bool.and_eq_true, decide_eq_true_eq] at h
  exact h
theorem fdiv_ok : OpV Γ false (rI CDiv fun i j => .int (i / j)) fdivD := intOp_ok fun i j h => by
  simp only [divC, Bool.and_eq_true, decide_eq_true_eq] at h
  exact h
theorem mod_ok : OpV Γ false (rI (fun _ j => 0 < j) fun i j => .int (i % j)) modD := intOp_ok fun i j h => by
  simp only [modC, decide_eq_true_eq] at h
  exact h
theorem powC_ok {i j : Int} (h : powC i j = true) : CPow i j := by
  simp only [powC, Bool.and_eq_true, decide_eq_true_eq] at h
  exact ⟨h.1.1, h.1.2, h.2⟩
theorem pow_ok : OpV Γ false (rI CPow fun i j => .int (i ^ j.toNat)) powD := intOp_ok fun _ _ h => powC_ok h
theorem shl_ok : OpV Γ false (rI CPow fun i j => .int (i * 2 ^ j.toNat)) shlD := intOp_ok fun _ _ h => powC_ok h
theorem shr_ok : OpV Γ false (rI (fun _ j => 0 ≤ j) fun i j => .int (i / 2 ^ j.toNat)) shrD := intOp_ok fun i j h => by
  simp only [shrC, decide_eq_true_eq] at h
  exact h
theorem and_ok : OpV Γ false (rI0 fun i j => .int (Builtin.bitAnd i j)) andD := intOp0_ok
theorem or_ok : OpV Γ false (rI0 fun i j => .int (Builtin.bitOr i j)) orD := intOp0_ok
theorem xor_ok : OpV Γ false (rI0 fun i j => .int (Builtin.bitXor i j)) xorD := intOp0_ok
theorem op_addA (hK : X.K = Γ.K) : OpR X (binaryOp .Add) (rAddA Γ.K) := by
  rw [← hK]
  exact (op_add.or op_add_str).or (op_catA.or op_cat)
theorem Dens.nil_iff {Z : Hp} {vs : List V} {ds : List D} (h : Dens Γ Z vs ds) : vs = [] ↔ ds = [] := by
  rw [← List.length_eq_zero_iff, ← List.length_eq_zero_iff, h.1]
theorem tupNew {Z H : Hp} {p : Addr} {vs : List V} {ds : List D} (s : ∀ a o, Z a = some o → H a = some o) (n : H p = none) (h : Dens Γ Z vs ds) : Grow Z H (upd Z p (.tup vs)) (upd H p (.tup vs)) ∧ Den Γ (upd Z p (.tup vs)) (.ref p) (.tup ds) := by
  have g := Grow.new1 s (o := .tup vs) n
  exact ⟨g, .tup (SqT.of upd_same) h.1 fun i v d h1 h2 => (h.2 i v d h1 h2).mono g.fz⟩
theorem lstNew {Z H : Hp} {p : Addr} {vs : List V} {ds : List D} (s : ∀ a o, Z a = some o → H a = some o) (n : H p = none) (h : Dens Γ Z vs ds) : Grow Z H (upd Z p (.lst vs)) (upd H p (.lst vs)) ∧ Den Γ (upd Z p (.lst vs)) (.ref p) (.lst ds) := by
  have g := Grow.new1 s (o := .lst vs) n
  exact ⟨g, .lst upd_same h.1 fun i v d h1 h2 => (h.2 i v d h1 h2).mono g.fz⟩
theorem add_ok : OpV Γ true (rAddA Γ.K) addD := by
  intro Z H v1 v2 d1 d2 d Q s w1 w2 e k
  unfold addD at e
  split at e
  · rename_i i j
    cases e
    exact .inl (.inl ⟨i, j, w1.int, w2.int, k _ Z H (.refl s) (fun z => nomatch z) (.int _)⟩)
  · rename_i i j
    split at e
    · rename_i hl
      cases e
      exact .inl (.inr ⟨i, j, w1.str, w2.str, hl, k _ Z H (.refl s) (fun z => nomatch z) (.str _)⟩)
    · cases e
  · rename_i xs ys
    split at e
    · rename_i hl
      cases e
      obtain ⟨a, vs, rfl, q, c⟩ := w1.tup s
      obtain ⟨b, ws, rfl, q2, c2⟩ := w2.tup s
      refine .inr (.inl ⟨a, b, vs, ws, rfl, rfl, q, q2, by rw [c.1, c2.1]; exact hl, fun z => ?_, fun z z2 => ?_, fun _ _ p hp => ?_⟩)
      · have z' : xs = [] := c.nil_iff.mp z
        subst z'
        exact k _ Z H (.refl s) (fun z => nomatch z) (by simpa using w2.tupD)
      · have z' : ys = [] := c2.nil_iff.mp z2
        subst z'
        exact k _ Z H (.refl s) (fun z => nomatch z) (by simpa using w1.tupD)
      · obtain ⟨g, hd⟩ := tupNew s hp (c.append c2)
        exact k _ _ _ g (fun z => nomatch z) hd
    · cases e
  · rename_i xs ys
    split at e
    · rename_i hl
      cases e
      obtain ⟨a, vs, rfl, q, c⟩ := w1.lstH s
      obtain ⟨b, ws, rfl, q2, c2⟩ := w2.lstH s
      refine .inr (.inr ⟨a, b, vs, ws, rfl, rfl, q, q2, by rw [c.1, c2.1]; exact hl, fun p hp => ?_⟩)
      obtain ⟨g, hd⟩ := lstNew s hp (c.append c2)
      exact k _ _ _ g (fun z => nomatch z) hd
    · cases e
  · cases e
theorem eq_ok : OpV Γ false rEq eqD := by
  intro Z H v1 v2 d1 d2 d Q s w1 w2 e k
  unfold eqD at e
  split at e
  · rename_i x y h1 h2
    split at e
    · rename_i hs
      cases e
      rw [w1.flat h1, w2.flat h2]
      exact ⟨hs, k _ Z H (.refl s) (fun _ => rfl) (.bl _)⟩
    · cases e
  · cases e
theorem ne_ok : OpV Γ false rNe neD := by
  intro Z H v1 v2 d1 d2 d Q s w1 w2 e k
  unfold neD at e
  split at e
  · rename_i x y h1 h2
    split at e
    · rename_i hs
      cases e
      rw [w1.flat h1, w2.flat h2]
      exact ⟨hs, k _ Z H (.refl s) (fun _ => rfl) (.bl _)⟩
    · cases e
  · cases e
def rLtA : R2 := fun x y H Q => (rI0 fun i j => .bl (decide (i < j))) x y H Q ∨ (∃ i j, x = .str i ∧ y = .str j ∧ Q (.bl (decide (i.cps.toList < j.cps.toList))) H)
def rGtA : R2 := fun x y H Q => (rI0 fun i j => .bl (decide (j < i))) x y H Q ∨ (∃ i j, x = .str i ∧ y = .str j ∧ Q (.bl (decide (j.cps.toList < i.cps.toList))) H)
theorem op_ltA : OpR X (compareOp .Lt) rLtA := op_lt.or op_lt_str
theorem op_gtA : OpR X (compareOp .Gt) rGtA := op_gt.or op_gt_str
theorem lt_ok : OpV Γ false rLtA ltD := by
  intro Z H v1 v2 d1 d2 d Q s w1 w2 e k
  unfold ltD at e
  split at e
  · rename_i i j
    cases e
    exact .inl ⟨i, j, w1.int, w2.int, k _ Z H (.refl s) (fun _ => rfl) (.bl _)⟩
  · rename_i i j
    cases e
    exact .inr ⟨i, j, w1.str, w2.str, k _ Z H (.refl s) (fun _ => rfl) (.bl _)⟩
  · cases e
theorem gt_ok : OpV Γ false rGtA gtD := by
  intro Z H v1 v2 d1 d2 d Q s w1 w2 e k
  unfold gtD at e
  split at e
  · rename_i i j
    cases e
    exact .inl ⟨i, j, w1.int, w2.int, k _ Z H (.refl s) (fun _ => rfl) (.bl _)⟩
  · rename_i i j
    cases e
    exact .inr ⟨i, j, w1.str, w2.str, k _ Z H (.refl s) (fun _ => rfl) (.bl _)⟩
  · cases e
theorem View.isN {Z H : Hp} {v : V} {d : D} (h : View Γ Z H v d) : decide (v = .non) = isN d := by
  cases h with
  | den h => cases h <;> simp [DL.isN]
  | _ => simp [DL.isN]
abbrev rIsNA : R2 := fun x y H Q => y = .non ∧ Q (.bl (decide (x = .non))) H
abbrev rNotNA : R2 := fun x y H Q => y = .non ∧ Q (.bl (!decide (x = .non))) H
theorem isN_ok : OpV Γ false rIsNA isND := by
  intro Z H v1 v2 d1 d2 d Q s w1 w2 e k
  unfold isND at e
  split at e
  · cases e
    exact ⟨w2.non, by rw [w1.isN]; exact k _ Z H (.refl s) (fun _ => rfl) (.bl _)⟩
  · cases e
theorem notN_ok : OpV Γ false rNotNA notND := by
  intro Z H v1 v2 d1 d2 d Q s w1 w2 e k
  unfold notND at e
  split at e
  · cases e
    exact ⟨w2.non, by rw [w1.isN]; exact k _ Z H (.refl s) (fun _ => rfl) (.bl _)⟩
  · cases e
/-! in -/
def rDinA (neg : Bool) : R2 := fun x y H Q => ∃ a o, y = .ref a ∧ DGet H a x o ∧ Q (.bl (if neg then !o.isSome else o.isSome)) H
theorem op_inD (hu : X.A.units + 1 < cLine) : OpR X (compareOp .In) (rDinA false) := by
  intro pins s σ H x y v u Q I rx ry ⟨a, o, e, g, q⟩
  subst e
  obtain rfl : u = Value.ref a := ry
  exact d_in hu I g rx fun s3 I3 => ⟨.bl o.isSome, H, I3, rfl, q⟩
theorem op_notInD (hu : X.A.units + 1 < cLine) : OpR X (compareOp .NotIn) (rDinA true) := by
  intro pins s σ H x y v u Q I rx ry ⟨a, o, e, g, q⟩
  subst e
  obtain rfl : u = Value.ref a := ry
  exact d_notIn hu I g rx fun s3 I3 => ⟨.bl (!o.isSome), H, I3, rfl, q⟩
def rInSg (neg : Bool) : R2 := fun x y H Q => ∃ (c : Nat) (z : Str), x = .str ⟨#[c]⟩ ∧ y = .str z ∧ Q (.bl (if neg then !decide (c ∈ z.cps.toList) else decide (c ∈ z.cps.toList))) H
def rInA (K : PySem.W.Frag) (neg : Bool) : R2 := fun x y H Q => rIn K neg x y H Q ∨ (rDinA neg x y H Q ∨ rInSg neg x y H Q)
theorem op_inA (hu : X.A.units + 1 < cLine) (hK : X.K = Γ.K) : OpR X (compareOp .In) (rInA Γ.K false) := by
  rw [← hK]
  exact op_in_seq.or ((op_inD hu).or op_in_sign)
theorem op_notInA (hu : X.A.units + 1 < cLine) (hK : X.K = Γ.K) : OpR X (compareOp .NotIn) (rInA Γ.K true) := by
  rw [← hK]
  exact op_notIn_seq.or ((op_notInD hu).or op_notIn_sign)
theorem key_kV {Z : Hp} {v : V} {d : D} {k : Key} {H : Hp} (h : View Γ Z H v d) (e : keyOf d = some k) : v = kV k := by
  cases d <;> simp [keyOf] at e <;> subst e
  · exact h.int
  · exact h.str
theorem one_sign {i : Str} (h : i.cps.size = 1) : i = ⟨#[i.cps.getD 0 0]⟩ := by
  obtain ⟨⟨l⟩⟩ := i
  match l, h with
  | [c], _ => rfl
theorem hasK_valV {kvs : List (Key × V)} {ds : List (Key × D)} (h : kvs.map (·.1) = ds.map (·.1)) (k : Key) : (valV kvs k).isSome = hasK ds k := by
  rw [← valV_any]
  unfold hasK
  have e1 : (kvs.any fun kv => decide (kv.1 = k)) = (kvs.map (·.1)).any fun x => decide (x = k) := by simp [List.any_map, Function.comp_def]
  have e2 : (ds.any fun kv => decide (kv.1 = k)) = (ds.map (·.1)).any fun x => decide (x = k) := by simp [List.any_map, Function.comp_def]
  rw [e1, e2, h]
theorem inB_ok {neg : Bool} {Z H : Hp} {v1 v2 : V} {d1 d2 : D} {b : Bool} {Q : VK} (s : ∀ a o, Z a = some o → H a = some o) (w1 : View Γ Z H v1 d1) (w2 : View Γ Z H v2 d2) (e : inB d1 d2 = some b) (k : Q (.bl (if neg then !b else b)) H) : rInA Γ.K neg v1 v2 H Q := by
  unfold inB at e
  split at e
  · rename_i z
    split at e
    · rename_i i
      split at e
      · rename_i hi
        simp only [Option.some.injEq] at e
        subst e
        refine .inr (.inr ⟨i.cps.getD 0 0, z, ?_, w2.str, k⟩)
        rw [w1.str]
        exact congrArg V.str (one_sign hi)
      · cases e
    · cases e
  · rename_i kvs
    split at e
    · rename_i kk hk
      simp only [Option.some.injEq] at e
      subst e
      obtain ⟨a, kvs', rfl, q, hm, hl, c⟩ := w2.dicH s
      refine .inr (.inl ⟨a, valV kvs' kk, rfl, ?_, ?_⟩)
      · rw [key_kV w1 hk]; exact .k q
      · rw [hasK_valV hm]; exact k
    · cases e
  · split at e
    · rename_i x ds hx hds
      split at e
      · rename_i ys hy
        simp only [Option.some.injEq] at e
        subst e
        obtain ⟨a, vs, rfl, q, c⟩ := w2.items s hds
        obtain ⟨rfl, hf⟩ := c.flats hy
        rw [w1.flat hx]
        exact .inl ⟨a, vs, rfl, q, flatV_flat hx, hf, k⟩
      · cases e
    · cases e
theorem in_ok : OpV Γ false (rInA Γ.K false) inD := by
  intro Z H v1 v2 d1 d2 d Q s w1 w2 e k
  obtain ⟨b, hb, rfl⟩ : ∃ b, inB d1 d2 = some b ∧ D.bl b = d := by simpa [inD] using e
  exact inB_ok s w1 w2 hb (k _ Z H (.refl s) (fun _ => rfl) (.bl _))
theorem notIn_ok : OpV Γ false (rInA Γ.K true) notInD := by
  intro Z H v1 v2 d1 d2 d Q s w1 w2 e k
  obtain ⟨b, hb, rfl⟩ : ∃ b, inB d1 d2 = some b ∧ D.bl (!b) = d := by simpa [notInD] using e
  exact inB_ok s w1 w2 hb (k _ Z H (.refl s) (fun _ => rfl) (.bl _))
end
end DL
end

section
set_option Elab.async false
set_option linter.all false
set_option maxRecDepth 100000
set_option maxHeartbeats 4000000
/-! The layer D: attributes, items, slices. -/
namespace DL
open PySem L2

structure AttrOk (Γ : Ctx) (f : Str) (ix : Nat → Option Nat) : Prop where
  ok : ∀ c k, ix c = some k → Cls Γ.K (Γ.cls c) ∧ NoAttr Γ.K (Γ.cls c) f ∧ (Γ.nms c)[k]? = some f ∧ (Γ.nms c).Nodup
def kidV (i : Nat) (p : List Nat) (k : Nat) (o : Option O) (e : Env) : R AV := match o with
  | some (.fz d) => .ok (.tm d) e
  | some _ => .ok (.pl i (p ++ [k])) e
  | none => .bad
def optV (o : Option D) (e : Env) : R AV := match o with
  | some d => .ok (.tm d) e
  | none => .bad
def attr (ix : Nat → Option Nat) (x : AV) (e : Env) : R AV := match x with
  | .tm (.obj c ds) => match ix c with
    | some k => optV ds[k]? e
    | none => .bad
  | .tm _ => .bad
  | .pl i p => match subS e i p with
    | some (.obj c os) => match ix c with
      | some k => kidV i p k os[k]? e
      | none => .bad
    | _ => .bad
def attrV (ix : Nat → Option Nat) (g : Env → R AV) (env : Env) : R AV := (g env).bind (attr ix)
theorem lookup_zip {f : Str} : ∀ {ns : List Str} {vs : List V} {k : Nat} {v : V}, ns.Nodup → ns[k]? = some f → vs[k]? = some v → (ns.zip vs).lookup f = some v
  | [], _, _, _, _, h, _ => by simp at h
  | n :: ns, [], _, _, _, _, h => by simp at h
  | n :: ns, w :: vs, 0, v, nd, h1, h2 => by
    simp at h1 h2
    subst h1 h2
    simp [List.lookup]
  | n :: ns, w :: vs, k + 1, v, nd, h1, h2 => by
    have hn : n ≠ f := fun e => by
      subst e
      exact (List.nodup_cons.mp nd).1 (List.mem_of_getElem? (by simpa using h1))
    have ih := lookup_zip (k := k) (List.nodup_cons.mp nd).2 (by simpa using h1) (by simpa using h2)
    rw [List.zip_cons_cons, List.lookup_cons]
    have e : (f == n) = false := by simpa using Ne.symm hn
    rw [e]; exact ih
section
variable {X : Cx} {Γ : Ctx} {W : WX} {q qa qb qc : Bool} {e a b c : Expr} {pos : Pos}
/-- a part of an owned node, seen from its slot -/
theorem kid_ok {σ : St} {B : Base} {env : Env} {Z H : Hp} {F : FS} {i k : Nat} {p : List Nat} {v v1 : V} {oc : Option O} {Q : VK} (n : Now Γ σ B env Z H F) (hq : q = true → H = B.H) (w : Wat H σ i p v) (ow : ∀ o, oc = some o → ∃ A, Own Γ Z H v1 o A) (w1 : Wk H v [k] v1)
    (p1 : PR Γ W σ B (kidV i p k oc env) (okV Γ σ q B Q)) : Q v1 H := by
  obtain ⟨v0, e0, w0⟩ := w
  have w2 : Wat H σ i (p ++ [k]) v1 := ⟨v0, e0, w0.snoc w1⟩
  unfold kidV at p1
  split at p1
  · rename_i d
    obtain ⟨A, ow⟩ := ow _ rfl
    cases ow with
    | fz hd _ => exact p1 v1 Z H F n hq hd
  · exact p1 v1 Z H F n hq w2
  · exact p1.elim
theorem opt_ok {σ : St} {B : Base} {env : Env} {Z H : Hp} {F : FS} {v1 : V} {oc : Option D} {Q : VK} (n : Now Γ σ B env Z H F) (hq : q = true → H = B.H) (hd : ∀ d, oc = some d → Den Γ Z v1 d) (p1 : PR Γ W σ B (optV oc env) (okV Γ σ q B Q)) : Q v1 H := by
  unfold optV at p1
  split at p1
  · exact p1 v1 Z H F n hq (hd _ rfl)
  · exact p1.elim
theorem dv_attr {f : Str} {ix : Nat → Option Nat} {g : Env → R AV} (hK : X.K = Γ.K) (ok : AttrOk Γ f ix) (h : DV X Γ W q e g) (hb : attributeBase e f X.env (eval e X.env) = eval e X.env := by rfl) : DV X Γ W q (.Attribute e f pos) (attrV ix g) :=
  PE.imp (pe_fld h hb) fun σ H Q ⟨Z, env, F, r, s, p⟩ => by
    rw [hK]
    refine ⟨Z, env, F, r, s, PR.bind p fun x e1 _ p1 v Z1 H1 F1 n hq hx => ?_⟩
    cases x with
    | tm d =>
      have hx : Den Γ Z1 v d := hx
      cases hx with
      | @obj a dx c vs ds e1 e2 l m ch =>
        simp only [attr] at p1
        cases hi : ix c with
        | none => rw [hi] at p1; exact p1.elim
        | some k =>
          rw [hi] at p1
          obtain ⟨hc, hn, hf, nd⟩ := ok.ok c k hi
          simp only at p1
          cases hd : ds[k]? with
          | none => rw [hd] at p1; exact p1.elim
          | some d =>
            have hk : k < vs.length := by rw [l]; exact (List.getElem?_eq_some_iff.mp hd).1
            have hv : vs[k]? = some vs[k] := by simp [hk]
            refine ⟨a, _, dx, _, vs[k], rfl, n.sep.sub _ _ e1, hc, hn, lookup_zip nd hf hv, ?_⟩
            exact opt_ok n hq (fun d' e' => ch k _ _ hv e') p1
      | _ => exact p1.elim
    | pl i pp =>
      simp only [attr] at p1
      cases g : subS e1 i pp with
      | none => rw [g] at p1; exact p1.elim
      | some o =>
        rw [g] at p1
        cases o with
        | obj c os =>
          simp only at p1
          cases hi : ix c with
          | none => rw [hi] at p1; exact p1.elim
          | some k =>
            rw [hi] at p1
            simp only at p1
            obtain ⟨hc, hn, hf, nd⟩ := ok.ok c k hi
            obtain ⟨A1, ow, _, _⟩ := n.rel.focus hx g
            cases ow with
            | @obj a dx _ vs _ _ Fs ea eb l m ch pt =>
              cases hd : os[k]? with
              | none => rw [hd] at p1; exact p1.elim
              | some oc =>
                have hk : k < vs.length := by rw [l]; exact (List.getElem?_eq_some_iff.mp hd).1
                have hv : vs[k]? = some vs[k] := by simp [hk]
                refine ⟨a, _, dx, _, vs[k], rfl, ea, hc, hn, lookup_zip nd hf hv, ?_⟩
                rw [hd] at p1
                refine kid_ok n hq hx (fun o' e' => ?_) (.obj ea (by rw [List.map_snd_zip m]; exact hv) .nil) p1
                cases e'
                exact ⟨_, ch k _ _ hv hd⟩
        | _ => exact p1.elim

/-! ### items -/
def valK {α κ : Type} [DecidableEq κ] (ds : List (κ × α)) (k : κ) : Option α := (ds.find? fun p => decide (p.1 = k)).map (·.2)
def posK {α κ : Type} [DecidableEq κ] (ds : List (κ × α)) (k : κ) : Option Nat := ds.findIdx? fun p => decide (p.1 = k)
def atD {α : Type} (ds : List α) (i : Int) : Option α := (ixN ds.length i).bind fun k => ds[k]?
/-- a key that is a tuple of flat keys -/
def keysOf : List D → Option (List Key)
  | [] => some []
  | d :: ds => match keyOf d, keysOf ds with
    | some k, some ks => some (k :: ks)
    | _, _ => none
def itemD (d i : D) : Option D := match d with
  | .tup ds => match i with
    | .int n => atD ds n
    | _ => none
  | .lst ds => match i with
    | .int n => atD ds n
    | _ => none
  | .rol ds => match i with
    | .int n => atD ds n
    | _ => none
  | .str z => match i with
    | .int n => if z.length ≤ sizeLine then (atD z.cps.toList n).map fun c => .str ⟨#[c]⟩ else none
    | _ => none
  | .dic kvs => match keyOf i with
    | some k => valK kvs k
    | none => none
  | _ => none
/-- the place of an item in an owned node -/
def itemK (o : O) (i : D) : Option Nat := match o with
  | .lst os => match i with
    | .int n => ixN os.length n
    | _ => none
  | .dic kvs => match keyOf i with
    | some k => posK kvs k
    | none => none
  | _ => none
def item (x : AV) (i : D) (e : Env) : R AV := match x with
  | .tm d => optV (itemD d i) e
  | .pl j p => match subS e j p with
    | some o => match itemK o i with
      | some k => kidV j p k (kid o k) e
      | none => .bad
    | none => .bad
def itemV (g : Env → R AV) (f : Env → R D) (qb : Bool) (env : Env) : R AV := (g env).bind fun x e1 => (f e1).bind fun i e2 => if stab x qb then item x i e2 else .bad
def rIxD : R2 := fun x y H Q => ∃ a v, x = .ref a ∧ DGet H a y (some v) ∧ Q v H
open PySem.Spec PyProof.Rows in
theorem ix_dict (hu : X.A.units + 1 < cLine) : IxR X rIxD := by
  intro value slice pins s σ H x y v u Q I rx ry ⟨a, w, e, g, q⟩ hs
  subst e
  obtain rfl : v = Value.ref a := rx
  have hT : s.TypeIs (.ref a) "dict" := dict_typeIs I g
  unfold subscriptTail
  refine wpAny_bind ?_
  rw [getitemInPython_of_ne hT.not_modules]
  refine wpAny_bind (wpAny_specialOf hT PySem.F.slot_dict_getitem.lookup ?_)
  have fin : wpAny (model X.prog X.w) X.A (subscripted slice false (.ref a) u) (fun r s₃ => wpAny (model X.prog X.w) X.A (letTemporaryGo value (.ref a) r >>= fun _ => pure r) (EP X pins σ Q) X.xe s₃) X.xe s := by
    rw [hs]
    exact wpAny_operating (wpAny_mono (d_getItem (Q := fun w' s' => ∃ v H', Inv X pins σ H' s' ∧ RelV v w' ∧ Q v H') hu I g ry fun w' s3 I3 rw' => ⟨w, H, I3, rw', q⟩) (fun r s₃ h₃ => wpAny_bind (wpAny_letTemporaryGo (wpAny_pure h₃))) fun _ _ x => x)
  first
    | exact wpAny_pure (wpAny_bind fin)
    | exact wpAny_bind (wpAny_pure (wpAny_bind fin))
    | exact wpAny_bind fin
def rIxA (K : PySem.W.Frag) : R2 := fun x y H Q => rIx K x y H Q ∨ rIxD x y H Q
theorem ix_A (hu : X.A.units + 1 < cLine) (hK : X.K = Γ.K) : IxR X (rIxA Γ.K) := by
  rw [← hK]
  exact ix_seq.or (ix_dict hu)
theorem atD_at {Z : Hp} {vs : List V} {ds : List D} {n : Int} {d : D} (c : Dens Γ Z vs ds) (h : atD ds n = some d) : ∃ v, atI vs n = some v ∧ Den Γ Z v d := by
  unfold atD at h
  unfold atI
  rw [c.1]
  cases hk : ixN ds.length n with
  | none => rw [hk] at h; cases h
  | some k =>
    rw [hk] at h
    have h : ds[k]? = some d := h
    have hl : k < vs.length := by rw [c.1]; exact (List.getElem?_eq_some_iff.mp h).1
    exact ⟨vs[k], by simp [hl], c.2 k _ _ (by simp [hl]) h⟩
theorem valK_get {κ : Type} [DecidableEq κ] {Z : Hp} {kvs : List (κ × V)} {ds : List (κ × D)} {k : κ} {d : D} (hm : kvs.map (·.1) = ds.map (·.1)) (c : Dens Γ Z (kvs.map (·.2)) (ds.map (·.2))) (h : valK ds k = some d) : ∃ v, valV kvs k = some v ∧ Den Γ Z v d := by
  induction ds generalizing kvs with
  | nil => simp [valK] at h
  | cons q ds ih =>
    cases kvs with
    | nil => simp at hm
    | cons p kvs =>
      simp only [List.map_cons, List.cons.injEq] at hm
      have c0 := c.2 0 p.2 q.2 rfl rfl
      have ct : Dens Γ Z (kvs.map (·.2)) (ds.map (·.2)) := ⟨by simpa using c.1, fun i v d h1 h2 => c.2 (i + 1) v d (by simpa using h1) (by simpa using h2)⟩
      by_cases e : q.1 = k
      · have e1 : p.1 = k := hm.1.trans e
        refine ⟨p.2, by simp [valV, List.find?_cons, e1], ?_⟩
        simp [valK, List.find?_cons, e] at h
        subst h; exact c0
      · have e1 : ¬ p.1 = k := fun z => e (hm.1.symm.trans z)
        obtain ⟨v, h1, h2⟩ := ih hm.2 ct (by simpa [valK, List.find?_cons, e] using h)
        exact ⟨v, by rw [valV_neg e1]; exact h1, h2⟩
theorem keysOf_ok {Z : Hp} : ∀ {ds : List D} {ks : List Key} {vs : List V}, keysOf ds = some ks → Dens Γ Z vs ds → vs = ks.map kV
  | [], ks, vs, h, c => by
    simp [keysOf] at h; subst h
    exact List.length_eq_zero_iff.mp c.1
  | d :: ds, ks, [], h, c => by have := c.1; simp at this
  | d :: ds, ks, v :: vs, h, c => by
    cases h1 : keyOf d with
    | none => simp [keysOf, h1] at h
    | some k =>
      cases h2 : keysOf ds with
      | none => simp [keysOf, h1, h2] at h
      | some ks' =>
        simp [keysOf, h1, h2] at h
        subst h
        have c0 := c.2 0 v d rfl rfl
        have ct : Dens Γ Z vs ds := ⟨by simpa using c.1, fun i v d h1 h2 => c.2 (i + 1) v d (by simpa using h1) (by simpa using h2)⟩
        have e0 : v = kV k := key_kV (H := Z) (.den c0) h1
        rw [List.map_cons, ← e0, ← keysOf_ok h2 ct]
theorem posK_get {κ : Type} [DecidableEq κ] {α : Type} {kvs : List (κ × V)} {ds : List (κ × α)} {k : κ} {m : Nat} (hm : kvs.map (·.1) = ds.map (·.1)) (h : posK ds k = some m) : ∃ v, valV kvs k = some v ∧ (kvs.map (·.2))[m]? = some v := by
  induction ds generalizing kvs m with
  | nil => simp [posK] at h
  | cons q ds ih =>
    cases kvs with
    | nil => simp at hm
    | cons p kvs =>
      simp only [List.map_cons, List.cons.injEq] at hm
      by_cases e : q.1 = k
      · have e1 : p.1 = k := hm.1.trans e
        simp [posK, List.findIdx?_cons, e] at h
        subst h
        exact ⟨p.2, by simp [valV, List.find?_cons, e1], rfl⟩
      · have e1 : ¬ p.1 = k := fun z => e (hm.1.symm.trans z)
        simp [posK, List.findIdx?_cons, e] at h
        obtain ⟨m', h3, rfl⟩ := h
        obtain ⟨v, h1, h2⟩ := ih hm.2 (m := m') (by simpa [posK] using h3)
        exact ⟨v, by rw [valV_neg e1]; exact h1, by simpa using h2⟩
theorem Den.tupH {Z H : Hp} {v : V} {ds : List D} (s : ∀ a o, Z a = some o → H a = some o) (h : Den Γ Z v (.tup ds)) : ∃ a vs, v = .ref a ∧ SqT Γ.K H a vs ∧ Dens Γ Z vs ds := View.tup s (.den (H := H) h)
end
end DL
end

section
set_option Elab.async false
set_option linter.all false
set_option maxRecDepth 100000
set_option maxHeartbeats 4000000
/-! The layer D: items, slices, displays, calls of built-ins. -/
namespace DL
open PySem L2
section
variable {X : Cx} {Γ : Ctx} {W : WX} {q qa qb qc : Bool} {e a b c : Expr} {pos : Pos}
theorem itemD_ok {Z H : Hp} {v1 v2 : V} {d i d' : D} {Q : VK} (s : ∀ a o, Z a = some o → H a = some o) (w1 : View Γ Z H v1 d) (w2 : Den Γ Z v2 i) (e : itemD d i = some d') (k : ∀ v, Den Γ Z v d' → Q v H) : rIxA Γ.K v1 v2 H Q := by
  have w2v : View Γ Z H v2 i := .den w2
  unfold itemD at e
  split at e
  · rename_i ds
    split at e
    · rename_i n
      obtain ⟨a, vs, rfl, q, c⟩ := w1.tup s
      obtain ⟨v, hv, hd⟩ := atD_at c e
      exact .inl (.inr (.inl ⟨a, vs, n, v, rfl, w2v.int, q, hv, k v hd⟩))
    · cases e
  · rename_i ds
    split at e
    · rename_i n
      obtain ⟨a, vs, rfl, q, c⟩ := w1.lstH s
      obtain ⟨v, hv, hd⟩ := atD_at c e
      exact .inl (.inl ⟨a, vs, n, v, rfl, w2v.int, SqL.of q, hv, k v hd⟩)
    · cases e
  · rename_i ds
    split at e
    · rename_i n
      obtain ⟨a, vs, rfl, q, c⟩ := w1.rolH s
      obtain ⟨v, hv, hd⟩ := atD_at c e
      exact .inl (.inl ⟨a, vs, n, v, rfl, w2v.int, q, hv, k v hd⟩)
    · cases e
  · rename_i z
    split at e
    · rename_i n
      split at e
      · rename_i hz
        obtain ⟨c, hc, rfl⟩ : ∃ c, atD z.cps.toList n = some c ∧ D.str ⟨#[c]⟩ = d' := by simpa using e
        exact .inl (.inr (.inr ⟨z, n, c, w1.str, w2v.int, hz, hc, k _ (.str _)⟩))
      · cases e
    · cases e
  · rename_i kvs
    split at e
    · rename_i kk hk
      obtain ⟨a, kvs', rfl, q, hm, c⟩ := w1.dicH s
      obtain ⟨v, hv, hd⟩ := valK_get hm c e
      refine .inr ⟨a, v, rfl, ?_, k v hd⟩
      rw [key_kV w2v hk, ← hv]
      exact .k q
    · cases e
  · cases e
/-- o[i] -/
theorem dv_item {g : Env → R AV} {f : Env → R D} (hu : X.A.units + 1 < cLine) (hK : X.K = Γ.K) (ha : DV X Γ W qa a g) (hb : DF X Γ W qb b f) (hs : PlainIx b := by exact fun _ _ => rfl) : DV X Γ W (qa && qb) (.Subscript a b pos) (itemV g f qb) :=
  PE.imp (pe_ix (ix_A hu hK) ha hb hs) fun σ H Q ⟨Z, env, F, r, s, p⟩ => by
    refine ⟨Z, env, F, r, s, PR.bind p fun x e1 _ p1 v1 Z1 H1 F1 n1 q1 a1 => ⟨Z1, e1, F1, n1.rel, n1.sep, PR.bindS p1 n1.step fun i e2 _ p2 v2 Z2 H2 F2 n2 q2 a2 => ?_⟩⟩
    have n2' := n2.from n1.step
    have hq : (qa && qb) = true → H2 = H := fun hq => by
      have hq := Bool.and_eq_true_iff.mp hq
      exact (q2 hq.2).trans (q1 hq.1)
    by_cases hs : stab x qb = true
    · rw [if_pos hs] at p2
      have a1' : AVat Γ Z2 H2 σ x v1 := a1.still hs n2.step.fz q2
      cases x with
      | tm d =>
        simp only [item] at p2
        cases e : itemD d i with
        | none => rw [e] at p2; exact p2.elim
        | some d' =>
          rw [e] at p2
          exact itemD_ok n2'.sep.sub (.den a1') a2 e fun v hv => p2 v Z2 H2 F2 n2' hq hv
      | pl j pp =>
        simp only [item] at p2
        cases g : subS e2 j pp with
        | none => rw [g] at p2; exact p2.elim
        | some o =>
          rw [g] at p2
          simp only at p2
          cases hk : itemK o i with
          | none => rw [hk] at p2; exact p2.elim
          | some k =>
            rw [hk] at p2
            simp only at p2
            obtain ⟨A1, ow, _, _⟩ := n2'.rel.focus a1' g
            have w2v : View Γ Z2 H2 v2 i := .den a2
            cases ow with
            | @lst a vs os _ Fs ea l ch pt =>
              cases i with
              | int n =>
                have hk : ixN os.length n = some k := hk
                cases hd : os[k]? with
                | none => simp [kid, hd, kidV] at p2; exact p2.elim
                | some oc =>
                  have hl : k < vs.length := by rw [l]; exact (List.getElem?_eq_some_iff.mp hd).1
                  have hv : vs[k]? = some vs[k] := by simp [hl]
                  refine .inl (.inl ⟨a, vs, n, vs[k], rfl, w2v.int, SqL.of ea, ?_, ?_⟩)
                  · unfold atI
                    rw [l, hk]
                    exact hv
                  · refine kid_ok n2' hq a1' (fun o' e' => ?_) (.lst ea hv .nil) p2
                    have e' : os[k]? = some o' := e'
                    exact ⟨_, ch k _ _ hv e'⟩
              | _ => simp [itemK] at hk
            | @dic a os _ kvs Fs ea l ch pt =>
              have hk : (match keyOf i with | some k => posK os k | none => none) = some k := hk
              cases hi : keyOf i with
              | none => rw [hi] at hk; cases hk
              | some kk =>
                rw [hi] at hk
                obtain ⟨v, hv, hp⟩ := posK_get l hk
                refine .inr ⟨a, v, rfl, ?_, ?_⟩
                · rw [key_kV w2v hi, ← hv]; exact .k ea
                · refine kid_ok n2' hq a1' (fun o' e' => ?_) (.dic ea hp .nil) p2
                  have e' : (os[k]?).map (·.2) = some o' := e'
                  exact ⟨_, ch k _ _ hp (by simpa using e')⟩
            | _ => simp [itemK] at hk
    · rw [if_neg hs] at p2; exact p2.elim

/-! ### a part of a slice -/
abbrev okP (Γ : Ctx) (σ : St) (q : Bool) (B : Base) (Q : Option Int → Hp → Prop) (o : Option Int) (env : Env) : Prop := ∀ Z H F, Now Γ σ B env Z H F → (q = true → H = B.H) → Q o H
def tP (Γ : Ctx) (W : WX) (q : Bool) (f : Env → R (Option Int)) : TO := fun σ H Q => ∃ Z env F, Rel Γ Z H σ env F ∧ Sep Z H F ∧ PR Γ W σ ⟨F, H, Z⟩ (f env) (okP Γ σ q ⟨F, H, Z⟩ Q)
abbrev DP (X : Cx) (Γ : Ctx) (W : WX) (q : Bool) (e : Option Expr) (f : Env → R (Option Int)) : Prop := PO X e (tP Γ W q f)
def noP (env : Env) : R (Option Int) := .ok none env
def someP (f : Env → R D) (env : Env) : R (Option Int) := (f env).bind fun d e => match d with
  | .int i => .ok (some i) e
  | _ => .bad
theorem PO.imp {t t' : TO} {e : Option Expr} (h : PO X e t) (i : ∀ σ H Q, t' σ H Q → t σ H Q) : PO X e t' := ⟨fun pins s σ H Q I hq => h.run pins s σ H Q I (i σ H Q hq)⟩
theorem dp_none : DP X Γ W true none noP := PO.imp po_none fun σ H Q ⟨Z, env, F, r, s, p⟩ => p Z H F (.start r s) fun _ => rfl
theorem dp_some {f : Env → R D} (h : DF X Γ W q e f) : DP X Γ W q (some e) (someP f) := PO.imp (po_some h) fun σ H Q ⟨Z, env, F, r, s, p⟩ => ⟨Z, env, F, r, s, PR.bind p fun d e1 _ p1 v Z1 H1 F1 n hq hd => by
  cases hd with
  | int i => exact ⟨i, rfl, p1 Z1 H1 F1 n hq⟩
  | _ => exact p1.elim⟩
/-- three: what is cut, from, to -/
def three (g : Env → R AV) (fl fh : Env → R (Option Int)) (ql qh : Bool) {β : Type} (k : D → Option Int → Option Int → Env → R β) (env : Env) : R β :=
  (g env).bind fun x e1 => (fl e1).bind fun lo e2 => (fh e2).bind fun hi e3 => if stab x (ql && qh) then (match peek x e3 with
    | some (d, e4) => k d lo hi e4
    | none => .bad) else .bad
theorem three_ok {ql qh : Bool} {σ : St} {H : Hp} {g : Env → R AV} {fl fh : Env → R (Option Int)} {β : Type} {k : D → Option Int → Option Int → Env → R β} {okb : Base → β → Env → Prop} {R : V → Option Int → Option Int → Hp → Prop}
    (hk : ∀ (B : Base) d v lo hi env Z H F, Now Γ σ B env Z H F → ((qa && (ql && qh)) = true → H = B.H) → View Γ Z H v d → PR Γ W σ B (k d lo hi env) (okb B) → R v lo hi H) {env : Env} {Z : Hp} {F : FS} (r : Rel Γ Z H σ env F) (s : Sep Z H F)
    (p : PR Γ W σ ⟨F, H, Z⟩ (three g fl fh ql qh k env) (okb ⟨F, H, Z⟩)) : tV Γ W qa g σ H fun x H1 => tP Γ W ql fl σ H1 fun l H2 => tP Γ W qh fh σ H2 fun u H3 => R x l u H3 := by
  refine ⟨Z, env, F, r, s, PR.bind p fun x e1 _ p1 v1 Z1 H1 F1 n1 q1 a1 => ⟨Z1, e1, F1, n1.rel, n1.sep, PR.bindS p1 n1.step fun lo e2 _ p2 Z2 H2 F2 n2 q2 => ⟨Z2, e2, F2, n2.rel, n2.sep, PR.bindS p2 (n2.from n1.step).step fun hi e3 _ p3 Z3 H3 F3 n3 q3 => ?_⟩⟩⟩
  have n3' := n3.from (n2.from n1.step).step
  by_cases hs : stab x (ql && qh) = true
  · rw [if_pos hs] at p3
    have a1' : AVat Γ Z3 H3 σ x v1 := a1.still hs (fun a o h => n3.step.fz a o (n2.step.fz a o h)) fun hq => by
      have hq := Bool.and_eq_true_iff.mp hq
      exact (q3 hq.2).trans (q2 hq.1)
    cases hx : peek x e3 with
    | none => rw [hx] at p3; exact p3.elim
    | some w =>
      obtain ⟨d, e4⟩ := w
      rw [hx] at p3
      obtain ⟨Z4, F4, n4, z4, w1⟩ := peek_ok n3' a1' hx
      refine hk _ d v1 lo hi e4 Z4 H3 F4 n4 (fun hq => ?_) w1 p3
      have hq := Bool.and_eq_true_iff.mp hq
      have hq2 := Bool.and_eq_true_iff.mp hq.2
      exact ((q3 hq2.2).trans (q2 hq2.1)).trans (q1 hq.1)
  · rw [if_neg hs] at p3; exact p3.elim
def sliceD (d : D) (lo hi : Option Int) : Option D := match d with
  | .tup ds => some (.tup (cutL ds lo hi))
  | .lst ds => some (.lst (cutL ds lo hi))
  | .str z => if z.length ≤ sizeLine then some (.str (cutS z lo hi)) else none
  | _ => none
def sliceF (g : Env → R AV) (fl fh : Env → R (Option Int)) (ql qh : Bool) : Env → R D := three g fl fh ql qh fun d lo hi e => match sliceD d lo hi with
  | some d' => .ok d' e
  | none => .bad
def rSliceA (K : PySem.W.Frag) : V → Option Int → Option Int → Hp → VK → Prop := fun x lo hi H Q => rSlA K x lo hi H Q ∨ (rSlL K x lo hi H Q ∨ rSlS x lo hi H Q)
theorem sl_A (hK : X.K = Γ.K) : SlR X (rSliceA Γ.K) := by
  rw [← hK]
  exact sl_tupA.or (sl_list.or sl_str)
theorem cutL_all {α : Type} {xs : List α} {lo hi : Option Int} (h : HT.sIx xs.length 0 lo = 0 ∧ HT.sIx xs.length xs.length hi = xs.length) : cutL xs lo hi = xs := by
  unfold cutL
  rw [h.1, h.2]
  simp
theorem df_slice {ql qh : Bool} {g : Env → R AV} {fl fh : Env → R (Option Int)} {lo hi : Option Expr} {p2 : Pos} (hK : X.K = Γ.K) (h : DV X Γ W qa e g) (hl : DP X Γ W ql lo fl) (hh : DP X Γ W qh hi fh) : DF X Γ W false (.Subscript e (.Slice lo hi none p2) pos) (sliceF g fl fh ql qh) :=
  PE.imp (pe_slice (sl_A hK) h hl hh) fun σ H Q ⟨Z, env, F, r, s, p⟩ => by
    refine three_ok (k := fun d lo hi e => match sliceD d lo hi with | some d' => .ok d' e | none => .bad) (okb := fun B => okF Γ σ false B Q) (fun B d v lo hi env Z H F n hq w p => ?_) r s p
    cases e : sliceD d lo hi with
    | none => rw [e] at p; exact p.elim
    | some d' =>
      rw [e] at p
      have s := n.sep.sub
      unfold sliceD at e
      split at e
      · rename_i ds
        cases e
        obtain ⟨a, vs, rfl, q, c⟩ := w.tup s
        refine .inl ⟨a, vs, rfl, q, fun hw => ?_, fun hw p' hp => ?_⟩
        · rw [c.1] at hw
          rw [cutL_all hw] at p
          exact p _ Z H F n (fun z => nomatch z) w.tupD
        · obtain ⟨gr, hd⟩ := tupNew s hp (c.cut lo hi)
          exact p _ _ _ F (n.grow gr) (fun z => nomatch z) hd
      · rename_i ds
        cases e
        obtain ⟨a, vs, rfl, q, c⟩ := w.lstH s
        refine .inr (.inl ⟨a, vs, rfl, SqL.of q, fun p' hp => ?_⟩)
        obtain ⟨gr, hd⟩ := lstNew s hp (c.cut lo hi)
        exact p _ _ _ F (n.grow gr) (fun z => nomatch z) hd
      · rename_i z
        split at e
        · rename_i hz
          cases e
          exact .inr (.inr ⟨z, w.str, hz, p _ Z H F n (fun z => nomatch z) (.str _)⟩)
        · cases e
      · cases e
/-! ### arguments, displays -/
def nilA (env : Env) : R (List D) := .ok [] env
def consA (f : Env → R D) (g : Env → R (List D)) (env : Env) : R (List D) := (f env).bind fun d e => (g e).bind fun ds e2 => .ok (d :: ds) e2
theorem da_nil : DA X Γ W true [] nilA := PA.imp pa_nil fun σ H Q ⟨Z, env, F, r, s, p⟩ => p [] Z H F (.start r s) (fun _ => rfl) .nil
theorem da_cons {f : Env → R D} {g : Env → R (List D)} {es : List Expr} (h : DF X Γ W qa e f) (t : DA X Γ W qb es g) (hs : starEach (e :: es) X.env = (false, eval e X.env) :: starEach es X.env := by rfl) : DA X Γ W (qa && qb) (e :: es) (consA f g) :=
  PA.imp (pa_cons h t hs) fun σ H Q ⟨Z, env, F, r, s, p⟩ => ⟨Z, env, F, r, s, PR.bind p fun d e1 _ p1 v1 Z1 H1 F1 n1 q1 a1 => ⟨Z1, e1, F1, n1.rel, n1.sep, PR.bindS p1 n1.step fun ds e2 _ p2 vs Z2 H2 F2 n2 q2 a2 => p2 (v1 :: vs) Z2 H2 F2 (n2.from n1.step) (fun hq => by
    have hq := Bool.and_eq_true_iff.mp hq
    exact (q2 hq.2).trans (q1 hq.1)) (.cons (a1.mono n2.step.fz) a2)⟩⟩
def tupF (f : Env → R (List D)) (env : Env) : R D := (f env).bind fun ds e => if ds.length ≤ sizeLine then .ok (.tup ds) e else .bad
theorem df_tup {f : Env → R (List D)} {es : List Expr} {x1} (h : DA X Γ W q es f) : DF X Γ W false (.Tuple es x1 pos) (tupF f) :=
  PE.imp (pe_tup h) fun σ H Q ⟨Z, env, F, r, s, p⟩ => ⟨Z, env, F, r, s, PR.bind p fun ds e1 _ p1 vs Z1 H1 F1 n hq c => by
    by_cases hl : ds.length ≤ sizeLine
    · rw [if_pos hl] at p1
      refine ⟨by rw [c.1]; exact hl, fun p' hp => ?_⟩
      obtain ⟨gr, hd⟩ := tupNew n.sep.sub hp c
      exact p1 _ _ _ F1 (n.grow gr) (fun z => nomatch z) hd
    · rw [if_neg hl] at p1; exact p1.elim⟩
/-- a new owned list of frozen parts -/
theorem newLst {σ : St} {B : Base} {env : Env} {Z H : Hp} {F : FS} {vs : List V} {ds : List D} {p : Addr} {Q : VK} (n : Now Γ σ B env Z H F) (hp : H p = none) (c : Dens Γ Z vs ds) (k : okE Γ σ B Q (.lst (ds.map .fz)) env) : Q (.ref p) (upd H p (.lst vs)) := by
  have hk : ∀ a o, H a = some o → upd H p (.lst vs) a = some o := fun a o e => by rw [upd_ne (ne_of_none e hp)]; exact e
  have np : ∀ b, F b → b ≠ p := fun b hb e => n.rel.there b hb (by rw [e]; exact hp)
  refine k (.ref p) Z _ (· = p) F (.lst (fun _ _ => False) upd_same (by simp [c.1]) (fun i v o h1 h2 => ?_) noParts) (n.rel.still (fun a o _ e => hk a o e) fun _ _ e => e) (fun b hb hf => np b hf hb) ⟨fun a o e => hk a o (n.sep.sub a o e), fun a ha => ?_⟩ (n.step.trans ⟨fun a o e _ => hk a o e, fun _ _ e => e, fun _ e => .inl e, fun a ha => ?_⟩)
  · obtain ⟨d, h3, rfl⟩ : ∃ d, ds[i]? = some d ∧ O.fz d = o := by simpa using h2
    exact .fz (c.2 i v d h1 h3) fun _ h => h
  · rcases ha with ha | ha
    · cases q : Z a with
      | none => rfl
      | some o =>
        have := n.sep.sub a o q
        rw [ha, hp] at this; cases this
    · exact n.sep.out a ha
  · rcases ha with ha | ha
    · rw [ha]; exact .inr hp
    · exact .inl ha
def lstE (f : Env → R (List D)) (env : Env) : R O := (f env).bind fun ds e => if ds.length ≤ sizeLine then .ok (.lst (ds.map .fz)) e else .bad
theorem de_lst {f : Env → R (List D)} {es : List Expr} (h : DA X Γ W q es f) : DE X Γ W (.List es pos) (lstE f) :=
  PE.imp (pe_lst h) fun σ H Q ⟨Z, env, F, r, s, p⟩ => ⟨Z, env, F, r, s, PR.bind p fun ds e1 _ p1 vs Z1 H1 F1 n hq c => by
    by_cases hl : ds.length ≤ sizeLine
    · rw [if_pos hl] at p1
      exact ⟨by rw [c.1]; exact hl, fun p' hp => newLst n hp c p1⟩
    · rw [if_neg hl] at p1; exact p1.elim⟩
/-! ### a built-in with one operand -/
def CallV (Γ : Ctx) (al : Bool) (r : List V → Hp → VK → Prop) (g : D → Option D) : Prop := ∀ Z H v d d' (Q : VK), (∀ a o, Z a = some o → H a = some o) → View Γ Z H v d → g d = some d' → (∀ v Z' H', Grow Z H Z' H' → (al = false → H' = H) → Den Γ Z' v d' → Q v H') → r [v] H Q
/-- .. that makes a new list -/
def CallL (Γ : Ctx) (r : List V → Hp → VK → Prop) (g : D → Option (List D)) : Prop := ∀ Z H v d ds (Q : VK), (∀ a o, Z a = some o → H a = some o) → View Γ Z H v d → g d = some ds → (∀ vs p, H p = none → Dens Γ Z vs ds → Q (.ref p) (upd H p (.lst vs))) → r [v] H Q
def one (f : Env → R AV) {β : Type} (k : D → Env → R β) (env : Env) : R β := (f env).bind fun x e1 => match peek x e1 with
  | some (d, e2) => k d e2
  | none => .bad
theorem one_ok {σ : St} {H : Hp} {f : Env → R AV} {β : Type} {k : D → Env → R β} {okb : Base → β → Env → Prop} {R : V → Hp → Prop}
    (hk : ∀ (B : Base) d v env Z H F, Now Γ σ B env Z H F → (q = true → H = B.H) → View Γ Z H v d → PR Γ W σ B (k d env) (okb B) → R v H) {env : Env} {Z : Hp} {F : FS} (r : Rel Γ Z H σ env F) (s : Sep Z H F) (p : PR Γ W σ ⟨F, H, Z⟩ (one f k env) (okb ⟨F, H, Z⟩)) :
    tV Γ W q f σ H fun x H1 => R x H1 :=
  ⟨Z, env, F, r, s, PR.bind p fun x e1 _ p1 v Z1 H1 F1 n hq a => by
    cases hx : peek x e1 with
    | none => rw [hx] at p1; exact p1.elim
    | some w =>
      obtain ⟨d, e2⟩ := w
      rw [hx] at p1
      obtain ⟨Z2, F2, n2, z2, w⟩ := peek_ok n a hx
      exact hk _ d v e2 Z2 H1 F2 n2 hq w p1⟩
def opt {α : Type} (o : Option α) (e : Env) : R α := match o with
  | some d => .ok d e
  | none => .bad
def fun1 (g : D → Option D) (f : Env → R AV) : Env → R D := one f fun d e => opt (g d) e
def fun1L (g : D → Option (List D)) (f : Env → R AV) : Env → R O := one f fun d e => opt ((g d).map fun ds => .lst (ds.map .fz)) e
theorem fun1_ok {al : Bool} {r : List V → Hp → VK → Prop} {g : D → Option D} (hg : CallV Γ al r g) {f : Env → R AV} {σ : St} {H : Hp} {Q : VK} (h : tF Γ W (q && !al) (fun1 g f) σ H Q) : tCB r (tCons (tV Γ W q f) tNil) σ H Q := by
  obtain ⟨Z, env, F, rl, s, p⟩ := h
  refine one_ok (k := fun d e => opt (g d) e) (okb := fun B => okF Γ σ (q && !al) B Q) (fun B d v env Z H F n hq w p => ?_) rl s p
  cases e : g d with
  | none => rw [e] at p; exact p.elim
  | some d' =>
    rw [e] at p
    refine hg Z H v d d' Q n.sep.sub w e fun v Z' H' gr hal hd => p v Z' H' F (n.grow gr) (fun hh => ?_) hd
    rw [Bool.and_eq_true_iff] at hh
    rw [hal (by simpa using hh.2)]
    exact hq hh.1
theorem fun1L_ok {r : List V → Hp → VK → Prop} {g : D → Option (List D)} (hg : CallL Γ r g) {f : Env → R AV} {σ : St} {H : Hp} {Q : VK} (h : tE Γ W (fun1L g f) σ H Q) : tCB r (tCons (tV Γ W q f) tNil) σ H Q := by
  obtain ⟨Z, env, F, rl, s, p⟩ := h
  refine one_ok (k := fun (d : D) (e : Env) => opt ((g d).map fun ds : List D => O.lst (ds.map O.fz)) e) (okb := fun B => okE Γ σ B Q) (fun B d v env Z H F n hq w p => ?_) rl s p
  cases e : g d with
  | none => rw [e] at p; exact p.elim
  | some ds =>
    rw [e] at p
    exact hg Z H v d ds Q n.sep.sub w e fun vs p' hp c => newLst n hp c p
theorem df_callB1 {id : String} {al : Bool} {r : List V → Hp → VK → Prop} {g : D → Option D} {f : Env → R AV} {x : Str} {p : Pos} (hc : CallR X (.builtin id) r) (hg : CallV Γ al r g) (ha : DV X Γ W q e f) (hgl : Gl X x) (hm : X.mg x = none) (hv : bootBuiltins x = some (.builtin id)) (hn : x ≠ "__name__" := by decide) (hdb : (x == ("__debug__" : Str)) = false := by decide)
    (he : starEach (e :: []) X.env = (false, eval e X.env) :: starEach [] X.env := by rfl) (hpl : (backTo pos (starEach [] X.env)).any (·.1) = false := by rfl) : DF X Γ W (q && !al) (.Call (.Name x p) [e] [] pos) (fun1 g f) :=
  PE.imp (pe_callB hc hgl hm hv (pa_cons ha pa_nil he) hn hdb he hpl) fun σ H Q h => fun1_ok hg h
theorem df_callT1 {id : String} {al : Bool} {r : List V → Hp → VK → Prop} {g : D → Option D} {f : Env → R AV} {x : Str} {p : Pos} (hc : CallR X (.type id) r) (hg : CallV Γ al r g) (ha : DV X Γ W q e f) (hgl : Gl X x) (hm : X.mg x = none) (hv : bootBuiltins x = some (.type id)) (hn : x ≠ "__name__" := by decide) (hdb : (x == ("__debug__" : Str)) = false := by decide)
    (he : starEach (e :: []) X.env = (false, eval e X.env) :: starEach [] X.env := by rfl) (hpl : (backTo pos (starEach [] X.env)).any (·.1) = false := by rfl) : DF X Γ W (q && !al) (.Call (.Name x p) [e] [] pos) (fun1 g f) :=
  PE.imp (pe_callTy hc hgl hm hv (pa_cons ha pa_nil he) hn hdb he hpl) fun σ H Q h => fun1_ok hg h
theorem de_callB1 {id : String} {r : List V → Hp → VK → Prop} {g : D → Option (List D)} {f : Env → R AV} {x : Str} {p : Pos} (hc : CallR X (.builtin id) r) (hg : CallL Γ r g) (ha : DV X Γ W q e f) (hgl : Gl X x) (hm : X.mg x = none) (hv : bootBuiltins x = some (.builtin id)) (hn : x ≠ "__name__" := by decide) (hdb : (x == ("__debug__" : Str)) = false := by decide)
    (he : starEach (e :: []) X.env = (false, eval e X.env) :: starEach [] X.env := by rfl) (hpl : (backTo pos (starEach [] X.env)).any (·.1) = false := by rfl) : DE X Γ W (.Call (.Name x p) [e] [] pos) (fun1L g f) :=
  PE.imp (pe_callB hc hgl hm hv (pa_cons ha pa_nil he) hn hdb he hpl) fun σ H Q h => fun1L_ok hg h
theorem de_callT1 {id : String} {r : List V → Hp → VK → Prop} {g : D → Option (List D)} {f : Env → R AV} {x : Str} {p : Pos} (hc : CallR X (.type id) r) (hg : CallL Γ r g) (ha : DV X Γ W q e f) (hgl : Gl X x) (hm : X.mg x = none) (hv : bootBuiltins x = some (.type id)) (hn : x ≠ "__name__" := by decide) (hdb : (x == ("__debug__" : Str)) = false := by decide)
    (he : starEach (e :: []) X.env = (false, eval e X.env) :: starEach [] X.env := by rfl) (hpl : (backTo pos (starEach [] X.env)).any (·.1) = false := by rfl) : DE X Γ W (.Call (.Name x p) [e] [] pos) (fun1L g f) :=
  PE.imp (pe_callTy hc hgl hm hv (pa_cons ha pa_nil he) hn hdb he hpl) fun σ H Q h => fun1L_ok hg h
end
end DL
end

section
set_option Elab.async false
set_option linter.all false
set_option maxRecDepth 100000
set_option maxHeartbeats 4000000
/-! The layer D: statements. -/
namespace DL
open PySem L2

/-- how a statement ends -/
inductive Fl where
  | nx | ret (o : O) | bk | ct
/-- the slots that are lent to a def stay what they were -/
structure Pre (π : List Bool) (σ σ' : St) : Prop where
  len : σ'.length = σ.length
  same : ∀ i : Nat, π[i]? = some true → σ'[i]? = σ[i]?
theorem Pre.refl {π : List Bool} {σ : St} : Pre π σ σ := ⟨rfl, fun _ _ => rfl⟩
theorem Pre.trans {π : List Bool} {σ σ1 σ2 : St} (a : Pre π σ σ1) (b : Pre π σ1 σ2) : Pre π σ σ2 := ⟨b.len.trans a.len, fun i h => (b.same i h).trans (a.same i h)⟩
theorem Pre.set {π : List Bool} {σ : St} {i : Nat} {x : Option V} (h : π[i]? ≠ some true) : Pre π σ (σ.set i x) := ⟨by simp, fun j hj => by
  have ne : i ≠ j := fun e => by subst e; exact h hj
  rw [List.getElem?_set_ne ne]⟩
def okS (Γ : Ctx) (π : List Bool) (σ0 : St) (B : Base) (D : Ends) (fl : Fl) (env : Env) : Prop := match fl with
  | .nx => ∀ σ Z H F, Now Γ σ B env Z H F → Pre π σ0 σ → D.nx σ H
  | .bk => ∀ σ Z H F, Now Γ σ B env Z H F → Pre π σ0 σ → D.bk σ H
  | .ct => ∀ σ Z H F, Now Γ σ B env Z H F → Pre π σ0 σ → D.ct σ H
  | .ret o => ∀ σ v Z H A G, Own Γ Z H v o A → Rel Γ Z H σ env G → (∀ b, A b → ¬ G b) → Sep Z H (fun b => A b ∨ G b) → Step B.F B.H B.Z (fun b => A b ∨ G b) H Z → Pre π σ0 σ → D.rt v H
def PQ (Γ : Ctx) (W : WX) (π : List Bool) (σ0 : St) (B : Base) (r : R Fl) (D : Ends) : Prop := match r with
  | .ok fl e => okS Γ π σ0 B D fl e
  | .err c x e => ∀ σ, Pre π σ0 σ → ErrP Γ W σ B c x e
  | .bad => False
def tS (Γ : Ctx) (W : WX) (π : List Bool) (f : Env → R Fl) : TS := fun D σ H => ∃ Z env F, Rel Γ Z H σ env F ∧ Sep Z H F ∧ PQ Γ W π σ ⟨F, H, Z⟩ (f env) D
abbrev DS (X : Cx) (Γ : Ctx) (W : WX) (π : List Bool) (s : Stmt) (f : Env → R Fl) : Prop := PS X s (tS Γ W π f)
abbrev DSs (X : Cx) (Γ : Ctx) (W : WX) (π : List Bool) (s : List Stmt) (f : Env → R Fl) : Prop := PSs X s (tS Γ W π f)
section
variable {Γ : Ctx} {W : WX} {π : List Bool} {σ0 σ1 σ : St} {B : Base} {D : Ends} {F1 : FS} {H1 Z1 : Hp} {r : R Fl} {α : Type}
theorem okS.from {fl : Fl} {env : Env} (h : okS Γ π σ0 B D fl env) (s : Step B.F B.H B.Z F1 H1 Z1) (p : Pre π σ0 σ1) : okS Γ π σ1 ⟨F1, H1, Z1⟩ D fl env := by
  cases fl with
  | nx => exact fun σ Z H F n q => h σ Z H F (n.from s) (p.trans q)
  | bk => exact fun σ Z H F n q => h σ Z H F (n.from s) (p.trans q)
  | ct => exact fun σ Z H F n q => h σ Z H F (n.from s) (p.trans q)
  | ret o => exact fun σ v Z H A G ow rl ap sp st q => h σ v Z H A G ow rl ap sp (s.trans st) (p.trans q)
theorem PQ.from (h : PQ Γ W π σ0 B r D) (s : Step B.F B.H B.Z F1 H1 Z1) (p : Pre π σ0 σ1) : PQ Γ W π σ1 ⟨F1, H1, Z1⟩ r D := by
  cases r with
  | ok fl e => exact okS.from h s p
  | err c x e => exact fun σ q => (h σ (p.trans q)).step s
  | bad => exact h
/-- an expression ahead of the rest -/
theorem PQ.bind {a : R α} {k : α → Env → R Fl} {ok1 : α → Env → Prop} (h : PQ Γ W π σ0 B (a.bind k) D) (h1 : ∀ x e, a = .ok x e → PQ Γ W π σ0 B (k x e) D → ok1 x e) : PR Γ W σ0 B a ok1 := by
  cases a with
  | ok x e => exact h1 x e rfl h
  | err c x e => exact h σ0 .refl
  | bad => exact h
theorem tS.at {f : Env → R Fl} {env : Env} {Z H : Hp} {F : FS} (n : Now Γ σ1 B env Z H F) (p : Pre π σ0 σ1) (h : PQ Γ W π σ0 B (f env) D) : tS Γ W π f D σ1 H := ⟨Z, env, F, n.rel, n.sep, h.from n.step p⟩
end
section
variable {X : Cx} {Γ : Ctx} {W : WX} {π : List Bool} {q : Bool} {e : Expr} {pos : Pos} {st : Stmt} {sts : List Stmt}
theorem PS.imp {t t' : TS} (h : PS X st t) (i : ∀ D σ H, t' D σ H → t D σ H) : PS X st t' := ⟨fun pins s σ H D I hq => h.run pins s σ H D I (i D σ H hq)⟩
theorem PSs.imp {t t' : TS} (h : PSs X sts t) (i : ∀ D σ H, t' D σ H → t D σ H) : PSs X sts t' := ⟨fun pins s σ H D I hq => h.run pins s σ H D I (i D σ H hq)⟩
def skipS (env : Env) : R Fl := .ok .nx env
def seqS (f g : Env → R Fl) (env : Env) : R Fl := match f env with
  | .ok .nx e => g e
  | r => r
theorem ds_nil : DSs X Γ W π [] skipS := PSs.imp pss_nil fun D σ H ⟨Z, env, F, r, s, p⟩ => p σ Z H F (.start r s) .refl
theorem ds_cons {f g : Env → R Fl} (h1 : DS X Γ W π st f) (h2 : DSs X Γ W π sts g) : DSs X Γ W π (st :: sts) (seqS f g) :=
  PSs.imp (pss_cons h1 h2) fun D σ H ⟨Z, env, F, r, s, p⟩ => ⟨Z, env, F, r, s, by
    unfold seqS at p
    cases hf : f env with
    | ok fl e =>
      rw [hf] at p
      cases fl with
      | nx => exact fun σ1 Z1 H1 F1 n pr => tS.at n pr p
      | ret o => exact p
      | bk => exact p
      | ct => exact p
    | err c x e => rw [hf] at p; exact p
    | bad => rw [hf] at p; exact p⟩
theorem ds_one {f : Env → R Fl} (h1 : DS X Γ W π st f) : DSs X Γ W π [st] f := pss_one h1
def retS (f : Env → R O) (env : Env) : R Fl := (f env).bind fun o e => .ok (.ret o) e
theorem ds_ret {f : Env → R O} (h : DE X Γ W e f) : DS X Γ W π (.Return (some e) pos) (retS f) :=
  PS.imp (ps_ret h) fun D σ H ⟨Z, env, F, r, s, p⟩ => ⟨Z, env, F, r, s, PQ.bind p fun o e1 _ p1 v Z1 H1 A G ow rl ap sp st => p1 σ v Z1 H1 A G ow rl ap sp st .refl⟩
def retNS (env : Env) : R Fl := .ok (.ret (.fz .non)) env
theorem ds_retN : DS X Γ W π (.Return none pos) retNS :=
  PS.imp ps_retN fun D σ H ⟨Z, env, F, r, s, p⟩ => p σ .non Z H (fun _ => False) F (.fz .non fun _ h => h) r (fun _ h => h.elim) ⟨s.sub, fun b h => s.out b (h.resolve_left fun z => z)⟩ (Step.refl.drop fun b h => h.resolve_left fun z => z) .refl
theorem ds_pass : DS X Γ W π (.Pass pos) skipS := PS.imp ps_pass fun D σ H ⟨Z, env, F, r, s, p⟩ => p σ Z H F (.start r s) .refl
def bkS (env : Env) : R Fl := .ok .bk env
def ctS (env : Env) : R Fl := .ok .ct env
theorem ds_break : DS X Γ W π (.Break pos) bkS := PS.imp ps_break fun D σ H ⟨Z, env, F, r, s, p⟩ => p σ Z H F (.start r s) .refl
theorem ds_continue : DS X Γ W π (.Continue pos) ctS := PS.imp ps_continue fun D σ H ⟨Z, env, F, r, s, p⟩ => p σ Z H F (.start r s) .refl
/-- an expression for what it does -/
def dropS {α : Type} (f : Env → R α) (env : Env) : R Fl := (f env).bind fun _ e => .ok .nx e
theorem ds_expr {f : Env → R D} (h : DF X Γ W q e f) (hs : swapsWith e none pos.line X.env = pure false := by rfl) : DS X Γ W π (.Expr e pos) (dropS f) :=
  PS.imp (ps_expr h hs) fun D σ H ⟨Z, env, F, r, s, p⟩ => ⟨Z, env, F, r, s, PQ.bind p fun o e1 _ p1 v Z1 H1 F1 n _ _ => p1 σ Z1 H1 F1 n .refl⟩
def ifS (c : Env → R Bool) (f g : Env → R Fl) (env : Env) : R Fl := (c env).bind fun b e => if b then f e else g e
theorem ds_if {c : Env → R Bool} {f g : Env → R Fl} {a b : List Stmt} (hc : DT X Γ W q e c) (ha : DSs X Γ W π a f) (hb : DSs X Γ W π b g) : DS X Γ W π (.If e a b pos) (ifS c f g) :=
  PS.imp (ps_if hc ha hb) fun D σ H ⟨Z, env, F, r, s, p⟩ => ⟨Z, env, F, r, s, PQ.bind p fun x e1 _ p1 Z1 H1 F1 n _ => by
    cases x with
    | true => exact tS.at n .refl p1
    | false => exact tS.at n .refl p1⟩
/-! ### targets -/
def okG (Γ : Ctx) (π : List Bool) (σ0 : St) (B : Base) (Q : St → Hp → Prop) (env : Env) : Prop := ∀ σ Z H F, Now Γ σ B env Z H F → Pre π σ0 σ → Q σ H
/-- a frozen value goes to a target; what cannot be done is none -/
def tG (Γ : Ctx) (π : List Bool) (g : D → Env → Option Env) : TG := fun v σ H Q => ∃ Z env F d env', Rel Γ Z H σ env F ∧ Sep Z H F ∧ Den Γ Z v d ∧ g d env = some env' ∧ okG Γ π σ ⟨F, H, Z⟩ Q env'
abbrev DG (X : Cx) (Γ : Ctx) (π : List Bool) (tg : Expr) (g : D → Env → Option Env) : Prop := PG X tg (tG Γ π g)
theorem PG.imp {t t' : TG} {tg : Expr} (h : PG X tg t) (i : ∀ v σ H Q, t' v σ H Q → t v σ H Q) : PG X tg t' := ⟨fun pins s σ H v u Q I r hq => h.run pins s σ H v u Q I r (i v σ H Q hq)⟩
theorem PGs.imp {t t' : TGs} {tgs : List Expr} (h : PGs X tgs t) (i : ∀ v σ H Q, t' v σ H Q → t v σ H Q) : PGs X tgs t' := ⟨fun pins s σ H v u Q I r hq => h.run pins s σ H v u Q I r (i v σ H Q hq)⟩
/-- a tree is stored in a slot -/
theorem Now.store {σ : St} {B : Base} {env : Env} {Z H : Hp} {A G : FS} {v : V} {o : O} {i : Nat} (ow : Own Γ Z H v o A) (rl : Rel Γ Z H σ env G) (ap : ∀ b, A b → ¬ G b) (sp : Sep Z H (fun b => A b ∨ G b)) (st : Step B.F B.H B.Z (fun b => A b ∨ G b) H Z) (hi : i < env.length) :
    ∃ F, Now Γ (σ.set i (some v)) B (env.set i (some o)) Z H F := by
  obtain ⟨G', h0, h1⟩ := rl.put hi ow ap
  exact ⟨_, h1, ⟨sp.sub, fun b hb => sp.out b (hb.imp id (h0 b))⟩, st.drop fun b hb => hb.imp id (h0 b)⟩
def putN (i : Nat) (o : O) (env : Env) : Option Env := if i < env.length then some (env.set i (some o)) else none
theorem Now.storeD {σ : St} {B : Base} {env env' : Env} {Z H : Hp} {F : FS} {v : V} {d : D} {i : Nat} (n : Now Γ σ B env Z H F) (hd : Den Γ Z v d) (h : putN i (.fz d) env = some env') : ∃ F', Now Γ (σ.set i (some v)) B env' Z H F' := by
  unfold putN at h
  split at h
  · rename_i hi
    cases h
    exact Now.store (A := fun _ => False) (G := F) (.fz hd fun _ h => h) n.rel (fun _ h => h.elim) ⟨n.sep.sub, fun b h => n.sep.out b (h.resolve_left fun z => z)⟩ (n.step.drop fun b h => h.resolve_left fun z => z) hi
  · cases h
def nameG (i : Nat) (d : D) (env : Env) : Option Env := putN i (.fz d) env
theorem dg_name {i : Nat} {x : Str} (h : PG X (.Name x pos) (gName i)) (hp : π[i]? ≠ some true) : DG X Γ π (.Name x pos) (nameG i) :=
  PG.imp h fun v σ H Q ⟨Z, env, F, d, env', r, s, hd, e, k⟩ => by
    obtain ⟨F', n⟩ := Now.storeD (.start r s) hd e
    exact k _ Z H F' n (.set hp)
/-- x = e -/
def setS (i : Nat) (f : Env → R O) (env : Env) : R Fl := (f env).bind fun o e => match putN i o e with
  | some e2 => .ok .nx e2
  | none => .bad
theorem ds_set {i : Nat} {x : Str} {f : Env → R O} {p2 : Pos} (hg : PG X (.Name x p2) (gName i)) (h : DE X Γ W e f) (hp : π[i]? ≠ some true) (hs : swapsWithSole [.Name x p2] e pos.line X.env = pure false := by rfl) (hw : swappedStores [.Name x p2] e X.env = pure none := by rfl)
    (h1 : (assignEach [.Name x p2] X.env).map (·.2) = [assign (.Name x p2) X.env] := by rfl) : DS X Γ W π (.Assign [.Name x p2] e pos) (setS i f) :=
  PS.imp (ps_asg h hg hs hw h1) fun D σ H ⟨Z, env, F, r, s, p⟩ => ⟨Z, env, F, r, s, PQ.bind p fun o e1 _ p1 v Z1 H1 A G ow rl ap sp st => by
    unfold putN at p1
    by_cases hi : i < e1.length
    · rw [if_pos hi] at p1
      obtain ⟨F', n⟩ := Now.store ow rl ap sp st hi
      exact p1 _ Z1 H1 F' n (.set hp)
    · rw [if_neg hi] at p1; exact p1.elim⟩
/-- several targets -/
def tGs (Γ : Ctx) (π : List Bool) (g : List D → Env → Option Env) : TGs := fun vs σ H Q => ∃ Z env F ds env', Rel Γ Z H σ env F ∧ Sep Z H F ∧ Dens Γ Z vs ds ∧ g ds env = some env' ∧ okG Γ π σ ⟨F, H, Z⟩ Q env'
abbrev DGs (X : Cx) (Γ : Ctx) (π : List Bool) (tgs : List Expr) (g : List D → Env → Option Env) : Prop := PGs X tgs (tGs Γ π g)
def nilG : List D → Env → Option Env
  | [], env => some env
  | _ :: _, _ => none
def consG (g : D → Env → Option Env) (h : List D → Env → Option Env) : List D → Env → Option Env
  | [], _ => none
  | d :: ds, env => (g d env).bind (h ds)
theorem dgs_nil : DGs X Γ π [] nilG := PGs.imp pgs_nil fun vs σ H Q ⟨Z, env, F, ds, env', r, s, hd, e, k⟩ => by
  cases ds with
  | nil =>
    have e : env = env' := by simpa [nilG] using e
    subst e
    exact ⟨List.length_eq_zero_iff.mp hd.1, k σ Z H F (.start r s) .refl⟩
  | cons d ds => cases e
theorem dgs_cons {es : List Expr} {g : D → Env → Option Env} {h : List D → Env → Option Env} (h1 : DG X Γ π e g) (h2 : DGs X Γ π es h) (hs : (assignEach (e :: es) X.env).map (·.2) = assign e X.env :: (assignEach es X.env).map (·.2) := by rfl) : DGs X Γ π (e :: es) (consG g h) :=
  PGs.imp (pgs_cons h1 h2 hs) fun vs σ H Q ⟨Z, env, F, ds, env', r, s, hd, e, k⟩ => by
    cases ds with
    | nil => cases e
    | cons d ds =>
      cases vs with
      | nil => have := hd.1; simp at this
      | cons v vs =>
        obtain ⟨e1, he1, he2⟩ := Option.bind_eq_some_iff.mp e
        have ht : Dens Γ Z vs ds := ⟨by simpa using hd.1, fun i v d h1 h2 => hd.2 (i + 1) v d (by simpa using h1) (by simpa using h2)⟩
        exact ⟨v, vs, rfl, Z, env, F, d, e1, r, s, hd.2 0 v d rfl rfl, he1, fun σ1 Z1 H1 F1 n1 p1 => ⟨Z1, e1, F1, ds, env', n1.rel, n1.sep, ht.mono n1.step.fz, he2, fun σ2 Z2 H2 F2 n2 p2 => k σ2 Z2 H2 F2 (n2.from n1.step) (p1.trans p2)⟩⟩
def tupG (n : Nat) (g : List D → Env → Option Env) (d : D) (env : Env) : Option Env := match d with
  | .tup ds => if ds.length = n then g ds env else none
  | _ => none
theorem dg_tup {es : List Expr} {k n : Nat} {g : List D → Env → Option Env} (hK : X.K = Γ.K) (hc : X.calm = true) (h : DGs X Γ π es g) (hn : (assignEach es X.env).length = n := by rfl) (hst : (assignEach es X.env).findIdx? (·.1) = none := by rfl) : DG X Γ π (.Tuple es k pos) (tupG n g) :=
  PG.imp (pg_tup hc h hn hst) fun v σ H Q ⟨Z, env, F, d, env', r, s, hd, e, k⟩ => by
    unfold tupG at e
    split at e
    · rename_i ds
      split at e
      · rename_i hl
        obtain ⟨a, vs, rfl, q, c⟩ := hd.tupH s.sub
        rw [hK]
        exact ⟨a, vs, rfl, q, c.1.trans hl, Z, env, F, ds, env', r, s, c, e, k⟩
      · cases e
    · cases e
/-- target = e, the value frozen -/
def asgS (g : D → Env → Option Env) (f : Env → R D) (env : Env) : R Fl := (f env).bind fun d e => match g d e with
  | some e2 => .ok .nx e2
  | none => .bad
theorem ds_asg {tg : Expr} {g : D → Env → Option Env} {f : Env → R D} (hg : DG X Γ π tg g) (h : DF X Γ W q e f) (hs : swapsWithSole [tg] e pos.line X.env = pure false := by rfl) (hw : swappedStores [tg] e X.env = pure none := by rfl)
    (h1 : (assignEach [tg] X.env).map (·.2) = [assign tg X.env] := by rfl) : DS X Γ W π (.Assign [tg] e pos) (asgS g f) :=
  PS.imp (ps_asg h hg hs hw h1) fun D σ H ⟨Z, env, F, r, s, p⟩ => ⟨Z, env, F, r, s, PQ.bind p fun d e1 _ p1 v Z1 H1 F1 n _ hd => by
    cases hx : g d e1 with
    | none => rw [hx] at p1; exact p1.elim
    | some e2 =>
      rw [hx] at p1
      exact ⟨Z1, e1, F1, d, e2, n.rel, n.sep, hd, hx, fun σ2 Z2 H2 F2 n2 pr => p1 σ2 Z2 H2 F2 (n2.from n.step) pr⟩⟩
end
end DL
end

section
set_option Elab.async false
set_option linter.all false
set_option maxRecDepth 100000
set_option maxHeartbeats 4000000
/-! The layer D: loops; what is written at places. -/
namespace DL
open PySem L2

/-! ### while -/
def whileS (c : Env → R Bool) (f : Env → R Fl) : Nat → Env → R Fl
  | 0, _ => .bad
  | n + 1, env => (c env).bind fun b e => if b then (match f e with
    | .ok .nx e2 => whileS c f n e2
    | .ok .ct e2 => whileS c f n e2
    | .ok .bk e2 => .ok .nx e2
    | r => r) else .ok .nx e
/-! ### for: over items that are known -/
def forS (g : D → Env → Option Env) (f : Env → R Fl) : List D → Env → R Fl
  | [], env => .ok .nx env
  | d :: ds, env => match g d env with
    | some e => (match f e with
      | .ok .nx e2 => forS g f ds e2
      | .ok .ct e2 => forS g f ds e2
      | .ok .bk e2 => .ok .nx e2
      | r => r)
    | none => .bad
/-- the iterator gives these -/
structure ItD (Γ : Ctx) (J : It) (Z0 : Hp) (ds : List D) : Prop where
  goes : ∀ (i : Nat) (Z H : Hp), i < ds.length → (∀ a o, Z0 a = some o → Z a = some o) → (∀ a o, Z a = some o → H a = some o) → J.go i H
  stops : ∀ (Z H : Hp), (∀ a o, Z0 a = some o → Z a = some o) → (∀ a o, Z a = some o → H a = some o) → J.stop ds.length H
  yields : ∀ (i : Nat) (Z H : Hp) (x : V) (H' : Hp), i < ds.length → (∀ a o, Z0 a = some o → Z a = some o) → (∀ a o, Z a = some o → H a = some o) → J.yld i H x H' → ∃ Z' d, Grow Z H Z' H' ∧ ds[i]? = some d ∧ Den Γ Z' x d
def okI (Γ : Ctx) (σ : St) (B : Base) (Q : It → Hp → Prop) (ds : List D) (env : Env) : Prop := ∀ J Z H F, Now Γ σ B env Z H F → ItD Γ J Z ds → Q J H
def tI (Γ : Ctx) (W : WX) (f : Env → R (List D)) : TI := fun σ H Q => ∃ Z env F, Rel Γ Z H σ env F ∧ Sep Z H F ∧ PR Γ W σ ⟨F, H, Z⟩ (f env) (okI Γ σ ⟨F, H, Z⟩ Q)
abbrev DI (X : Cx) (Γ : Ctx) (W : WX) (tg iter : Expr) (f : Env → R (List D)) : Prop := PI X tg iter (tI Γ W f)
def forL (it : Env → R (List D)) (g : D → Env → Option Env) (f : Env → R Fl) (env : Env) : R Fl := (it env).bind fun ds e => forS g f ds e
section
variable {X : Cx} {Γ : Ctx} {W : WX} {π : List Bool} {q qa qb qc : Bool} {e a b c tg iter : Expr} {pos : Pos}
theorem PI.imp {t t' : TI} (h : PI X tg iter t) (i : ∀ σ H Q, t' σ H Q → t σ H Q) : PI X tg iter t' := ⟨fun pins s σ H R I hq => h.run pins s σ H R I (i σ H R hq)⟩
theorem ds_while {t : Env → R Bool} {f : Env → R Fl} {body : List Stmt} (N : Nat) (hp : PassesOwn (model X.prog X.w) X.A X.env X.xe) (hc : DT X Γ W q c t) (hb : DSs X Γ W π body f) : DS X Γ W π (.While c body [] pos) (whileS t f N) :=
  PS.imp (ps_while hp hc hb) fun D σ H ⟨Z, env, F, r, s, p⟩ => by
    refine ⟨fun m σ1 H1 => ∃ Z1 env1 F1, Now Γ σ1 ⟨F, H, Z⟩ env1 Z1 H1 F1 ∧ Pre π σ σ1 ∧ PQ Γ W π σ ⟨F, H, Z⟩ (whileS t f m env1) D, ⟨N, Z, env, F, .start r s, .refl, p⟩, ?_⟩
    rintro m σ1 H1 ⟨Z1, env1, F1, n, pr, p⟩
    cases m with
    | zero => exact p.elim
    | succ m =>
      have p' : PQ Γ W π σ1 ⟨F1, H1, Z1⟩ (whileS t f (m + 1) env1) D := p.from n.step pr
      refine ⟨Z1, env1, F1, n.rel, n.sep, PQ.bind p' fun x e1 hte p1 Z2 H2 F2 n2 _ => ?_⟩
      cases x with
      | false => exact p1 σ1 Z2 H2 F2 n2 .refl
      | true =>
        simp only [if_true]
        refine ⟨fun σ3 H3 => ∃ Z3 env3 F3, Now Γ σ3 ⟨F, H, Z⟩ env3 Z3 H3 F3 ∧ Pre π σ σ3 ∧ PQ Γ W π σ ⟨F, H, Z⟩ (whileS t f m env3) D, fun σ' H' h => ⟨m, Nat.lt_succ_self m, h⟩, ?_⟩
        refine ⟨Z2, e1, F2, n2.rel, n2.sep, ?_⟩
        have key : ∀ r1 : R Bool, (t env1) = r1 → r1 = .ok true e1 → PQ Γ W π σ ⟨F, H, Z⟩ (whileS t f (m + 1) env1) D → PQ Γ W π σ ⟨F, H, Z⟩ (match f e1 with
            | .ok .nx e2 => whileS t f m e2
            | .ok .ct e2 => whileS t f m e2
            | .ok .bk e2 => .ok .nx e2
            | r => r) D := fun r1 h1 h2 h3 => by
          unfold whileS at h3
          rw [h1, h2] at h3
          exact h3
        have p3 := key _ rfl hte p
        have n2' := n2.from n.step
        cases hf : f e1 with
        | ok fl e2 =>
          rw [hf] at p3
          cases fl with
          | nx => exact fun σ3 Z3 H3 F3 n3 pr3 => ⟨Z3, e2, F3, n3.from n2'.step, pr.trans pr3, p3⟩
          | ct => exact fun σ3 Z3 H3 F3 n3 pr3 => ⟨Z3, e2, F3, n3.from n2'.step, pr.trans pr3, p3⟩
          | bk => exact fun σ3 Z3 H3 F3 n3 pr3 => p3 σ3 Z3 H3 F3 (n3.from n2'.step) (pr.trans pr3)
          | ret o => exact okS.from (fl := .ret o) p3 n2'.step pr
        | err c x e2 => rw [hf] at p3; exact fun σ3 pr3 => (p3 σ3 (pr.trans pr3)).step n2'.step
        | bad => rw [hf] at p3; exact p3.elim
theorem ds_for {it : Env → R (List D)} {g : D → Env → Option Env} {f : Env → R Fl} {body : List Stmt} (hp : PassesOwn (model X.prog X.w) X.A X.env X.xe) (hc : X.calm = true) (hi : DI X Γ W tg iter it) (hg : DG X Γ π tg g) (hb : DSs X Γ W π body f)
    (hs : ∀ x, foldedSetIterable iter X.env x = pure x := by intro _; rfl) : DS X Γ W π (.For tg iter body [] pos) (forL it g f) :=
  PS.imp (ps_for hp hc hi hg hb hs) fun D σ H ⟨Z, env, F, r, s, p⟩ => by
    refine ⟨Z, env, F, r, s, PQ.bind p fun ds e1 _ p1 J Z0 H0 F0 n0 it0 => ?_⟩
    refine ⟨fun i m σ1 H1 => m = ds.length - i ∧ i ≤ ds.length ∧ ∃ Z1 env1 F1, Now Γ σ1 ⟨F, H, Z⟩ env1 Z1 H1 F1 ∧ (∀ a o, Z0 a = some o → Z1 a = some o) ∧ Pre π σ σ1 ∧ PQ Γ W π σ ⟨F, H, Z⟩ (forS g f (ds.drop i) env1) D,
      ⟨ds.length, by simp, Nat.zero_le _, Z0, e1, F0, n0, fun _ _ h => h, .refl, by simpa using p1⟩, ?_⟩
    rintro i m σ1 H1 ⟨rfl, hi, Z1, env1, F1, n, zz, pr, p⟩
    by_cases hlt : i < ds.length
    · refine .inr ⟨it0.goes i Z1 H1 hlt zz n.sep.sub, fun σ3 H3 => ∃ Z3 env3 F3, Now Γ σ3 ⟨F, H, Z⟩ env3 Z3 H3 F3 ∧ (∀ a o, Z0 a = some o → Z3 a = some o) ∧ Pre π σ σ3 ∧ PQ Γ W π σ ⟨F, H, Z⟩ (forS g f (ds.drop (i + 1)) env3) D,
        fun σ' H' h => ⟨ds.length - (i + 1), by omega, rfl, hlt, h⟩, fun x H' y => ?_⟩
      obtain ⟨Z2, d, gr, hd, hx⟩ := it0.yields i Z1 H1 x H' hlt zz n.sep.sub y
      have hdrop : ds.drop i = d :: ds.drop (i + 1) := by
        have e2 : d = ds[i] := by rw [List.getElem?_eq_getElem hlt] at hd; exact (Option.some.inj hd).symm
        rw [e2]
        exact List.drop_eq_getElem_cons hlt
      rw [hdrop] at p
      unfold forS at p
      cases hg' : g d env1 with
      | none => rw [hg'] at p; exact p.elim
      | some e2 =>
        rw [hg'] at p
        have n2 := n.grow gr
        refine ⟨Z2, env1, F1, d, e2, n2.rel, n2.sep, hx, hg', fun σ2 Z3 H3 F3 n3 pr3 => ⟨Z3, e2, F3, n3.rel, n3.sep, ?_⟩⟩
        have n3' := n3.from n2.step
        have pr' := pr.trans pr3
        have z3 : ∀ a o, Z0 a = some o → Z3 a = some o := fun a o h => n3.step.fz a o (gr.fz a o (zz a o h))
        simp only at p
        cases hf : f e2 with
        | ok fl e3 =>
          rw [hf] at p
          cases fl with
          | nx => exact fun σ4 Z4 H4 F4 n4 pr4 => ⟨Z4, e3, F4, n4.from n3'.step, fun a o h => n4.step.fz a o (z3 a o h), pr'.trans pr4, p⟩
          | ct => exact fun σ4 Z4 H4 F4 n4 pr4 => ⟨Z4, e3, F4, n4.from n3'.step, fun a o h => n4.step.fz a o (z3 a o h), pr'.trans pr4, p⟩
          | bk => exact fun σ4 Z4 H4 F4 n4 pr4 => p σ4 Z4 H4 F4 (n4.from n3'.step) (pr'.trans pr4)
          | ret o => exact okS.from (fl := .ret o) p n3'.step pr'
        | err c x e2 => rw [hf] at p; exact fun σ4 pr4 => (p σ4 (pr'.trans pr4)).step n3'.step
        | bad => rw [hf] at p; exact p.elim
    · have e : i = ds.length := by omega
      subst e
      rw [List.drop_length] at p
      exact .inl ⟨it0.stops Z1 H1 zz n.sep.sub, p σ1 Z1 H1 F1 n pr⟩

/-! ### what is walked -/
def seqI (f : Env → R D) (env : Env) : R (List D) := (f env).bind fun d e => match items d with
  | some ds => .ok ds e
  | none => match d with
    | .str z => .ok (z.cps.toList.map fun c => .str ⟨#[c]⟩) e
    | _ => .bad
def iAny (K : PySem.W.Frag) (tl : TE) : TI := fun σ H R => tl σ H fun x H1 => (∃ a, x = .ref a ∧ (∃ xs, SqL K H1 a xs) ∧ R (Itl K a) H1) ∨ (∃ a, x = .ref a ∧ (∃ xs, SqT K H1 a xs) ∧ R (Itt K a) H1) ∨ ∃ z, x = .str z ∧ R (Its z) H1
open PySem.Spec PyProof.Rows in
theorem pi_any {l : Expr} {tl : TE} (hl : PE X l tl) : PI X tg l (iAny X.K tl) := by
  refine ⟨fun pins s σ H R I h => ?_⟩
  refine thn (hl.run pins s σ H _ I h) fun v s1 ⟨x, H1, I1, r1, q1⟩ => ?_
  rcases q1 with ⟨a, e, ⟨xs, hq⟩, q⟩ | ⟨a, e, ⟨xs, hq⟩, q⟩ | ⟨z, e, q⟩
  · subst e
    cases r1
    obtain ⟨its, rv, p, hz⟩ := I1.list hq
    refine wpAny_pyIter_list p.isList ?_
    refine ⟨s1.heap.objs.size, [s1.heap.objs.size], _, _, H1, rfl, I1.kept (t' := s1.toks) fun b o e => Heap.get?_push_of_some _ e, turn_list a _, ⟨_, Heap.get?_push_size _ rfl, rfl, rfl⟩, fun b hb => ?_, q⟩
    have e : b = s1.heap.objs.size := by simpa using hb
    subst e
    exact I1.fpOk (Nat.le_refl _) (I1.hok.fresh (Nat.le_refl _))
  · subst e
    cases r1
    obtain ⟨its, rv, p, hz⟩ := I1.tuple hq
    refine wpAny_pyIter_tuple (show s1.heap.IsTuple a its.toArray from p) ?_
    refine ⟨s1.heap.objs.size, [s1.heap.objs.size], _, _, H1, rfl, I1.kept (t' := s1.toks) fun b o e => Heap.get?_push_of_some _ e, turn_tuple a _, ⟨_, Heap.get?_push_size _ rfl, rfl, rfl⟩, fun b hb => ?_, q⟩
    have e : b = s1.heap.objs.size := by simpa using hb
    subst e
    exact I1.fpOk (Nat.le_refl _) (I1.hok.fresh (Nat.le_refl _))
  · subst e
    obtain ⟨t, rfl⟩ := r1
    cases ha : z.cps.all (· < 128)
    · exact wpAny_pyIter_wide ha (pi_one (tk := s1.toks) I1 _ (turn_str _ z t "str_iterator" (.inr rfl)) ⟨_, Heap.get?_push_size _ rfl, rfl, rfl⟩ q)
    · exact wpAny_pyIter_ascii ha (pi_one (tk := s1.toks) I1 _ (turn_str _ z t "str_ascii_iterator" (.inl rfl)) ⟨_, Heap.get?_push_size _ rfl, rfl, rfl⟩ q)
theorem itD_list {Z0 : Hp} {a : Addr} {vs : List V} {ds : List D} (hq : ∀ Z H : Hp, (∀ a o, Z0 a = some o → Z a = some o) → (∀ a o, Z a = some o → H a = some o) → SqL Γ.K H a vs) (c : Dens Γ Z0 vs ds) : ItD Γ (Itl Γ.K a) Z0 ds where
  goes := fun i Z H hi z s => ⟨vs, vs[i]'(by rw [c.1]; exact hi), hq Z H z s, by simp [c.1, hi]⟩
  stops := fun Z H z s => ⟨vs, hq Z H z s, by rw [c.1]; exact Nat.le_refl _⟩
  yields := fun i Z H x H' hi z s y => by
    obtain ⟨rfl, y⟩ := y
    have e := y vs (hq Z H' z s)
    exact ⟨Z, ds[i], .refl s, by simp [hi], (c.2 i x ds[i] e (by simp [hi])).mono z⟩
theorem itD_tup {Z0 : Hp} {a : Addr} {vs : List V} {ds : List D} (hq : ∀ Z H : Hp, (∀ a o, Z0 a = some o → Z a = some o) → (∀ a o, Z a = some o → H a = some o) → SqT Γ.K H a vs) (c : Dens Γ Z0 vs ds) : ItD Γ (Itt Γ.K a) Z0 ds where
  goes := fun i Z H hi z s => ⟨vs, vs[i]'(by rw [c.1]; exact hi), hq Z H z s, by simp [c.1, hi]⟩
  stops := fun Z H z s => ⟨vs, hq Z H z s, by rw [c.1]; exact Nat.le_refl _⟩
  yields := fun i Z H x H' hi z s y => by
    obtain ⟨rfl, y⟩ := y
    have e := y vs (hq Z H' z s)
    exact ⟨Z, ds[i], .refl s, by simp [hi], (c.2 i x ds[i] e (by simp [hi])).mono z⟩
theorem itD_str {Z0 : Hp} {z : Str} : ItD Γ (Its z) Z0 (z.cps.toList.map fun c => .str ⟨#[c]⟩) where
  goes := fun i Z H hi _ s => by have hi' : i < z.cps.size := by simpa using hi
                                 exact hi'
  stops := fun Z H _ s => by simp [Its]
  yields := fun i Z H x H' hi _ s y => by
    obtain ⟨rfl, c, hc, rfl⟩ : H' = H ∧ ∃ c, z.cps[i]? = some c ∧ x = .str ⟨#[c]⟩ := y
    exact ⟨Z, .str ⟨#[c]⟩, .refl s, by simp [hc], .str _⟩
theorem di_seq {f : Env → R D} (hK : X.K = Γ.K) (h : DF X Γ W q e f) : DI X Γ W tg e (seqI f) :=
  PI.imp (pi_any h) fun σ H R ⟨Z, env, F, r, s, p⟩ => ⟨Z, env, F, r, s, PR.bind p fun d e1 _ p1 v Z1 H1 F1 n _ hd => by
    rw [hK]
    cases hi : items d with
    | some ds =>
      rw [hi] at p1
      cases hd <;> simp [items] at hi
      · rename_i a vs ds' q l c _
        subst hi
        refine .inr (.inl ⟨a, rfl, ⟨vs, sqT_mono n.sep.sub q⟩, p1 _ Z1 H1 F1 n (itD_tup (vs := vs) (fun Z H z s => sqT_mono s (sqT_mono z q)) ⟨l, c⟩)⟩)
      · rename_i a vs ds' q l c _
        subst hi
        refine .inl ⟨a, rfl, ⟨vs, SqL.of (n.sep.sub _ _ q)⟩, p1 _ Z1 H1 F1 n (itD_list (vs := vs) (fun Z H z s => SqL.of (s _ _ (z _ _ q))) ⟨l, c⟩)⟩
      · rename_i a vs ds' q l c _
        subst hi
        refine .inl ⟨a, rfl, ⟨vs, sqL_mono n.sep.sub q⟩, p1 _ Z1 H1 F1 n (itD_list (vs := vs) (fun Z H z s => sqL_mono s (sqL_mono z q)) ⟨l, c⟩)⟩
    | none =>
      rw [hi] at p1
      cases hd with
      | str z => exact .inr (.inr ⟨z, rfl, p1 _ Z1 H1 F1 n itD_str⟩)
      | _ => exact p1.elim⟩
def rangeD (lo : Int) (n : Nat) : List D := (List.range n).map fun (i : Nat) => .int (lo + (i : Int))
def range1I (f : Env → R (List D)) (env : Env) : R (List D) := (f env).bind fun ds e => match ds with
  | [.int j] => if -(2 ^ 62) ≤ j ∧ j < 2 ^ 62 then .ok (rangeD 0 j.toNat) e else .bad
  | _ => .bad
def range2I (f : Env → R (List D)) (env : Env) : R (List D) := (f env).bind fun ds e => match ds with
  | [.int i, .int j] => if -(2 ^ 62) ≤ i ∧ i < 2 ^ 62 ∧ -(2 ^ 62) ≤ j ∧ j < 2 ^ 62 then .ok (rangeD i (j - i).toNat) e else .bad
  | _ => .bad
theorem itD_range {Z0 : Hp} {lo : Int} {n : Nat} : ItD Γ (Itr lo n) Z0 (rangeD lo n) where
  goes := fun i Z H hi _ s => by have hi' : i < n := by simpa [rangeD] using hi
                                 exact hi'
  stops := fun Z H _ s => by simp [Itr, rangeD]
  yields := fun i Z H x H' hi _ s y => by
    obtain ⟨rfl, rfl⟩ : H' = H ∧ x = .int (lo + i) := y
    have hi' : i < n := by simpa [rangeD] using hi
    exact ⟨Z, .int (lo + i), .refl s, by simp [rangeD, hi'], .int _⟩
theorem Dens.one {Z : Hp} {vs : List V} {d : D} (h : Dens Γ Z vs [d]) : ∃ v, vs = [v] ∧ Den Γ Z v d := by
  match vs, h with
  | [v], h => exact ⟨v, rfl, h.2 0 v d rfl rfl⟩
theorem Dens.two {Z : Hp} {vs : List V} {d d' : D} (h : Dens Γ Z vs [d, d']) : ∃ v v', vs = [v, v'] ∧ Den Γ Z v d ∧ Den Γ Z v' d' := by
  match vs, h with
  | [v, v'], h => exact ⟨v, v', rfl, h.2 0 v d rfl rfl, h.2 1 v' d' rfl rfl⟩
theorem di_range1 {f : Env → R (List D)} {p : Pos} (hg : Gl X "range") (hm : X.mg "range" = none) (h : DA X Γ W q [a] f) (hs : starEach [a] X.env = [(false, eval a X.env)] := by rfl) : DI X Γ W tg (.Call (.Name "range" p) [a] [] pos) (range1I f) :=
  PI.imp (pi_range1 hg hm h hs) fun σ H R ⟨Z, env, F, r, s, pp⟩ => ⟨Z, env, F, r, s, PR.bind pp fun ds e1 _ p1 vs Z1 H1 F1 n _ c => by
    split at p1
    · rename_i _ j _
      split at p1
      · rename_i hj
        obtain ⟨v, rfl, hd⟩ := c.one
        cases hd
        exact ⟨j, rfl, hj.1, hj.2, p1 _ Z1 H1 F1 n itD_range⟩
      · exact p1.elim
    · exact p1.elim⟩
theorem di_range2 {f : Env → R (List D)} {p : Pos} (hg : Gl X "range") (hm : X.mg "range" = none) (h : DA X Γ W q [a, b] f) (hs : starEach [a, b] X.env = [(false, eval a X.env), (false, eval b X.env)] := by rfl) (hs2 : starEach [b] X.env = [(false, eval b X.env)] := by rfl) : DI X Γ W tg (.Call (.Name "range" p) [a, b] [] pos) (range2I f) :=
  PI.imp (pi_range2 hg hm h hs hs2) fun σ H R ⟨Z, env, F, r, s, pp⟩ => ⟨Z, env, F, r, s, PR.bind pp fun ds e1 _ p1 vs Z1 H1 F1 n _ c => by
    split at p1
    · rename_i _ i j _
      split at p1
      · rename_i hj
        obtain ⟨v, v', rfl, hd, hd'⟩ := c.two
        cases hd
        cases hd'
        exact ⟨i, j, rfl, hj, p1 _ Z1 H1 F1 n itD_range⟩
      · exact p1.elim
    · exact p1.elim⟩
end
end DL
end

section
set_option Elab.async false
set_option linter.all false
set_option maxRecDepth 100000
set_option maxHeartbeats 4000000
/-! The layer D: what is written at places. -/
namespace DL
open PySem L2
section
variable {Γ : Ctx} {Z H H' : Hp} {F A A1 G : FS} {v v0 : V} {o o1 : O} {σ : St} {env : Env} {B : Base} {i : Nat} {p : List Nat}
/-- the walk stands while the owned tree stands -/
theorem Wk.still {v0 v : V} {p : List Nat} (w : Wk H v0 p v) : ∀ {o : O} {A : FS} {o1 : O}, Own Γ Z H v0 o A → sub o p = some o1 → (∀ a u, A a → H a = some u → H' a = some u) → Wk H' v0 p v := by
  induction w with
  | nil => exact fun _ _ _ => .nil
  | @lst a vs k p v1 v ea ev w ih =>
    intro o A o1 ow e hk
    obtain ⟨c, hc, e'⟩ : ∃ c, kid o k = some c ∧ sub c p = some o1 := by
      cases q : kid o k with
      | none => simp [sub, q] at e
      | some c => exact ⟨c, rfl, by simpa [sub, q] using e⟩
    cases ow with
    | fz d n => simp [kid] at hc
    | @lst _ vs' os _ Fs ea' l ch pt =>
      rw [ea] at ea'; cases ea'
      have hc : os[k]? = some c := hc
      have hkn : k < os.length := (List.getElem?_eq_some_iff.mp hc).1
      exact .lst (hk _ _ ((pt.all a).2 (.inl rfl)) ea) ev (ih (ch k v1 c ev hc) e' fun b u hb hu => hk b u ((pt.all b).2 (.inr ⟨k, hkn, hb⟩)) hu)
    | dic _ ea' => rw [ea] at ea'; cases ea'
    | dct _ ea' => rw [ea] at ea'; cases ea'
    | obj _ ea' => rw [ea] at ea'; cases ea'
  | @dic a k p v1 v kvs ea ev w ih =>
    intro o A o1 ow e hk
    obtain ⟨c, hc, e'⟩ : ∃ c, kid o k = some c ∧ sub c p = some o1 := by
      cases q : kid o k with
      | none => simp [sub, q] at e
      | some c => exact ⟨c, rfl, by simpa [sub, q] using e⟩
    cases ow with
    | fz d n => simp [kid] at hc
    | @dic _ os _ kvs' Fs ea' l ch pt =>
      rw [ea] at ea'; cases ea'
      have hc : (os[k]?).map (·.2) = some c := hc
      have hkn : k < os.length := by
        cases q : os[k]? with
        | none => rw [q] at hc; cases hc
        | some z => exact (List.getElem?_eq_some_iff.mp q).1
      exact .dic (hk _ _ ((pt.all a).2 (.inl rfl)) ea) ev (ih (ch k v1 c ev (by simpa using hc)) e' fun b u hb hu => hk b u ((pt.all b).2 (.inr ⟨k, hkn, hb⟩)) hu)
    | lst _ ea' => rw [ea] at ea'; cases ea'
    | dct _ ea' => rw [ea] at ea'; cases ea'
    | obj _ ea' => rw [ea] at ea'; cases ea'
  | @dct a k p v1 v kvs ea ev w ih =>
    intro o A o1 ow e hk
    obtain ⟨c, hc, e'⟩ : ∃ c, kid o k = some c ∧ sub c p = some o1 := by
      cases q : kid o k with
      | none => simp [sub, q] at e
      | some c => exact ⟨c, rfl, by simpa [sub, q] using e⟩
    cases ow with
    | fz d n => simp [kid] at hc
    | @dct _ os _ kvs' Fs ea' l ch pt =>
      rw [ea] at ea'; cases ea'
      have hc : (os[k]?).map (·.2) = some c := hc
      have hkn : k < os.length := by
        cases q : os[k]? with
        | none => rw [q] at hc; cases hc
        | some z => exact (List.getElem?_eq_some_iff.mp q).1
      exact .dct (hk _ _ ((pt.all a).2 (.inl rfl)) ea) ev (ih (ch k v1 c ev (by simpa using hc)) e' fun b u hb hu => hk b u ((pt.all b).2 (.inr ⟨k, hkn, hb⟩)) hu)
    | lst _ ea' => rw [ea] at ea'; cases ea'
    | dic _ ea' => rw [ea] at ea'; cases ea'
    | obj _ ea' => rw [ea] at ea'; cases ea'
  | @obj a C dx fs k p v1 v ea ev w ih =>
    intro o A o1 ow e hk
    obtain ⟨c, hc, e'⟩ : ∃ c, kid o k = some c ∧ sub c p = some o1 := by
      cases q : kid o k with
      | none => simp [sub, q] at e
      | some c => exact ⟨c, rfl, by simpa [sub, q] using e⟩
    cases ow with
    | fz d n => simp [kid] at hc
    | @obj _ dx' cl vs os _ Fs ea' eb l m ch pt =>
      rw [ea] at ea'; cases ea'
      have hc : os[k]? = some c := hc
      have hkn : k < os.length := (List.getElem?_eq_some_iff.mp hc).1
      have ev' : vs[k]? = some v1 := by rw [← ev, List.map_snd_zip m]
      exact .obj (hk _ _ ((pt.all a).2 (.inl (.inl rfl))) ea) ev (ih (ch k v1 c ev' hc) e' fun b u hb hu => hk b u ((pt.all b).2 (.inr ⟨k, hkn, hb⟩)) hu)
    | lst _ ea' => rw [ea] at ea'; cases ea'
    | dic _ ea' => rw [ea] at ea'; cases ea'
    | dct _ ea' => rw [ea] at ea'; cases ea'
/-- an owned tree beside the slots: what an evaluation leaves -/
structure Beside (Γ : Ctx) (σ : St) (B : Base) (v : V) (o : O) (env : Env) (Z H : Hp) (A G : FS) : Prop where
  own : Own Γ Z H v o A
  rel : Rel Γ Z H σ env G
  apart : ∀ b, A b → ¬ G b
  sep : Sep Z H (fun b => A b ∨ G b)
  step : Step B.F B.H B.Z (fun b => A b ∨ G b) H Z
theorem Beside.now (b : Beside Γ σ B v o env Z H A G) : Now Γ σ B env Z H G := ⟨b.rel, ⟨b.sep.sub, fun a ha => b.sep.out a (.inr ha)⟩, b.step.drop fun _ h => .inr h⟩
/-- more is evaluated beside -/
theorem Beside.more {σ' : St} {env1 : Env} {Z1 H1 : Hp} {G1 : FS} (b : Beside Γ σ B v o env Z H A G) (n : Now Γ σ' ⟨G, H, Z⟩ env1 Z1 H1 G1) : Beside Γ σ' B v o env1 Z1 H1 A G1 where
  own := b.own.beside n.step b.apart
  rel := n.rel
  apart := n.step.apart b.apart b.own.there
  sep := ⟨n.sep.sub, fun a ha => by
    rcases ha with ha | ha
    · exact n.step.out b.apart b.own.there (fun a ha => b.sep.out a (.inl ha)) a ha
    · exact n.sep.out a ha⟩
  step := b.step.trans (n.step.frame (G := A) (fun x => or_comm) fun x => or_comm)
/-- a node at a place is written; the tree beside may go into it -/
theorem Beside.write {o1' : O} {A1' : FS} (b : Beside Γ σ B v o env Z H A G) {v1 : V} (w : Wat H σ i p v1) (e : subS env i p = some o1) (k : ∀ A1, Own Γ Z H v1 o1 A1 → (∀ x, A1 x → G x) → (∀ a u, ¬ A1 a → H a = some u → H' a = some u) ∧ ∃ A1', Own Γ Z H' v1 o1' A1' ∧ ∀ x, A1' x → A1 x ∨ A x) :
    ∃ F, Now Γ σ B (putS env i p o1') Z H' F := by
  obtain ⟨A1, ow, s1, rp⟩ := b.rel.focus w e
  obtain ⟨hk, A1', ow', hA⟩ := k A1 ow s1
  have rl := rp Z H' o1' A1' ow' (fun a u _ hn hu => hk a u hn hu) (fun _ _ h => h) fun x hx hG => (hA x hx).elim id fun ha => absurd hG (b.apart x ha)
  have sub1 : ∀ x, A1' x ∨ (G x ∧ ¬ A1 x) → A x ∨ G x := fun x hx => hx.elim (fun h => (hA x h).elim (fun h => .inr (s1 x h)) .inl) fun h => .inr h.1
  refine ⟨_, rl, ⟨fun a u hz => hk a u (fun ha => ?_) (b.sep.sub a u hz), fun a ha => b.sep.out a (sub1 a ha)⟩, b.step.trans ⟨fun a u hu hn => hk a u (fun ha => hn (.inr (s1 a ha))) hu, fun _ _ h => h, fun _ h => .inl h, fun a ha => .inl (sub1 a ha)⟩⟩
  rw [b.sep.out a (.inr (s1 a ha))] at hz; cases hz
theorem Now.bare (n : Now Γ σ B env Z H F) : Beside Γ σ B .non (.fz .non) env Z H (fun _ => False) F :=
  ⟨.fz .non fun _ h => h, n.rel, fun _ h => h.elim, ⟨n.sep.sub, fun b h => n.sep.out b (h.resolve_left fun z => z)⟩, n.step.drop fun b h => h.resolve_left fun z => z⟩
theorem upd_keep {a : Addr} {o : HO} {A1 : FS} (h : A1 a) : ∀ b u, ¬ A1 b → H b = some u → upd H a o b = some u := fun b u hb e => by
  rw [upd_ne fun z => hb (by rw [z]; exact h)]
  exact e
/-- parts that were there, one more behind -/
theorem Own.snoc {a : Addr} {vs : List V} {os : List O} (ow : Own Γ Z H (.ref a) (.lst os) A1) (hv : H a = some (.lst vs)) (ow2 : Own Γ Z H v o A) (ap : ∀ b, A b → ¬ A1 b) : ∃ A1', Own Γ Z (upd H a (.lst (vs ++ [v]))) (.ref a) (.lst (os ++ [o])) A1' ∧ ∀ x, A1' x → A1 x ∨ A x := by
  cases ow with
  | @lst _ vs' _ _ Fs ea l ch pt =>
    rw [hv] at ea; cases ea
    have ha : A1 a := (pt.all a).2 (.inl rfl)
    refine ⟨fun x => A1 x ∨ A x, .lst (fun j => if j = os.length then A else Fs j) upd_same (by simp [l]) (fun j v' o' h1 h2 => ?_) ⟨fun j b hj hb => ?_, fun j k b hj hk ne hb hc => ?_, fun b => ?_⟩, fun x h => h⟩
    · by_cases e : j = os.length
      · subst e
        rw [if_pos rfl]
        have e1 : v = v' := by rw [← l] at h1; simpa using h1
        have e2 : o = o' := by simpa using h2
        subst e1 e2
        exact ow2.still (fun b u hb e => by rw [upd_ne (fun z => ap b hb (by rw [z]; exact ha))]; exact e) fun _ _ e => e
      · rw [if_neg e]
        have hj : j < os.length := by
          have := (List.getElem?_eq_some_iff.mp h2).1
          simp at this; omega
        rw [List.getElem?_append_left (by omega)] at h1
        rw [List.getElem?_append_left hj] at h2
        exact (ch j v' o' h1 h2).still (fun b u hb e => by rw [upd_ne (pt.own j b hj hb)]; exact e) fun _ _ e => e
    · by_cases e : j = os.length
      · rw [if_pos e] at hb
        exact fun z => ap b hb (by rw [show b = a from z]; exact ha)
      · rw [if_neg e] at hb
        exact pt.own j b (by simp at hj; omega) hb
    · have hj : j < os.length + 1 := by simpa using hj
      have hk : k < os.length + 1 := by simpa using hk
      by_cases e : j = os.length
      · rw [if_pos e] at hb
        rw [if_neg (fun z => ne (e.trans z.symm))] at hc
        exact ap b hb ((pt.all b).2 (.inr ⟨k, by omega, hc⟩))
      · rw [if_neg e] at hb
        by_cases e2 : k = os.length
        · rw [if_pos e2] at hc
          exact ap b hc ((pt.all b).2 (.inr ⟨j, by omega, hb⟩))
        · rw [if_neg e2] at hc
          exact pt.apart j k b (by omega) (by omega) ne hb hc
    · constructor
      · rintro (h | h)
        · rcases (pt.all b).1 h with h | ⟨j, hj, h⟩
          · exact .inl h
          · exact .inr ⟨j, by simp; omega, by rw [if_neg (by omega)]; exact h⟩
        · exact .inr ⟨os.length, by simp, by rw [if_pos rfl]; exact h⟩
      · rintro (h | ⟨j, hj, h⟩)
        · exact .inl ((pt.all b).2 (.inl h))
        · have hj : j < os.length + 1 := by simpa using hj
          by_cases e : j = os.length
          · rw [if_pos e] at h; exact .inr h
          · rw [if_neg e] at h
            exact .inl ((pt.all b).2 (.inr ⟨j, by omega, h⟩))
/-- one part is another one now -/
theorem Parts.swap {n k : Nat} {Fs : Nat → FS} {R F A : FS} (p : Parts n Fs R F) (hk : k < n) (ap : ∀ b, A b → ¬ F b) : ∃ F', Parts n (fun j => if j = k then A else Fs j) R F' ∧ ∀ x, F' x → F x ∨ A x := by
  refine ⟨fun b => R b ∨ ∃ j, j < n ∧ (if j = k then A else Fs j) b, ⟨fun j b hj hb => ?_, fun i j b hi hj ne hb hc => ?_, fun b => Iff.rfl⟩, fun x h => ?_⟩
  · by_cases e : j = k
    · rw [if_pos e] at hb; exact fun r => ap b hb ((p.all b).2 (.inl r))
    · rw [if_neg e] at hb; exact p.own j b hj hb
  · by_cases e : i = k
    · rw [if_pos e] at hb
      rw [if_neg (fun z => ne (e.trans z.symm))] at hc
      exact ap b hb ((p.all b).2 (.inr ⟨j, hj, hc⟩))
    · rw [if_neg e] at hb
      by_cases e2 : j = k
      · rw [if_pos e2] at hc
        exact ap b hc ((p.all b).2 (.inr ⟨i, hi, hb⟩))
      · rw [if_neg e2] at hc
        exact p.apart i j b hi hj ne hb hc
  · rcases h with h | ⟨j, hj, h⟩
    · exact .inl ((p.all x).2 (.inl h))
    · by_cases e : j = k
      · rw [if_pos e] at h; exact .inr h
      · rw [if_neg e] at h; exact .inl ((p.all x).2 (.inr ⟨j, hj, h⟩))
theorem Own.setL {a : Addr} {vs : List V} {os : List O} {k : Nat} (ow : Own Γ Z H (.ref a) (.lst os) A1) (hv : H a = some (.lst vs)) (hk : k < os.length) (ow2 : Own Γ Z H v o A) (ap : ∀ b, A b → ¬ A1 b) : ∃ A1', Own Γ Z (upd H a (.lst (vs.set k v))) (.ref a) (.lst (os.set k o)) A1' ∧ ∀ x, A1' x → A1 x ∨ A x := by
  cases ow with
  | @lst _ vs' _ _ Fs ea l ch pt =>
    rw [hv] at ea; cases ea
    have ha : A1 a := (pt.all a).2 (.inl rfl)
    obtain ⟨F', pt', hs⟩ := pt.swap hk ap
    refine ⟨F', .lst _ upd_same (by simp [l]) (fun j v' o' h1 h2 => ?_) (by simpa using pt'), hs⟩
    by_cases e : j = k
    · subst e
      rw [if_pos rfl]
      rw [List.getElem?_set_self (by omega)] at h1
      rw [List.getElem?_set_self hk] at h2
      cases h1
      cases h2
      exact ow2.still (fun b u hb e => by rw [upd_ne (fun z => ap b hb (by rw [z]; exact ha))]; exact e) fun _ _ e => e
    · rw [if_neg e]
      rw [List.getElem?_set_ne (Ne.symm e)] at h1 h2
      exact (ch j v' o' h1 h2).still (fun b u hb e => by rw [upd_ne (pt.own j b (List.getElem?_eq_some_iff.mp h2).1 hb)]; exact e) fun _ _ e => e
end
end DL
end

section
set_option Elab.async false
set_option linter.all false
set_option maxRecDepth 100000
set_option maxHeartbeats 4000000
/-! The layer D: x[i] = e, x.f = e, x.append(e), x.extend(e). -/
namespace DL
open PySem L2

def rSetD : V → V → V → Hp → (Hp → Prop) → Prop := fun o i v H Q => ∃ a H4, o = .ref a ∧ DPut H a i v H4 ∧ Q H4
def rSetA : V → V → V → Hp → (Hp → Prop) → Prop := fun o i v H Q => rSetL o i v H Q ∨ rSetD o i v H Q
def hasKO (kvs : List (Key × O)) (k : Key) : Bool := kvs.any fun p => decide (p.1 = k)
/-- d[k] = v, v frozen -/
def putKO (kvs : List (Key × O)) (k : Key) (d : D) : List (Key × O) := if hasKO kvs k then kvs.map (fun q => if q.1 = k then (q.1, .fz d) else q) else kvs ++ [(k, .fz d)]
def putItem (x : AV) (d : D) (o : O) (e : Env) : R Fl := match x with
  | .pl i p => match subS e i p with
    | some (.lst os) => match d with
      | .int n => match ixN os.length n with
        | some k => .ok .nx (putS e i p (.lst (os.set k o)))
        | none => .bad
      | _ => .bad
    | some (.dic kvs) => match keyOf d with
      | some k => if kvs.length < sizeLine then .ok .nx (putS e i p (.dic (putKO kvs k (frz o)))) else .bad
      | none => .bad
    | _ => .bad
  | .tm _ => .bad
def setIS (f : Env → R O) (g : Env → R AV) (fi : Env → R D) (qb : Bool) (env : Env) : R Fl := (f env).bind fun o e1 => (g e1).bind fun x e2 => (fi e2).bind fun d e3 => if stab x qb then putItem x d o e3 else .bad
section
variable {X : Cx} {Γ : Ctx} {W : WX} {π : List Bool} {q qa qb qc : Bool} {e a b c tg iter : Expr} {pos : Pos}
theorem pset_A (hu : X.A.units + 1 < cLine) : PSet X rSetA := by
  intro pins s σ H o i v ov iv u Q I ro ri rv h
  rcases h with h | ⟨a, H4, e, g, q⟩
  · exact set_list pins s σ H o i v ov iv u Q I ro ri rv h
  · subst e
    obtain rfl : ov = Value.ref a := ro
    exact d_setItem hu I g ri rv fun s4 I4 => ⟨H4, I4, q⟩
theorem hasKO_any {kvs : List (Key × V)} {os : List (Key × O)} (h : kvs.map (·.1) = os.map (·.1)) (k : Key) : (kvs.any fun kv => decide (kv.1 = k)) = hasKO os k := by
  unfold hasKO
  have e1 : (kvs.any fun kv => decide (kv.1 = k)) = (kvs.map (·.1)).any fun x => decide (x = k) := by simp [List.any_map, Function.comp_def]
  have e2 : (os.any fun kv => decide (kv.1 = k)) = (os.map (·.1)).any fun x => decide (x = k) := by simp [List.any_map, Function.comp_def]
  rw [e1, e2, h]
theorem Own.putD {Z H : Hp} {A1 : FS} {a : Addr} {kvs : List (Key × V)} {os : List (Key × O)} {v : V} {d : D} {k : Key} (ow : Own Γ Z H (.ref a) (.dic os) A1) (hv : H a = some (.dK kvs)) (hd : Den Γ Z v d) : ∃ A1', Own Γ Z (upd H a (.dK (putK kvs k v))) (.ref a) (.dic (putKO os k d)) A1' ∧ ∀ x, A1' x → A1 x := by
  cases ow with
  | @dic _ _ _ kvs' Fs ea l ch pt =>
    rw [hv] at ea; cases ea
    have hlen : kvs.length = os.length := by simpa using congrArg List.length l
    have old : ∀ j v' o', j < os.length → Own Γ Z H v' o' (Fs j) → Own Γ Z (upd H a (.dK (putK kvs k v))) v' o' (Fs j) := fun j v' o' hj h => h.still (fun b u hb e => by rw [upd_ne (pt.own j b hj hb)]; exact e) fun _ _ e => e
    have ha := hasKO_any l k
    by_cases e : hasKO os k = true
    · have e1 : putK kvs k v = kvs.map (fun kv => if kv.1 = k then (kv.1, v) else kv) := by unfold putK; rw [if_pos (ha.trans e)]
      have e2 : putKO os k d = os.map (fun q => if q.1 = k then (q.1, .fz d) else q) := by unfold putKO; rw [if_pos e]
      rw [e2]
      refine ⟨fun b => b = a ∨ ∃ j, j < os.length ∧ (Fs j b ∧ ∀ q, os[j]? = some q → q.1 ≠ k), .dic (fun j b => Fs j b ∧ ∀ q, os[j]? = some q → q.1 ≠ k) upd_same ?_ (fun j v' o' h1 h2 => ?_) ⟨fun j b hj hb => pt.own j b (by simpa using hj) hb.1, fun i j b hi hj ne hb hc => pt.apart i j b (by simpa using hi) (by simpa using hj) ne hb.1 hc.1, fun b => by simp⟩, fun x h => ?_⟩
      · rw [e1, List.map_map, List.map_map]
        have z1 : ((fun x : Key × V => x.1) ∘ fun kv => if kv.1 = k then (kv.1, v) else kv) = fun x => x.1 := by funext x; simp only [Function.comp]; split <;> rfl
        have z2 : ((fun x : Key × O => x.1) ∘ fun q => if q.1 = k then (q.1, O.fz d) else q) = fun x => x.1 := by funext x; simp only [Function.comp]; split <;> rfl
        rw [z1, z2]; exact l
      · rw [e1] at h1
        have hj : j < os.length := by have := (List.getElem?_eq_some_iff.mp h2).1; simpa using this
        have hj' : j < kvs.length := by omega
        have hk : kvs[j].1 = os[j].1 := by
          have := congrArg (fun l => l[j]?) l
          simpa [hj, hj'] using this
        simp only [List.getElem?_map, List.getElem?_eq_getElem hj', Option.map_some, Option.some.injEq] at h1
        simp only [List.getElem?_map, List.getElem?_eq_getElem hj, Option.map_some, Option.some.injEq] at h2
        by_cases ek : os[j].1 = k
        · rw [if_pos (hk.trans ek)] at h1
          rw [if_pos ek] at h2
          subst h1 h2
          exact .fz hd fun b h => h.2 os[j] (List.getElem?_eq_getElem hj) ek
        · rw [if_neg (fun z => ek (hk.symm.trans z))] at h1
          rw [if_neg ek] at h2
          subst h1 h2
          refine (old j _ _ hj (ch j kvs[j].2 os[j].2 (by simp [hj']) (by simp [hj]))).iff fun b => ⟨fun h => ⟨h, fun q hq => ?_⟩, fun h => h.1⟩
          rw [List.getElem?_eq_getElem hj] at hq
          cases hq
          exact ek
      · rcases h with h | ⟨j, hj, h, _⟩
        · exact (pt.all x).2 (.inl h)
        · exact (pt.all x).2 (.inr ⟨j, hj, h⟩)
    · have e1 : putK kvs k v = kvs ++ [(k, v)] := by unfold putK; rw [if_neg (fun z => e (ha.symm.trans z))]
      have e2 : putKO os k d = os ++ [(k, .fz d)] := by unfold putKO; rw [if_neg e]
      rw [e2]
      refine ⟨A1, .dic (fun j b => Fs j b ∧ j < os.length) upd_same (by rw [e1]; simp [l]) (fun j v' o' h1 h2 => ?_) ⟨fun j b hj hb => pt.own j b hb.2 hb.1, fun i j b hi hj ne hb hc => pt.apart i j b hb.2 hc.2 ne hb.1 hc.1, fun b => ?_⟩, fun x h => h⟩
      · rw [e1] at h1
        rw [List.map_append] at h1 h2
        by_cases hj : j < os.length
        · rw [List.getElem?_append_left (by simpa using by omega)] at h1
          rw [List.getElem?_append_left (by simpa using hj)] at h2
          exact (old j _ _ hj (ch j v' o' h1 h2)).iff fun b => ⟨fun h => ⟨h, hj⟩, fun h => h.1⟩
        · have hj2 : j = os.length := by
            have := (List.getElem?_eq_some_iff.mp h2).1
            simp at this; omega
          subst hj2
          rw [List.getElem?_append_right (by simp [hlen])] at h1
          rw [List.getElem?_append_right (by simp)] at h2
          simp [hlen] at h1 h2
          subst h1 h2
          exact .fz hd fun b h => absurd h.2 (Nat.lt_irrefl _)
      · rw [pt.all b]
        constructor
        · rintro (h | ⟨j, hj, h⟩)
          · exact .inl h
          · exact .inr ⟨j, by simp; omega, h, hj⟩
        · rintro (h | ⟨j, _, h, hj⟩)
          · exact .inl h
          · exact .inr ⟨j, hj, h⟩
/-- the tree beside is frozen -/
theorem Beside.freeze {σ : St} {B : Base} {v : V} {o : O} {env : Env} {Z H : Hp} {A G : FS} (b : Beside Γ σ B v o env Z H A G) : ∃ Z', Now Γ σ B env Z' H G ∧ Den Γ Z' v (frz o) := by
  obtain ⟨hd, sp2, st2⟩ := DL.freeze b.own b.sep b.apart
  exact ⟨_, ⟨b.rel.beside st2 fun x hx hA => b.apart x hA hx, sp2, b.step.trans (st2.frame (G := G) (fun _ => Iff.rfl) (F2 := G) fun x => ⟨.inr, fun z => z.resolve_left fun y => y⟩)⟩, hd⟩
theorem ds_setItem {f : Env → R O} {g : Env → R AV} {fi : Env → R D} {o i value : Expr} {p2 : Pos} (hu : X.A.units + 1 < cLine) (hv : DE X Γ W value f) (ho : DV X Γ W qa o g) (hi : DF X Γ W qb i fi)
    (ha : ∀ v, assign (.Subscript o i p2) X.env v = (do
      let ov ← holding [v] (eval o X.env)
      let iv ← holding [v, ov] (eval i X.env)
      standAt p2
      holding [v, ov, iv] (setItem ov iv v)
      release [v, ov, iv] []) := by intro _; rfl)
    (hs : swapsWithSole [.Subscript o i p2] value pos.line X.env = pure false := by rfl) (hw : swappedStores [.Subscript o i p2] value X.env = pure none := by rfl)
    (h1 : (assignEach [.Subscript o i p2] X.env).map (·.2) = [assign (.Subscript o i p2) X.env] := by rfl) : DS X Γ W π (.Assign [.Subscript o i p2] value pos) (setIS f g fi qb) :=
  PS.imp (ps_asg hv (pg_sub ho hi (pset_A hu) ha) hs hw h1) fun D σ H ⟨Z, env, F, r, s, p⟩ => by
    refine ⟨Z, env, F, r, s, PQ.bind p fun ov e1 _ p1 v Z1 H1 A G ow rl ap sp st => ?_⟩
    have b1 : Beside Γ σ ⟨F, H, Z⟩ v ov e1 Z1 H1 A G := ⟨ow, rl, ap, sp, st⟩
    have p1' : PQ Γ W π σ ⟨G, H1, Z1⟩ ((g e1).bind fun x e2 => (fi e2).bind fun d e3 => if stab x qb then putItem x d ov e3 else .bad) D := p1.from b1.now.step .refl
    refine ⟨Z1, e1, G, rl, b1.now.sep, PQ.bind p1' fun x e2 _ p2 v2 Z2 H2 G2 n2 _ a2 => ?_⟩
    have p2' := p2.from n2.step .refl
    refine ⟨Z2, e2, G2, n2.rel, n2.sep, PQ.bind p2' fun d e3 _ p3 v3 Z3 H3 G3 n3 q3 hd => ?_⟩
    have b3 := (b1.more n2).more n3
    have fin : ∀ {env' : Env} {σ' : St} {H' : Hp} {F' : FS} {Z' : Hp}, Now Γ σ' ⟨F, H, Z⟩ env' Z' H' F' → Pre π σ σ' → PQ Γ W π σ ⟨F, H, Z⟩ (.ok .nx env') D → D.nx σ' H' := fun n pr h => h _ _ _ _ n pr
    have p4 : PQ Γ W π σ ⟨F, H, Z⟩ (if stab x qb then putItem x d ov e3 else .bad) D := by
      have e2' : g e1 = .ok x e2 := by assumption
      have e3' : fi e2 = .ok d e3 := by assumption
      rw [e2'] at p1
      simp only [R.bind_ok] at p1
      rw [e3'] at p1
      exact p1
    by_cases hst : stab x qb = true
    · rw [if_pos hst] at p4
      have a3 : AVat Γ Z3 H3 σ x v2 := a2.still hst n3.step.fz q3
      unfold putItem at p4
      split at p4
      · rename_i i pp _
        split at p4
        · rename_i o'' os hsub
          split at p4
          · rename_i n _
            split at p4
            · rename_i k hk
              cases hd
              have a3 : Wat H3 σ i pp v2 := a3
              obtain ⟨A1, ow1, s1, _⟩ := b3.rel.focus a3 hsub
              cases ow1 with
              | @lst a vs _ _ Fs ea l ch pt =>
                have hkl : k < os.length := by
                  unfold ixN at hk
                  split at hk
                  · split at hk
                    · cases hk; omega
                    · cases hk
                  · split at hk
                    · cases hk; omega
                    · cases hk
                refine .inl ⟨a, vs, n, k, rfl, rfl, ea, by rw [l]; exact hk, ?_⟩
                obtain ⟨F', n4⟩ := b3.write (o1' := .lst (os.set k ov)) (A1' := A) (H' := upd H3 a (.lst (vs.set k v))) a3 hsub fun A2 ow2 s2 => by
                  have ow2' := ow2
                  cases ow2 with
                  | lst _ _ _ _ pt2 =>
                    refine ⟨upd_keep ((pt2.all a).2 (.inl rfl)), ?_⟩
                    exact ow2'.setL ea hkl b3.own fun b hb hA => b3.apart b hb (s2 b hA)
                exact fin n4 .refl p4
            · exact p4.elim
          · exact p4.elim
        · rename_i o'' kvs hsub
          split at p4
          · rename_i kk hkey
            split at p4
            · rename_i hl
              have a3 : Wat H3 σ i pp v2 := a3
              obtain ⟨Z4, n4, hd4⟩ := b3.freeze
              have z4 : View Γ Z3 H3 v3 d := .den hd
              obtain ⟨A1, ow1, s1, _⟩ := n4.rel.focus a3 hsub
              cases ow1 with
              | @dic a _ _ kvs' Fs ea l ch pt =>
                have hlen : kvs'.length = kvs.length := by simpa using congrArg List.length l
                refine .inr ⟨a, upd H3 a (.dK (putK kvs' kk v)), rfl, ?_, ?_⟩
                · rw [key_kV z4 hkey]
                  exact .k ea (by omega)
                · obtain ⟨F', n5⟩ := n4.bare.write (o1' := .dic (putKO kvs kk (frz ov))) (A1' := A) (H' := upd H3 a (.dK (putK kvs' kk v))) a3 hsub fun A2 ow2 s2 => by
                    have ow2' := ow2
                    cases ow2 with
                    | dic _ _ _ _ pt2 =>
                      refine ⟨upd_keep ((pt2.all a).2 (.inl rfl)), ?_⟩
                      obtain ⟨A3, h1, h2⟩ := ow2'.putD ea hd4 (k := kk)
                      exact ⟨A3, h1, fun x h => .inl (h2 x h)⟩
                  exact fin n5 .refl p4
            · exact p4.elim
          · exact p4.elim
        · exact p4.elim
      · exact p4.elim
    · rw [if_neg hst] at p4; exact p4.elim
end
end DL
end

section
set_option Elab.async false
set_option linter.all false
set_option maxRecDepth 100000
set_option maxHeartbeats 4000000
/-! The layer D: x.append(e), x.extend(e), x.f = e. -/
namespace DL
open PySem L2

/-- e, while the tree in slot i lies still -/
def besideP (i : Nat) (p : List Nat) (f : Env → R O) (env : Env) : R O := match p with
  | [] => f env
  | _ :: _ => match getS env i with
    | some o0 => (f (env.set i none)).bind fun o e2 => match e2[i]? with
      | some none => .ok o (e2.set i (some o0))
      | _ => .bad
    | none => .bad
section
variable {X : Cx} {Γ : Ctx} {W : WX} {π : List Bool} {q qa qb qc : Bool} {e a b c tg iter : Expr} {pos : Pos}
theorem beside_ok {σ : St} {B : Base} {env : Env} {Z H : Hp} {F : FS} {i : Nat} {p : List Nat} {v : V} {o1 : O} {f : Env → R O} {k : O → Env → R Fl} {D : Ends} {Q : VK} (n : Now Γ σ B env Z H F) (w : Wat H σ i p v) (e : subS env i p = some o1)
    (h : PQ Γ W π σ B ((besideP i p f env).bind k) D)
    (hk : ∀ v2 o e2 Z2 H2 A G, Beside Γ σ B v2 o e2 Z2 H2 A G → Wat H2 σ i p v → PQ Γ W π σ B (k o e2) D → Q v2 H2) : tE Γ W f σ H Q := by
  cases p with
  | nil =>
    have h : PQ Γ W π σ B ((f env).bind k) D := h
    refine ⟨Z, env, F, n.rel, n.sep, PQ.bind (h.from n.step .refl) fun o e2 hf p1 v2 Z2 H2 A G ow rl ap sp st => ?_⟩
    obtain ⟨v0, e0, w0⟩ := w
    cases w0
    have h2 : PQ Γ W π σ B (k o e2) D := by rw [hf] at h; exact h
    exact hk v2 o e2 Z2 H2 A G ⟨ow, rl, ap, sp, n.step.trans st⟩ ⟨v, e0, .nil⟩ h2
  | cons k0 p =>
    cases g : getS env i with
    | none => simp only [besideP, g] at h; exact h.elim
    | some o0 =>
      simp only [besideP, g] at h
      obtain ⟨v0, A0, G0, hv0, ow0, rl0, ap0, hF⟩ := n.rel.get (getS_some g)
      have sepG : Sep Z H G0 := ⟨n.sep.sub, fun a ha => n.sep.out a ((hF a).2 (.inr ha))⟩
      have stG : Step B.F B.H B.Z G0 H Z := n.step.drop fun b hb => (hF b).2 (.inr hb)
      have hsub : sub o0 (k0 :: p) = some o1 := by
        unfold subS at e
        rw [g] at e
        exact e
      have hb : PQ Γ W π σ B ((f (env.set i none)).bind fun o e2 => (match e2[i]? with
        | some none => R.ok o (e2.set i (some o0))
        | _ => .bad).bind k) D := by
        cases hf : f (env.set i none) with
        | ok o e2 => rw [hf] at h; exact h
        | err c x e2 => rw [hf] at h; exact h
        | bad => rw [hf] at h; exact h
      refine ⟨Z, env.set i none, G0, rl0, sepG, PQ.bind (hb.from stG .refl) fun o e2 hf p1 v2 Z2 H2 A G ow rl ap sp st => ?_⟩
      rw [hf] at hb
      simp only [R.bind_ok] at hb
      cases he : e2[i]? with
      | none => rw [he] at hb; exact hb.elim
      | some oo =>
        cases oo with
        | some _ => rw [he] at hb; exact hb.elim
        | none =>
          rw [he] at hb
          simp only [R.bind_ok] at hb
          have apA0 : ∀ b, A0 b → ¬ (A b ∨ G b) := st.apart ap0 ow0.there
          have ow0' : Own Γ Z2 H2 v0 o0 A0 := ow0.beside st ap0
          have z0 : ∀ b, A0 b → Z2 b = none := st.out ap0 ow0.there fun b hb => n.sep.out b ((hF b).2 (.inl hb))
          have rl2 := rl.back (i := i) he hv0 ow0' fun b hb hg => apA0 b hb (.inr hg)
          obtain ⟨v0', e0, w0⟩ := w
          rw [hv0] at e0; cases e0
          have w2 : Wk H2 v0 (k0 :: p) v := w0.still ow0 hsub fun a u ha hu => st.keep a u hu (ap0 a ha)
          refine hk v2 o _ Z2 H2 A (fun b => A0 b ∨ G b) ⟨ow, rl2, fun b hb hg => ?_, ⟨sp.sub, fun b hb => ?_⟩, ?_⟩ ⟨v0, hv0, w2⟩ hb
          · rcases hg with hg | hg
            · exact apA0 b hg (.inl hb)
            · exact ap b hb hg
          · rcases hb with hb | hb | hb
            · exact sp.out b (.inl hb)
            · exact z0 b hb
            · exact sp.out b (.inr hb)
          · refine n.step.trans (st.frame (G := A0) (fun x => ?_) fun x => ?_)
            · rw [hF x, or_comm]
            · constructor
              · rintro (h | h | h)
                · exact .inl (.inl h)
                · exact .inr h
                · exact .inl (.inr h)
              · rintro ((h | h) | h)
                · exact .inl h
                · exact .inr (.inr h)
                · exact .inr (.inl h)
def isLst (o : Option O) : Bool := match o with
  | some (.lst _) => true
  | _ => false
def appendS (g : Env → R AV) (f : Env → R O) (env : Env) : R Fl := (g env).bind fun x e1 => match x with
  | .pl i p => if isLst (subS e1 i p) then (besideP i p f e1).bind fun o e2 => (match subS e2 i p with
    | some (.lst os) => if os.length < sizeLine then .ok .nx (putS e2 i p (.lst (os ++ [o]))) else .bad
    | _ => .bad) else .bad
  | .tm _ => .bad
theorem isLst_some {o : Option O} (h : isLst o = true) : ∃ os, o = some (.lst os) := by
  unfold isLst at h
  split at h
  · exact ⟨_, rfl⟩
  · cases h
theorem place_list {σ : St} {B : Base} {env : Env} {Z H : Hp} {F : FS} {i : Nat} {p : List Nat} {v : V} {os : List O} (n : Now Γ σ B env Z H F) (w : Wat H σ i p v) (e : subS env i p = some (.lst os)) : ∃ a vs, v = .ref a ∧ H a = some (.lst vs) ∧ vs.length = os.length := by
  obtain ⟨A1, ow, _, _⟩ := n.rel.focus w e
  cases ow with
  | lst Fs ea l ch pt => exact ⟨_, _, rfl, ea, l⟩
theorem ds_append {g : Env → R AV} {f : Env → R O} {o v : Expr} {apos cpos : Pos} (hK : X.K = Γ.K) (ho : DV X Γ W qa o g) (hv : DE X Γ W v f)
    (hbase : attributeBase o "append" X.env (eval o X.env) = eval o X.env := by rfl)
    (hfew : ((backTo cpos (starEach (v :: []) X.env)).all (fun x => !x.1) && (backToKw cpos (keywordEach [] X.env)).all (fun x => x.1.isSome)
      && decide ((v :: []).length + ([] : List Keyword).length + (if ([] : List Keyword).isEmpty then 0 else 1) < 30)) = true := by rfl)
    (hline : (apos.endLine == cpos.line) = true := by rfl) (hs : starEach (v :: []) X.env = (false, eval v X.env) :: starEach [] X.env := by rfl) (hplain : (backTo cpos (starEach [] X.env)).any (·.1) = false := by rfl)
    (hsw : swapsWith (.Call (.Attribute o "append" apos) [v] [] cpos) none pos.line X.env = pure false := by rfl) : DS X Γ W π (.Expr (.Call (.Attribute o "append" apos) [v] [] cpos) pos) (appendS g f) :=
  PS.imp (ps_expr (pe_bm PySem.F.plainAttrs_list PySem.F.slot_list_append PySem.F.type_list_append mt_append ho (pa_cons hv pa_nil hs) hbase hfew hline hs hplain) hsw) fun D σ H ⟨Z, env, F, r, s, p⟩ => by
    refine ⟨Z, env, F, r, s, PQ.bind p fun x e1 _ p1 v1 Z1 H1 F1 n hq hx => ?_⟩
    cases x with
    | tm d => exact p1.elim
    | pl i pp =>
      simp only at p1
      by_cases hl : isLst (subS e1 i pp) = true
      · rw [if_pos hl] at p1
        obtain ⟨os1, hs1⟩ := isLst_some hl
        obtain ⟨a, vs, rfl, ha, _⟩ := place_list n hx hs1
        refine ⟨.inl ⟨rfl, vs, by rw [hK]; exact SqL.of ha⟩, beside_ok n hx hs1 p1 fun v2 o2 e2 Z2 H2 A G b w p2 => ?_⟩
        split at p2
        · rename_i os hsub
          split at p2
          · rename_i hlen
            obtain ⟨a', vs', e', ha', hl'⟩ := place_list b.now w hsub
            cases e'
            refine ⟨a, vs', v2, rfl, rfl, ha', by rw [hl']; exact hlen, ?_⟩
            obtain ⟨F', n4⟩ := b.write (o1' := .lst (os ++ [o2])) (A1' := A) (H' := upd H2 a (.lst (vs' ++ [v2]))) w hsub fun A2 ow2 s2 => by
              have ow2' := ow2
              cases ow2 with
              | lst _ _ _ _ pt2 =>
                refine ⟨upd_keep ((pt2.all a).2 (.inl rfl)), ?_⟩
                exact ow2'.snoc ha' b.own fun b' hb hA => b.apart b' hb (s2 b' hA)
            exact p2 σ Z2 _ F' n4 .refl
          · exact p2.elim
        · exact p2.elim
      · rw [if_neg hl] at p1; exact p1.elim
/-- x.extend(e), e a list -/
def extendS (g : Env → R AV) (f : Env → R D) (env : Env) : R Fl := (g env).bind fun x e1 => match x with
  | .pl i p => if isLst (subS e1 i p) then (besideP i p (fun e => (f e).bind fun d e => .ok (.fz d) e) e1).bind fun o e2 => (match o with
    | .fz (.lst ds) => (match subS e2 i p with
      | some (.lst os) => if os.length + ds.length ≤ sizeLine then .ok .nx (putS e2 i p (.lst (os ++ ds.map .fz))) else .bad
      | _ => .bad)
    | _ => .bad) else .bad
  | .tm _ => .bad
theorem Own.snocs {Z H : Hp} {A1 : FS} {a : Addr} {vs ws : List V} {os : List O} {ds : List D} (ow : Own Γ Z H (.ref a) (.lst os) A1) (hv : H a = some (.lst vs)) (c : Dens Γ Z ws ds) : Own Γ Z (upd H a (.lst (vs ++ ws))) (.ref a) (.lst (os ++ ds.map .fz)) A1 := by
  cases ow with
  | @lst _ vs' _ _ Fs ea l ch pt =>
    rw [hv] at ea; cases ea
    refine .lst (fun j b => Fs j b ∧ j < os.length) upd_same (by simp [l, c.1]) (fun j v' o' h1 h2 => ?_) ⟨fun j b hj hb => pt.own j b hb.2 hb.1, fun i j b hi hj ne hb hc => pt.apart i j b hb.2 hc.2 ne hb.1 hc.1, fun b => ?_⟩
    · by_cases hj : j < os.length
      · rw [List.getElem?_append_left (by omega)] at h1
        rw [List.getElem?_append_left hj] at h2
        exact ((ch j v' o' h1 h2).still (fun b u hb e => by rw [upd_ne (pt.own j b hj hb)]; exact e) fun _ _ e => e).iff fun b => ⟨fun h => ⟨h, hj⟩, fun h => h.1⟩
      · rw [List.getElem?_append_right (by omega)] at h1
        rw [List.getElem?_append_right (by omega), List.getElem?_map] at h2
        rw [l] at h1
        cases hd : ds[j - os.length]? with
        | none => rw [hd] at h2; cases h2
        | some d =>
          rw [hd] at h2
          cases h2
          exact .fz (c.2 _ v' d h1 hd) fun b h => hj h.2
    · rw [pt.all b]
      constructor
      · rintro (h | ⟨j, hj, h⟩)
        · exact .inl h
        · exact .inr ⟨j, by simp; omega, h, hj⟩
      · rintro (h | ⟨j, _, h, hj⟩)
        · exact .inl h
        · exact .inr ⟨j, hj, h⟩
end
end DL
end

section
set_option Elab.async false
set_option linter.all false
set_option maxRecDepth 100000
set_option maxHeartbeats 4000000
/-! The layer D: defs and their calls. A def is a function of its parameters' trees; some parameters are lent to it (they come back), the others are handed over. -/
namespace DL
open PySem L2

/-- what comes back of the parameters -/
def bck : List Bool → Env → Env
  | [], _ => []
  | _ :: π, [] => none :: bck π []
  | b :: π, o :: e => (if b then o else none) :: bck π e
def defF (N : Nat) (π : List Bool) (body : Env → R Fl) (env : Env) : R O := match body (env ++ List.replicate (N - env.length) none) with
  | .ok (.ret o) e => .ok o (bck π e)
  | .ok .nx e => .ok (.fz .non) (bck π e)
  | .ok _ _ => .bad
  | .err c x e => .err c x (bck π e)
  | .bad => .bad
abbrev WD (E : XK) : WX := fun cls d _ H => E cls d H
def spD (Γ : Ctx) (n : Nat) (S : Env → R O) : Sp := fun vs H Q E => vs.length = n ∧ tE Γ (WD E) S (vs.map some) H Q
section
variable {Γ : Ctx} {Z H : Hp} {G : FS}
theorem Rel.lend : ∀ {π : List Bool} {vs : List V} {σ : St} {e : Env} {G : FS}, Rel Γ Z H σ e G → vs.length = π.length → vs.length ≤ σ.length → (∀ i : Nat, π[i]? = some true → σ[i]? = (vs.map some)[i]?) → ∃ G', (∀ b, G' b → G b) ∧ Rel Γ Z H (vs.map some) (bck π e) G'
  | [], vs, σ, e, G, h, hl, _, _ => by
    have : vs = [] := List.length_eq_zero_iff.mp hl
    subst this
    exact ⟨fun _ => False, fun _ h => h.elim, .nil fun _ h => h⟩
  | b :: π, [], σ, e, G, h, hl, _, _ => by simp at hl
  | b :: π, v :: vs, [], e, G, h, hl, hn, _ => by simp at hn
  | b :: π, v :: vs, s :: σ, e, G, h, hl, hn, hs => by
    have hl' : vs.length = π.length := by simpa using hl
    have hn' : vs.length ≤ σ.length := by simpa using hn
    have hs' : ∀ i : Nat, π[i]? = some true → σ[i]? = (vs.map some)[i]? := fun i hi => by simpa using hs (i + 1) (by simpa using hi)
    cases h with
    | @skip _ _ e' _ r =>
      obtain ⟨G', h1, h2⟩ := Rel.lend r hl' hn' hs'
      refine ⟨G', h1, ?_⟩
      show Rel Γ Z H (some v :: vs.map some) ((if b then none else none) :: bck π e') G'
      have e0 : (if b then (none : Option O) else none) = none := by cases b <;> rfl
      rw [e0]
      exact .skip h2
    | @cons v' _ o e' _ A G1 ow r n f =>
      obtain ⟨G', h1, h2⟩ := Rel.lend r hl' hn' hs'
      cases b with
      | false => exact ⟨G', fun x hx => (f x).2 (.inr (h1 x hx)), .skip h2⟩
      | true =>
        have e0 : v' = v := by simpa using hs 0 rfl
        subst e0
        exact ⟨fun x => A x ∨ G' x, fun x hx => (f x).2 (hx.imp id (h1 x)), .cons ow h2 (fun x ha hg => n x ha (h1 x hg)) fun _ => Iff.rfl⟩
theorem Rel.pad {σ : St} {env : Env} (h : Rel Γ Z H σ env G) : ∀ k : Nat, Rel Γ Z H (σ ++ List.replicate k none) (env ++ List.replicate k none) G := fun k => by
  induction h with
  | nil n =>
    induction k with
    | zero => exact .nil n
    | succ k ih => exact .skip ih
  | skip _ ih => exact .skip ih
  | cons ow _ n f ih => exact .cons ow ih n f
end
section
variable {P : Program} {w : World} {K : PySem.W.Frag} {mg : Str → Option Value} {base : Heap}
/-- a body's derivation gives the def -/
theorem fn_body {Γ : Ctx} {N ps : List Str} {π : List Bool} {E : XK} {f : Env → R Fl} {vs : List V} {H : Hp} {Q : VK} (hπ : π.length = ps.length) (hN : ps.length ≤ N.length) (h : spD Γ ps.length (defF N.length π f) vs H Q E) :
    tS Γ (WD E) π f { nx := fun _ H' => Q .non H', rt := Q } (L2.start N vs) H := by
  obtain ⟨hl, Z, env, F, r, s, p⟩ := h
  have hlen : env.length = vs.length := by have := r.len; simpa using this.symm
  have rp : Rel Γ Z H (L2.start N vs) (env ++ List.replicate (N.length - env.length) none) F := by
    unfold L2.start
    rw [hlen]
    exact r.pad _
  have hst : ∀ σ, Pre π (L2.start N vs) σ → vs.length ≤ σ.length ∧ ∀ i : Nat, π[i]? = some true → σ[i]? = (vs.map some)[i]? := fun σ pr => by
    have h1 : (L2.start N vs).length = N.length := by unfold L2.start; simp; omega
    refine ⟨by rw [pr.len, h1]; omega, fun i hi => ?_⟩
    rw [pr.same i hi]
    have hi' : i < vs.length := by have := (List.getElem?_eq_some_iff.mp hi).1; omega
    unfold L2.start
    rw [List.getElem?_append_left (by simpa using hi')]
  refine ⟨Z, _, F, rp, s, ?_⟩
  have fall : ∀ {α : Prop} {σ : St} {e : Env} {G : FS} {Z' H' : Hp}, Rel Γ Z' H' σ e G → Pre π (L2.start N vs) σ → (∀ G', (∀ b, G' b → G b) → Rel Γ Z' H' (vs.map some) (bck π e) G' → α) → α := fun rl pr k => by
    obtain ⟨h1, h2⟩ := hst _ pr
    obtain ⟨G', g1, g2⟩ := rl.lend (by omega) h1 h2
    exact k G' g1 g2
  unfold defF at p
  cases hf : f (env ++ List.replicate (N.length - env.length) none) with
  | ok fl e =>
    rw [hf] at p
    cases fl with
    | nx => exact fun σ Z' H' F' n pr => fall n.rel pr fun G' g1 g2 => p .non Z' H' (fun _ => False) G' (.fz .non fun _ h => h) g2 (fun _ h => h.elim) ⟨n.sep.sub, fun b hb => n.sep.out b (g1 b (hb.resolve_left fun z => z))⟩ (n.step.drop fun b hb => g1 b (hb.resolve_left fun z => z))
    | ret o => exact fun σ v Z' H' A G ow rl ap sp st pr => fall rl pr fun G' g1 g2 => p v Z' H' A G' ow g2 (fun b ha hg => ap b ha (g1 b hg)) ⟨sp.sub, fun b hb => sp.out b (hb.imp id (g1 b))⟩ (st.drop fun b hb => hb.imp id (g1 b))
    | bk => exact p.elim
    | ct => exact p.elim
  | err c x e =>
    rw [hf] at p
    exact fun σ pr dd v Z' H' F' n hd hx => fall n.rel pr fun G' g1 g2 => p dd v Z' H' G' ⟨g2, ⟨n.sep.sub, fun b hb => n.sep.out b (g1 b hb)⟩, n.step.drop g1⟩ hd hx
  | bad => rw [hf] at p; exact p.elim
end

/-! ### arguments: lent or handed over -/
def nilAr (env : Env) : R Env := .ok [] env
def valAr (f : Env → R O) (g : Env → R Env) (env : Env) : R Env := (f env).bind fun o e => (g e).bind fun ta e2 => .ok (some o :: ta) e2
def lendAr (i : Nat) (g : Env → R Env) (env : Env) : R Env := match getS env i with
  | some _ => (g env).bind fun ta e2 => .ok (none :: ta) e2
  | none => .bad
def takeL : List (Option Nat) → Env → Env → Option (Env × Env)
  | [], [], e => some ([], e)
  | none :: ms, t :: ta, e => (takeL ms ta e).map fun q => (t :: q.1, q.2)
  | some i :: ms, none :: ta, e => match getS e i with
    | some o => (takeL ms ta (e.set i none)).map fun q => (some o :: q.1, q.2)
    | none => none
  | _, _, _ => none
def giveL : List (Option Nat) → Env → Env → Option Env
  | [], _, e => some e
  | none :: ms, _ :: out, e => giveL ms out e
  | some i :: ms, some o :: out, e => match e[i]? with
    | some none => giveL ms out (e.set i (some o))
    | _ => none
  | _, _, _ => none
def callE (S : Env → R O) (ms : List (Option Nat)) (args : Env → R Env) (env : Env) : R O := (args env).bind fun ta e1 => match takeL ms ta e1 with
  | some (ta', e2) => (match S ta' with
    | .ok o out => (match giveL ms out e2 with
      | some e3 => .ok o e3
      | none => .bad)
    | .err c x out => (match giveL ms out e2 with
      | some e3 => .err c x e3
      | none => .bad)
    | .bad => .bad)
  | none => .bad
/-- the lent ones are what the slots hold -/
def LendOk (ms : List (Option Nat)) (vs : List V) (σ : St) : Prop := ms.length = vs.length ∧ ∀ (j i : Nat), ms[j]? = some (some i) → σ[i]? = (vs.map some)[j]?
structure Args (Γ : Ctx) (σ : St) (B : Base) (ms : List (Option Nat)) (vs : List V) (ta : Env) (env : Env) (Z H : Hp) (A G : FS) : Prop where
  tmp : Rel Γ Z H (vs.map some) ta A
  rel : Rel Γ Z H σ env G
  apart : ∀ b, A b → ¬ G b
  sep : Sep Z H (fun b => A b ∨ G b)
  step : Step B.F B.H B.Z (fun b => A b ∨ G b) H Z
  lend : LendOk ms vs σ
def okAr (Γ : Ctx) (σ : St) (B : Base) (ms : List (Option Nat)) (Q : List V → Hp → Prop) (ta : Env) (env : Env) : Prop := ∀ vs Z H A G, Args Γ σ B ms vs ta env Z H A G → Q vs H
def tAr (Γ : Ctx) (W : WX) (ms : List (Option Nat)) (f : Env → R Env) : TA := fun σ H Q => ∃ Z env F, Rel Γ Z H σ env F ∧ Sep Z H F ∧ PR Γ W σ ⟨F, H, Z⟩ (f env) (okAr Γ σ ⟨F, H, Z⟩ ms Q)
abbrev DAr (X : Cx) (Γ : Ctx) (W : WX) (ms : List (Option Nat)) (es : List Expr) (f : Env → R Env) : Prop := PA X es (tAr Γ W ms f)
section
variable {X : Cx} {Γ : Ctx} {W : WX} {e : Expr} {es : List Expr} {ms : List (Option Nat)}
theorem dar_nil : DAr X Γ W [] [] nilAr := PA.imp pa_nil fun σ H Q ⟨Z, env, F, r, s, p⟩ => p [] Z H (fun _ => False) F ⟨.nil fun _ h => h, r, fun _ h => h.elim, ⟨s.sub, fun b h => s.out b (h.resolve_left fun z => z)⟩, Step.refl.drop fun b h => h.resolve_left fun z => z, rfl, fun j i h => by simp at h⟩
theorem LendOk.val {vs : List V} {σ : St} {v : V} (h : LendOk ms vs σ) : LendOk (none :: ms) (v :: vs) σ := ⟨by simp [h.1], fun j i hj => by
  cases j with
  | zero => simp at hj
  | succ j => simpa using h.2 j i (by simpa using hj)⟩
theorem LendOk.len {vs : List V} {σ : St} {v : V} {i : Nat} (h : LendOk ms vs σ) (e : σ[i]? = some (some v)) : LendOk (some i :: ms) (v :: vs) σ := ⟨by simp [h.1], fun j k hj => by
  cases j with
  | zero =>
    simp at hj; subst hj
    simpa using e
  | succ j => simpa using h.2 j k (by simpa using hj)⟩
theorem dar_val {f : Env → R O} {g : Env → R Env} (h : DE X Γ W e f) (t : DAr X Γ W ms es g) (hs : starEach (e :: es) X.env = (false, eval e X.env) :: starEach es X.env := by rfl) : DAr X Γ W (none :: ms) (e :: es) (valAr f g) :=
  PA.imp (pa_cons h t hs) fun σ H Q ⟨Z, env, F, r, s, p⟩ => ⟨Z, env, F, r, s, PR.bind p fun o e1 _ p1 v Z1 H1 A G ow rl ap sp st => by
    have b1 : Beside Γ σ ⟨F, H, Z⟩ v o e1 Z1 H1 A G := ⟨ow, rl, ap, sp, st⟩
    refine ⟨Z1, e1, G, rl, b1.now.sep, PR.bindS p1 b1.now.step fun ta e2 _ p2 vs Z2 H2 A2 G2 a2 => ?_⟩
    have apA : ∀ b, A b → ¬ (A2 b ∨ G2 b) := a2.step.apart ap ow.there
    have ow2 : Own Γ Z2 H2 v o A := ow.beside a2.step ap
    have z2 : ∀ b, A b → Z2 b = none := a2.step.out ap ow.there fun b hb => sp.out b (.inl hb)
    refine p2 (v :: vs) Z2 H2 (fun b => A b ∨ A2 b) G2 ⟨.cons ow2 a2.tmp (fun b ha hb => apA b ha (.inl hb)) fun _ => Iff.rfl, a2.rel, fun b hb hg => ?_, ⟨a2.sep.sub, fun b hb => ?_⟩, ?_, a2.lend.val⟩
    · rcases hb with hb | hb
      · exact apA b hb (.inr hg)
      · exact a2.apart b hb hg
    · rcases hb with (hb | hb) | hb
      · exact z2 b hb
      · exact a2.sep.out b (.inl hb)
      · exact a2.sep.out b (.inr hb)
    · refine st.trans (a2.step.frame (G := A) (fun x => or_comm) fun x => ?_)
      constructor
      · rintro ((h | h) | h)
        · exact .inr h
        · exact .inl (.inl h)
        · exact .inl (.inr h)
      · rintro ((h | h) | h)
        · exact .inl (.inr h)
        · exact .inr h
        · exact .inl (.inl h)⟩
theorem dar_lend {i : Nat} {x : Str} {pos : Pos} {g : Env → R Env} (h : PE X (.Name x pos) (tVar i)) (t : DAr X Γ W ms es g) (hs : starEach (.Name x pos :: es) X.env = (false, eval (.Name x pos) X.env) :: starEach es X.env := by rfl) : DAr X Γ W (some i :: ms) (.Name x pos :: es) (lendAr i g) :=
  PA.imp (pa_cons h t hs) fun σ H Q ⟨Z, env, F, r, s, p⟩ => by
    unfold lendAr at p
    cases hg : getS env i with
    | none => rw [hg] at p; exact p.elim
    | some o =>
      rw [hg] at p
      obtain ⟨v, A, G, hv, _⟩ := r.get (getS_some hg)
      refine ⟨v, hv, Z, env, F, r, s, PR.bind p fun ta e2 _ p2 vs Z2 H2 A2 G2 a2 => ?_⟩
      exact p2 (v :: vs) Z2 H2 A2 G2 ⟨.skip a2.tmp, a2.rel, a2.apart, a2.sep, a2.step, a2.lend.len hv⟩
end
end DL
end

section
set_option Elab.async false
set_option linter.all false
set_option maxRecDepth 100000
set_option maxHeartbeats 4000000
/-! The layer D: calls. -/
namespace DL
open PySem L2
section
variable {Γ : Ctx} {Z H : Hp} {σ : St}
theorem take_ok : ∀ {ms : List (Option Nat)} {vs : List V} {ta env ta' env' : Env} {A G : FS}, Rel Γ Z H (vs.map some) ta A → Rel Γ Z H σ env G → (∀ b, A b → ¬ G b) → LendOk ms vs σ → takeL ms ta env = some (ta', env') →
    ∃ A' G' : FS, Rel Γ Z H (vs.map some) ta' A' ∧ Rel Γ Z H σ env' G' ∧ (∀ b, A' b → ¬ G' b) ∧ ∀ b, (A' b ∨ G' b) ↔ (A b ∨ G b)
  | [], vs, ta, env, ta', env', A, G, ht, hr, ap, hl, h => by
    have hv : vs = [] := List.length_eq_zero_iff.mp hl.1.symm
    subst hv
    cases ht
    have h' : [] = ta' ∧ env = env' := by simpa [takeL] using h
    obtain ⟨rfl, rfl⟩ := h'
    exact ⟨A, G, .nil (by assumption), hr, ap, fun _ => Iff.rfl⟩
  | m :: ms, [], ta, env, ta', env', A, G, ht, hr, ap, hl, h => by have := hl.1; simp at this
  | m :: ms, v :: vs, ta, env, ta', env', A, G, ht, hr, ap, hl, h => by
    have hl' : LendOk ms vs σ := ⟨by simpa using hl.1, fun j i hj => by simpa using hl.2 (j + 1) i (by simpa using hj)⟩
    cases m with
    | none =>
      cases ht with
      | @skip _ _ ta1 _ ht =>
        have h : (takeL ms ta1 env).map (fun q => ((none : Option O) :: q.1, q.2)) = some (ta', env') := h
        obtain ⟨⟨t2, e2⟩, h1, h2⟩ := Option.map_eq_some_iff.mp h
        cases h2
        obtain ⟨A', G', r1, r2, a1, i1⟩ := take_ok ht hr ap hl' h1
        exact ⟨A', G', .skip r1, r2, a1, i1⟩
      | @cons _ _ o ta1 _ A0 A1 ow ht n f =>
        have h : (takeL ms ta1 env).map (fun q => (some o :: q.1, q.2)) = some (ta', env') := h
        obtain ⟨⟨t2, e2⟩, h1, h2⟩ := Option.map_eq_some_iff.mp h
        cases h2
        obtain ⟨A', G', r1, r2, a1, i1⟩ := take_ok ht hr (fun b hb => ap b ((f b).2 (.inr hb))) hl' h1
        have n0 : ∀ b, A0 b → ¬ (A' b ∨ G' b) := fun b hb z => by
          rcases (i1 b).1 z with z | z
          · exact n b hb z
          · exact ap b ((f b).2 (.inl hb)) z
        refine ⟨fun b => A0 b ∨ A' b, G', .cons ow r1 (fun b hb z => n0 b hb (.inl z)) fun _ => Iff.rfl, r2, fun b hb z => ?_, fun b => ?_⟩
        · rcases hb with hb | hb
          · exact n0 b hb (.inr z)
          · exact a1 b hb z
        · rw [f b, or_assoc, or_assoc]
          exact or_congr Iff.rfl (i1 b)
    | some i =>
      cases ht with
      | @cons _ _ o ta1 _ A0 A1 ow ht n f => cases h
      | @skip _ _ ta1 _ ht =>
        have h : (match getS env i with
          | some o => (takeL ms ta1 (env.set i none)).map fun q => (some o :: q.1, q.2)
          | none => none) = some (ta', env') := h
        cases hg : getS env i with
        | none => rw [hg] at h; cases h
        | some o =>
          rw [hg] at h
          obtain ⟨⟨t2, e2⟩, h1, h2⟩ := Option.map_eq_some_iff.mp h
          cases h2
          obtain ⟨v', A0, G0, hv, ow, r0, n, f⟩ := hr.get (getS_some hg)
          have e0 : v' = v := by
            have := hl.2 0 i rfl
            rw [hv] at this
            simpa using this
          subst e0
          obtain ⟨A', G', r1, r2, a1, i1⟩ := take_ok ht r0 (fun b hb z => ap b hb ((f b).2 (.inr z))) hl' h1
          have n0 : ∀ b, A0 b → ¬ (A' b ∨ G' b) := fun b hb z => by
            rcases (i1 b).1 z with z | z
            · exact ap b z ((f b).2 (.inl hb))
            · exact n b hb z
          refine ⟨fun b => A0 b ∨ A' b, G', .cons ow r1 (fun b hb z => n0 b hb (.inl z)) fun _ => Iff.rfl, r2, fun b hb z => ?_, fun b => ?_⟩
          · rcases hb with hb | hb
            · exact n0 b hb (.inr z)
            · exact a1 b hb z
          · rw [f b, or_assoc, i1 b]
            constructor
            · rintro (z | z | z)
              · exact .inr (.inl z)
              · exact .inl z
              · exact .inr (.inr z)
            · rintro (z | z | z)
              · exact .inr (.inl z)
              · exact .inl z
              · exact .inr (.inr z)
theorem give_ok : ∀ {ms : List (Option Nat)} {vs : List V} {out env env' : Env} {A G : FS}, Rel Γ Z H (vs.map some) out A → Rel Γ Z H σ env G → (∀ b, A b → ¬ G b) → LendOk ms vs σ → giveL ms out env = some env' →
    ∃ G' : FS, Rel Γ Z H σ env' G' ∧ ∀ b, G' b → A b ∨ G b
  | [], vs, out, env, env', A, G, ht, hr, ap, hl, h => by
    have h' : env = env' := by simpa [giveL] using h
    subst h'
    exact ⟨G, hr, fun _ h => .inr h⟩
  | m :: ms, [], out, env, env', A, G, ht, hr, ap, hl, h => by have := hl.1; simp at this
  | m :: ms, v :: vs, out, env, env', A, G, ht, hr, ap, hl, h => by
    have hl' : LendOk ms vs σ := ⟨by simpa using hl.1, fun j i hj => by simpa using hl.2 (j + 1) i (by simpa using hj)⟩
    cases m with
    | none =>
      cases ht with
      | @skip _ _ out1 _ ht => exact give_ok ht hr ap hl' h
      | @cons _ _ o out1 _ A0 A1 ow ht n f =>
        obtain ⟨G', r1, i1⟩ := give_ok ht hr (fun b hb => ap b ((f b).2 (.inr hb))) hl' h
        exact ⟨G', r1, fun b hb => (i1 b hb).imp (fun z => (f b).2 (.inr z)) id⟩
    | some i =>
      cases ht with
      | @skip _ _ out1 _ ht => cases h
      | @cons _ _ o out1 _ A0 A1 ow ht n f =>
        have h : (match env[i]? with
          | some none => giveL ms out1 (env.set i (some o))
          | _ => none) = some env' := h
        cases he : env[i]? with
        | none => rw [he] at h; cases h
        | some oo =>
          cases oo with
          | some _ => rw [he] at h; cases h
          | none =>
            rw [he] at h
            have hv : σ[i]? = some (some v) := by simpa using hl.2 0 i rfl
            have r0 := hr.back (i := i) he hv ow fun b hb z => ap b ((f b).2 (.inl hb)) z
            obtain ⟨G', r1, i1⟩ := give_ok ht r0 (fun b hb z => by
              rcases z with z | z
              · exact n b z hb
              · exact ap b ((f b).2 (.inr hb)) z) hl' h
            refine ⟨G', r1, fun b hb => ?_⟩
            rcases i1 b hb with z | z | z
            · exact .inl ((f b).2 (.inr z))
            · exact .inl ((f b).2 (.inl z))
            · exact .inr z
end
section
variable {X : Cx} {Γ : Ctx} {W : WX} {q qa qb : Bool} {e : Expr} {es : List Expr} {ms : List (Option Nat)}
/-- a def's promise at its arguments, from what the caller wants -/
theorem call_ok {σ : St} {B : Base} {vs : List V} {ta env : Env} {Z H : Hp} {A G : FS} {S : Env → R O} {Q : VK} {r : R O} (a : Args Γ σ B ms vs ta env Z H A G)
    (hr : r = match takeL ms ta env with
      | some (ta', e2) => (match S ta' with
        | .ok o out => (match giveL ms out e2 with
          | some e3 => .ok o e3
          | none => .bad)
        | .err c x out => (match giveL ms out e2 with
          | some e3 => .err c x e3
          | none => .bad)
        | .bad => .bad)
      | none => .bad) (p : PR Γ W σ B r (okE Γ σ B Q)) : spD Γ ms.length S vs H Q (WE W σ) := by
  subst hr
  cases ht : takeL ms ta env with
  | none => rw [ht] at p; exact p.elim
  | some w =>
    obtain ⟨ta', e2⟩ := w
    rw [ht] at p
    simp only at p
    obtain ⟨A', G', r1, r2, a1, i1⟩ := take_ok a.tmp a.rel a.apart a.lend ht
    have sp' : Sep Z H A' := ⟨a.sep.sub, fun b hb => a.sep.out b ((i1 b).1 (.inl hb))⟩
    refine ⟨a.lend.1.symm, Z, ta', A', r1, sp', ?_⟩
    have fin : ∀ {v o out Z2 H2 Ao Go e3}, Own Γ Z2 H2 v o Ao → Rel Γ Z2 H2 (vs.map some) out Go → (∀ b, Ao b → ¬ Go b) → Sep Z2 H2 (fun b => Ao b ∨ Go b) → Step A' H Z (fun b => Ao b ∨ Go b) H2 Z2 → giveL ms out e2 = some e3 →
        ∃ G3 : FS, Rel Γ Z2 H2 σ e3 G3 ∧ (∀ b, Ao b → ¬ G3 b) ∧ Sep Z2 H2 (fun b => Ao b ∨ G3 b) ∧ Step B.F B.H B.Z (fun b => Ao b ∨ G3 b) H2 Z2 := fun {v o out Z2 H2 Ao Go e3} ow rl ap sp st hg => by
      have nG : ∀ b, G' b → ¬ A' b := fun b hb ha => a1 b ha hb
      have apG := st.apart nG r2.there
      have r2' := r2.beside st nG
      have z2 := st.out nG r2.there fun b hb => a.sep.out b ((i1 b).1 (.inr hb))
      obtain ⟨G3, r3, i3⟩ := give_ok rl r2' (fun b hb hG => apG b hG (.inr hb)) a.lend hg
      refine ⟨G3, r3, fun b hb h3 => ?_, ⟨sp.sub, fun b hb => ?_⟩, ?_⟩
      · rcases i3 b h3 with z | z
        · exact ap b hb z
        · exact apG b z (.inl hb)
      · rcases hb with hb | hb
        · exact sp.out b (.inl hb)
        · rcases i3 b hb with z | z
          · exact sp.out b (.inr z)
          · exact z2 b z
      · refine (a.step.trans (st.frame (G := G') (fun x => ?_) (F2 := fun b => (Ao b ∨ Go b) ∨ G' b) fun x => Iff.rfl)).drop fun b hb => ?_
        · exact (i1 x).symm
        · rcases hb with hb | hb
          · exact .inl (.inl hb)
          · rcases i3 b hb with z | z
            · exact .inl (.inr z)
            · exact .inr z
    cases hS : S ta' with
    | ok o out =>
      rw [hS] at p
      simp only at p
      intro v Z2 H2 Ao Go ow rl ap sp st
      cases hg : giveL ms out e2 with
      | none => rw [hg] at p; exact p.elim
      | some e3 =>
        rw [hg] at p
        obtain ⟨G3, r3, a3, s3, t3⟩ := fin ow rl ap sp st hg
        exact p v Z2 H2 Ao G3 ow r3 a3 s3 t3
    | err c x out =>
      rw [hS] at p
      simp only at p
      intro dd v Z2 H2 Go n hd hx
      cases hg : giveL ms out e2 with
      | none => rw [hg] at p; exact p.elim
      | some e3 =>
        rw [hg] at p
        obtain ⟨G3, r3, a3, s3, t3⟩ := fin (v := .non) (o := .fz .non) (Ao := fun _ => False) (.fz .non fun _ h => h) n.rel (fun _ h => h.elim) ⟨n.sep.sub, fun b h => n.sep.out b (h.resolve_left fun z => z)⟩ (n.step.drop fun b h => h.resolve_left fun z => z) hg
        exact p dd v Z2 H2 G3 ⟨r3, ⟨s3.sub, fun b hb => s3.out b (.inr hb)⟩, t3.drop fun b hb => .inr hb⟩ hd hx
    | bad => rw [hS] at p; exact p.elim
variable {k : Nat} {f C : Addr} {fd : FuncData} {ps : List Str} {S : Env → R O} {x m : Str} {p pos apos : Pos} {o : Expr}
/-- f(..) -/
theorem de_call {args : Env → R Env} (tk : Takes X W) (F : FnOk X.prog X.w X.K X.mg X.base (L2.CX X.prog X.w) k f fd ps (spD Γ ms.length S)) (hr : Room k X.A) (hg : Gl X x) (hm : X.mg x = some (.ref f)) (hk : PySem.W.keepIn X.K (.ref f) = true) (hb : Binds X.K fd ps [])
    (ha : DAr X Γ W ms (e :: es) args) (hdb : (x == ("__debug__" : Str)) = false := by decide) (he : starEach (e :: es) X.env = (false, eval e X.env) :: starEach es X.env := by rfl) (hpl : (backTo pos (starEach es X.env)).any (·.1) = false := by rfl) :
    DE X Γ W (.Call (.Name x p) (e :: es) [] pos) (callE S ms args) :=
  PE.imp (pe_callS F hr hg hm hk hb (fun σ => passAt tk σ) ha hdb he hpl) fun σ H Q ⟨Z, env, F0, r, s, pp⟩ => ⟨Z, env, F0, r, s, PR.bind pp fun ta e1 _ p1 vs Z1 H1 A G a => call_ok a rfl p1⟩
theorem de_call0 (hW : ∀ cls d σ H, W cls d σ H ↔ W cls d [] H) (tk : Takes X W) (F : FnOk X.prog X.w X.K X.mg X.base (L2.CX X.prog X.w) k f fd ps (spD Γ 0 S)) (hr : Room k X.A) (hg : Gl X x) (hm : X.mg x = some (.ref f)) (hk : PySem.W.keepIn X.K (.ref f) = true) (hb : Binds X.K fd ps [])
    (hdb : (x == ("__debug__" : Str)) = false := by decide) : DE X Γ W (.Call (.Name x p) [] [] pos) (callE S [] nilAr) :=
  PE.imp (pe_call0 (E := fun cls d H => W cls d [] H) F hr hg hm hk hb .nil (passes_call tk fun cls d σ H h => (hW cls d σ H).2 h) hdb) fun σ H Q ⟨Z, env, F0, r, s, pp⟩ => by
    have a : Args Γ σ ⟨F0, H, Z⟩ [] [] [] env Z H (fun _ => False) F0 := ⟨.nil fun _ h => h, r, fun _ h => h.elim, ⟨s.sub, fun b h => s.out b (h.resolve_left fun z => z)⟩, Step.refl.drop fun b h => h.resolve_left fun z => z, rfl, fun j i h => by simp at h⟩
    have q := call_ok (W := W) (S := S) (Q := Q) a rfl pp
    obtain ⟨hl, Z', env', F', r', s', p'⟩ := q
    refine ⟨hl, Z', env', F', r', s', ?_⟩
    cases hS : S env' with
    | ok o e => rw [hS] at p'; exact p'
    | err c x e =>
      rw [hS] at p'
      exact fun dd v Z2 H2 F2 n hd hx => (hW _ _ σ _).1 (p' dd v Z2 H2 F2 n hd hx)
    | bad => rw [hS] at p'; exact p'
end
end DL
end

section
set_option Elab.async false
set_option linter.all false
set_option maxRecDepth 100000
set_option maxHeartbeats 4000000
/-! The layer D: list comprehensions. -/
namespace DL
open PySem L2

def wipeE (env : Env) : List Nat → Env
  | [] => env
  | v :: vs => (wipeE env vs).set v none
def noErr {α : Type} (r : R α) : R α := match r with
  | .ok a e => .ok a e
  | _ => .bad
@[simp] theorem noErr_ok {α : Type} (a : α) (e : Env) : noErr (R.ok a e) = .ok a e := rfl
@[simp] theorem noErr_bad {α : Type} : noErr (R.bad (α := α)) = .bad := rfl
@[simp] theorem noErr_err {α : Type} (c : Nat) (x : D) (e : Env) : noErr (R.err (α := α) c x e) = .bad := rfl
/-- what the items give, one by one -/
def lcL (g : D → Env → Option Env) (t : Env → R Bool) (f : Env → R O) (vs : List Nat) : List D → Env → R (List O)
  | [], env => .ok [] env
  | d :: ds, env => match g d env with
    | some e1 => (noErr (t e1)).bind fun b e2 => if b then (noErr (f e2)).bind fun o e3 => (lcL g t f vs ds (wipeE e3 vs)).bind fun os e4 => .ok (o :: os) e4 else lcL g t f vs ds (wipeE e2 vs)
    | none => .bad
def lcE (π : List Bool) (vs : List Nat) (it : Env → R (List D)) (g : D → Env → Option Env) (t : Env → R Bool) (f : Env → R O) (env : Env) : R O := (it env).bind fun ds e => if e.length = π.length ∧ ds.length ≤ sizeLine then (lcL g t f vs ds (wipeE e vs)).bind fun os e2 => .ok (.lst os) e2 else .bad
def yesT (env : Env) : R Bool := .ok true env
abbrev W0 : WX := fun _ _ _ _ => False
section
variable {Γ : Ctx} {Z H : Hp} {F : FS} {σ σ' : St} {env : Env} {α β : Type}
theorem wipe_len : ∀ {vs : List Nat} {σ : St}, (wipe σ vs).length = σ.length
  | [], _ => rfl
  | v :: vs, σ => by unfold wipe; rw [List.length_set, wipe_len]
theorem wipeE_len : ∀ {vs : List Nat} {env : Env}, (wipeE env vs).length = env.length
  | [], _ => rfl
  | v :: vs, env => by unfold wipeE; rw [List.length_set, wipeE_len]
theorem wipe_get {i : Nat} : ∀ {vs : List Nat} {σ : St}, (wipe σ vs)[i]? = if i ∈ vs ∧ i < σ.length then some none else σ[i]?
  | [], σ => by simp [wipe]
  | v :: vs, σ => by
    unfold wipe
    by_cases e : v = i
    · subst e
      by_cases h : v < σ.length
      · rw [List.getElem?_set_self (by rw [wipe_len]; exact h)]; simp [h]
      · rw [List.getElem?_eq_none (by rw [List.length_set, wipe_len]; omega)]
        simp [h]
    · rw [List.getElem?_set_ne e, wipe_get]
      have : (i ∈ v :: vs) ↔ i ∈ vs := by simp [Ne.symm e]
      simp only [this]
theorem Rel.hideAll (h : Rel Γ Z H σ env F) : ∀ vs : List Nat, ∃ G, Rel Γ Z H σ (wipeE env vs) G ∧ ∀ b, G b → F b
  | [] => ⟨F, h, fun _ h => h⟩
  | v :: vs => by
    obtain ⟨G, h1, h2⟩ := Rel.hideAll h vs
    obtain ⟨G', h3, h4⟩ := h1.hide (i := v)
    exact ⟨G', h3, fun b hb => h2 b (h4 b hb)⟩
/-- slots that hold nothing we know may be anything -/
theorem Rel.reslot (h : Rel Γ Z H σ env F) : ∀ {σ' : St}, σ'.length = σ.length → (∀ i : Nat, (∃ o, env[i]? = some (some o)) → σ'[i]? = σ[i]?) → Rel Γ Z H σ' env F := by
  induction h with
  | nil n => intro σ' hl _; rw [List.length_eq_zero_iff.mp hl]; exact .nil n
  | @skip x σ env F r ih =>
    intro σ' hl hs
    cases σ' with
    | nil => simp at hl
    | cons y σ' => exact .skip (ih (by simpa using hl) fun i hi => by simpa using hs (i + 1) (by simpa using hi))
  | @cons v σ o env F A G ow r n f ih =>
    intro σ' hl hs
    cases σ' with
    | nil => simp at hl
    | cons y σ' =>
      have e : y = some v := by simpa using hs 0 ⟨o, rfl⟩
      subst e
      exact .cons ow (ih (by simpa using hl) fun i hi => by simpa using hs (i + 1) (by simpa using hi)) n f
theorem wipeE_none {i : Nat} {o : O} {vs : List Nat} (h : (wipeE env vs)[i]? = some (some o)) : i ∉ vs := by
  induction vs with
  | nil => simp
  | cons v vs ih =>
    unfold wipeE at h
    by_cases e : v = i
    · subst e
      by_cases hl : v < env.length
      · rw [List.getElem?_set_self (by rw [wipeE_len]; exact hl)] at h; cases h
      · rw [List.getElem?_eq_none (by rw [List.length_set, wipeE_len]; omega)] at h; cases h
    · rw [List.getElem?_set_ne e] at h
      simp only [List.mem_cons, not_or]
      exact ⟨fun z => e z.symm, ih h⟩
theorem PR.noErr {W W' : WX} {σ : St} {B B' : Base} {r : R α} {k : α → Env → R β} {okb : β → Env → Prop} {ok1 : α → Env → Prop} (h : PR Γ W' σ' B' ((DL.noErr r).bind k) okb) (h1 : ∀ a e, r = .ok a e → PR Γ W' σ' B' (k a e) okb → ok1 a e) : PR Γ W σ B r ok1 := by
  cases r with
  | ok a e => exact h1 a e rfl h
  | err c x e => exact h.elim
  | bad => exact h
end
section
variable {X : Cx} {Γ : Ctx} {W : WX} {q qt : Bool} {elt tg iter : Expr} {pos : Pos}
/-- every slot but those of the block's own names is pinned -/
def PinAll (π : List Bool) (vs : List Nat) : Prop := ∀ i, i < π.length → i ∉ vs → π[i]? = some true
theorem wipe_pin {π : List Bool} {vs : List Nat} {σ σ2 : St} (hp : PinAll π vs) (hl : σ.length = π.length) (pr : Pre π (wipe σ vs) σ2) : wipe σ2 vs = wipe σ vs := by
  apply List.ext_getElem?
  intro i
  have l2 : σ2.length = σ.length := by rw [pr.len, wipe_len]
  rw [wipe_get, wipe_get, l2]
  by_cases hi : i ∈ vs ∧ i < σ.length
  · rw [if_pos hi, if_pos hi]
  · rw [if_neg hi, if_neg hi]
    by_cases hlt : i < σ.length
    · have hv : i ∉ vs := fun z => hi ⟨z, hlt⟩
      rw [pr.same i (hp i (by omega) hv), wipe_get, if_neg hi]
    · rw [List.getElem?_eq_none (by omega), List.getElem?_eq_none (by omega)]
theorem lc_ok {π : List Bool} {vs : List Nat} {it : Env → R (List D)} {g : D → Env → Option Env} {t : Env → R Bool} {f : Env → R O} {σ : St} {H : Hp} {Q : VK} (hp : PinAll π vs) (h : tE Γ W (lcE π vs it g t f) σ H Q) : tLc (tI Γ W it) (tG Γ π g) (tT Γ W0 qt t) (tE Γ W0 f) vs σ H Q := by
  obtain ⟨Z, env, F, r, s, p⟩ := h
  refine ⟨Z, env, F, r, s, PR.bind p fun ds e _ p1 J Z0 H0 F0 n0 it0 D hD => ?_⟩
  by_cases hlen : e.length = π.length ∧ ds.length ≤ sizeLine
  · rw [if_pos hlen] at p1
    have hσ : σ.length = π.length := by rw [n0.rel.len]; exact hlen.1
    have dsl := hlen.2
    let B : Base := ⟨F, H, Z⟩
    -- the state between two turns
    have W1 : ∀ {env' : Env} {σ2 : St} {Z' H' : Hp} {G : FS}, Rel Γ Z' H' σ2 env' G → wipe σ2 vs = wipe σ vs → σ2.length = σ.length → ∃ G', Rel Γ Z' H' (wipe σ vs) (wipeE env' vs) G' ∧ ∀ b, G' b → G b := fun {env' σ2 Z' H' G} rl hw hl => by
      obtain ⟨G', h1, h2⟩ := rl.hideAll vs
      refine ⟨G', h1.reslot (by rw [wipe_len, hl]) fun i ⟨o, hi⟩ => ?_, h2⟩
      have hv := wipeE_none hi
      have e1 : (wipe σ2 vs)[i]? = σ2[i]? := by rw [wipe_get, if_neg fun z => hv z.1]
      rw [← hw, e1]
    obtain ⟨G0, r0, g0⟩ : ∃ G', Rel Γ Z0 H0 (wipe σ vs) (wipeE e vs) G' ∧ ∀ b, G' b → F0 b := W1 n0.rel rfl rfl
    have hk0 : ∀ a o, H0 a = some o → upd H0 D (.lst []) a = some o := fun a o e => by rw [upd_ne (ne_of_none e hD)]; exact e
    have nD : ∀ b, F0 b → b ≠ D := fun b hb e => n0.rel.there b hb (by rw [e]; exact hD)
    have zD : Z0 D = none := by
      cases q : Z0 D with
      | none => rfl
      | some o =>
        have := n0.sep.sub D o q
        rw [hD] at this; cases this
    refine ⟨fun i m H1 => m = ds.length - i ∧ i ≤ ds.length ∧ ∃ (Z1 : Hp) (env1 : Env) (A G : FS) (acc : List O), Beside Γ (wipe σ vs) B (.ref D) (.lst acc) env1 Z1 H1 A G ∧ acc.length ≤ i ∧ (∀ a o, Z0 a = some o → Z1 a = some o) ∧
        PR Γ W σ B ((lcL g t f vs (ds.drop i) env1).bind fun os e2 => .ok (.lst (acc ++ os)) e2) (okE Γ σ B Q), ⟨ds.length, by simp, Nat.zero_le _, Z0, wipeE e vs, (· = D), G0, [], ⟨?_, ?_, ?_, ⟨?_, ?_⟩, ?_⟩, Nat.le_refl _, fun _ _ h => h, by simpa using p1⟩, ?_⟩
    · exact .lst (fun _ _ => False) upd_same rfl (fun i v o h => by simp at h) noParts
    · exact r0.still (fun a o _ e => hk0 a o e) fun _ _ e => e
    · exact fun b hb hg => nD b (g0 b hg) hb
    · exact fun a o e => hk0 a o (n0.sep.sub a o e)
    · rintro a (ha | ha)
      · rw [show a = D from ha]; exact zD
      · exact n0.sep.out a (g0 a ha)
    · refine n0.step.trans ⟨fun a o e _ => hk0 a o e, fun _ _ e => e, fun _ e => .inl e, fun a ha => ?_⟩
      rcases ha with ha | ha
      · rw [show a = D from ha]; exact .inr hD
      · exact .inl (g0 a ha)
    · rintro i m H1 ⟨rfl, hi, Z1, env1, A, G, acc, b, hacc, zz, p⟩
      by_cases hlt : i < ds.length
      · refine .inr ⟨it0.goes i Z1 H1 hlt zz b.now.sep.sub, fun H2 => ∃ (Z1 : Hp) (env1 : Env) (A G : FS) (acc : List O), Beside Γ (wipe σ vs) B (.ref D) (.lst acc) env1 Z1 H2 A G ∧ acc.length ≤ i + 1 ∧ (∀ a o, Z0 a = some o → Z1 a = some o) ∧
          PR Γ W σ B ((lcL g t f vs (ds.drop (i + 1)) env1).bind fun os e2 => .ok (.lst (acc ++ os)) e2) (okE Γ σ B Q), fun H' h => ⟨ds.length - (i + 1), by omega, rfl, hlt, h⟩, fun x H' y => ?_⟩
        obtain ⟨Z2, d, gr, hd, hx⟩ := it0.yields i Z1 H1 x H' hlt zz b.now.sep.sub y
        have hdrop : ds.drop i = d :: ds.drop (i + 1) := by
          have e2 : d = ds[i] := by rw [List.getElem?_eq_getElem hlt] at hd; exact (Option.some.inj hd).symm
          rw [e2]
          exact List.drop_eq_getElem_cons hlt
        rw [hdrop] at p
        simp only [lcL] at p
        cases hg : g d env1 with
        | none => rw [hg] at p; exact p.elim
        | some e1 =>
          rw [hg] at p
          simp only at p
          have b2 : Beside Γ (wipe σ vs) B (.ref D) (.lst acc) env1 Z2 H' A G := b.more ((Now.start b.rel b.now.sep).grow gr)
          refine ⟨Z2, env1, G, d, e1, b2.rel, b2.now.sep, hx, hg, fun σ2 Z3 H3 F3 n3 pr3 => ⟨wipe_pin hp hσ pr3, ?_⟩⟩
          have b3 := b2.more n3
          have hw2 := wipe_pin hp hσ pr3
          have hl2 : σ2.length = σ.length := by rw [pr3.len, wipe_len]
          have assoc : ∀ {r : R Bool} {kk : Bool → Env → R (List O)} {k2 : List O → Env → R O}, ((noErr r).bind kk).bind k2 = (noErr r).bind fun b e => (kk b e).bind k2 := fun {r kk k2} => by cases r <;> rfl
          have assoc2 : ∀ {r : R O} {kk : O → Env → R (List O)} {k2 : List O → Env → R O}, ((noErr r).bind kk).bind k2 = (noErr r).bind fun b e => (kk b e).bind k2 := fun {r kk k2} => by cases r <;> rfl
          rw [assoc] at p
          refine ⟨Z3, e1, F3, n3.rel, n3.sep, PR.noErr p fun bb e2 _ p2 Z4 H4 F4 n4 _ => ?_⟩
          have b4 := b3.more n4
          have z4 : ∀ a o, Z0 a = some o → Z4 a = some o := fun a o h => n4.step.fz a o (n3.step.fz a o (gr.fz a o (zz a o h)))
          cases bb with
          | false =>
            simp only [Bool.false_eq_true, if_false] at p2 ⊢
            obtain ⟨G6, r6, g6⟩ := W1 n4.rel hw2 hl2
            exact ⟨Z4, wipeE e2 vs, A, G6, acc, ⟨b4.own, r6, fun b hb hg => b4.apart b hb (g6 b hg), ⟨b4.sep.sub, fun b hb => b4.sep.out b (hb.imp id (g6 b))⟩, b4.step.drop fun b hb => hb.imp id (g6 b)⟩, by omega, z4, p2⟩
          | true =>
            simp only [if_true] at p2 ⊢
            rw [assoc2] at p2
            refine ⟨Z4, e2, F4, n4.rel, n4.sep, PR.noErr p2 fun o5 e3 _ p3 v5 Z5 H5 A5 G5 ow5 rl5 ap5 sp5 st5 => ?_⟩
            have owD : Own Γ Z5 H5 (.ref D) (.lst acc) A := b4.own.beside st5 b4.apart
            have apD : ∀ b, A b → ¬ (A5 b ∨ G5 b) := st5.apart b4.apart b4.own.there
            have zA : ∀ b, A b → Z5 b = none := st5.out b4.apart b4.own.there fun b hb => b4.sep.out b (.inl hb)
            have stB : Step B.F B.H B.Z (fun b => A b ∨ (A5 b ∨ G5 b)) H5 Z5 := b4.step.trans (st5.frame (G := A) (fun x => or_comm) fun x => or_comm)
            have owD' := owD
            cases owD with
            | @lst _ vsA _ _ Fs ea l ch pt =>
              refine ⟨vsA, ea, by rw [l]; omega, ?_⟩
              obtain ⟨A6, ow6, s6⟩ := owD'.snoc ea ow5 fun b hb hA => apD b hA (.inl hb)
              have aD : A D := (pt.all D).2 (.inl rfl)
              have hk5 : ∀ b u, ¬ A b → H5 b = some u → upd H5 D (.lst (vsA ++ [v5])) b = some u := upd_keep aD
              have r5 : Rel Γ Z5 (upd H5 D (.lst (vsA ++ [v5]))) σ2 e3 G5 := rl5.still (fun a u ha hu => hk5 a u (fun z => apD a z (.inr ha)) hu) fun _ _ h => h
              obtain ⟨G6, r6, g6⟩ := W1 r5 hw2 hl2
              have ass3 : (((lcL g t f vs (ds.drop (i + 1)) (wipeE e3 vs)).bind fun os e4 => R.ok (o5 :: os) e4).bind fun os e2 => R.ok (O.lst (acc ++ os)) e2) = (lcL g t f vs (ds.drop (i + 1)) (wipeE e3 vs)).bind fun os e2 => R.ok (O.lst ((acc ++ [o5]) ++ os)) e2 := by
                cases lcL g t f vs (ds.drop (i + 1)) (wipeE e3 vs) <;> simp [R.bind]
              rw [ass3] at p3
              have sub6 : ∀ x, A6 x ∨ G6 x → A x ∨ (A5 x ∨ G5 x) := fun x hx => hx.elim (fun h => (s6 x h).elim .inl fun h => .inr (.inl h)) fun h => .inr (.inr (g6 x h))
              refine ⟨Z5, wipeE e3 vs, A6, G6, acc ++ [o5], ⟨ow6, r6, fun b hb hg => ?_, ⟨fun a o e => hk5 a o (fun z => by rw [zA a z] at e; cases e) (sp5.sub a o e), fun a ha => ?_⟩, ?_⟩, by simp; omega, fun a o h => st5.fz a o (z4 a o h), p3⟩
              · rcases s6 b hb with h | h
                · exact apD b h (.inr (g6 b hg))
                · exact ap5 b h (g6 b hg)
              · rcases sub6 a ha with h | h
                · exact zA a h
                · exact sp5.out a h
              · exact stB.trans ⟨fun a u hu hn => hk5 a u (fun z => hn (.inl z)) hu, fun _ _ h => h, fun _ h => .inl h, fun a ha => .inl (sub6 a ha)⟩
      · have e1 : i = ds.length := by omega
        subst e1
        rw [List.drop_length] at p
        simp only [lcL, R.bind_ok, List.append_nil] at p
        refine .inl ⟨it0.stops Z1 H1 zz b.now.sep.sub, ?_⟩
        have rl : Rel Γ Z1 H1 σ env1 G := b.rel.reslot (by rw [wipe_len]) fun j ⟨o, hj⟩ => by
          obtain ⟨v, A', G', hv, _⟩ := b.rel.get hj
          rw [wipe_get] at hv ⊢
          split at hv
          · cases hv
          · rename_i hn
            rw [if_neg hn]
        exact p _ Z1 H1 A G b.own rl b.apart b.sep b.step
  · rw [if_neg hlen] at p1; exact p1.elim
theorem PTs.yes {X : Cx} : PTs X [] (tT Γ W0 true yesT) := ⟨fun pins s σ H Q I ⟨Z, env, F, r, sp, p⟩ => pts_nil.run pins s σ H Q I (p Z H F (.start r sp) fun _ => rfl)⟩
theorem de_lc {π : List Bool} {it : Env → R (List D)} {g : D → Env → Option Env} {t : Env → R Bool} {f : Env → R O} {ifs : List Expr} {scope : Scope} {own : List (Str × Nat)} (hp : PinAll π (own.map (·.2))) (hc : X.calm = true) (hN : X.N.Nodup) (hi : DI X Γ W tg iter it) (ok : BlkOk X.N X.env.scope scope own)
    (hg : ∀ (s : Shared) (H : Hp) (C : Addr) (cl : List (Str × Addr)) (fp : List Addr), DG (X.blk s H scope (compEnvC scope cl C X.env) fp) Γ π tg g) (ht : ∀ (s : Shared) (H : Hp) (C : Addr) (cl : List (Str × Addr)) (fp : List Addr), PTs (X.blk s H scope (compEnvC scope cl C X.env) fp) ifs (tT Γ W0 qt t))
    (he : ∀ (s : Shared) (H : Hp) (C : Addr) (cl : List (Str × Addr)) (fp : List Addr), DE (X.blk s H scope (compEnvC scope cl C X.env) fp) Γ W0 elt f) (hs : ∀ x, foldedSetIterable iter X.env x = pure x := by intro _; rfl) :
    DE X Γ W (.ListComp elt [⟨tg, iter, ifs, 0⟩] scope pos) (lcE π (own.map (·.2)) it g t f) :=
  PE.imp (pe_lc hc hN hi ok hg ht he hs) fun σ H Q h => lc_ok hp h
/-- y = [..] -/
theorem ds_setLc {i : Nat} {y : Str} {py spos : Pos} {πs π : List Bool} {it : Env → R (List D)} {g : D → Env → Option Env} {t : Env → R Bool} {f : Env → R O} {ifs : List Expr} {scope : Scope} {own : List (Str × Nat)} (hp : PinAll π (own.map (·.2))) (hpi : πs[i]? ≠ some true) (hc : X.calm = true) (hN : X.N.Nodup) (hy : X.N[i]? = some y) (hyl : X.env.scope.names.lookup y = some .local)
    (hsw : swapsWith (.ListComp elt [⟨tg, iter, ifs, 0⟩] scope pos) (some (.Name y py)) spos.line X.env = pure true) (hi : DI X Γ W tg iter it) (ok : BlkOk X.N X.env.scope scope own)
    (hg : ∀ (s : Shared) (H : Hp) (C : Addr) (cl : List (Str × Addr)) (fp : List Addr), DG (X.blk s H scope (compEnvC scope cl C X.env) fp) Γ π tg g) (ht : ∀ (s : Shared) (H : Hp) (C : Addr) (cl : List (Str × Addr)) (fp : List Addr), PTs (X.blk s H scope (compEnvC scope cl C X.env) fp) ifs (tT Γ W0 qt t))
    (he : ∀ (s : Shared) (H : Hp) (C : Addr) (cl : List (Str × Addr)) (fp : List Addr), DE (X.blk s H scope (compEnvC scope cl C X.env) fp) Γ W0 elt f) (hs : ∀ x, foldedSetIterable iter X.env x = pure x := by intro _; rfl) :
    DS X Γ W πs (.Assign [.Name y py] (.ListComp elt [⟨tg, iter, ifs, 0⟩] scope pos) spos) (setS i (lcE π (own.map (·.2)) it g t f)) :=
  PS.imp (ps_setLc hc hN hy hyl hsw hi ok hg ht he hs) fun D σ H ⟨Z, env, F, r, s, p⟩ => lc_ok hp ⟨Z, env, F, r, s, PQ.bind p fun o e1 _ p1 v Z1 H1 A G ow rl ap sp st => by
    unfold putN at p1
    by_cases hi : i < e1.length
    · rw [if_pos hi] at p1
      obtain ⟨F', n⟩ := Now.store ow rl ap sp st hi
      exact p1 _ Z1 H1 F' n (.set hpi)
    · rw [if_neg hi] at p1; exact p1.elim⟩
end
end DL
end

section
set_option Elab.async false
set_option linter.all false
set_option maxRecDepth 100000
set_option maxHeartbeats 4000000
/-! The layer D: built-ins. -/
namespace DL
open PySem L2
def intC : D → Option D
  | .int i => some (.int i)
  | .bl b => some (.int (if b then 1 else 0))
  | _ => none
def lenC (d : D) : Option D := match items d with
  | some ds => some (.int ds.length)
  | none => match d with
    | .str z => if z.length ≤ sizeLine then some (.int z.length) else none
    | .dic kvs => some (.int kvs.length)
    | _ => none
def listC (d : D) : Option (List D) := items d
def tupleC (d : D) : Option D := (items d).map .tup
def boolsOf : List D → Option (List Bool)
  | [] => some []
  | .bl b :: ds => (boolsOf ds).map (b :: ·)
  | _ => none
def allC (d : D) : Option D := match d with
  | .lst ds => (boolsOf ds).map fun bs => .bl (bs.all id)
  | _ => none
def ordC : D → Option D
  | .str s => if s.length = 1 then some (.int (s.cps.getD 0 0 : Nat)) else none
  | _ => none
def strC : D → Option D
  | .int i => if i.natAbs.log2 < 1920 then some (.str (toString i)) else none
  | _ => none
def rLenA (K : PySem.W.Frag) : List V → Hp → VK → Prop := fun xs H Q => (∃ x n, xs = [x] ∧ LenV K x H n ∧ Q (.int n) H) ∨ ∃ d kvs, xs = [.ref d] ∧ H d = some (.dK kvs) ∧ Q (.int (kvs.length : Nat)) H
section
variable {X : Cx} {Γ : Ctx} {W : WX} {q qa qb : Bool} {e : Expr} {pos : Pos}
theorem CallR.or {f : Value} {r r' : List V → Hp → VK → Prop} (h : CallR X f r) (h' : CallR X f r') : CallR X f (fun xs H Q => r xs H Q ∨ r' xs H Q) := fun pins s σ H xs us Q I rv q => q.elim (h pins s σ H xs us Q I rv) (h' pins s σ H xs us Q I rv)
theorem int_ok : CallV Γ false (fun xs H Q => (∃ i, xs = [.int i] ∧ Q (.int i) H) ∨ ∃ k, xs = [.bl k] ∧ Q (.int (if k then 1 else 0)) H) intC := by
  intro Z H v d d' Q s w e k
  unfold intC at e
  split at e
  · rename_i i
    cases e
    exact .inl ⟨i, by rw [w.int], k _ Z H (.refl s) (fun _ => rfl) (.int _)⟩
  · rename_i b
    cases e
    exact .inr ⟨b, by rw [w.bl], k _ Z H (.refl s) (fun _ => rfl) (.int _)⟩
  · cases e
theorem list_ok : CallL Γ (fun xs H Q => ∃ p ys, xs = [.ref p] ∧ (SqL Γ.K H p ys ∨ SqT Γ.K H p ys) ∧ ∀ l, H l = none → Q (.ref l) (upd H l (.lst ys))) listC := by
  intro Z H v d ds Q s w e k
  obtain ⟨a, vs, rfl, q, c⟩ := w.items s e
  exact ⟨a, vs, rfl, q, fun l hl => k vs l hl c⟩
theorem tuple_ok : CallV Γ true (fun xs H Q => ∃ p ys, xs = [.ref p] ∧ ((SqL Γ.K H p ys ∧ ∀ l, H l = none → Q (.ref l) (upd H l (.tup ys))) ∨ (SqT Γ.K H p ys ∧ Q (.ref p) H))) tupleC := by
  intro Z H v d d' Q s w e k
  obtain ⟨ds, e1, rfl⟩ : ∃ ds, items d = some ds ∧ D.tup ds = d' := by simpa [tupleC] using e
  cases d <;> simp [items] at e1 <;> subst e1
  · obtain ⟨a, vs, rfl, q, c⟩ := w.tup s
    exact ⟨a, vs, rfl, .inr ⟨q, k _ Z H (.refl s) (fun z => nomatch z) w.tupD⟩⟩
  · obtain ⟨a, vs, rfl, q, c⟩ := w.lstH s
    exact ⟨a, vs, rfl, .inl ⟨SqL.of q, fun l hl => let ⟨g, hd⟩ := tupNew s hl c; k _ _ _ g (fun z => nomatch z) hd⟩⟩
  · obtain ⟨a, vs, rfl, q, c⟩ := w.rolH s
    exact ⟨a, vs, rfl, .inl ⟨q, fun l hl => let ⟨g, hd⟩ := tupNew s hl c; k _ _ _ g (fun z => nomatch z) hd⟩⟩
theorem boolsOf_ok {Z : Hp} : ∀ {ds : List D} {bs : List Bool} {vs : List V}, boolsOf ds = some bs → Dens Γ Z vs ds → vs = bs.map V.bl
  | [], bs, vs, h, c => by
    simp [boolsOf] at h; subst h
    exact List.length_eq_zero_iff.mp c.1
  | d :: ds, bs, [], h, c => by have := c.1; simp at this
  | d :: ds, bs, v :: vs, h, c => by
    have c0 := c.2 0 v d rfl rfl
    have ct : Dens Γ Z vs ds := ⟨by simpa using c.1, fun i v d h1 h2 => c.2 (i + 1) v d (by simpa using h1) (by simpa using h2)⟩
    cases c0 <;> simp [boolsOf] at h
    obtain ⟨bs', h1, rfl⟩ := h
    rw [List.map_cons, ← boolsOf_ok h1 ct]
theorem all_ok : CallV Γ false (rAll Γ.K) allC := by
  intro Z H v d d' Q s w e k
  unfold allC at e
  split at e
  · rename_i ds
    obtain ⟨bs, h1, rfl⟩ := Option.map_eq_some_iff.mp e
    obtain ⟨a, vs, rfl, q, c⟩ := w.lstH s
    have ev := boolsOf_ok h1 c
    subst ev
    exact ⟨a, bs, rfl, SqL.of q, k _ Z H (.refl s) (fun _ => rfl) (.bl _)⟩
  · cases e
theorem ord_ok : CallV Γ false (fun xs H Q => ∃ x, xs = [.str x] ∧ x.length = 1 ∧ Q (.int (x.cps.getD 0 0 : Nat)) H) ordC := by
  intro Z H v d d' Q s w e k
  unfold ordC at e
  split at e
  · rename_i z
    split at e
    · rename_i hz
      cases e
      exact ⟨z, by rw [w.str], hz, k _ Z H (.refl s) (fun _ => rfl) (.int _)⟩
    · cases e
  · cases e
theorem str_ok : CallV Γ false (fun xs H Q => ∃ i, xs = [.int i] ∧ i.natAbs.log2 < 1920 ∧ Q (.str (toString i)) H) strC := by
  intro Z H v d d' Q s w e k
  unfold strC at e
  split at e
  · rename_i z
    split at e
    · rename_i hz
      cases e
      exact ⟨z, by rw [w.int], hz, k _ Z H (.refl s) (fun _ => rfl) (.str _)⟩
    · cases e
  · cases e
theorem len_ok : CallV Γ false (rLenA Γ.K) lenC := by
  intro Z H v d d' Q s w e k
  unfold lenC at e
  split at e
  · rename_i ds hi
    cases e
    obtain ⟨a, vs, rfl, q, c⟩ := w.items s hi
    refine .inl ⟨_, ds.length, rfl, ?_, k _ Z H (.refl s) (fun _ => rfl) (.int _)⟩
    rcases q with q | q
    · exact .inl ⟨vs, q, c.1.symm⟩
    · exact .inr ⟨vs, q, c.1.symm⟩
  · split at e
    · rename_i z _
      split at e
      · rename_i hz
        cases e
        rw [w.str]
        exact .inl ⟨_, z.length, rfl, ⟨hz, rfl⟩, k _ Z H (.refl s) (fun _ => rfl) (.int _)⟩
      · cases e
    · rename_i kvs _
      cases e
      obtain ⟨a, kvs', rfl, q, hm, c⟩ := w.dicH s
      have hl : kvs'.length = kvs.length := by simpa using congrArg List.length hm
      exact .inr ⟨a, kvs', rfl, q, by rw [hl]; exact k _ Z H (.refl s) (fun _ => rfl) (.int _)⟩
    · cases e
/-! ### two operands -/
def CallV2 (Γ : Ctx) (al : Bool) (r : List V → Hp → VK → Prop) (g : D → D → Option D) : Prop := ∀ Z H v1 v2 d1 d2 d (Q : VK), (∀ a o, Z a = some o → H a = some o) → View Γ Z H v1 d1 → View Γ Z H v2 d2 → g d1 d2 = some d → (∀ v Z' H', Grow Z H Z' H' → (al = false → H' = H) → Den Γ Z' v d → Q v H') → r [v1, v2] H Q
theorem fun2_ok {al : Bool} {r : List V → Hp → VK → Prop} {g : D → D → Option D} (hg : CallV2 Γ al r g) {fa fb : Env → R AV} {σ : St} {H : Hp} {Q : VK} (h : tF Γ W (qa && qb && !al) (opF g fa fb qb) σ H Q) : tCB r (tCons (tV Γ W qa fa) (tCons (tV Γ W qb fb) tNil)) σ H Q :=
  opF_ok (r := fun x y H Q => r [x, y] H Q) (fun Z H v1 v2 d1 d2 d Q s w1 w2 e k => hg Z H v1 v2 d1 d2 d Q s w1 w2 e k) h
theorem df_callB2 {id : String} {al : Bool} {r : List V → Hp → VK → Prop} {g : D → D → Option D} {fa fb : Env → R AV} {x : Str} {p : Pos} {a b : Expr} (hc : CallR X (.builtin id) r) (hg : CallV2 Γ al r g) (ha : DV X Γ W qa a fa) (hb : DV X Γ W qb b fb) (hgl : Gl X x) (hm : X.mg x = none) (hv : bootBuiltins x = some (.builtin id)) (hn : x ≠ "__name__" := by decide) (hdb : (x == ("__debug__" : Str)) = false := by decide)
    (he : starEach (a :: [b]) X.env = (false, eval a X.env) :: starEach [b] X.env := by rfl) (he2 : starEach (b :: []) X.env = (false, eval b X.env) :: starEach [] X.env := by rfl) (hpl : (backTo pos (starEach [b] X.env)).any (·.1) = false := by rfl) : DF X Γ W (qa && qb && !al) (.Call (.Name x p) [a, b] [] pos) (opF g fa fb qb) :=
  PE.imp (pe_callB hc hgl hm hv (pa_cons ha (pa_cons hb pa_nil he2) he) hn hdb he hpl) fun σ H Q h => fun2_ok hg h
def max2D : D → D → Option D
  | .int i, .int j => some (.int (if j > i then j else i))
  | _, _ => none
def min2D : D → D → Option D
  | .int i, .int j => some (.int (if j < i then j else i))
  | _, _ => none
theorem max2_ok : CallV2 Γ false (fun xs H Q => ∃ i j, xs = [.int i, .int j] ∧ Q (.int (if j > i then j else i)) H) max2D := by
  intro Z H v1 v2 d1 d2 d Q s w1 w2 e k
  unfold max2D at e
  split at e
  · rename_i i j
    cases e
    exact ⟨i, j, by rw [w1.int, w2.int], k _ Z H (.refl s) (fun _ => rfl) (.int _)⟩
  · cases e
theorem min2_ok : CallV2 Γ false (fun xs H Q => ∃ i j, xs = [.int i, .int j] ∧ Q (.int (if j < i then j else i)) H) min2D := by
  intro Z H v1 v2 d1 d2 d Q s w1 w2 e k
  unfold min2D at e
  split at e
  · rename_i i j
    cases e
    exact ⟨i, j, by rw [w1.int, w2.int], k _ Z H (.refl s) (fun _ => rfl) (.int _)⟩
  · cases e
/-! ### isinstance -/
def typeD : D → Option String
  | .non => some "NoneType" | .bl _ => some "bool" | .int _ => some "int" | .str _ => some "str"
  | .tup _ => some "tuple" | .lst _ => some "list" | .dic _ => some "dict" | .dct _ => some "dict"
  | _ => none
theorem View.type {Z H : Hp} {v : V} {d : D} {T : String} (s : ∀ a o, Z a = some o → H a = some o) (w : View Γ Z H v d) (h : typeD d = some T) : TyX Γ.K H v (.type T) := by
  cases w with
  | lst e c => cases h; exact .base (.lst e)
  | dic e _ c => cases h; exact .base (.dK e)
  | dct e _ c => cases h; exact .base (.dT e)
  | obj e _ c => cases h
  | den w =>
    cases w with
    | non => cases h; exact .base .non
    | bl b => cases h; exact .base (.bl b)
    | int i => cases h; exact .base (.int i)
    | str i => cases h; exact .base (.str i)
    | tup q _ _ =>
      cases h
      rcases q with (q | ⟨o, q⟩) | ⟨o, its, n, q, c, _⟩
      · exact .base (.tup (s _ _ q))
      · exact .fTuple (s _ _ q)
      · exact .kTuple q c
    | lst q _ _ => cases h; exact .base (.lst (s _ _ q))
    | rol _ _ _ => cases h
    | dic q _ _ => cases h; exact .base (.dK (s _ _ q))
    | dct q _ _ => cases h; exact .base (.dT (s _ _ q))
    | obj _ _ _ _ _ => cases h
/-- isinstance(x, T): T a built-in type, by name; anyT: of a tuple of such -/
def isiD (T : String) (d : D) : Option D := (typeD d).bind fun t => (kitB t T).map .bl
def tyE (T : String) : TE := tC (.ty T)
theorem isi_ok {T : String} {f : Env → R AV} {σ : St} {H : Hp} {Q : VK} (h : tF Γ W (q && !false) (fun1 (isiD T) f) σ H Q) : tCB (rIsi Γ.K) (tCons (tV Γ W q f) (tCons (tC (.ty T)) tNil)) σ H Q := by
  have := fun1_ok (r := fun xs H Q => ∃ v, xs = [v] ∧ rIsi Γ.K [v, .ty T] H Q) (g := isiD T) (al := false) (fun Z H v d d' Q s w e k => by
    obtain ⟨t, ht, e⟩ := Option.bind_eq_some_iff.mp e
    obtain ⟨b, hb, rfl⟩ := Option.map_eq_some_iff.mp e
    exact ⟨v, rfl, v, .ty T, .type t, .type T, b, rfl, .ty T, w.type s ht, kit_ty hb, k _ Z H (.refl s) (fun _ => rfl) (.bl _)⟩) h
  exact (show tV Γ W q f σ H fun x H1 => _ from by
    obtain ⟨Z, env, F, r, s, p⟩ := this
    exact ⟨Z, env, F, r, s, PR.step p .refl fun x e _ hp v Z' H' F' n hq ha => by
      obtain ⟨v', e', h'⟩ := hp v Z' H' F' n hq ha
      cases e'
      exact h'⟩)
theorem df_isi {T : String} {f : Env → R AV} {x y : Str} {p p2 : Pos} (hK : X.K = Γ.K) (ha : DV X Γ W q e f) (hgl : Gl X x) (hm : X.mg x = none) (hv : bootBuiltins x = some (.builtin "isinstance")) (hy : PE X (.Name y p2) (tC (.ty T))) (hn : x ≠ "__name__" := by decide) (hdb : (x == ("__debug__" : Str)) = false := by decide)
    (he : starEach (e :: [.Name y p2]) X.env = (false, eval e X.env) :: starEach [.Name y p2] X.env := by rfl) (he2 : starEach (.Name y p2 :: []) X.env = (false, eval (.Name y p2) X.env) :: starEach [] X.env := by rfl) (hpl : (backTo pos (starEach [.Name y p2] X.env)).any (·.1) = false := by rfl) :
    DF X Γ W (q && !false) (.Call (.Name x p) [e, .Name y p2] [] pos) (fun1 (isiD T) f) :=
  PE.imp (pe_callB (by rw [← hK]; exact call_isi) hgl hm hv (pa_cons ha (pa_cons hy pa_nil he2) he) hn hdb he hpl) fun σ H Q h => isi_ok h
end
end DL
end

section
set_option Elab.async false
set_option linter.all false
set_option maxRecDepth 100000
set_option maxHeartbeats 4000000
/-! The layer D: enumerate of a list or a tuple. -/
namespace DL
open PySem L2
/-- enumerate(v), v any that begins as an iterator -/
theorem meets_enum1 {v : Value} {o : Obj} {H : Heap → Prop} (B : Begins v o H) :
    Meets (Builtin.«enumerate.__new__» ⟨[.type "enumerate", v], []⟩) (fun _ R s => H s.heap ∧
      R (.ok (.ret (.ref (s.heap.push o).objs.size))) { s with heap := (s.heap.push o).push { cls := .type "enumerate", data := .fields #[.none, .bool false, .ref s.heap.objs.size, rawInt 0, .none, .none] } }) :=
  .of_wp fun prog w A R s h => by
    obtain ⟨hp, g, d, tk, os⟩ := s; obtain ⟨h1, h⟩ := h
    have begun : ∀ {A' : Around} {E : Value → Shared → Prop} {Q : Value → Shared → Prop}, Q (.ref hp.objs.size) ⟨hp.push o, g, d, tk, os⟩ → wpAny (model prog w) A' (pyIter v) Q E ⟨hp, g, d, tk, os⟩ :=
      fun q => B.iter prog w _ _ ⟨hp, g, d, tk, os⟩ _ h1 q
    have hsub := sub_enumerate
    wp_walk using begun
    refine wpAny_stack_any fun st => wpAny_pure ?_
    split
    · rename_i c _ _ _ _ _
      cases (c == Value.type "enumerate") <;> (wp_walk using begun; exact ⟨_, rfl, h⟩)
    · wp_walk using begun
      exact ⟨_, rfl, h⟩
theorem enum_of {prog : Program} {w : World} {A : Around} {E : Value → Shared → Prop} {s : Shared} {v : Value} {o : Obj} {H : Heap → Prop} {Q : Value → Shared → Prop} (B : Begins v o H) (h1 : H s.heap)
    (h : ∀ h', IsEnum h' (s.heap.objs.size + 1) s.heap.objs.size 0 .none → h'.get? s.heap.objs.size = some o → (∀ b o, s.heap.get? b = some o → h'.get? b = some o) → Q (.ref (s.heap.objs.size + 1)) { s with heap := h' }) :
    wpAny (model prog w) A (call (.type "enumerate") [v]) Q E s := by
  have hz : (s.heap.push o).objs.size = s.heap.objs.size + 1 := Heap.size_push ..
  have he := Heap.get?_push_size (s.heap.push o) (o := { cls := .type "enumerate", data := .fields #[.none, .bool false, .ref s.heap.objs.size, rawInt 0, .none, .none] }) rfl
  refine callType_new F.called_enumerate (by decide) (F.typeCall_enumerate_1 _) (F.newCall_enumerate_1 _) (fun obj => F.args_object_init_2 obj _) F.entry_enumerate_new (meets_enum1 B) ⟨h1, ?_⟩
  rw [hz] at he
  show _ ∧ _
  rw [hz]
  exact ⟨⟨_, he, rfl⟩, h _ he (Heap.get?_push_of_some _ (Heap.get?_push_size _ B.free)) fun b o x => Heap.get?_push_of_some _ (Heap.get?_push_of_some _ x)⟩
/-- the tuple at a, each item in a new pair -/
def Itu (K : PySem.W.Frag) (a : Addr) : It where
  go i H := ∃ (xs : List V) (x : V), SqT K H a xs ∧ xs[i]? = some x
  yld i H v H' := ∃ T x, v = .ref T ∧ H T = none ∧ H' = upd H T (.tup [.int (i : Nat), x]) ∧ ∀ xs, SqT K H a xs → xs[i]? = some x
  stop i H := ∃ xs : List V, SqT K H a xs ∧ xs.length ≤ i
theorem turn_enumT {P : Program} {w : World} {K : PySem.W.Frag} {elts : List Expr} {kk : Nat} {tpos : Pos} (a e it : Addr) (ne : e ≠ it) (nea : e ≠ a) (ni : a ≠ it) :
    Turn P w K (.Tuple elts kk tpos) (Itu K a) [e, it] e (fun i h => (∃ old, IsEnum h e it ((i : Nat) : Int) old) ∧ h.IsTupleIter it a i) where
  mem := by simp
  obj := fun i h ⟨⟨old, he⟩, o, ho, _, hd⟩ b hb => by
    have hb : b = e ∨ b = it := by simpa using hb
    rcases hb with rfl | rfl
    · exact ⟨_, he, fun v q => nomatch q⟩
    · exact ⟨o, ho, fun v q => by rw [hd] at q; cases q⟩
  keep := fun i h h' ⟨⟨old, he⟩, hi⟩ k => ⟨⟨old, k e (by simp) _ he⟩, hi.at fun o q => k it (by simp) o q⟩
  self := fun A i s Q E ⟨⟨_, he⟩, _⟩ h => wpAny_pyIter_enum he h
  done := by
    intro X hP hw hK hc i pins s σ H E I hf ⟨⟨old, he⟩, hit⟩ ⟨xs, hq, hx⟩
    subst hP hw hK
    obtain ⟨its, rv, p, hz⟩ := I.tuple hq
    obtain ⟨f0, f1, f2, f3, f4, f5⟩ := hf it (by simp)
    have hl := rv.length
    have D : Draws X.prog X.w X.A.in1 it [it, a] 0 (fun _ _ => True) (fun _ h => h.IsTupleIter it a i ∧ h.IsTuple a its.toArray) :=
      { live := fun _ _ st => let ⟨o, ho, _⟩ := st.1; ⟨o, ho⟩
        frame := fun _ _ _ st hk => ⟨st.1.at fun o e => hk it (by simp) o e, st.2.at fun o e => hk a (by simp) o e⟩
        item := fun j s Q E hj => absurd hj (Nat.not_lt_zero _)
        done := fun s Q E st hE => wpAny_nextOf_tuple_end (I.ok.hd hc) st.1 st.2 (by simp; omega) hE }
    exact wpAny_pyNext_enum_endD D he ⟨hit, p⟩ fun h' eb => ⟨rfl, I.turned (t' := s.toks) (fun b o hb q => eb b o hb q) f0 f1 f3 f4 f5⟩
  item := by
    intro X hP hw hK hc i pins s σ H E I hf ⟨⟨old, he⟩, hit⟩ ⟨xs, x, hq, hx⟩
    subst hP hw hK
    obtain ⟨its, rv, p, hz⟩ := I.tuple hq
    obtain ⟨u, hu, ru⟩ := rv.get hx
    have hel : e < s.heap.objs.size := Heap.lt_size he
    have hil : it < s.heap.objs.size := let ⟨_, q, _⟩ := hit; Heap.lt_size q
    have hlt : i < its.toArray.size := by have := (List.getElem?_eq_some_iff.mp hu).1; simpa using this
    refine wpAny_pyNext_enum_itemD (Draws.tuple (A := X.A.in1) (I.ok.hd hc) it a ni its.toArray) he ⟨hit, p⟩ hlt ne (by simp [ne, nea]) fun y h' tk hy ho st' hT hsz hk => ?_
    have ey : y = u := by
      rw [List.getElem?_toArray, hu] at hy
      exact (Option.some.inj hy).symm
    subst ey
    refine ⟨_, rfl, wpAny_letOwnedTupleGo_enum (s := { s with heap := h', toks := tk + 1 }) ho fun h'' he' sb => ?_⟩
    have hT2 : h''.get? s.heap.objs.size = some { cls := .type "tuple", data := .seq #[.int i tk, y] } := (sb.2 _ (Nat.ne_of_gt hel)).trans hT
    have new : ObjOk X.prog X.w (upd H s.heap.objs.size (.tup [.int (i : Nat), x])) h'' s.heap.objs.size (.tup [.int (i : Nat), x]) :=
      ⟨by show 2 ≤ sizeLine; decide, [.int i tk, y], .cons ⟨_, rfl⟩ (.cons ru .nil), ⟨_, hT2, rfl, _, rfl⟩⟩
    have I1 : Inv X pins σ (upd H s.heap.objs.size (.tup [.int (i : Nat), x])) { s with heap := h'', toks := tk + 1 } :=
      I.turnedNew (ch := [e, it]) (fun b ob hb q => (sb.2 b fun z => hb (by simp [z])).trans (hk b ob (fun z => hb (by simp [z])) (fun z => hb (by simp [z])) q)) hf (Nat.le_refl _) new
    refine ⟨.ref s.heap.objs.size, _, I1, rfl, ⟨_, x, rfl, I.hok.fresh (Nat.le_refl _), rfl, fun ys hy => by rw [I.tuple_inj hy hq]; exact hx⟩, ⟨⟨y, ?_⟩, st'.1.at fun o q => (sb.2 it ne.symm).trans q⟩, fun b hb => ?_⟩
    · rw [show ((i + 1 : Nat) : Int) = (i : Int) + 1 by omega]
      exact he'
    · have hb' : b < s.heap.objs.size := (show b = e ∨ b = it by simpa using hb).elim (fun z => z ▸ hel) fun z => z ▸ hil
      rw [upd_ne (Nat.ne_of_lt hb')]
      exact (hf b hb).1
/-- enumerate of a list or a tuple -/
def iEnumA (K : PySem.W.Frag) (ta : TA) : TI := fun σ H R => ta σ H fun vs H1 => ∃ a xs, vs = [.ref a] ∧ ((SqL K H1 a xs ∧ R (Ite K a) H1) ∨ (SqT K H1 a xs ∧ R (Itu K a) H1))
open PySem.Spec PyProof.Rows in
theorem pi_enumA {X : Cx} {e : Expr} {ta : TA} {p pos tpos : Pos} {elts : List Expr} {kk : Nat} (hg : Gl X "enumerate") (hm : X.mg "enumerate" = none) (ha : PA X [e] ta) (hs : starEach [e] X.env = [(false, eval e X.env)] := by rfl) :
    PI X (.Tuple elts kk tpos) (.Call (.Name "enumerate" p) [e] [] pos) (iEnumA X.K ta) := by
  refine ⟨fun pins s σ H R I h => Call_ (ld_blt I hg hm boot_enumerate (PyProof.Rows.callWith_type1 (thn (ha.run pos pins s σ H _ I h) fun us s1 ⟨vs, H1, I1, r1, a, xs, ex, q⟩ => ?_) hs rfl))⟩
  subst ex
  cases r1 with
  | cons r rr =>
    cases rr
    cases r
    have two : ∀ {b : Addr}, b ∈ [s1.heap.objs.size + 1, s1.heap.objs.size] → s1.heap.objs.size ≤ b := fun {b} hb =>
      (show b = s1.heap.objs.size + 1 ∨ b = s1.heap.objs.size by simpa using hb).elim (fun z => z ▸ Nat.le_succ _) fun z => z ▸ Nat.le_refl _
    rcases q with ⟨hq, q⟩ | ⟨hq, q⟩
    · obtain ⟨its, rv, p', hz⟩ := I1.list hq
      refine enum_of (begins_list a its.toArray) p'.isList fun h' he hit hk => wpAny_pyIter_enum he ?_
      exact ⟨_, [_, _], _, _, H1, rfl, I1.kept (t' := s1.toks) hk, turn_enum a _ _, ⟨⟨.none, he⟩, ⟨_, hit, rfl, rfl⟩, Nat.succ_ne_self _⟩, fun b hb => I1.fpOk (two hb) (I1.hok.fresh (two hb)), q⟩
    · obtain ⟨its, rv, p', hz⟩ := I1.tuple hq
      have hlt : a < s1.heap.objs.size := let ⟨_, z, _⟩ := (show s1.heap.IsTuple a its.toArray from p'); Heap.lt_size z
      refine enum_of (begins_tuple a its.toArray) p' fun h' he hit hk => wpAny_pyIter_enum he ?_
      exact ⟨_, [_, _], _, _, H1, rfl, I1.kept (t' := s1.toks) hk, turn_enumT a _ _ (Nat.succ_ne_self _) (Nat.ne_of_gt (Nat.lt_succ_of_lt hlt)) (Nat.ne_of_lt hlt), ⟨⟨.none, he⟩, ⟨_, hit, rfl, rfl⟩⟩, fun b hb => I1.fpOk (two hb) (I1.hok.fresh (two hb)), q⟩
def enumI (f : Env → R D) (env : Env) : R (List D) := (f env).bind fun d e => match items d with
  | some ds => .ok (ds.mapIdx fun i x => .tup [.int i, x]) e
  | none => .bad
section
variable {X : Cx} {Γ : Ctx} {W : WX} {q : Bool}
theorem pairNew {Z H : Hp} {p : Addr} {i : Nat} {v : V} {d : D} (s : ∀ a o, Z a = some o → H a = some o) (n : H p = none) (h : Den Γ Z v d) : Grow Z H (upd Z p (.tup [.int i, v])) (upd H p (.tup [.int i, v])) ∧ Den Γ (upd Z p (.tup [.int i, v])) (.ref p) (.tup [.int i, d]) :=
  tupNew s n ⟨rfl, fun j x y h1 h2 => by
    match j with
    | 0 => cases h1; cases h2; exact .int _
    | 1 => cases h1; cases h2; exact h
    | j + 2 => cases h1⟩
theorem itD_enumL {Z0 : Hp} {a : Addr} {vs : List V} {ds : List D} (hq : ∀ Z H : Hp, (∀ a o, Z0 a = some o → Z a = some o) → (∀ a o, Z a = some o → H a = some o) → SqL Γ.K H a vs) (c : Dens Γ Z0 vs ds) : ItD Γ (Ite Γ.K a) Z0 (ds.mapIdx fun i x => .tup [.int i, x]) where
  goes i Z H hi z s := ⟨vs, vs[i]'(by simpa [c.1] using hi), hq Z H z s, by simp⟩
  stops Z H z s := ⟨vs, hq Z H z s, by simp [c.1]⟩
  yields i Z H x H' hi z s y := by
    obtain ⟨T, u, rfl, hT, rfl, hu⟩ := y
    have hu := hu vs (hq Z H z s)
    have hi' : i < ds.length := by simpa using hi
    obtain ⟨g, hd⟩ := pairNew (i := i) s hT ((c.2 i u ds[i] hu (by simp)).mono z)
    exact ⟨_, _, g, by simp [hi'], hd⟩
theorem itD_enumT {Z0 : Hp} {a : Addr} {vs : List V} {ds : List D} (hq : ∀ Z H : Hp, (∀ a o, Z0 a = some o → Z a = some o) → (∀ a o, Z a = some o → H a = some o) → SqT Γ.K H a vs) (c : Dens Γ Z0 vs ds) : ItD Γ (Itu Γ.K a) Z0 (ds.mapIdx fun i x => .tup [.int i, x]) where
  goes i Z H hi z s := ⟨vs, vs[i]'(by simpa [c.1] using hi), hq Z H z s, by simp⟩
  stops Z H z s := ⟨vs, hq Z H z s, by simp [c.1]⟩
  yields i Z H x H' hi z s y := by
    obtain ⟨T, u, rfl, hT, rfl, hu⟩ := y
    have hu := hu vs (hq Z H z s)
    have hi' : i < ds.length := by simpa using hi
    obtain ⟨g, hd⟩ := pairNew (i := i) s hT ((c.2 i u ds[i] hu (by simp)).mono z)
    exact ⟨_, _, g, by simp [hi'], hd⟩
end
end DL
end

section
set_option Elab.async false
set_option linter.all false
set_option maxRecDepth 100000
set_option maxHeartbeats 4000000
/-! The layer D: enumerate, isinstance with two types, chains of comparisons, minus. -/
namespace DL
open PySem L2
section
variable {X : Cx} {Γ : Ctx} {W : WX} {q qa qb qc : Bool} {e a b c : Expr} {pos : Pos}
theorem di_enum {f : Env → R D} {p tpos : Pos} {elts : List Expr} {kk : Nat} (hK : X.K = Γ.K) (hg : Gl X "enumerate") (hm : X.mg "enumerate" = none) (h : DF X Γ W q e f) (hs : starEach [e] X.env = [(false, eval e X.env)] := by rfl) :
    DI X Γ W (.Tuple elts kk tpos) (.Call (.Name "enumerate" p) [e] [] pos) (enumI f) :=
  PI.imp (pi_enumA hg hm (pa_cons h pa_nil hs) hs) fun σ H R ⟨Z, env, F, r, s, p⟩ => ⟨Z, env, F, r, s, PR.bind p fun d e1 _ p1 v Z1 H1 F1 n _ hd => by
    rw [hK]
    cases hd with
    | @tup a vs ds sq l c => exact ⟨a, vs, rfl, .inr ⟨sqT_mono n.sep.sub sq, p1 _ Z1 H1 F1 n (itD_enumT (vs := vs) (fun Z H z s => sqT_mono s (sqT_mono z sq)) ⟨l, c⟩)⟩⟩
    | @lst a vs ds sq l c => exact ⟨a, vs, rfl, .inl ⟨SqL.of (n.sep.sub _ _ sq), p1 _ Z1 H1 F1 n (itD_enumL (vs := vs) (fun Z H z s => SqL.of (s _ _ (z _ _ sq))) ⟨l, c⟩)⟩⟩
    | @rol a vs ds sq l c => exact ⟨a, vs, rfl, .inl ⟨sqL_mono n.sep.sub sq, p1 _ Z1 H1 F1 n (itD_enumL (vs := vs) (fun Z H z s => sqL_mono s (sqL_mono z sq)) ⟨l, c⟩)⟩⟩
    | _ => exact p1.elim⟩
/-- isinstance(e, (T1, T2)) -/
def isi2D (T1 T2 : String) (d : D) : Option D := (typeD d).bind fun t => (kitB t T1).bind fun b => if b then some (.bl true) else (kitB t T2).map .bl
theorem kit2 {K : PySem.W.Frag} {t T1 T2 : String} {b : Bool} (h : ((kitB t T1).bind fun b => if b then some (D.bl true) else (kitB t T2).map .bl) = some (.bl b)) : PySem.W.kitAny K (.type t) [.type T1, .type T2] = some b := by
  obtain ⟨b1, h1, h2⟩ := Option.bind_eq_some_iff.mp h
  refine kitAny_cons (kit_ty h1) (fun e => ?_) (fun e => ?_)
  · subst e
    simp only [Bool.false_eq_true, if_false] at h2
    obtain ⟨b2, h3, h4⟩ := Option.map_eq_some_iff.mp h2
    cases h4
    exact kitAny_cons (kit_ty h3) (fun e => by rw [kitAny_nil, e]) (fun e => e)
  · subst e
    simp only [if_true] at h2
    cases h2
    rfl
def optF (g : D → Option D) (f : Env → R D) (env : Env) : R D := (f env).bind fun d e => opt (g d) e
theorem df_isi2 {T1 T2 : String} {f : Env → R D} {x y1 y2 : Str} {p p1 p2 tp : Pos} {kk : Nat} (hK : X.K = Γ.K) (ha : DF X Γ W q e f) (hgl : Gl X x) (hm : X.mg x = none) (hv : bootBuiltins x = some (.builtin "isinstance")) (hy : PE X (.Name y1 p1) (tC (.ty T1))) (hy2 : PE X (.Name y2 p2) (tC (.ty T2))) (hn : x ≠ "__name__" := by decide) (hdb : (x == ("__debug__" : Str)) = false := by decide)
    (he : starEach (e :: [.Tuple [.Name y1 p1, .Name y2 p2] kk tp]) X.env = (false, eval e X.env) :: starEach [.Tuple [.Name y1 p1, .Name y2 p2] kk tp] X.env := by rfl) (he2 : starEach (.Tuple [.Name y1 p1, .Name y2 p2] kk tp :: []) X.env = (false, eval (.Tuple [.Name y1 p1, .Name y2 p2] kk tp) X.env) :: starEach [] X.env := by rfl)
    (h1 : starEach (.Name y1 p1 :: [.Name y2 p2]) X.env = (false, eval (.Name y1 p1) X.env) :: starEach [.Name y2 p2] X.env := by rfl) (h2 : starEach (.Name y2 p2 :: []) X.env = (false, eval (.Name y2 p2) X.env) :: starEach [] X.env := by rfl)
    (hpl : (backTo pos (starEach [.Tuple [.Name y1 p1, .Name y2 p2] kk tp] X.env)).any (·.1) = false := by rfl) :
    DF X Γ W false (.Call (.Name x p) [e, .Tuple [.Name y1 p1, .Name y2 p2] kk tp] [] pos) (optF (isi2D T1 T2) f) :=
  PE.imp (pe_callB call_isiT hgl hm hv (pa_cons ha (pa_cons (pe_tup (pa_cons hy (pa_cons hy2 pa_nil h2) h1)) pa_nil he2) he) hn hdb he hpl) fun σ H Q ⟨Z, env, F, r, s, p⟩ => ⟨Z, env, F, r, s, PR.bind p fun d e1 _ p1 v Z1 H1 F1 n _ hd => by
    refine ⟨by show 2 ≤ sizeLine; decide, fun t ht => ?_⟩
    obtain ⟨d', hd', e3⟩ : ∃ d', isi2D T1 T2 d = some d' ∧ PR Γ W σ ⟨F, H, Z⟩ (.ok d' e1) (okF Γ σ false ⟨F, H, Z⟩ Q) := by
      cases hh : isi2D T1 T2 d with
      | none => rw [hh] at p1; exact p1.elim
      | some d' => exact ⟨d', rfl, by rw [hh] at p1; exact p1⟩
    obtain ⟨ty, hty, hk⟩ := Option.bind_eq_some_iff.mp hd'
    obtain ⟨b, rfl⟩ : ∃ b, d' = .bl b := by
      obtain ⟨b1, _, h2⟩ := Option.bind_eq_some_iff.mp hk
      split at h2
      · cases h2; exact ⟨_, rfl⟩
      · obtain ⟨b2, _, h4⟩ := Option.map_eq_some_iff.mp h2
        exact ⟨b2, h4.symm⟩
    have gr := Grow.new1 n.sep.sub (o := .tup [.ty T1, .ty T2]) ht
    have n2 := n.grow gr
    rw [hK]
    exact ⟨v, t, [.ty T1, .ty T2], .type ty, [.type T1, .type T2], b, rfl, upd_same, .cons (.ty _) (.cons (.ty _) .nil), (View.den (hd.mono gr.fz)).type n2.sep.sub hty, kit2 hk, e3 _ _ _ _ n2 (fun z => nomatch z) (.bl _)⟩⟩
/-! ### a op b op' c -/
def chainF (g g' : D → D → Option D) (fa fb fc : Env → R D) (env : Env) : R D := (fa env).bind fun d1 e1 => (fb e1).bind fun d2 e2 => match g d1 d2 with
  | some (.bl true) => (fc e2).bind fun d3 e3 => opt (g' d2 d3) e3
  | some (.bl false) => .ok (.bl false) e2
  | _ => .bad
theorem chain_ok {r r' : R2} {g g' : D → D → Option D} {fa fb fc : Env → R D} {σ : St} {H : Hp} {Q : VK} (hg : OpV Γ false r g) (hg' : OpV Γ false r' g') (h : tF Γ W (qa && (qb && qc)) (chainF g g' fa fb fc) σ H Q) : tChain r r' (tF Γ W qa fa) (tF Γ W qb fb) (tF Γ W qc fc) σ H Q := by
  obtain ⟨Z, env, F, rl, s, p⟩ := h
  refine ⟨Z, env, F, rl, s, PR.bind p fun d1 e1 _ p1 v1 Z1 H1 F1 n1 q1 w1 => ⟨Z1, e1, F1, n1.rel, n1.sep, PR.bindS p1 n1.step fun d2 e2 _ p2 v2 Z2 H2 F2 n2 q2 w2 => ?_⟩⟩
  have n2' := n2.from n1.step
  cases hh : g d1 d2 with
  | none => rw [hh] at p2; exact p2.elim
  | some d =>
    rw [hh] at p2
    refine hg Z2 H2 v1 v2 d1 d2 d _ n2.sep.sub (.den (w1.mono n2.step.fz)) (.den w2) hh fun v Z3 H3 gr hH hd => ?_
    have hH := hH rfl
    subst hH
    cases d with
    | bl k =>
      cases hd
      refine ⟨k, rfl, ?_⟩
      have n3 := n2'.grow gr
      cases k with
      | false =>
        simp only [Bool.false_eq_true, if_false]
        exact p2 _ Z3 H3 F2 n3 (fun z => by
          simp only [Bool.and_eq_true_iff] at z
          exact (q2 z.2.1).trans (q1 z.1)) (.bl _)
      | true =>
        simp only [if_true]
        refine ⟨Z3, e2, F2, n3.rel, n3.sep, PR.bindS p2 n3.step fun d3 e3 _ p3 v3 Z4 H4 F4 n4 q4 w3 => ?_⟩
        cases h2 : g' d2 d3 with
        | none => rw [h2] at p3; exact p3.elim
        | some d' =>
          rw [h2] at p3
          refine hg' Z4 H4 v2 v3 d2 d3 d' Q n4.sep.sub (.den (w2.mono fun a o h => n4.step.fz a o (gr.fz a o h))) (.den w3) h2 fun v5 Z5 H5 gr5 hH5 hd5 => ?_
          have hH5 := hH5 rfl
          subst hH5
          exact p3 v5 Z5 H5 F4 ((n4.from n3.step).grow gr5) (fun z => by
            simp only [Bool.and_eq_true_iff] at z
            exact ((q4 z.2.2).trans (q2 z.2.1)).trans (q1 z.1)) hd5
    | _ => exact p2.elim
theorem df_chain {op op' : CmpOp} {r r' : R2} {g g' : D → D → Option D} {fa fb fc : Env → R D} (ho : OpR X (compareOp op) r) (ho' : OpR X (compareOp op') r') (hg : OpV Γ false r g) (hg' : OpV Γ false r' g') (ha : DF X Γ W qa a fa) (hb : DF X Γ W qb b fb) (hc : DF X Γ W qc c fc)
    (hm : lastMarks [op, op'] [b, c] = false := by with_unfolding_all rfl) : DF X Γ W (qa && (qb && qc)) (.Compare a [op, op'] [b, c] pos) (chainF g g' fa fb fc) :=
  PE.imp (pe_chain ho ho' ha hb hc hm) fun σ H Q h => chain_ok hg hg' h
theorem dt_chain {op op' : CmpOp} {r r' : R2} {g g' : D → D → Option D} {fa fb fc : Env → R D} (ho : OpR X (compareOp op) r) (ho' : OpR X (compareOp op') r') (hg : OpV Γ false r g) (hg' : OpV Γ false r' g') (ha : DF X Γ W qa a fa) (hb : DF X Γ W qb b fb) (hc : DF X Γ W qc c fc)
    (hm : lastMarks [op, op'] [b, c] = false := by with_unfolding_all rfl) : DT X Γ W (qa && (qb && qc)) (.Compare a [op, op'] [b, c] pos) (testF (chainF g g' fa fb fc)) :=
  PT.imp (pt_chain ho ho' ha hb hc hm) fun σ H Q h => chain_ok hg hg' (test_ok h)
def negD : D → Option D
  | .int i => some (.int (-i))
  | _ => none
theorem df_neg {f : Env → R D} (h : DF X Γ W q a f) : DF X Γ W q (.UnaryOp .USub a pos) (optF negD f) :=
  PE.imp (pe_un un_neg h) fun σ H Q ⟨Z, env, F, r, s, p⟩ => ⟨Z, env, F, r, s, PR.bind p fun d e1 _ p1 v Z1 H1 F1 n hq hd => by
    cases hd with
    | int i => exact ⟨i, rfl, p1 _ Z1 H1 F1 n hq (.int _)⟩
    | _ => exact p1.elim⟩
end
end DL
end

section
set_option Elab.async false
set_option linter.all false
set_option maxRecDepth 100000
set_option maxHeartbeats 4000000
/-! The layer D: own errors under Exception, one below another, whose __init__ says super().__init__(x); self.f = x. -/
namespace DLX
open PySem PySem.W PySem.Calls PyProof.Rows
/-- own classes, then Exception's line -/
def ownEx : List Value → Bool
  | .ref _ :: r => ownEx r
  | l => l == ESX.exTail
theorem ownEx_cases (l : List Value) (e : ownEx l = true) : (∃ c r, l = .ref c :: r ∧ ownEx r = true) ∨ l = ESX.exTail := by
  cases l with
  | nil => exact .inr (beq_iff_eq.mp e)
  | cons a r => cases a with
    | ref c => exact .inl ⟨c, r, rfl, e⟩
    | _ => exact .inr (beq_iff_eq.mp e)
theorem ownEx_pass (self : Value) : ∀ l : List Value, ownEx l = true → refuseLoop self "__setattr__" l = pure ()
  | [], e => absurd e (by decide)
  | a :: r, e => by
    rcases ownEx_cases (a :: r) e with ⟨c, r', q, h⟩ | q
    · obtain ⟨rfl, rfl⟩ := List.cons.inj q
      rw [refuseLoop_ref]; exact ownEx_pass self _ h
    · rw [q]; exact F.store_Exception.passes self
theorem ownEx_has (X : String) : ∀ l : List Value, ownEx l = true → l.contains (.type X) = ESX.exTail.contains (.type X)
  | [], e => absurd e (by decide)
  | a :: r, e => by
    rcases ownEx_cases (a :: r) e with ⟨c, r', q, h⟩ | q
    · obtain ⟨rfl, rfl⟩ := List.cons.inj q
      rw [List.contains_cons, ownEx_has X _ h]; rfl
    · rw [q]
theorem ownEx_ne {l : List Value} (e : ownEx l = true) : l.isEmpty = false := by
  cases l with
  | nil => exact absurd e (by decide)
  | cons _ _ => rfl
section
open Builtin Builtin.ObjectAttr
variable {prog : Program} {w : World} {A : Around} {R : Result → Shared → Prop} {hp : Heap} {g : Array GenState} {d : Drawn} {t : Nat} {os : OsState}
/-- self.f = v, the first field -/
theorem first_field {K : Frag} {name : Str} {tk : Tok} {v : Value} {x C : Addr} {fv : Array Value} {cd : ClassData}
    (X : K.In hp) (hx : hp.get? x = some { cls := .ref C, data := .fields fv }) (hcd : clsIn K C = some cd) (hm : ownEx cd.mro = true) (hh : cd.hasDict = true) (ha : findIn K (.ref C) name = some none)
    (hq : ∀ h' tk' dx, (∀ b o, b ≠ x → hp.get? b = some o → h'.get? b = some o) → hp.objs.size ≤ dx → dx ≠ x → h'.get? x = some { cls := .ref C, dict := some dx, data := .fields fv } →
      h'.Ns1 dx (fun y => if y = name then some v else none) → R (.ok (.ret .none)) ⟨h', g, d, tk', os⟩) :
    codeAny (model prog w) A (.call (.builtin "object.__setattr__") ⟨[.ref x, .str name tk, v], []⟩) R ⟨hp, g, d, t, os⟩ := by
  have hcls : Looks (model prog w) hp (classData C) cd := looks_clsIn X hcd
  have hxs : x ≠ hp.objs.size := Nat.ne_of_lt (Heap.lt_size hx)
  have I : InstAt hp x { cls := .ref C, data := .fields fv } C none := ⟨hx, rfl, rfl, trivial⟩
  have SF := F.store_object
  have hob : cd.mro.contains (.type "object") = true := (ownEx_has "object" _ hm).trans (by decide +kernel)
  have sub : Looks (model prog w) hp (isInstance (.ref x) (.type "object")) true := I.type.andThen (looks_mroIn X (by unfold mroIn; rw [hcd, Option.bind_some, if_neg (by rw [ownEx_ne hm]; decide), hob]))
  have hmr : Looks (model prog w) hp (mroOf (.ref C)) cd.mro := hcls.andThen .now
  have L3 : Looks (model prog w) hp (storeTaker? none) none := .now
  refine codeAny_call_builtin SF.slot.plain SF.entry (@check_slot (model prog w) _ _ ⟨hp, g, d, t, os⟩ "object.__setattr__" "object" "__setattr__" (.ref x) [.str name tk, v] [] _ SF.kind SF.split sub (SF.args (.ref x) (.str name tk) v) ?_)
  rw [osa_eq, refuse_eq]
  refine wpAny_bind (wpAny_bind (I.type.at (wpAny_bind (hmr.at ?_))))
  rw [ownEx_pass _ _ hm]
  refine wpAny_pure (wpAny_bind (I.type.at (wpAny_bind ((looks_findIn X ha).at (wpAny_bind (L3.at ?_))))))
  show wpAny _ _ (storeInOwnDict (.ref x) (.ref C) (.str name tk) name v false) _ _ _
  obtain ⟨nm, bs, mro, ns, qn, hd, sn, sb, ab, col, del⟩ := cd
  dsimp only at hh
  subst hh
  unfold storeInOwnDict ownDictForStores
  repeat (first | with_reducible refine HandSPX.store_in_new ?_ ?_ | with_reducible refine wpAny_loadPart_at hx ?_ | with_reducible refine hcls.at ?_ | wp_step)
  · exact ⟨_, #[], _, (Heap.get?_update_ne _ _ _ _ hxs.symm).trans (Heap.get?_push_at rfl rfl), rfl, fun e he => absurd he (by simp), fun _ => rfl⟩
  · intro h' tk' hn' hs
    have hx₁ : (hp.push { cls := .type "dict", data := .dict #[] }).get? x = some { cls := .ref C, data := .fields fv } := Heap.get?_push_of_some _ hx
    exact hq h' tk' hp.objs.size (fun b o hb ho => (hs.2 b (Nat.ne_of_lt (Heap.lt_size ho))).trans ((Heap.get?_update_ne _ _ _ _ hb).trans (Heap.get?_push_of_some _ ho))) (Nat.le_refl _) hxs.symm
      ((hs.2 x hxs).trans (Heap.get?_update_self _ hx₁ rfl)) hn'
end
/-! ### the text -/
def iA (f : Str) (p1 p2 : Pos) : Arguments := { posonlyargs := [], args := [{ arg := "self", annotation := none, pos := p1 }, { arg := f, annotation := none, pos := p2 }], vararg := none, kwonlyargs := [], kw_defaults := [], kwarg := none, defaults := [] }
def iB (f : Str) (p0 p1 p2 p3 p4 p5 q1 q2 q3 q4 : Pos) : List Stmt := [.Expr (.Call (.Attribute (.Call (.Name "super" p0) [] [] p1) "__init__" p2) [.Name f p3] [] p4) p5, .Assign [.Attribute (.Name "self" q1) f q2] (.Name f q3) q4]
def iS (f : Str) : Scope := { kind := .function, names := [("self", .local), (f, .local), ("__class__", .free), ("super", .globalImplicit)], isGenerator := false, isCoroutine := false, more := [] }
/-- what is plain at each f -/
structure Shape (f : Str) : Prop where
  bind : ∀ (s : Shared) (qn : Str) (doc pm cdv ct x v : Value) (an : Option Addr) (cc : Addr) (p1 p2 a0 a1 a2 a3 a4 a5 q1 q2 q3 q4 : Pos), BindsTo s (ksFn "__init__" qn (iA f p1 p2) (iB f a0 a1 a2 a3 a4 a5 q1 q2 q3 q4) (iS f) .none .none doc pm an cdv ct cc) ⟨[x, v], []⟩ [("self", x), (f, v)]
  call : ∀ (qn : Str) (L a cc : Addr) (cd : Value) (a0 a1 a2 a3 a4 : Pos), (a2.endLine == a4.line) = true → ∃ pl, eval (.Call (.Attribute (.Call (.Name "super" a0) [] [] a1) "__init__" a2) [.Name f a3] [] a4) (ksEnv qn (iS f) L a cd cc) = (do
      let ov ← attributeBase (.Call (.Name "super" a0) [] [] a1) "__init__" (ksEnv qn (iS f) L a cd cc) (eval (.Call (.Name "super" a0) [] [] a1) (ksEnv qn (iS f) L a cd cc))
      standAt a2.atName
      let (g, first) ← holding [ov] (getMethod ov "__init__" pl)
      callWith a4 g first (backTo a4 (starEach [.Name f a3] (ksEnv qn (iS f) L a cd cc))) [])
  int : ∀ (qn : Str) (L a cc : Addr) (cd : Value), interactive (ksEnv qn (iS f) L a cd cc) = false
  sw1 : ∀ (qn : Str) (L a cc : Addr) (cd : Value) (a0 a1 a2 a3 a4 : Pos) (l : Nat), swapsWith (.Call (.Attribute (.Call (.Name "super" a0) [] [] a1) "__init__" a2) [.Name f a3] [] a4) none l (ksEnv qn (iS f) L a cd cc) = pure false
  sw2 : ∀ (qn : Str) (L a cc : Addr) (cd : Value) (q1 q2 q3 : Pos) (l : Nat), swapsWith (.Name f q3) (some (.Attribute (.Name "self" q1) f q2)) l (ksEnv qn (iS f) L a cd cc) = pure false
  lf : (iS f).names.lookup f = some .local
  ls : (iS f).names.lookup ("super" : Str) = some .globalImplicit
  lc : (iS f).names.lookup ("__class__" : Str) = some .free
theorem call_shape {f : Str} {env : Env} {a0 a1 a2 a3 a4 : Pos} (h : (a2.endLine == a4.line) = true) (hs : starEach [.Name f a3] env = [(false, eval (.Name f a3) env)] := by rfl) : ∃ pl, eval (.Call (.Attribute (.Call (.Name "super" a0) [] [] a1) "__init__" a2) [.Name f a3] [] a4) env = (do
      let ov ← attributeBase (.Call (.Name "super" a0) [] [] a1) "__init__" env (eval (.Call (.Name "super" a0) [] [] a1) env)
      standAt a2.atName
      let (g, first) ← holding [ov] (getMethod ov "__init__" pl)
      callWith a4 g first (backTo a4 (starEach [.Name f a3] env)) []) := by
  refine ⟨do return (← importBound (.Call (.Name "super" a0) [] [] a1) env).getD true, ?_⟩
  rw [arm_eval_Call]
  have hpos : methodCallPos true (.Call (.Name "super" a0) [] [] a1) env a2 a4 = pure a4 := by unfold methodCallPos; simp [h]
  have hform : methodCallForm ([Expr.Name f a3].length + ([] : List Keyword).length) (backTo a4 (starEach [.Name f a3] env)) (backToKw a4 (keywordEach [] env)) = true := by rw [hs]; rfl
  unfold methodCall
  rw [hform, hpos]
  rfl
theorem shape_at : Shape "at" := ⟨fun _ _ _ _ _ _ _ _ _ _ _ _ _ _ _ _ _ _ _ _ _ _ => BindsTo.of_eq (by first | rfl | with_unfolding_all rfl), fun _ _ _ _ _ _ _ _ _ _ h => call_shape h, fun _ _ _ _ _ => rfl, fun _ _ _ _ _ _ _ _ _ _ _ => rfl, fun _ _ _ _ _ _ _ _ _ => rfl, rfl, rfl, rfl⟩
/-- what the written part says of the class at C, whose field is f -/
structure ExT (P : Program) (K : Frag) (mg : Str → Option Value) (C : Addr) (f : Str) : Prop where
  cls : ∃ nm q N bs bm sn sub ab col dd k0 k1 k2 k3 k5, K.lookup C = some (excClassObj nm q C N bs bm true sn sub ab col dd k0 k1 k2 k3 k5 "Exception.__new__") ∧ ownEx bm = true
  sa : findIn K (.ref C) "__setattr__" = some (some (.builtin "object.__setattr__"))
  ga : findIn K (.ref C) "__getattribute__" = some (some (.builtin "BaseException.__getattribute__"))
  gg : findIn K (.ref C) "__getattr__" = some none
  noF : findIn K (.ref C) f = some none
  exC : subIn K (.ref C) (.type "BaseException") = some true
  eC : subIn K (.ref C) (.type "Exception") = some true
  tyC : typeIn K (.ref C) = some (.type "type")
  hdC : hasDictIn K C = true
  kC : keepIn K (.ref C) = true
  up : ks_superIn K C C "__init__" = some (some (.builtin "Exception.__init__"))
  op : nsIn K cStatics "thirdparty.any" = some none
  mgS : mg "super" = none
  htop : (P.main.scope.names.lookup ("super" : Str)).isSome = false
  sh : Shape f
  hf : f ≠ "self"
  hfd : (f == ("__debug__" : Str)) = false
  hfc : (f == ("__class__" : Str)) = false
  fn : ∃ (fI cc cda : Addr) (oc : Value) (od : Option Addr) (doc pm : Value) (an : Option Addr) (ct : Value) (osl : Array (Option Value)) (qn : Str) (p1 p2 a0 a1 a2 a3 a4 a5 q1 q2 q3 q4 : Pos) (vs : Array Value) (file : Str) (tf : Tok) (ccl cl : Value) (cdd cld : Option Addr) (ccs csl : Array (Option Value)),
    findIn K (.ref C) "__init__" = some (some (.ref fI)) ∧ typeIn K (.ref fI) = some (.type "function") ∧
    K.lookup fI = some ⟨oc, od, .func (ksFn "__init__" qn (iA f p1 p2) (iB f a0 a1 a2 a3 a4 a5 q1 q2 q3 q4) (iS f) .none .none doc pm an (.ref cda) ct cc), osl⟩ ∧ codeIn K (.ref cda) qn = true ∧
    K.lookup cda = some ⟨ccl, cdd, .fields vs, ccs⟩ ∧ vs[2]? = some (.str file tf) ∧ ((P.main.file : Str) == file) = true ∧ K.lookup cc = some ⟨cl, cld, .cell (some (.ref C)), csl⟩ ∧ (a2.endLine == a4.line) = true
  ca : findIn K (.ref C) "__class__" = some (some (.builtin "object.__class__"))
  gs : specialIn K (.builtin "object.__class__") "__get__" = some (some (.builtin "getset_descriptor.__get__"))
  tk : takesIn K (.builtin "object.__class__") = some true
  ob : mroIn K C (.type "object") = some true
/-- what __init__ leaves of a fresh exception at x -/
structure Left (h h' : Heap) (x C dx t1 : Addr) (f : Str) (v : Value) : Prop where
  keep : ∀ b o, b ≠ x → h.get? b = some o → h'.get? b = some o
  obj : h'.get? x = some { cls := .ref C, dict := some dx, data := .fields #[.ref t1, .none, .none, .none, .bool false, .none] }
  dbig : h.objs.size ≤ dx
  dne : dx ≠ x
  ns : h'.Ns1 dx (fun y => if y = f then some v else none)
/-- a made one -/
structure Made (h h' : Heap) (e C d : Addr) (f : Str) (v : Value) : Prop where
  keep : ∀ b o, h.get? b = some o → h'.get? b = some o
  new : h.objs.size ≤ e
  obj : ∃ oe vs, h'.get? e = some oe ∧ oe.cls = .ref C ∧ oe.dict = some d ∧ oe.data = .fields vs ∧ vs[1]? = some .none
  dbig : h.objs.size ≤ d
  dne : d ≠ e
  ns : h'.Ns1 d (fun y => if y = f then some v else none)
section
variable {prog : Program} {w : World} {A : Around} {R : Result → Shared → Prop} {s : Shared} {K : Frag} {mg mb : Str → Option Value} {C : Addr} {f : Str} {base : Heap}
theorem init_walk (T : ExT prog K mg C f) (fI : Addr) (hI : findIn K (.ref C) "__init__" = some (some (.ref fI))) {x t0 : Addr} {v : Value} (X : K.In s.heap) (hg : s.heap.Ns mainGlobals mg) (hb : s.heap.Ns builtinsNs mb) (hsup : mb "super" = some (.type "super")) (hlim : s.heap.NoLimit)
    (hx : s.heap.get? x = some (HandSPX.excO C t0)) (hnx : K.lookup x = none) (hroom : A.depth < recursionLimit)
    (hq : ∀ h' tk dx t1, Left s.heap h' x C dx t1 f v → R (.ok (.ret .none)) { s with heap := h', toks := tk }) :
    codeAny (model prog w) A (.call (.ref fI) ⟨[.ref x, v], []⟩) R s := by
  obtain ⟨nm, q, N, bs, bm, sn, sub, ab, col, dd, k0, k1, k2, k3, k5, hC, hbm⟩ := T.cls
  obtain ⟨fI', cc, cda, oc, od, doc, pm, an, ct, osl, qn, p1, p2, a0, a1, a2, a3, a4, a5, q1, q2, q3, q4, vs, file, tf, ccl, cl, cdd, cld, ccs, csl, e1, _, hF, hcode, hcd, hvs, hfile, hcc, hline⟩ := T.fn
  have sl1 : (iS f).names.lookup ("self" : Str) = some .local := rfl
  have sl2 := T.sh.lf
  have sl3 := T.sh.ls
  have sl4 := T.sh.lc
  obtain ⟨pl, hev⟩ := T.sh.call qn s.heap.objs.size fI cc (.ref cda) a0 a1 a2 a3 a4 hline
  rw [hI] at e1
  cases e1
  have hcl : clsIn K C = some { name := nm, bases := bs, mro := .ref C :: bm, ns := N, qualname := q, hasDict := true, slotNames := sn, subclasses := sub, abstract := ab, collection := col, hasDel := false } := by unfold clsIn; rw [hC] <;> rfl
  have hfs : (f == ("self" : Str)) = false := by simpa using T.hf
  have hsf : (("self" : Str) == f) = false := by simpa using Ne.symm T.hf
  refine ks_codeAny_call_defAt (fd := ksFn "__init__" qn (iA f p1 p2) (iB f a0 a1 a2 a3 a4 a5 q1 q2 q3 q4) (iS f) .none .none doc pm an (.ref cda) ct cc) (binds := [("self", .ref x), (f, v)]) hroom (X _ _ hF) rfl hlim (codeRec_of X hcode) rfl (T.sh.bind _ _ _ _ _ _ _ _ _ _ _ _ _ _ _ _ _ _ _ _ _ _) (fun y hy => ?_) (fun y hy => ?_) (fun h₁ hns k => ?_) rfl rfl rfl
  · simp only [iS, List.mem_cons, List.not_mem_nil, or_false] at hy
    rcases hy with rfl | rfl | rfl | rfl <;> exact nofun
  · rcases List.mem_cons.mp hy with rfl | hy
    · exact sl1
    · cases List.mem_singleton.mp hy
      exact sl2
  have X₁ : K.In h₁ := X.keeps k
  have hx₁ := k _ _ hx
  have hC₁ := X₁ _ _ hC
  have lf : (List.lookup f ([(("self" : Str), Value.ref x), (f, v)].reverse)) = some v := by simp [List.lookup]
  have ls : (List.lookup ("self" : Str) ([(("self" : Str), Value.ref x), (f, v)].reverse)) = some (.ref x) := by simp [List.lookup, hsf]
  have I : InstAt h₁ x (HandSPX.excO C t0) C none := ⟨hx₁, rfl, rfl, trivial⟩
  have hxC : x ≠ C := ks_ne X₁ I hcl
  show PySem.wpAt _ _ (.func (iB f a0 a1 a2 a3 a4 a5 q1 q2 q3 q4) (ksEnv qn (iS f) s.heap.objs.size fI (.ref cda) cc)) (execs (.Expr (.Call (.Attribute (.Call (.Name "super" a0) [] [] a1) "__init__" a2) [.Name f a3] [] a4) a5 :: [.Assign [.Attribute (.Name "self" q1) f q2] (.Name f q3) q4]) (ksEnv qn (iS f) s.heap.objs.size fI (.ref cda) cc)) _ _ _
  refine ks_wpAt_execs_cons (ks_wpAt_Expr_any (ks_wpAt_MethodCall (pl := pl) (ks_wpAt_super_base (env := ksEnv qn (iS f) s.heap.objs.size fI (.ref cda) cc) sl3 sl4 (by decide) rfl (X₁ _ _ hF) rfl rfl rfl (X₁ _ _ hcd) rfl hvs hfile T.htop ?_) hev) (T.sh.int _ _ _ _ _) (T.sh.sw1 _ _ _ _ _ _ _ _ _ _ _))
  refine ks_loadName_global rfl sl3 (loadGlobal_builtin (env := ksEnv qn (iS f) s.heap.objs.size fI (.ref cda) cc) (hg.keeps k) T.mgS (hb.keeps k) hsup ⟨rfl, ?_⟩)
  refine wpAny_loadName_free rfl sl4 (by simp [List.lookup]) ⟨_, X₁ _ _ hcc, rfl⟩ ?_
  refine wpAny_loadName_local rfl sl1 hns ls ?_
  refine ks_wpAny_isType_cls hC₁ rfl ⟨rfl, ?_⟩
  refine ks_wpAny_call_super hC₁ rfl hx₁ rfl (fun c e => ?_) (looks_mroIn X₁ (by unfold mroIn; rw [hcl, Option.bind_some]; simp)) (fun h₂ e₂ k₂ => ?_)
  · have c' : Data.fields _ = Data.cls c := e
    cases c'
  have X₂ := X₁.keeps k₂
  have hx₂ := k₂ _ _ hx₁
  have I₂ : InstAt h₂ x (HandSPX.excO C t0) C none := ⟨hx₂, rfl, rfl, trivial⟩
  have hup : alongIn K "__init__" (((Value.ref C :: bm).dropWhile (· != .ref C)).drop 1) = some (some (.builtin "Exception.__init__")) := by
    have := T.up
    unfold ks_superIn at this
    rw [hcl] at this
    exact this
  refine kxs_getMethod kxs_Exception e₂ (looks_opaque X₂ T.op) (l₀ := Value.ref C :: bm) (fun A Q E s k q => wpAny_bind ((looks_clsIn X₂ hcl) A _ E s k (wpAny_pure q))) rfl X₂ hup (I₂.type.andThen (looks_subIn X₂ T.eC)) hxC (by decide) ?_
  have k₃ : ∀ b o, h₂.get? b = some o → (h₂.push (kxs_mw "Exception.__init__" x)).get? b = some o := fun b o e => Heap.get?_push_of_some _ e
  have hu : (h₂.push (kxs_mw "Exception.__init__" x)).get? h₂.objs.size = some (ESX.bw x) := Heap.get?_push_at rfl rfl
  have hns₃ := (hns.keeps k₂).keeps k₃
  refine ESX.callWith_bound (x := x) (env := ksEnv qn (iS f) s.heap.objs.size fI (.ref cda) cc) (rest := []) ?_
  show wpAny _ _ (spliced ((false, eval (.Name f a3) (ksEnv qn (iS f) s.heap.objs.size fI (.ref cda) cc)) :: backTo a4 (starEach [] (ksEnv qn (iS f) s.heap.objs.size fI (.ref cda) cc)))) _ _ _
  refine Calls.spliced_cons (wpAny_Name (wpAny_loadName_local rfl sl2 hns₃ lf (Calls.spliced_nil ⟨hu, ?_⟩)) T.hfd)
  refine ESX.call_bw (k₃ _ _ (k₂ _ _ hC₁)) (k₃ _ _ hx₂) hu (by show 1 ≤ sizeLine; decide) (fun h₄ t1 k₄ hx₄ => ?_)
  have kx : ∀ b o, b ≠ x → s.heap.get? b = some o → h₄.get? b = some o := fun b o hb e => k₄ b o hb (k₃ _ _ (k₂ _ _ (k _ _ e)))
  have X₄ : K.In h₄ := fun a o e => k₄ a o (fun z => by rw [z, hnx] at e; cases e) (k₃ _ _ (X₂ a o e))
  have hxL : s.heap.objs.size ≠ x := Nat.ne_of_gt (Heap.lt_size hx)
  have hns₄ : h₄.Ns s.heap.objs.size fun y => List.lookup y ([(("self" : Str), Value.ref x), (f, v)].reverse) := by
    obtain ⟨oL, es, ep, hL, r⟩ := hns₃
    exact ⟨oL, es, ep, k₄ _ _ hxL hL, r⟩
  have sz : s.heap.objs.size < h₄.objs.size := hns₄.lt
  refine ks_wpAt_execs_cons (ks_wpAt_Assign_Attr ?_ (T.sh.sw2 _ _ _ _ _ _ _ _ _))
  refine wpAt_of_wpAny (wpAny_Name (wpAny_loadName_local rfl sl2 hns₄ lf ?_) T.hfd)
  refine wpAny_Name (wpAny_loadName_local rfl sl1 hns₄ ls ?_) (by decide)
  refine set_plain X₄ (ox := HandSPX.excO C t1) (od := none) ⟨hx₄, rfl, rfl, trivial⟩ T.sa ?_
  refine first_field X₄ hx₄ hcl hbm rfl T.noF (fun h₅ tk₅ dx k₅ dn dne hx₅ hn₅ => ?_)
  exact wpAt_of_wpAny (wpAny_execs_nil (hq h₅ tk₅ dx t1 ⟨fun b o hb e => k₅ b o hb (kx b o hb e), hx₅, Nat.le_of_lt (Nat.lt_of_lt_of_le sz dn), dne, hn₅⟩))
theorem made_walk (T : ExT prog K mg C f) {v : Value} (X : K.In s.heap) (hg : s.heap.Ns mainGlobals mg) (hb : s.heap.Ns builtinsNs mb) (hsup : mb "super" = some (.type "super")) (hlim : s.heap.NoLimit) (hroom : A.depth + 1 < recursionLimit)
    (hq : ∀ h' tk e d, Made s.heap h' e C d f v → R (.ok (.ret (.ref e))) { s with heap := h', toks := tk }) :
    codeAny (model prog w) A (.call (.ref C) ⟨[v], []⟩) R s := by
  obtain ⟨nm, q, N, bs, bm, sn, sub, ab, col, dd, k0, k1, k2, k3, k5, hC, hbm⟩ := T.cls
  obtain ⟨fI, hI, hT⟩ : ∃ fI, findIn K (.ref C) "__init__" = some (some (.ref fI)) ∧ typeIn K (.ref fI) = some (.type "function") := by
    obtain ⟨fI, _, _, _, _, _, _, _, _, _, _, _, _, _, _, _, _, _, _, _, _, _, _, _, _, _, _, _, _, _, _, _, e1, e2, _⟩ := T.fn
    exact ⟨fI, e1, e2⟩
  obtain ⟨hp, g, dr, tk, os⟩ := s
  have k : ∀ b o, hp.get? b = some o → ((hp.push (kdv_tup [v])).push (HandSPX.excO C hp.objs.size)).get? b = some o := fun b o e => Heap.get?_push_of_some _ (Heap.get?_push_of_some _ e)
  have hget : ((hp.push (kdv_tup [v])).push (HandSPX.excO C hp.objs.size)).get? (hp.objs.size + 1) = some (HandSPX.excO C hp.objs.size) := by heap_get
  have hnx : K.lookup (hp.objs.size + 1) = none := by
    cases e : K.lookup (hp.objs.size + 1) with
    | none => rfl
    | some o => exact absurd (Nat.lt_of_succ_lt (Heap.lt_size (show hp.get? (hp.objs.size + 1) = some o from X _ _ e))) (Nat.lt_irrefl _)
  refine HandSPX.call_own F.excBase_Exception (fun Y => ownEx_has Y bm hbm) (X _ _ hC) (looks_findIn X hI) (fun self => bind_fn X self hT) (by show 1 ≤ sizeLine; decide) ?_
  refine init_walk (s := ⟨(hp.push (kdv_tup [v])).push (HandSPX.excO C hp.objs.size), g, dr, tk, os⟩) T fI hI (X.keeps k) (hg.keeps k) (hb.keeps k) hsup (hlim.keeps k) hget hnx (show A.depth + 1 < recursionLimit from hroom) fun h' tk' dx t1 ⟨k', hx, dn, dne, hns⟩ => ?_
  have old : ∀ b o, hp.get? b = some o → h'.get? b = some o := fun b o e => k' b o (Nat.ne_of_lt (Nat.lt_succ_of_lt (Heap.lt_size e))) (k b o e)
  have z : hp.objs.size + 1 + 1 ≤ dx := by
    have q := dn
    rw [Heap.size_push, Heap.size_push] at q
    exact q
  exact ⟨rfl, hq h' tk' (hp.objs.size + 1) dx ⟨old, Nat.le_succ _, ⟨_, _, hx, rfl, rfl, rfl, rfl⟩, Nat.le_trans (Nat.le_trans (Nat.le_succ _) (Nat.le_succ _)) z, dne, hns⟩⟩
end
end DLX
end

section
set_option Elab.async false
set_option linter.all false
set_option maxRecDepth 100000
set_option maxHeartbeats 4000000
/-! The layer D: raise C(e). -/
namespace DL
open PySem L2
theorem xd_one {f g : Str} {v : V} {u : Value} (r : RelV v u) : RelO (List.lookup g [(f, v)]) (if g = f then some u else none) := by
  by_cases h : g = f
  · subst h; simp [List.lookup]; exact r
  · have q : (g == f) = false := by simpa using h
    simp [List.lookup, q, h]; trivial
/-- C(e) -/
def tMkX (C : Addr) (f : Str) (ta : TA) : St → Hp → XK → Prop := fun σ H Q => ta σ H fun vs H1 => ∃ v, vs = [v] ∧ ∀ d, H1 d = none → Q (.ref C) (some d) (upd H1 d (.xd [(f, v)]))
theorem pmk_exT {X : Cx} {C : Addr} {f x : Str} {a : Expr} {ta : TA} {p pos : Pos} {k : Nat} (T : DLX.ExT X.prog X.K X.mg C f) (hr : Room k X.A) (ha : PA X [a] ta) (hg : Gl X x) (hm : X.mg x = some (.ref C)) (hdb : (x == ("__debug__" : Str)) = false := by decide)
    (he : starEach (a :: []) X.env = (false, eval a X.env) :: starEach [] X.env := by rfl) (hpl : (backTo pos (starEach [] X.env)).any (·.1) = false := by rfl) :
    PMk X (.Call (.Name x p) [a] [] pos) (tMkX C f ta) := by
  intro pins s σ H Q I h
  refine wpAny_Call_Name_kw (ld_glob I hg hm ?_ hdb)
  refine PySem.W.callWith_K (h₀ := X.base) I.ok.mod.kin T.kC (thn (ha.run pos pins s σ H _ I h) fun us s1 ⟨vs, H1, I1, r1, v, ev, q1⟩ => ?_) he hpl
  · subst ev
    refine ⟨I1.kIn, ?_⟩
    cases r1 with
    | @cons _ v' _ us' rv rn =>
      cases rn
      show wpAny _ _ (call (.ref C) [v']) _ _ _
      have hlim := I1.nolimit
      obtain ⟨mb, b1, b2⟩ := I1.mod.blt
      have hsup : mb "super" = some (.type "super") := (b2 "super" (by decide)).trans (by first | rfl | decide +kernel)
      have hK := I1.kIn
      have hgl := I1.mod.glob.keeps I1.bk
      have hbl := b1.keeps I1.bk
      obtain ⟨hp, g, dr, tk, os⟩ := s1
      refine wpAny_call (DLX.made_walk T hK hgl hbl hsup hlim (by have := hr.dp; omega) fun h' tk' e d M => ?_)
      show MkP X pins σ Q (.ref e) ⟨h', g, dr, tk', os⟩
      obtain ⟨oe, fv, hoe, hc, hd, hdat, h1⟩ := M.obj
      have hns := M.ns
      obtain ⟨G', g1, g2⟩ := restrict h' fun b => decide (b ≠ e)
      have gk : ∀ b, b ≠ e → G'.get? b = h'.get? b := fun b hb => g1 b (decide_eq_true hb)
      have ge : G'.get? e = none := g2 e (by simp)
      have old : ∀ b o, hp.get? b = some o → G'.get? b = some o := fun b o q => (gk b (Nat.ne_of_lt (Nat.lt_of_lt_of_le (Heap.lt_size q) M.new))).trans (M.keep b o q)
      have ob : ObjOk X.prog X.w (upd H1 d (.xd [(f, v)])) G' d (.xd [(f, v)]) := ⟨_, hns.at (fun o q => (gk d M.dne).trans q), fun g => xd_one rv⟩
      have J : Inv X pins σ (upd H1 d (.xd [(f, v)])) ⟨G', g, dr, tk', os⟩ := I1.laid (t' := tk') old M.dbig ob
      refine ⟨e, oe, fv, ⟨G', g, dr, tk', os⟩, _, .ref C, some d, rfl, J, fun b o q => ?_, ge, hoe, ⟨hc, hd⟩, hdat, h1, ?_, rfl, I1.bare, raises_own T.exC T.tyC, q1 d (I1.hok.fresh M.dbig)⟩
      · by_cases hb : b = e
        · have q' : G'.get? b = some o := q
          rw [hb, ge] at q'; cases q'
        · exact (gk b hb).symm.trans q
      · rw [upd_ne (Ne.symm M.dne)]
        exact I1.hok.fresh M.new

section
variable {X : Cx} {Γ : Ctx} {W : WX} {π : List Bool} {q : Bool} {e : Expr} {pos : Pos}
/-- raise C(e), C the class c -/
def raiseS (c : Nat) (f : Env → R D) (env : Env) : R Fl := (f env).bind fun d e1 => .err c d e1
theorem ds_raise {c : Nat} {fld x : Str} {f : Env → R D} {p p2 : Pos} {k : Nat} (hc : X.calm = true) (tk : Takes X W) (T : DLX.ExT X.prog X.K X.mg (Γ.cls c) fld) (hf : exnOf Γ c = fld) (hr : Room k X.A) (h : DF X Γ W q e f) (hg : Gl X x) (hm : X.mg x = some (.ref (Γ.cls c))) (hdb : (x == ("__debug__" : Str)) = false := by decide)
    (he : starEach (e :: []) X.env = (false, eval e X.env) :: starEach [] X.env := by rfl) (hpl : (backTo p2 (starEach [] X.env)).any (·.1) = false := by rfl) : DS X Γ W π (.Raise (some (.Call (.Name x p) [e] [] p2)) none pos) (raiseS c f) :=
  PS.imp (ps_raise hc tk (pmk_exT T hr (pa_cons h pa_nil he) hg hm hdb he hpl)) fun D σ H ⟨Z, env, F, r, s, pp⟩ => ⟨Z, env, F, r, s, PQ.bind pp fun d e1 _ p1 v Z1 H1 F1 n _ hd => ⟨v, rfl, fun dd hdd => by
    have gr := Grow.new1 n.sep.sub (o := .xd [(fld, v)]) hdd
    exact p1 σ .refl dd v _ _ F1 (n.grow gr) (by rw [hf]; exact upd_same) (hd.mono gr.fz)⟩⟩
/-! ### try: body, except X as n: suite. i: n's slot -/
def tryS (cat : Nat → Option Bool) (i : Nat) (body : Env → R Fl) (suite : Nat → D → Env → R Fl) (env : Env) : R Fl := if i < env.length then (match body env with
  | .err c x e => (match cat c with
    | some true => (match suite c x (e.set i none) with
      | .ok .nx e2 => .ok .nx (e2.set i none)
      | .ok .bk e2 => .ok .bk (e2.set i none)
      | .ok .ct e2 => .ok .ct (e2.set i none)
      | .ok (.ret o) e2 => .ok (.ret o) e2
      | _ => .bad)
    | some false => .err c x e
    | none => .bad)
  | r => r) else .bad
/-- within a suite: what it knows of the exception that it holds -/
structure Held (Γ : Ctx) (i : Nat) (a : Addr) (cls : Value) (d : Option Addr) (c : Nat) (x : D) (σ : St) (Z : Hp) : Prop where
  cl : cls = .ref (Γ.cls c)
  at_ : σ[i]? = some (some (.ref a))
  dict : ∃ dd v, d = some dd ∧ Z dd = some (.xd [(exnOf Γ c, v)]) ∧ Den Γ Z v x
theorem Held.mono {i : Nat} {a : Addr} {cls : Value} {d : Option Addr} {c : Nat} {x : D} {σ : St} {Z Z' : Hp} (h : Held Γ i a cls d c x σ Z) (z : ∀ a o, Z a = some o → Z' a = some o) : Held Γ i a cls d c x σ Z' :=
  ⟨h.cl, h.at_, let ⟨dd, v, h1, h2, h3⟩ := h.dict; ⟨dd, v, h1, z _ _ h2, h3.mono z⟩⟩
def tXS (Γ : Ctx) (π : List Bool) (i : Nat) (f : Nat → D → Env → R Fl) (a : Addr) (cls : Value) (d : Option Addr) : TS := fun D σ H => ∃ Z env F c x, Held Γ i a cls d c x σ Z ∧ Rel Γ Z H σ env F ∧ Sep Z H F ∧ PQ Γ W0 π σ ⟨F, H, Z⟩ (f c x env) D
def tXF (Γ : Ctx) (i : Nat) (q : Bool) (f : Nat → D → Env → R DL.D) (a : Addr) (cls : Value) (d : Option Addr) : TE := fun σ H Q => ∃ Z env F c x, Held Γ i a cls d c x σ Z ∧ Rel Γ Z H σ env F ∧ Sep Z H F ∧ PR Γ W0 σ ⟨F, H, Z⟩ (f c x env) (okF Γ σ q ⟨F, H, Z⟩ Q)
def tXA (Γ : Ctx) (i : Nat) (q : Bool) (f : Nat → D → Env → R (List DL.D)) (a : Addr) (cls : Value) (d : Option Addr) : TA := fun σ H Q => ∃ Z env F c x, Held Γ i a cls d c x σ Z ∧ Rel Γ Z H σ env F ∧ Sep Z H F ∧ PR Γ W0 σ ⟨F, H, Z⟩ (f c x env) (okA Γ σ q ⟨F, H, Z⟩ Q)
def tXT (Γ : Ctx) (i : Nat) (q : Bool) (f : Nat → D → Env → R Bool) (a : Addr) (cls : Value) (d : Option Addr) : TT := fun σ H Q => ∃ Z env F c x, Held Γ i a cls d c x σ Z ∧ Rel Γ Z H σ env F ∧ Sep Z H F ∧ PR Γ W0 σ ⟨F, H, Z⟩ (f c x env) (okT Γ σ q ⟨F, H, Z⟩ Q)
theorem Now.none {σ : St} {B : Base} {env : Env} {Z H : Hp} {F : FS} (n : Now Γ σ B env Z H F) (i : Nat) (v : Option V) : ∃ F', Now Γ (σ.set i v) B (env.set i none) Z H F' := by
  obtain ⟨G, h1, h2⟩ := n.rel.hide (i := i)
  refine ⟨G, h1.reslot (by simp) fun j ⟨o, hj⟩ => ?_, ⟨n.sep.sub, fun b hb => n.sep.out b (h2 b hb)⟩, n.step.drop h2⟩
  by_cases e : i = j
  · subst e
    by_cases hl : i < env.length
    · rw [List.getElem?_set_self hl] at hj; cases hj
    · rw [List.getElem?_eq_none (by simp; omega)] at hj; cases hj
  · rw [List.getElem?_set_ne e]
theorem ds_tryAs {i : Nat} {n x : Str} {C : Addr} {cat : Nat → Option Bool} {f : Env → R Fl} {g : Nat → D → Env → R Fl} {body suite : List Stmt} {b₀ : Stmt} {np pos' : Pos} (hs : X.stack = X.env :: X.outer) (hf : X.env.frame = some X.env.locals) (hN : X.N.Nodup) (hi : X.N[i]? = some n) (hln : X.env.kindOf n = some .local) (hc : Names X x (.ref C)) (tk : Takes X W) (hp : π[i]? ≠ some true)
    (hcat : ∀ c b, cat c = some b → PySem.W.exmOne X.K (.ref (Γ.cls c)) (.ref C) = some b)
    (hb : ∀ (W : WX) (pn : List (Addr × Obj)) (xe : Value → Shared → Prop), Takes (X.tr pn xe) W → PassesOwn (model X.prog X.w) X.A X.env xe → DSs (X.tr pn xe) Γ W π body f)
    (hsu : ∀ (a : Addr) (oe : Obj) (cls : Value) (d : Option Addr) (pn : List (Addr × Obj)), Zc cls d oe → (∃ vs, oe.data = .fields vs) → PSs (X.suite a ((a, oe) :: pn)) (b₀ :: suite) (tXS Γ π i g a cls d)) :
    DS X Γ W π (.Try body [.ExceptHandler (some (.Name x np)) (some n) (b₀ :: suite) pos'] [] [] pos) (tryS cat i f g) :=
  PS.imp (ps_try_as hs hf hN hi hln hc tk hb hsu) fun D σ H ⟨Z, env, F, r, s, p⟩ => by
    refine ⟨Z, env, F, r, s, ?_⟩
    unfold tryS at p
    by_cases hil : i < env.length
    · rw [if_pos hil] at p
      cases hf : f env with
      | ok fl e => rw [hf] at p; exact p
      | bad => rw [hf] at p; exact p
      | err c x e =>
        rw [hf] at p
        simp only at p
        intro σ1 pr dd v Z1 H1 F1 n1 hdd hx
        cases hcc : cat c with
        | none => rw [hcc] at p; exact p.elim
        | some b =>
          rw [hcc] at p
          refine ⟨b, hcat c b hcc, fun hbt a ha => ?_, fun hbf => ?_⟩
          · subst hbt
            simp only at p
            obtain ⟨F2, n2⟩ := n1.none i (some (.ref a))
            have hσl : i < σ1.length := by rw [pr.len, r.len]; exact hil
            refine ⟨Z1, e.set i none, F2, c, x, ⟨rfl, List.getElem?_set_self hσl, dd, v, rfl, hdd, hx⟩, n2.rel, n2.sep, ?_⟩
            have prs : Pre π σ (σ1.set i (some (.ref a))) := pr.trans (.set hp)
            cases hg : g c x (e.set i none) with
            | ok fl e2 =>
              rw [hg] at p
              have p' : PQ Γ W π (σ1.set i (some (.ref a))) ⟨F2, H1, Z1⟩ _ D := PQ.from p n2.step prs
              cases fl with
              | ret o => exact p'
              | nx =>
                intro σ3 Z3 H3 F3 n3 pr3
                obtain ⟨F4, n4⟩ := n3.none i none
                exact p' _ Z3 H3 F4 n4 (pr3.trans (.set hp))
              | bk =>
                intro σ3 Z3 H3 F3 n3 pr3
                obtain ⟨F4, n4⟩ := n3.none i none
                exact p' _ Z3 H3 F4 n4 (pr3.trans (.set hp))
              | ct =>
                intro σ3 Z3 H3 F3 n3 pr3
                obtain ⟨F4, n4⟩ := n3.none i none
                exact p' _ Z3 H3 F4 n4 (pr3.trans (.set hp))
            | err c' x' e2 => rw [hg] at p; exact p.elim
            | bad => rw [hg] at p; exact p.elim
          · subst hbf
            simp only at p
            exact p σ1 pr dd v Z1 H1 F1 n1 hdd hx
    · rw [if_neg hil] at p; exact p.elim
end
end DL
end

section
set_option Elab.async false
set_option linter.all false
set_option maxRecDepth 100000
set_option maxHeartbeats 4000000
/-! The layer D: within an except suite. -/
namespace DL
open PySem L2
section
variable {X : Cx} {Γ : Ctx} {π : List Bool} {q qa qb : Bool} {e : Expr} {es : List Expr} {pos : Pos} {i : Nat} {a : Addr} {cls : Value} {d : Option Addr} {b b2 : Stmt} {sts : List Stmt}
theorem xf_lift {f : Env → R D} (h : DF X Γ W0 q e f) : PE X e (tXF Γ i q (fun _ _ => f) a cls d) := PE.imp h fun σ H Q ⟨Z, env, F, _, _, _, r, s, p⟩ => ⟨Z, env, F, r, s, p⟩
theorem xa_nil : PA X [] (tXA Γ i true (fun _ _ env => .ok [] env) a cls d) := PA.imp pa_nil fun σ H Q ⟨Z, env, F, _, _, _, r, s, p⟩ => p [] Z H F (.start r s) (fun _ => rfl) ⟨rfl, fun i v d h => by simp at h⟩
def consX (f : Nat → D → Env → R D) (g : Nat → D → Env → R (List D)) (c : Nat) (x : D) (env : Env) : R (List D) := (f c x env).bind fun d e1 => (g c x e1).bind fun ds e2 => .ok (d :: ds) e2
theorem xa_cons {f : Nat → D → Env → R D} {g : Nat → D → Env → R (List D)} (h : PE X e (tXF Γ i qa f a cls d)) (t : PA X es (tXA Γ i qb g a cls d)) (hs : starEach (e :: es) X.env = (false, eval e X.env) :: starEach es X.env := by rfl) : PA X (e :: es) (tXA Γ i (qa && qb) (consX f g) a cls d) :=
  PA.imp (pa_cons h t hs) fun σ H Q ⟨Z, env, F, c, x, hd, r, s, p⟩ => ⟨Z, env, F, c, x, hd, r, s, PR.bind p fun d1 e1 _ p1 v Z1 H1 F1 n1 q1 w1 => ⟨Z1, e1, F1, c, x, hd.mono n1.step.fz, n1.rel, n1.sep, PR.bindS p1 n1.step fun ds e2 _ p2 vs Z2 H2 F2 n2 q2 w2 => p2 (v :: vs) Z2 H2 F2 (n2.from n1.step) (fun z => by
    have z := Bool.and_eq_true_iff.mp z
    exact (q2 z.2).trans (q1 z.1)) (.cons (w1.mono n2.step.fz) w2)⟩⟩
def tupX (f : Nat → D → Env → R (List D)) (c : Nat) (x : D) (env : Env) : R D := (f c x env).bind fun ds e => if ds.length ≤ sizeLine then .ok (.tup ds) e else .bad
theorem xf_tup {f : Nat → D → Env → R (List D)} {x1} (h : PA X es (tXA Γ i q f a cls d)) : PE X (.Tuple es x1 pos) (tXF Γ i false (tupX f) a cls d) :=
  PE.imp (pe_tup h) fun σ H Q ⟨Z, env, F, c, x, hd, r, s, p⟩ => ⟨Z, env, F, c, x, hd, r, s, PR.bind p fun ds e1 _ p1 vs Z1 H1 F1 n hq c => by
    by_cases hl : ds.length ≤ sizeLine
    · rw [if_pos hl] at p1
      refine ⟨by rw [c.1]; exact hl, fun p' hp => ?_⟩
      obtain ⟨gr, hd⟩ := tupNew n.sep.sub hp c
      exact p1 _ _ _ F1 (n.grow gr) (fun z => nomatch z) hd
    · rw [if_neg hl] at p1; exact p1.elim⟩
/-- e.f, e the exception -/
def attrX (exF : List Str) (f : Str) (c : Nat) (x : D) (env : Env) : R D := if exF[c]? = some f then .ok x env else .bad
theorem xd_at {P : Program} {w : World} {H : Hp} {h : Heap} {dd : Addr} {f : Str} {v : V} (x : ObjOk P w H h dd (.xd [(f, v)])) : ∃ od u, h.get? dd = some od ∧ RelV v u ∧ PySem.W.lookIn f od = some (some u) := by
  obtain ⟨mA, hns, hr⟩ := x
  obtain ⟨od, ho, hl⟩ := lookIn_ns hns
  have l : List.lookup f [(f, v)] = some v := by simp [List.lookup]
  obtain ⟨u, hu, ru⟩ := RelO.some_of (v := v) (o := mA f) (by rw [← l]; exact hr f)
  exact ⟨od, u, ho, ru, by rw [hl, hu]⟩
theorem xf_attr {exF : List Str} {f : Str} {oe : Obj} {pn : List (Addr × Obj)} {n : Expr} (hz : Zc cls d oe) (hf : ∃ vs, oe.data = .fields vs) (hE : ∀ c, exF[c]? = some f → DLX.ExT X.prog X.K X.mg (Γ.cls c) f ∧ exnOf Γ c = f) (he : PE (X.suite a ((a, oe) :: pn)) n (tVar i))
    (hb : attributeBase n f X.env (eval n X.env) = eval n X.env := by rfl) : PE (X.suite a ((a, oe) :: pn)) (.Attribute n f pos) (tXF Γ i true (attrX exF f) a cls d) := by
  refine ⟨fun pins s σ H Q I ⟨Z, env, F, c, x, hd, r, s', p⟩ => ?_⟩
  obtain ⟨ec, hat, dd, v, ed, hdd, hx⟩ := hd
  refine attr_of hb (thn (he.run pins s σ H (fun v H1 => v = .ref a ∧ H1 = H) I ⟨.ref a, hat, rfl, rfl⟩) fun u s1 ⟨x1, H1, I1, rx, ex, eH⟩ => ?_)
  subst ex eH
  obtain rfl : u = Value.ref a := rx
  unfold attrX at p
  split at p
  · rename_i hc
    obtain ⟨T, hfl⟩ := hE c hc
    rw [hfl] at hdd
    obtain ⟨ha, _⟩ := I1.pin (a, oe) (List.mem_append_left _ List.mem_cons_self)
    obtain ⟨vs, hdat⟩ := hf
    obtain ⟨od, u, ho, ru, hu⟩ := xd_at (I1.hok dd _ (s'.sub _ _ hdd))
    have J : PySem.W.InstAt s1.heap a oe (Γ.cls c) (some od) := ⟨ha, hz.1.trans ec, by unfold PySem.W.notCls; rw [hdat] <;> rfl, by rw [hz.2, ed]; exact ho⟩
    exact HandSPX.exc_get I1.kIn J T.ga T.gg T.exC (PySem.W.findObj_own T.hdC T.noF rfl hu) (handed_of ru) ⟨v, H1, I1.tok _, ru, p v Z H1 F (.start r s') (fun _ => rfl) hx⟩
  · exact p.elim
/-- isinstance(e, C), e the exception -/
def isX (sub : Nat → Option Bool) (c : Nat) (_ : D) (env : Env) : R D := match sub c with
  | some b => .ok (.bl b) env
  | none => .bad
theorem xf_isi {exF : List Str} {sub : Nat → Option Bool} {oe : Obj} {pn : List (Addr × Obj)} {n : Expr} {x y : Str} {V : Addr} {p p2 : Pos} (hz : Zc cls d oe) (hf : ∃ vs, oe.data = .fields vs) (hE : ∀ c b, sub c = some b → (∃ f, DLX.ExT X.prog X.K X.mg (Γ.cls c) f ∧ exnOf Γ c = f) ∧ PySem.W.kitOne X.K (.ref (Γ.cls c)) (.ref V) = some b) (he : PE (X.suite a ((a, oe) :: pn)) n (tVar i))
    (hgl : Gl X x) (hm : X.mg x = none) (hv : bootBuiltins x = some (.builtin "isinstance")) (hy : PE (X.suite a ((a, oe) :: pn)) (.Name y p2) (tC (.ref V))) (hn : x ≠ "__name__" := by decide) (hdb : (x == ("__debug__" : Str)) = false := by decide)
    (h1 : starEach (n :: [.Name y p2]) X.env = (false, eval n X.env) :: starEach [.Name y p2] X.env := by rfl) (h2 : starEach (.Name y p2 :: []) X.env = (false, eval (.Name y p2) X.env) :: starEach [] X.env := by rfl) (hpl : (backTo pos (starEach [.Name y p2] X.env)).any (·.1) = false := by rfl) :
    PE (X.suite a ((a, oe) :: pn)) (.Call (.Name x p) [n, .Name y p2] [] pos) (tXF Γ i true (isX sub) a cls d) := by
  have call : CallR (X.suite a ((a, oe) :: pn)) (.builtin "isinstance") (fun xs H Q => xs = [.ref a, .ref V] ∧ ∃ Z env F c x σ, Held Γ i a cls d c x σ Z ∧ Sep Z H F ∧ Rel Γ Z H σ env F ∧ PR Γ W0 σ ⟨F, H, Z⟩ (isX sub c x env) (okF Γ σ true ⟨F, H, Z⟩ Q)) := by
    intro pins s σ H xs us Q I r h
    obtain ⟨rfl, Z, env, F, c, x, σ', hd, s', r', p⟩ := h
    obtain ⟨ec, hat, dd, v, ed, hdd, hx⟩ := hd
    unfold isX at p
    cases hs : sub c with
    | none => rw [hs] at p; exact p.elim
    | some b =>
      rw [hs] at p
      obtain ⟨⟨f, T, hfl⟩, hk⟩ := hE c b hs
      rw [hfl] at hdd
      cases r with
      | cons rx rr =>
        cases rr with
        | cons rt rr =>
          cases rr
          cases rx
          cases rt
          obtain ⟨ha, _⟩ := I.pin (a, oe) (List.mem_append_left _ List.mem_cons_self)
          obtain ⟨vs, hdat⟩ := hf
          obtain ⟨od, u, ho, ru, hu⟩ := xd_at (I.hok dd _ (s'.sub _ _ hdd))
          have J : PySem.W.InstAt s.heap a oe (Γ.cls c) (some od) := ⟨ha, hz.1.trans ec, by unfold PySem.W.notCls; rw [hdat] <;> rfl, by rw [hz.2, ed]; exact ho⟩
          obtain ⟨cd, hcl, _⟩ := PySem.W.any_some T.hdC
          exact PySem.W.kia_one (PySem.W.kitx_exc (by rw [hcl]; rfl) T.ga T.gg T.exC T.ca T.gs T.tk T.ob) I.kIn J hk (fun z => nomatch z) fun tk => ⟨.bl b, H, I.kept (t' := tk) fun _ _ z => z, rfl, p (.bl b) Z H F (.start r' s') (fun _ => rfl) (.bl b)⟩
  exact PE.imp (pe_callB call hgl hm hv (pa_cons he (pa_cons hy pa_nil h2) h1) hn hdb h1 hpl) fun σ H Q ⟨Z, env, F, c, x, hd, r, s, p⟩ => ⟨.ref a, hd.at_, rfl, Z, env, F, c, x, σ, hd, s, r, p⟩
def testX (f : Nat → D → Env → R D) (c : Nat) (x : D) (env : Env) : R Bool := (f c x env).bind fun d e => match d with
  | .bl b => .ok b e
  | _ => .bad
theorem xt_val {f : Nat → D → Env → R D} (h : PE X e (tXF Γ i q f a cls d)) (he : ∀ whole, isTrue e X.env whole = (do let v ← whole; standAt e.pos; holding [v] (truthy v)) := by intro _; rfl) : PT X e (tXT Γ i q (testX f) a cls d) :=
  PT.imp (pt_val h he) fun σ H Q ⟨Z, env, F, c, x, hd, r, s, p⟩ => ⟨Z, env, F, c, x, hd, r, s, PR.bind p fun d e1 _ p1 v Z1 H1 F1 n hq hd => by
    cases hd with
    | bl b => exact ⟨b, rfl, p1 Z1 H1 F1 n hq⟩
    | _ => exact p1.elim⟩
def retX (f : Nat → D → Env → R D) (c : Nat) (x : D) (env : Env) : R Fl := (f c x env).bind fun d e => .ok (.ret (.fz d)) e
theorem xs_ret {f : Nat → D → Env → R D} (h : PE X e (tXF Γ i q f a cls d)) : PS X (.Return (some e) pos) (tXS Γ π i (retX f) a cls d) :=
  PS.imp (ps_ret h) fun D σ H ⟨Z, env, F, c, x, hd, r, s, p⟩ => ⟨Z, env, F, c, x, hd, r, s, PQ.bind p fun d e1 _ p1 v Z1 H1 F1 n hq w =>
    p1 σ v Z1 H1 (fun _ => False) F1 (.fz w fun _ h => h) n.rel (fun _ h => h.elim) ⟨n.sep.sub, fun b h => n.sep.out b (h.resolve_left fun z => z)⟩ (n.step.drop fun b h => h.resolve_left fun z => z) .refl⟩
def ifX (t : Nat → D → Env → R Bool) (f g : Nat → D → Env → R Fl) (c : Nat) (x : D) (env : Env) : R Fl := (t c x env).bind fun b e => if b then f c x e else g c x e
theorem xs_if {t : Nat → D → Env → R Bool} {f g : Nat → D → Env → R Fl} {s1 s2 : List Stmt} (ht : PT X e (tXT Γ i q t a cls d)) (h1 : PSs X s1 (tXS Γ π i f a cls d)) (h2 : PSs X s2 (tXS Γ π i g a cls d)) : PS X (.If e s1 s2 pos) (tXS Γ π i (ifX t f g) a cls d) :=
  PS.imp (ps_if ht h1 h2) fun D σ H ⟨Z, env, F, c, x, hd, r, s, p⟩ => ⟨Z, env, F, c, x, hd, r, s, PQ.bind p fun b e1 _ p1 Z1 H1 F1 n _ => by
    cases b with
    | true => exact ⟨Z1, e1, F1, c, x, hd.mono n.step.fz, n.rel, n.sep, p1.from n.step .refl⟩
    | false => exact ⟨Z1, e1, F1, c, x, hd.mono n.step.fz, n.rel, n.sep, p1.from n.step .refl⟩⟩
def skipX (_ : Nat) (_ : D) (env : Env) : R Fl := .ok .nx env
theorem xs_nil : PSs X [] (tXS Γ π i skipX a cls d) := PSs.imp pss_nil fun D σ H ⟨Z, env, F, _, _, _, r, s, p⟩ => p σ Z H F (.start r s) .refl
theorem xs_one {f : Nat → D → Env → R Fl} (h : PS X b (tXS Γ π i f a cls d)) : PSs X [b] (tXS Γ π i f a cls d) := pss_one h
end
end DL
end

section
set_option Elab.async false
set_option linter.all false
set_option maxRecDepth 100000
set_option maxHeartbeats 4000000
/-! The layer D: repr of nested lists and tuples, where no repr is under way. -/
namespace DL
open PySem L2
mutual
def showD : D → Option PyData
  | .non => some .none
  | .bl b => some (.bool b)
  | .int i => some (.int i)
  | .str s => some (.str s)
  | .tup ds => (showDs ds).map .tuple
  | .lst ds => (showDs ds).map .list
  | .rol ds => (showDs ds).map .list
  | _ => none
def showDs : List D → Option (List PyData)
  | [] => some []
  | d :: ds => (showD d).bind fun p => (showDs ds).map (p :: ·)
end
mutual
theorem showD_noDict : ∀ {d : D} {p : PyData}, showD d = some p → p.hasDict = false
  | .non, p, h => by simp [showD] at h; subst h; simp [PyData.hasDict]
  | .bl b, p, h => by simp [showD] at h; subst h; simp [PyData.hasDict]
  | .int i, p, h => by simp [showD] at h; subst h; simp [PyData.hasDict]
  | .str s, p, h => by simp [showD] at h; subst h; simp [PyData.hasDict]
  | .tup ds, p, h => by
    simp only [showD, Option.map_eq_some_iff] at h
    obtain ⟨ps, h1, rfl⟩ := h
    simpa [PyData.hasDict] using showDs_noDict h1
  | .lst ds, p, h => by
    simp only [showD, Option.map_eq_some_iff] at h
    obtain ⟨ps, h1, rfl⟩ := h
    simpa [PyData.hasDict] using showDs_noDict h1
  | .rol ds, p, h => by
    simp only [showD, Option.map_eq_some_iff] at h
    obtain ⟨ps, h1, rfl⟩ := h
    simpa [PyData.hasDict] using showDs_noDict h1
  | .dic _, p, h => by simp [showD] at h
  | .dct _, p, h => by simp [showD] at h
  | .obj _ _, p, h => by simp [showD] at h
theorem showDs_noDict : ∀ {ds : List D} {ps : List PyData}, showDs ds = some ps → PyData.hasDictAll ps = false
  | [], ps, h => by simp [showDs] at h; subst h; simp [PyData.hasDictAll]
  | d :: ds, ps, h => by
    simp only [showDs, Option.bind_eq_some_iff, Option.map_eq_some_iff] at h
    obtain ⟨p, h1, qs, h2, rfl⟩ := h
    simp [PyData.hasDictAll, showD_noDict h1, showDs_noDict h2]
end
section
variable {X : Cx} {Γ : Ctx} {W : WX} {q : Bool} {e : Expr} {pos : Pos}
theorem reads_all {h : Heap} : ∀ {vs : List V} {its : List Value} {ds : List D} {ps : List PyData}, Vals vs its → vs.length = ds.length → (∀ (i : Nat) v d, vs[i]? = some v → ds[i]? = some d → ∀ p u, showD d = some p → RelV v u → ∃ as, Reads h u p as) → showDs ds = some ps → ∃ as, ReadsAll h its ps as
  | [], its, ds, ps, r, hl, k, e => by
    cases r
    have : ds = [] := List.length_eq_zero_iff.mp hl.symm
    subst this
    simp [showDs] at e; subst e
    exact ⟨_, .nil⟩
  | v :: vs, its, [], ps, r, hl, k, e => by simp at hl
  | v :: vs, its, d :: ds, ps, r, hl, k, e => by
    simp only [showDs, Option.bind_eq_some_iff, Option.map_eq_some_iff] at e
    obtain ⟨p, h1, qs, h2, rfl⟩ := e
    cases r with
    | cons ru rs =>
      obtain ⟨as, h3⟩ := k 0 v d rfl rfl p _ h1 ru
      obtain ⟨bs, h4⟩ := reads_all rs (by simpa using hl) (fun i v d h1 h2 => k (i + 1) v d (by simpa using h1) (by simpa using h2)) h2
      exact ⟨_, .cons h3 h4⟩
theorem reads_of {pins : List (Addr × Obj)} {σ : St} {H Z : Hp} {s : Shared} {v : V} {d : D} (hK : X.K = Γ.K) (I : Inv X pins σ H s) (z : ∀ a o, Z a = some o → H a = some o) (hd : Den Γ Z v d) : ∀ p u, showD d = some p → RelV v u → ∃ as, Reads s.heap u p as := by
  induction hd with
  | non => intro p u h r; simp [showD] at h; subst h; cases r; exact ⟨_, .none⟩
  | bl b => intro p u h r; simp [showD] at h; subst h; cases r; exact ⟨_, .bool b⟩
  | int i => intro p u h r; simp [showD] at h; subst h; obtain ⟨t, rfl⟩ := r; exact ⟨_, .int i t⟩
  | str x => intro p u h r; simp [showD] at h; subst h; obtain ⟨t, rfl⟩ := r; exact ⟨_, .str x t⟩
  | @tup a vs ds sq l c ih =>
    intro p u h r
    simp only [showD, Option.map_eq_some_iff] at h
    obtain ⟨ps, h1, rfl⟩ := h
    cases r
    obtain ⟨its, rv, pt, hz⟩ := I.tuple (by rw [hK]; exact sqT_mono z sq)
    obtain ⟨as, ra⟩ := reads_all rv l ih h1
    obtain ⟨o, ho, hc, n, hdt⟩ := (show s.heap.IsTuple a its.toArray from pt)
    exact ⟨_, .tuple ho hc hdt (by simpa using ra)⟩
  | @lst a vs ds sq l c ih =>
    intro p u h r
    simp only [showD, Option.map_eq_some_iff] at h
    obtain ⟨ps, h1, rfl⟩ := h
    cases r
    obtain ⟨its, rv, pt, hz⟩ := I.list (by rw [hK]; exact SqL.of (z _ _ sq))
    obtain ⟨as, ra⟩ := reads_all rv l ih h1
    obtain ⟨o, ho, hc, n, hdt⟩ := pt.isList
    exact ⟨_, .list ho hc hdt (by simpa using ra)⟩
  | @rol a vs ds sq l c ih =>
    intro p u h r
    simp only [showD, Option.map_eq_some_iff] at h
    obtain ⟨ps, h1, rfl⟩ := h
    cases r
    obtain ⟨its, rv, pt, hz⟩ := I.list (by rw [hK]; exact sqL_mono z sq)
    obtain ⟨as, ra⟩ := reads_all rv l ih h1
    obtain ⟨o, ho, hc, n, hdt⟩ := pt.isList
    exact ⟨_, .list ho hc hdt (by simpa using ra)⟩
  | dic _ _ _ _ => intro p u h; simp [showD] at h
  | dct _ _ _ _ => intro p u h; simp [showD] at h
  | obj _ _ _ _ _ _ => intro p u h; simp [showD] at h
def isSeq : D → Bool
  | .tup _ | .lst _ | .rol _ => true
  | _ => false
/-- repr(e) -/
def reprC (d : D) : Option D := match showD d with
  | some p => if isSeq d = true ∧ p.showable = true ∧ p.depth ≤ 100 ∧ p.shown.length ≤ sizeLine then some (.str p.shown) else none
  | none => none
def rRepr (Γ : Ctx) : List V → Hp → VK → Prop := fun xs H Q => ∃ v d p Z, xs = [v] ∧ (∀ a o, Z a = some o → H a = some o) ∧ Den Γ Z v d ∧ showD d = some p ∧ isSeq d = true ∧ p.showable = true ∧ p.depth ≤ 100 ∧ p.shown.length ≤ sizeLine ∧ Q (.str p.shown) H
theorem call_repr (hK : X.K = Γ.K) (hG : X.A.guards = some []) (hu : X.A.units + 200 < cLine) : CallR X (.builtin "repr") (rRepr Γ) := by
  intro pins s σ H xs us Q I r h
  obtain ⟨v, d, p, Z, rfl, z, hd, hp, hs, h1, h2, h3, q⟩ := h
  cases r with
  | cons ru rr =>
    cases rr
    obtain ⟨as, ra⟩ := reads_of hK I z hd p _ hp ru
    have fin : ∀ {a : Addr}, Reads s.heap (.ref a) p as → wpAny (model X.prog X.w) X.A (call (.builtin "repr") [.ref a]) (EP X pins σ Q) X.xe s := fun {a} ra =>
      repr_of_reads' ra h1 (PyData.noDict_hsm (showD_noDict hp)) hG (by omega) (fun _ _ e => e) (fun h' u tk hk => ⟨.str p.shown, H, I.kept hk, ⟨u, rfl⟩, q⟩) h3
    cases hd with
    | tup _ _ _ => cases ru; exact fin ra
    | lst _ _ _ => cases ru; exact fin ra
    | rol _ _ _ => cases ru; exact fin ra
    | _ => cases hs
theorem df_repr {f : Env → R D} {x : Str} {p : Pos} (hK : X.K = Γ.K) (hG : X.A.guards = some []) (hu : X.A.units + 200 < cLine) (ha : DF X Γ W q e f) (hgl : Gl X x) (hm : X.mg x = none) (hv : bootBuiltins x = some (.builtin "repr")) (hn : x ≠ "__name__" := by decide) (hdb : (x == ("__debug__" : Str)) = false := by decide)
    (he : starEach (e :: []) X.env = (false, eval e X.env) :: starEach [] X.env := by rfl) (hpl : (backTo pos (starEach [] X.env)).any (·.1) = false := by rfl) : DF X Γ W q (.Call (.Name x p) [e] [] pos) (optF reprC f) :=
  PE.imp (pe_callB (call_repr hK hG hu) hgl hm hv (pa_cons ha pa_nil he) hn hdb he hpl) fun σ H Q ⟨Z, env, F, r, s, pp⟩ => ⟨Z, env, F, r, s, PR.bind pp fun d e1 _ p1 v Z1 H1 F1 n hq hd => by
    unfold reprC at p1
    cases hs : showD d with
    | none => rw [hs] at p1; exact p1.elim
    | some pd =>
      rw [hs] at p1
      simp only at p1
      by_cases hc : isSeq d = true ∧ pd.showable = true ∧ pd.depth ≤ 100 ∧ pd.shown.length ≤ sizeLine
      · rw [if_pos hc] at p1
        exact ⟨v, d, pd, Z1, rfl, n.sep.sub, hd, hs, hc.1, hc.2.1, hc.2.2.1, hc.2.2.2, p1 _ Z1 H1 F1 n hq (.str _)⟩
      · rw [if_neg hc] at p1; exact p1.elim⟩
end
end DL
end

section
set_option Elab.async false
set_option linter.all false
set_option maxRecDepth 100000
set_option maxHeartbeats 4000000
/-! The layer D: the law's own def, at the caller's place, where no repr is under way (HandS's fn_of and law_call, told of one place). -/
namespace L2
open PySem PySem.Spec PyProof.Rows
def RunsAt (P : Program) (w : World) (K : PySem.W.Frag) (mg : Str → Option Value) (base : Heap) (CX : CXT) (A : Around) (f : Addr) (fd : FuncData) (ps : List Str) (sp : Sp) : Prop :=
  ∀ (outer : List Env) (s : Shared) (H : Hp) (args : Args) (us : List Value) (vs : List V) (Q : VK) (E : XK), Env0 P w K mg base A outer s H → BindsTo s fd args (ps.zip us) → Vals vs us → sp vs H Q E →
    codeAny (model P w) A (.call (.ref f) args) (CR CX outer P w H s Q E) s
theorem fn_at {A : Around} {CX : CXT} {P : Program} {w : World} {K : PySem.W.Frag} {mg : Str → Option Value} {base : Heap} {k : Nat} {f : Addr} {name qual : Str} {params : Arguments} {body : List Stmt} {scope : Scope} {dV kV doc pm cdv ct oc : Value} {an od : Option Addr}
    {osl : Array (Option Value)} {N ps : List Str} {sp : Sp} (lk : K.lookup f = some ⟨oc, od, .func (PySem.W.fnOf name qual params body scope dV kV doc pm an cdv ct), osl⟩) (hcd : PySem.W.codeIn K cdv qual = true) (S : FnScope N ps scope)
    (len : ∀ vs H Q E, sp vs H Q E → vs.length = ps.length)
    (hr : Room (k + 1) A) (hbody : ∀ (outer : List Env) (s : Shared) (H : Hp) (vs : List V) (Q : VK) (E : XK), Room k (A.deeper (envOfC qual scope s.heap.objs.size f cdv)) → sp vs H Q E →
      ∃ t, PSs (cxOf CX P w K mg base N qual scope f cdv A outer s H E) body t ∧ t { nx := fun _ H' => Q .non H', rt := Q } (start N vs) H) :
    RunsAt P w K mg base CX A f (PySem.W.fnOf name qual params body scope dV kV doc pm an cdv ct) ps sp := by
  intro outer s H args us vs Q E e0 hb r hsp
  have hl := len _ _ _ _ hsp
  have KX : K.In s.heap := e0.mod.kin.keeps fun b o e => (e0.bs b o e).1
  have lim : s.heap.NoLimit := e0.mod.nolimit.keeps fun b o e => (e0.bs b o e).1
  have hkind : ∀ y ∈ ps.zip us, scope.names.lookup y.1 = some .local ∨ (scope.names.lookup y.1 = some .cell ∧ ((cellsFrom (s.heap.objs.size + 1) scope.names []).lookup y.1).isSome = true) := fun ⟨n, v⟩ hy => by
    rcases S.par n (List.of_mem_zip hy).1 with q | q
    · exact .inl q
    · exact .inr ⟨q, PySem.W.cellsFrom_some _ _ _ (.inl q)⟩
  refine codeAny_call_function hr.depth (KX _ _ lk) rfl S.co S.gen rfl (PySem.W.codeRec_of KX hcd) (hb _ _ _ _ ?_)
  refine wpAny_newFunctionEnv_cells S.kind hkind fun env he s1 x => ?_
  subst he
  refine ⟨lim.keeps x.toInCall.keep, codeAny_func ?_⟩
  obtain ⟨t, ht, hq⟩ := hbody outer s H vs Q E (hr.deeper _) hsp
  have I : Inv (cxOf CX P w K mg base N qual scope f cdv A outer s H E) [] (start N vs) H s1 := inv_start S hr.hd e0 hl r x
  refine wpAny_mono (ht.run [] s1 (start N vs) H _ I hq) (fun fl s' hs => ?_) fun e s' hs => hs
  have fin : ∀ {σ' : St} {H' : Hp} {v : V} {u : Value}, Inv (cxOf CX P w K mg base N qual scope f cdv A outer s H E) [] σ' H' s' → RelV v u → Q v H' → CE outer P w H s Q u s' :=
    fun {σ' H' v u} J rv q => ⟨v, H', J.os, J.bare, J.base, J.hok, rv, q⟩
  cases fl with
  | ret u =>
    obtain ⟨v, σ', H', J, rv, q⟩ := hs
    exact fin J rv q
  | next =>
    obtain ⟨σ', H', J, q⟩ := hs
    exact fin (v := V.non) (u := Value.none) J rfl q
  | brk =>
    obtain ⟨_, _, _, q⟩ := hs
    exact False.elim q
  | cont =>
    obtain ⟨_, _, _, q⟩ := hs
    exact False.elim q

theorem law_callA {P : Program} {w : World} {K : PySem.W.Frag} {mg mb : Str → Option Value} {CX : CXT} {fa a : Addr} {fd : FuncData} {x : Str} {sp : Sp} {s₁ : Shared} {vs : List Value} {ns : List Int}
    (KX : K.In s₁.heap) (hns : s₁.heap.Ns mainGlobals mg) (hb : s₁.heap.Ns builtinsNs mb) (hbb : ∀ x : Str, x ≠ "__name__" → mb x = bootBuiltins x) (hlim : s₁.heap.NoLimit) (hg : s₁.gens = #[])
    (ha : s₁.heap.get? a = some { cls := .type "list", data := .seq vs.toArray }) (hi : IntsAre vs ns) (hl : ns.length ≤ sizeLine) 
    (F : ∀ base : Heap, K.In base → base.Ns mainGlobals mg → RunsAt P w K mg base CX callerA fa fd [x] sp) (hbind : ∀ (s : Shared) (u : Value), BindsTo s fd ⟨[u], []⟩ [(x, u)])
    (hsp : ∀ H : Hp, Only H → SqL K H a (ns.map V.int) → sp [.ref a] H (fun v _ => v = .bl true) fun _ _ _ => False)
    (hCX : ∀ H e s', CX [] H s₁ (fun _ _ _ => False) e s' → False) :
    codeAny (model P w) callerA (.call (.ref fa) ⟨[.ref a], []⟩) (fun r s' => r = .ok (.ret (.bool true)) ∧ OldK s₁.heap s'.heap ∧ s'.os = s₁.os ∧ AllBare s'.gens) s₁ := by
  have rv := vals_ints hi
  have lenV := hi.length
  -- from an abstract heap in which nothing but the script may be tracked
  have core : ∀ H : Hp, Only H → SqL K H a (ns.map V.int) → HOk P w H s₁.heap → (∀ b, H b ≠ none → b = a) → (H a ≠ none → K.lookup a = none) →
      codeAny (model P w) callerA (.call (.ref fa) ⟨[.ref a], []⟩) (fun r s' => r = .ok (.ret (.bool true)) ∧ OldK s₁.heap s'.heap ∧ s'.os = s₁.os ∧ AllBare s'.gens) s₁ := by
    intro H hO hS hok hA hK
    have base_of : ∀ {b : Addr} {o : Obj}, s₁.heap.get? b = some o → H b = none → (hidT s₁.heap H).get? b = some o := fun e n => hidT_get e n
    have noA : ∀ {b : Addr} {o : Obj} {es : Array DictEntry} {ep : Nat}, s₁.heap.get? b = some o → o.data = .dict es ep → H b = none := fun {b o es ep} e d => by
      cases q : H b with
      | none => rfl
      | some u =>
        have e' : b = a := hA b (by rw [q]; simp)
        subst e'
        rw [ha] at e; cases e
        have d' : Data.seq vs.toArray _ = Data.dict es ep := d
        cases d'
    have nsK : ∀ {b : Addr} {m : Str → Option Value}, s₁.heap.Ns b m → (hidT s₁.heap H).Ns b m := fun {b m} ⟨o, es, ep, e, d, r⟩ => ⟨o, es, ep, base_of e (noA e d), d, r⟩
    have hKb : K.In (hidT s₁.heap H) := fun b o e => base_of (KX b o e) (by
      cases q : H b with
      | none => rfl
      | some u =>
        have e' : b = a := hA b (by rw [q]; simp)
        subst e'
        rw [hK (by rw [q]; simp)] at e; cases e)
    have hM : Mod K mg (hidT s₁.heap H) := ⟨hKb, nsK hns, ⟨mb, nsK hb, hbb⟩, let ⟨mc, h1, h2⟩ := hlim; ⟨mc, nsK h1, h2⟩⟩
    have e0 : Env0 P w K mg (hidT s₁.heap H) callerA [] s₁ H := ⟨rfl, hM, fun b o e => of_hidT e, Nat.le_of_eq (hidT_size _ _), trivial, fun b hb => absurd (show b ∈ ([] : List Addr) from hb) (by simp), hok, .of_eq hg⟩
    refine codeAny_mono ((F _ hKb (nsK hns)) [] s₁ H ⟨[.ref a], []⟩ [.ref a] [.ref a] _ _ e0 (hbind s₁ (.ref a)) (.cons rfl .nil) (hsp H hO hS)) fun r s' h => ?_
    cases r with
    | error e => exact (hCX H e s' h).elim
    | ok fl =>
      cases fl with
      | next => exact False.elim h
      | brk => exact False.elim h
      | cont => exact False.elim h
      | ret u =>
        obtain ⟨v, H', os, bare, un, hok', r', q⟩ := h
        have q' : v = .bl true := q
        subst q'
        obtain rfl : u = Value.bool true := r'
        refine ⟨rfl, OldK.of_keep fun b o e => ?_, os, bare⟩
        cases q : H b with
        | none => exact un.keep b o e q (by intro z; exact absurd (show b ∈ ([] : List Addr) from z) (by simp)) (by simp)
        | some u =>
          rcases hO b with z | ⟨ob, xs, z⟩
          · rw [q] at z; cases z
          · have z2 := un.frzs b ob _ z
            obtain ⟨e1, _⟩ := hok b _ z
            obtain ⟨e2, _⟩ := hok' b _ z2
            rw [e] at e1; cases e1
            exact e2
  cases hk : K.lookup a with
  | some o =>
    -- the script is one of the module's own objects
    have e := KX a o hk
    rw [ha] at e
    cases e
    refine core (fun _ => none) (fun _ => .inl rfl) (.inr ⟨_, vs.toArray, _, hk, rfl, rfl, rfl, by rw [List.size_toArray, lenV]; exact hl, by simpa using rv⟩) (fun b u z => by have z' : (none : Option HO) = some u := z; cases z') (fun b z => absurd rfl z) fun z => absurd rfl z
  | none =>
    refine core (fun b => if b = a then some (.frz { cls := .type "list", data := .seq vs.toArray } (.lst (ns.map V.int))) else none) (fun b => ?_) (.inl (.inr ⟨{ cls := .type "list", data := .seq vs.toArray }, if_pos rfl⟩)) (fun b u z => ?_) (fun b z => ?_) fun _ => hk
    · by_cases hb : b = a
      · exact .inr ⟨_, _, if_pos hb⟩
      · exact .inl (if_neg hb)
    · by_cases hb : b = a
      · have z' := (if_pos hb).symm.trans z
        cases z'
        subst hb
        exact ⟨ha, by rw [List.length_map]; exact hl, vs, _, rv, ha⟩
      · have z' := (if_neg hb).symm.trans z
        cases z'
    · by_cases hb : b = a
      · exact hb
      · exact absurd (if_neg hb) z

theorem FunD.runsAt {P : Program} {w : World} {K : PySem.W.Frag} {mg : Str → Option Value} {base : Heap} {x qual : Str} {params : Arguments} {body : List Stmt} {scope : Scope} {dvs : List V} {kws : List (Str × V)} {f : Addr} {fd : FuncData} {A : Around} {CX : CXT} {N ps : List Str} {k : Nat} {sp : Sp} (F : FunD K x qual params body scope dvs kws f fd) (S : FnScope N ps scope) (len : ∀ vs H Q E, sp vs H Q E → vs.length = ps.length) (hr : Room (k + 1) A)
    (hbody : ∀ (cdv : Value) (outer : List Env) (s : Shared) (H : Hp) (vs : List V) (Q : VK) (E : XK), Room k (A.deeper (envOfC qual scope s.heap.objs.size f cdv)) → sp vs H Q E →
      ∃ t, PSs (cxOf CX P w K mg base N qual scope f cdv A outer s H E) body t ∧ t { nx := fun _ H' => Q .non H', rt := Q } (start N vs) H) : RunsAt P w K mg base CX A f fd ps sp := by
  obtain ⟨oc, od, dV, kV, doc, pm, an, cdv, ct, osl, rfl, lk, hcd, _, _⟩ := F.ex
  exact fn_at lk hcd S len hr fun outer s H vs Q E hr hsp => hbody cdv outer s H vs Q E hr hsp
/-- a law: F gives the written part, the function object, the promise at the caller's place -/
theorem walk_ofA {l : PySem.W.OpenLaw} {n : Nat} {q : Program} {loose : List Str} {XP : (Str → Option Value) → Heap → Prop} {YP : World → Heap → Prop} {d : DefRec} {CX : CXT} {x : Str}
    (hn : l.most = some n) (hn2 : n ≤ sizeLine) (hdf : d.params.defaults = [])
    (F : ∀ (w : World) (mg : Str → Option Value) (fa : Addr) (h : Heap), YP w h → h.Ns mainGlobals mg → mg d.name = some (.ref fa) →
      ∃ (K : PySem.W.Frag) (fd : FuncData) (sp : Sp), K.In h ∧ (∀ (s : Shared) (u : Value), BindsTo s fd ⟨[u], []⟩ [(x, u)]) ∧
        (∀ (H : Hp) (a : Addr) (ns : List Int), ns.length ≤ n → Only H → SqL K H a (ns.map V.int) → sp [.ref a] H (fun v _ => v = .bl true) fun _ _ _ => False) ∧
        ∀ base : Heap, K.In base → base.Ns mainGlobals mg → RunsAt l.prog w K mg base CX callerA fa fd [x] sp)
    (hCX : ∀ (H : Hp) (s : Shared) (e : Value) (s' : Shared), CX [] H s (fun _ _ _ => False) e s' → False) :
    PySem.W.WalkO q loose XP YP l.row.toRowW d [] (fun f vs => PySem.call f vs) := by
  refine Att.attach_call hn hdf fun w s₀ s₁ mg mb fa o pm cd doc a vs ns G Y ho hd hcd hmg hobj hints hlen hg => ?_
  obtain ⟨K, fd, sp, KX, hb, hsp, hF⟩ := F w mg fa _ Y G.T.g hmg
  exact law_callA KX G.T.g G.T.b G.T.builtins G.T.nolimit hg hobj hints (Nat.le_trans hlen hn2) hF hb (fun H hO hS => hsp H a ns hlen hO hS) fun H e s' => hCX H s₁ e s'
end L2
end

section
set_option Elab.async false
set_option linter.all false
set_option maxRecDepth 100000
set_option maxHeartbeats 4000000
/-! The layer D: defs by name. -/
namespace DL
open PySem L2
theorem takes0 {X : Cx} : Takes X W0 := fun u s' x => by
  obtain ⟨_, _, _, _, _, _, _, _, _, _, _, _, _, _, _, _, w⟩ := x
  exact w.elim
/-- the def of the name x is known to do S -/
structure Able (P : Program) (w : World) (K : PySem.W.Frag) (mg : Str → Option Value) (base : Heap) (Γ : Ctx) (x : Str) (k n : Nat) (S : Env → R O) : Prop where
  ex : ∃ (f : Addr) (fd : FuncData) (ps : List Str), ps.length = n ∧ mg x = some (.ref f) ∧ FnOk P w K mg base (L2.CX P w) k f fd ps (spD Γ n S) ∧ PySem.W.keepIn K (.ref f) = true ∧ Binds K fd ps []
section
variable {P : Program} {w : World} {K : PySem.W.Frag} {mg : Str → Option Value} {base : Heap} {Γ : Ctx} {x : Str} {k n : Nat} {S : Env → R O}
/-- the body's context -/
abbrev bx (P : Program) (w : World) (K : PySem.W.Frag) (mg : Str → Option Value) (base : Heap) (N : List Str) (x : Str) (scope : Scope) (f : Addr) (cdv : Value) (A : Around) (outer : List PySem.Env) (s : Shared) (H : Hp) (E : XK) : Cx := cxOf (L2.CX P w) P w K mg base N x scope f cdv A outer s H E
theorem able {N ps : List Str} {π : List Bool} {params : Arguments} {body : List Stmt} {scope : Scope} {f : Addr} {fd : FuncData} {g : Env → R Fl} (F : FunD K x x params body scope [] [] f fd) (gl : mg x = some (.ref f)) (S : FnScope N ps scope) (hπ : π.length = ps.length) (hN : ps.length ≤ N.length) (hb : Binds K fd ps [])
    (hd : ∀ (cdv : Value) (A : Around) (outer : List PySem.Env) (s : Shared) (H : Hp) (E : XK), Room k (A.deeper (PyProof.Rows.envOfC x scope s.heap.objs.size f cdv)) → Takes (bx P w K mg base N x scope f cdv A outer s H E) (WD E) → PassesOwn (model P w) (bx P w K mg base N x scope f cdv A outer s H E).A (bx P w K mg base N x scope f cdv A outer s H E).env (bx P w K mg base N x scope f cdv A outer s H E).xe →
      DSs (bx P w K mg base N x scope f cdv A outer s H E) Γ (WD E) π body g) : Able P w K mg base Γ x (k + 1) ps.length (defF N.length π g) :=
  ⟨f, fd, ps, rfl, gl, F.ok S (fun vs H Q E h => h.1) fun cdv A outer s H vs Q E hr h => ⟨_, hd cdv A outer s H E hr (takes_of rfl rfl rfl rfl) (passes_of rfl), fn_body hπ hN h⟩, F.kp, hb⟩
/-- .. at no fuel -/
theorem able_bad {N ps : List Str} {params : Arguments} {body : List Stmt} {scope : Scope} {f : Addr} {fd : FuncData} (F : FunD K x x params body scope [] [] f fd) (gl : mg x = some (.ref f)) (S : FnScope N ps scope) (hb : Binds K fd ps []) : Able P w K mg base Γ x (k + 1) ps.length (fun _ => .bad) :=
  ⟨f, fd, ps, rfl, gl, F.ok S (fun vs H Q E h => h.1) fun cdv A outer s H vs Q E hr ⟨_, Z, env, F0, r, s', p⟩ => p.elim, F.kp, hb⟩
theorem Able.up {j : Nat} (a : Able P w K mg base Γ x k n S) (h : k ≤ j) : Able P w K mg base Γ x j n S := let ⟨f, fd, ps, h1, h2, h3, h4, h5⟩ := a.ex; ⟨f, fd, ps, h1, h2, h3.mono h, h4, h5⟩
end
section
variable {X : Cx} {Γ : Ctx} {W : WX} {x : Str} {k j : Nat} {S : Env → R O} {ms : List (Option Nat)} {e : Expr} {es : List Expr} {p pos : Pos}
theorem de_by {args : Env → R Env} (F : Able X.prog X.w X.K X.mg X.base Γ x j ms.length S) (hj : j ≤ k) (tk : Takes X W) (hr : Room k X.A) (hg : Gl X x) (ha : DAr X Γ W ms (e :: es) args) (hdb : (x == ("__debug__" : Str)) = false := by decide)
    (he : starEach (e :: es) X.env = (false, eval e X.env) :: starEach es X.env := by rfl) (hpl : (backTo pos (starEach es X.env)).any (·.1) = false := by rfl) : DE X Γ W (.Call (.Name x p) (e :: es) [] pos) (callE S ms args) := by
  obtain ⟨f, fd, ps, h1, h2, h3, h4, h5⟩ := F.ex
  exact de_call tk h3 (hr.mono hj) hg h2 h4 h5 ha hdb he hpl
theorem df_by {args : Env → R Env} (F : Able X.prog X.w X.K X.mg X.base Γ x j ms.length S) (hj : j ≤ k) (tk : Takes X W) (hr : Room k X.A) (hg : Gl X x) (ha : DAr X Γ W ms (e :: es) args) (hdb : (x == ("__debug__" : Str)) = false := by decide)
    (he : starEach (e :: es) X.env = (false, eval e X.env) :: starEach es X.env := by rfl) (hpl : (backTo pos (starEach es X.env)).any (·.1) = false := by rfl) : DF X Γ W false (.Call (.Name x p) (e :: es) [] pos) (fun env => (callE S ms args env).bind fun o e => .ok (frz o) e) := DE.toF (de_by F hj tk hr hg ha hdb he hpl)
end
/-- what a module tells -/
structure Mdl (fa : List He.Fa) (fn : List He.DefD) (K : PySem.W.Frag) (mg : Str → Option Value) (base : Heap) : Prop where
  says : He.SaysD fa fn K
  kin : K.In base
  ns : base.Ns mainGlobals mg
section
variable {fa : List He.Fa} {fn : List He.DefD} {K : PySem.W.Frag} {mg : Str → Option Value} {base : Heap}
theorem Mdl.def_ (M : Mdl fa fn K mg base) (i : Nat) {d : He.DefD} (h : fn[i]? = some d := by rfl) : ∃ fd, FunD K d.name d.qual d.params d.body d.scope (d.dvs K) (d.kws K) (He.fAd K d.at_) fd := M.says.def_ i h
theorem Mdl.glo (M : Mdl fa fn K mg base) (i : Nat) {x : Str} (h : fa[i]? = some (.glo x) := by rfl) : mg x = some (.ref (He.ga K x)) := He.glo_ok M.kin M.ns (M.says.fact i h)
theorem Mdl.free (M : Mdl fa fn K mg base) (i : Nat) {x : Str} (h : fa[i]? = some (.free x) := by rfl) : mg x = none := He.free_ok M.kin M.ns (M.says.fact i h)
theorem Mdl.int (M : Mdl fa fn K mg base) (i : Nat) {x : Str} {z : Int} (h : fa[i]? = some (.int x z) := by rfl) : ∃ t, mg x = some (.int z t) := He.int_ok M.kin M.ns (M.says.fact i h)
theorem Mdl.str (M : Mdl fa fn K mg base) (i : Nat) {x : Str} {z : Str} (h : fa[i]? = some (.str x z) := by rfl) : ∃ t, mg x = some (.str z t) := He.str_ok M.kin M.ns (M.says.fact i h)
end
section
variable {X : Cx} {Γ : Ctx} {W : WX} {x : Str} {pos : Pos}
theorem df_gint {z : Int} (hg : Gl X x) (hm : ∃ t, X.mg x = some (.int z t)) (hd : (x == ("__debug__" : Str)) = false := by decide) : DF X Γ W true (.Name x pos) (fun env => .ok (.int z) env) := let ⟨t, h⟩ := hm; df_c (v := .int z) (pe_glob (v := .int z) hg h ⟨t, rfl⟩ hd) fun _ => .int _
theorem df_gstr {z : Str} (hg : Gl X x) (hm : ∃ t, X.mg x = some (.str z t)) (hd : (x == ("__debug__" : Str)) = false := by decide) : DF X Γ W true (.Name x pos) (fun env => .ok (.str z) env) := let ⟨t, h⟩ := hm; df_c (v := .str z) (pe_glob (v := .str z) hg h ⟨t, rfl⟩ hd) fun _ => .str _
abbrev cF (d : D) (env : Env) : R D := .ok d env
abbrev tmV (f : Env → R D) (env : Env) : R AV := (f env).bind fun d e => .ok (.tm d) e
abbrev fzE (f : Env → R D) (env : Env) : R O := (f env).bind fun d e => .ok (.fz d) e
abbrev frF (f : Env → R O) (env : Env) : R D := (f env).bind fun o e => .ok (frz o) e
abbrev nilX (_ : Nat) (_ : D) (env : Env) : R (List D) := .ok [] env
theorem cr_lenK (hK : X.K = Γ.K) : CallR X (.builtin "len") (rLenA Γ.K) := by rw [← hK]; exact call_len.or call_lenD
theorem cr_listK (hK : X.K = Γ.K) : CallR X (.type "list") (fun xs H Q => ∃ p ys, xs = [.ref p] ∧ (SqL Γ.K H p ys ∨ SqT Γ.K H p ys) ∧ ∀ l, H l = none → Q (.ref l) (upd H l (.lst ys))) := by rw [← hK]; exact call_list_of
theorem cr_tupleK (hK : X.K = Γ.K) : CallR X (.type "tuple") (fun xs H Q => ∃ p ys, xs = [.ref p] ∧ ((SqL Γ.K H p ys ∧ ∀ l, H l = none → Q (.ref l) (upd H l (.tup ys))) ∨ (SqT Γ.K H p ys ∧ Q (.ref p) H))) := by rw [← hK]; exact call_tuple_of
theorem cr_allK (hK : X.K = Γ.K) (hc : X.calm = true) : CallR X (.builtin "all") (rAll Γ.K) := by rw [← hK]; exact cr_all hc
theorem pin_by {π : List Bool} {vs : List Nat} (h : ((List.range π.length).all fun i => vs.contains i || (π[i]? == some true)) = true) : PinAll π vs := fun i hi hv => by
  have := List.all_eq_true.mp h i (by simpa using hi)
  simp only [Bool.or_eq_true, beq_iff_eq] at this
  rcases this with z | z
  · exact absurd (by simpa using z) hv
  · exact z
theorem cr_lenA : CallR X (.builtin "len") (rLenA X.K) := call_len.or call_lenD
end
end DL
end

section
set_option Elab.async false
set_option linter.all false
set_option maxRecDepth 100000
set_option maxHeartbeats 4000000
namespace DL.GW50
open PySem L2
/-! ### the defs -/
def top (i : Nat) : Stmt := PySem.Challenge.pw_mendvault_k50_harms_by_own_lists.main.body.getD i (.Pass ⟨0, 0, 0, 0⟩)
abbrev st_is_integer : Stmt := top 4
def d_is_integer : He.DefD := ⟨("is_integer", none), "is_integer", "is_integer", defArgs st_is_integer, defBody st_is_integer, defScope st_is_integer, [], []⟩
abbrev st_is_from_to : Stmt := top 5
def d_is_from_to : He.DefD := ⟨("is_from_to", none), "is_from_to", "is_from_to", defArgs st_is_from_to, defBody st_is_from_to, defScope st_is_from_to, [], []⟩
abbrev st_is_place : Stmt := top 9
def d_is_place : He.DefD := ⟨("is_place", none), "is_place", "is_place", defArgs st_is_place, defBody st_is_place, defScope st_is_place, [], []⟩
abbrev st_is_change : Stmt := top 10
def d_is_change : He.DefD := ⟨("is_change", none), "is_change", "is_change", defArgs st_is_change, defBody st_is_change, defScope st_is_change, [], []⟩
abbrev st_is_let : Stmt := top 11
def d_is_let : He.DefD := ⟨("is_let", none), "is_let", "is_let", defArgs st_is_let, defBody st_is_let, defScope st_is_let, [], []⟩
abbrev st_changed : Stmt := top 12
def d_changed : He.DefD := ⟨("changed", none), "changed", "changed", defArgs st_changed, defBody st_changed, defScope st_changed, [], []⟩
abbrev st_harm_done : Stmt := top 13
def d_harm_done : He.DefD := ⟨("harm_done", none), "harm_done", "harm_done", defArgs st_harm_done, defBody st_harm_done, defScope st_harm_done, [], []⟩
abbrev st_harmed : Stmt := top 14
def d_harmed : He.DefD := ⟨("harmed", none), "harmed", "harmed", defArgs st_harmed, defBody st_harmed, defScope st_harmed, [], []⟩
abbrev st__law_mixed : Stmt := top 16
def d__law_mixed : He.DefD := ⟨("_law_mixed", none), "_law_mixed", "_law_mixed", defArgs st__law_mixed, defBody st__law_mixed, defScope st__law_mixed, [], []⟩
abbrev st__law_pool : Stmt := top 17
def d__law_pool : He.DefD := ⟨("_law_pool", none), "_law_pool", "_law_pool", defArgs st__law_pool, defBody st__law_pool, defScope st__law_pool, [], []⟩
abbrev st__law_draw : Stmt := top 18
def d__law_draw : He.DefD := ⟨("_law_draw", none), "_law_draw", "_law_draw", defArgs st__law_draw, defBody st__law_draw, defScope st__law_draw, [], []⟩
abbrev st__law_same : Stmt := top 19
def d__law_same : He.DefD := ⟨("_law_same", none), "_law_same", "_law_same", defArgs st__law_same, defBody st__law_same, defScope st__law_same, [], []⟩
abbrev st__law_wrong_volume : Stmt := top 20
def d__law_wrong_volume : He.DefD := ⟨("_law_wrong_volume", none), "_law_wrong_volume", "_law_wrong_volume", defArgs st__law_wrong_volume, defBody st__law_wrong_volume, defScope st__law_wrong_volume, [], []⟩
abbrev st__law_integers : Stmt := top 21
def d__law_integers : He.DefD := ⟨("_law_integers", none), "_law_integers", "_law_integers", defArgs st__law_integers, defBody st__law_integers, defScope st__law_integers, [], []⟩
abbrev st__law_harm : Stmt := top 22
def d__law_harm : He.DefD := ⟨("_law_harm", none), "_law_harm", "_law_harm", defArgs st__law_harm, defBody st__law_harm, defScope st__law_harm, [], []⟩
abbrev st__law_spoilt : Stmt := top 23
def d__law_spoilt : He.DefD := ⟨("_law_spoilt", none), "_law_spoilt", "_law_spoilt", defArgs st__law_spoilt, defBody st__law_spoilt, defScope st__law_spoilt, [], []⟩
abbrev st__law_is_wrong : Stmt := top 24
def d__law_is_wrong : He.DefD := ⟨("_law_is_wrong", none), "_law_is_wrong", "_law_is_wrong", defArgs st__law_is_wrong, defBody st__law_is_wrong, defScope st__law_is_wrong, [], []⟩
abbrev st__law_done : Stmt := top 25
def d__law_done : He.DefD := ⟨("_law_done", none), "_law_done", "_law_done", defArgs st__law_done, defBody st__law_done, defScope st__law_done, [], []⟩
abbrev st__law_due : Stmt := top 26
def d__law_due : He.DefD := ⟨("_law_due", none), "_law_due", "_law_due", defArgs st__law_due, defBody st__law_due, defScope st__law_due, [], []⟩
abbrev st__law_told : Stmt := top 27
def d__law_told : He.DefD := ⟨("_law_told", none), "_law_told", "_law_told", defArgs st__law_told, defBody st__law_told, defScope st__law_told, [], []⟩
abbrev st__law_handed : Stmt := top 28
def d__law_handed : He.DefD := ⟨("_law_handed", none), "_law_handed", "_law_handed", defArgs st__law_handed, defBody st__law_handed, defScope st__law_handed, [], []⟩
abbrev st_law : Stmt := top 29
def d_law : He.DefD := ⟨("law", none), "law", "law", defArgs st_law, defBody st_law, defScope st_law, [], []⟩
def fnL : List He.DefD := [d_is_integer, d_is_from_to, d_is_place, d_is_change, d_is_let, d_changed, d_harm_done, d_harmed, d__law_mixed, d__law_pool, d__law_draw, d__law_same, d__law_wrong_volume, d__law_integers, d__law_harm, d__law_spoilt, d__law_is_wrong, d__law_done, d__law_due, d__law_told, d__law_handed, d_law]
def faL : List He.Fa := [.free "isinstance", .free "int", .free "bool", .free "list", .free "tuple", .free "len", .int "MOST_CHANGED" 4, .int "GREATEST" 128, .free "all", .free "max", .free "enumerate", .free "range", .free "str", .free "repr", .glo "is_integer", .glo "is_from_to", .glo "is_place", .glo "is_change", .glo "is_let", .glo "changed", .glo "harm_done", .glo "harmed", .glo "_law_mixed", .glo "_law_pool", .glo "_law_draw", .glo "_law_same", .glo "_law_wrong_volume", .glo "_law_integers", .glo "_law_harm", .glo "_law_spoilt", .glo "_law_is_wrong", .glo "_law_done", .glo "_law_due", .glo "_law_told", .glo "_law_handed", .glo "law"]
/-! ### what they compute -/
def exF : List Str := ["at"]
def cat_BadValue : Nat → Option Bool := fun c => if c = 0 then some true else none
def is_VaultError : Nat → Option Bool := fun c => if c = 0 then some true else none
def s_is_integer : Env → R Fl := retS (fzE (andF (fun1 (isiD "int") (varV 0)) (notF (fun1 (isiD "bool") (varV 0)))))
def S_is_integer : Env → R O := defF 1 [true] s_is_integer
def s_is_from_to : Env → R Fl := retS (fzE (andF (frF (callE S_is_integer [none] (valAr (fzE (load (varV 0))) (nilAr)))) (chainF leD leD (load (varV 1)) (load (varV 0)) (load (varV 2)))))
def S_is_from_to : Env → R O := defF 3 [true, true, true] s_is_from_to
def s_is_place : Env → R Fl := retS (fzE (andF (frF (callE S_is_integer [none] (valAr (fzE (load (varV 0))) (nilAr)))) (opF geD (varV 0) (tmV (cF (.int 0))) true)))
def S_is_place : Env → R O := defF 1 [true] s_is_place
def s_is_change : Env → R Fl := seqS (ifS (orT (notT (testF (frF (callE S_is_place [none] (valAr (fzE (load (varV 0))) (nilAr)))))) (orT (notT (testF (optF (isi2D "list" "tuple") (load (varV 1))))) (notT (testF (chainF leD leD (cF (.int 1)) (fun1 lenC (varV 1)) (cF (.int 4))))))) (retS (fzE (cF (.bl false)))) (skipS)) (retS (fzE (fun1 allC (tmV (frF (lcE [true, true, false] [2] (seqI (load (varV 1))) (nameG 2) (yesT) (callE S_is_from_to [none, none, none] (valAr (fzE (load (varV 2))) (valAr (fzE (cF (.int 0))) (valAr (fzE (cF (.int 128))) (nilAr)))))))))))
def S_is_change : Env → R O := defF 3 [true, true] s_is_change
def s_is_let : Env → R Fl := seqS (ifS (notT (testF (frF (callE S_is_from_to [none, none, none] (valAr (fzE (load (itemV (varV 0) (cF (.int 1)) true))) (valAr (fzE (cF (.int 0))) (valAr (fzE (opF subD (varV 1) (tmV (cF (.int 1))) true)) (nilAr)))))))) (retS (fzE (cF (.bl false)))) (skipS)) (seqS (ifS (testF (opF eqD (itemV (varV 0) (cF (.int 0)) true) (tmV (cF (.str "change"))) true)) (retS (callE S_is_change [none, none] (valAr (fzE (load (itemV (varV 0) (cF (.int 2)) true))) (valAr (fzE (load (itemV (varV 0) (cF (.int 3)) true))) (nilAr))))) (skipS)) (seqS (ifS (testF (opF eqD (itemV (varV 0) (cF (.int 0)) true) (tmV (cF (.str "cut"))) true)) (retS (fzE (andF (frF (callE S_is_place [none] (valAr (fzE (load (itemV (varV 0) (cF (.int 2)) true))) (nilAr)))) (andF (frF (callE S_is_integer [none] (valAr (fzE (load (itemV (varV 0) (cF (.int 3)) true))) (nilAr)))) (opF leD (itemV (varV 0) (cF (.int 2)) true) (itemV (varV 0) (cF (.int 3)) true) true))))) (skipS)) (retS (fzE (orF (opF neD (itemV (varV 0) (cF (.int 0)) true) (tmV (cF (.str "turn"))) true) (frF (callE S_is_from_to [none, none, none] (valAr (fzE (load (itemV (varV 0) (cF (.int 2)) true))) (valAr (fzE (cF (.int 0))) (valAr (fzE (opF subD (varV 1) (tmV (cF (.int 1))) true)) (nilAr)))))))))))
def S_is_let : Env → R O := defF 2 [true, true] s_is_let
def s_changed : Env → R Fl := seqS (setS 3 (fzE (sliceF (tmV (fun1 tupleC (varV 2))) (noP) (someP (opF max2D (tmV (cF (.int 0))) (tmV (opF subD (tmV (fun1 lenC (varV 0))) (varV 1) true)) true)) true true))) (retS (fzE (opF addD (tmV (opF addD (tmV (sliceF (varV 0) (noP) (someP (load (varV 1))) true true)) (varV 3) true)) (tmV (sliceF (varV 0) (someP (opF addD (varV 1) (tmV (fun1 lenC (varV 3))) true)) (noP) false true)) false)))
def S_changed : Env → R O := defF 4 [true, true, true] s_changed
def s_harm_done : Env → R Fl := seqS (asgS (tupG 2 (consG (nameG 2) (consG (nameG 3) (nilG)))) (sliceF (varV 1) (noP) (someP (cF (.int 2))) true true)) (seqS (setS 4 (fun1L listC (varV 0))) (seqS (ifS (testF (opF eqD (varV 2) (tmV (cF (.str "lose"))) true)) (setIS (fzE (tupF (nilA))) (varV 4) (load (varV 3)) true) (ifS (testF (opF eqD (varV 2) (tmV (cF (.str "change"))) true)) (setIS (callE S_changed [none, none, none] (valAr (fzE (load (itemV (varV 4) (load (varV 3)) true))) (valAr (fzE (load (itemV (varV 1) (cF (.int 2)) true))) (valAr (fzE (load (itemV (varV 1) (cF (.int 3)) true))) (nilAr))))) (varV 4) (load (varV 3)) true) (ifS (testF (opF eqD (varV 2) (tmV (cF (.str "cut"))) true)) (setIS (fzE (opF addD (tmV (sliceF (itemV (varV 4) (load (varV 3)) true) (noP) (someP (load (itemV (varV 1) (cF (.int 2)) true))) true true)) (tmV (sliceF (itemV (varV 4) (load (varV 3)) true) (someP (load (itemV (varV 1) (cF (.int 3)) true))) (noP) true true)) false)) (varV 4) (load (varV 3)) true) (ifS (testF (opF eqD (varV 2) (tmV (cF (.str "turn"))) true)) (seqS (setIS (fzE (load (itemV (varV 0) (load (itemV (varV 1) (cF (.int 2)) true)) true))) (varV 4) (load (varV 3)) true) (setIS (fzE (load (itemV (varV 0) (load (varV 3)) true))) (varV 4) (load (itemV (varV 1) (cF (.int 2)) true)) true)) (appendS (varV 4) (fzE (load (itemV (varV 4) (load (varV 3)) true)))))))) (retS (moveE 4))))
def S_harm_done : Env → R O := defF 5 [true, true] s_harm_done
def s_harmed : Env → R Fl := seqS (setS 2 (lcE [true, true, true, false, true, true] [3] (seqI (load (varV 0))) (nameG 3) (yesT) (fzE (fun1 tupleC (varV 3))))) (seqS (forL (enumI (load (varV 1))) (tupG 2 (consG (nameG 4) (consG (nameG 5) (nilG)))) (seqS (ifS (notT (testF (frF (callE S_is_let [none, none] (valAr (fzE (load (varV 5))) (valAr (fzE (fun1 lenC (varV 2))) (nilAr))))))) (raiseS 0 (load (varV 4))) (skipS)) (setS 2 (callE S_harm_done [none, none] (valAr (fzE (load (varV 2))) (valAr (fzE (load (varV 5))) (nilAr))))))) (retS (fzE (fun1 tupleC (varV 2)))))
def S_harmed : Env → R O := defF 6 [true, true] s_harmed
def s__law_mixed : Env → R Fl := seqS (setS 2 (fzE (opF modD (tmV (opF addD (tmV (opF addD (tmV (opF mulD (tmV (opF modD (tmV (fun1 intC (varV 0))) (tmV (cF (.int 1000003))) true)) (tmV (cF (.int 48271))) true)) (tmV (opF mulD (tmV (opF modD (tmV (fun1 intC (varV 1))) (tmV (cF (.int 999983))) true)) (tmV (cF (.int 69621))) true)) true)) (tmV (cF (.int 12345))) true)) (tmV (cF (.int 2147483647))) true))) (seqS (setS 3 (fzE (opF modD (tmV (opF addD (tmV (opF addD (tmV (opF addD (tmV (opF mulD (varV 2) (varV 2) true)) (tmV (opF mulD (varV 2) (tmV (cF (.int 40692))) true)) true)) (tmV (opF mulD (tmV (opF modD (tmV (fun1 intC (varV 1))) (tmV (cF (.int 65537))) true)) (tmV (cF (.int 16807))) true)) true)) (tmV (cF (.int 7))) true)) (tmV (cF (.int 2147483629))) true))) (retS (fzE (opF modD (tmV (opF addD (tmV (opF mulD (varV 3) (tmV (cF (.int 48271))) true)) (tmV (opF fdivD (varV 2) (tmV (cF (.int 127))) true)) true)) (tmV (cF (.int 2147483647))) true))))
def S__law_mixed : Env → R O := defF 4 [true, true] s__law_mixed
def s__law_pool : Env → R Fl := retS (lstE (consA (frF (fun1L listC (varV 0))) (consA (cF (.int 0)) (consA (cF (.int 0)) (consA (cF (.int 0)) (consA (cF (.int 0)) (consA (cF .non) (nilA))))))))
def S__law_pool : Env → R O := defF 1 [true] s__law_pool
def s__law_draw : Env → R Fl := seqS (setS 2 (fzE (load (itemV (varV 0) (cF (.int 2)) true)))) (seqS (ifS (andT (testF (opF ltD (varV 2) (tmV (cF (.int 2))) true)) (testF (opF ltD (itemV (varV 0) (cF (.int 1)) true) (tmV (fun1 lenC (itemV (varV 0) (cF (.int 0)) true))) true))) (seqS (setS 3 (fzE (load (itemV (varV 0) (cF (.int 0)) true)))) (seqS (setS 4 (fzE (load (itemV (varV 3) (load (itemV (varV 0) (cF (.int 1)) true)) true)))) (seqS (setIS (fzE (opF addD (itemV (varV 0) (cF (.int 1)) true) (tmV (cF (.int 1))) true)) (varV 0) (cF (.int 1)) true) (seqS (ifS (testF (opF geD (varV 4) (tmV (opF powD (tmV (cF (.int 10))) (tmV (cF (.int 18))) true)) true)) (seqS (setS 2 (fzE (opF subD (varV 4) (tmV (opF powD (tmV (cF (.int 10))) (tmV (cF (.int 18))) true)) true))) (seqS (setIS (fzE (opF fdivD (varV 2) (varV 1) true)) (varV 0) (cF (.int 2)) true) (seqS (setIS (fzE (cF (.int 60))) (varV 0) (cF (.int 4)) true) (retS (fzE (opF modD (tmV (fun1 intC (varV 2))) (varV 1) true)))))) (skipS)) (setIS (callE S__law_mixed [none, none] (valAr (fzE (opF addD (itemV (varV 0) (cF (.int 3)) true) (varV 4) true)) (valAr (fzE (load (itemV (varV 0) (cF (.int 1)) true))) (nilAr)))) (varV 0) (cF (.int 3)) true))))) (ifS (testF (opF ltD (varV 2) (tmV (cF (.int 2))) true)) (seqS (setIS (fzE (opF addD (itemV (varV 0) (cF (.int 1)) true) (tmV (cF (.int 1))) true)) (varV 0) (cF (.int 1)) true) (setIS (callE S__law_mixed [none, none] (valAr (fzE (load (itemV (varV 0) (cF (.int 3)) true))) (valAr (fzE (opF addD (tmV (cF (.int 77))) (itemV (varV 0) (cF (.int 1)) true) true)) (nilAr)))) (varV 0) (cF (.int 3)) true)) (seqS (setIS (fzE (opF subD (itemV (varV 0) (cF (.int 4)) true) (tmV (cF (.int 1))) true)) (varV 0) (cF (.int 4)) true) (seqS (setIS (fzE (opF mulD (tmV (opF fdivD (varV 2) (varV 1) true)) (tmV (fun1 intC (tmV (opF gtD (itemV (varV 0) (cF (.int 4)) true) (tmV (cF (.int 0))) true)))) true)) (varV 0) (cF (.int 2)) true) (retS (fzE (opF modD (tmV (fun1 intC (varV 2))) (varV 1) true))))))) (seqS (setIS (fzE (cF (.int 0))) (varV 0) (cF (.int 2)) true) (retS (fzE (opF modD (tmV (fun1 intC (itemV (varV 0) (cF (.int 3)) true))) (varV 1) true)))))
def S__law_draw : Env → R O := defF 5 [true, true] s__law_draw
def s__law_same (S_ : Env → R O) : Env → R Fl := seqS (ifS (testF (opF isND (varV 1) (tmV (cF .non)) true)) (retS (fzE (opF isND (varV 0) (tmV (cF .non)) true))) (skipS)) (seqS (ifS (testF (fun1 (isiD "tuple") (varV 1))) (seqS (ifS (orT (notT (testF (fun1 (isiD "tuple") (varV 0)))) (testF (opF neD (tmV (fun1 lenC (varV 0))) (tmV (fun1 lenC (varV 1))) true))) (retS (fzE (cF (.bl false)))) (skipS)) (seqS (forL (range1I (consA (fun1 lenC (varV 1)) (nilA))) (nameG 2) (ifS (notT (testF (frF (callE S_ [none, none] (valAr (fzE (load (itemV (varV 0) (load (varV 2)) true))) (valAr (fzE (load (itemV (varV 1) (load (varV 2)) true))) (nilAr))))))) (retS (fzE (cF (.bl false)))) (skipS))) (retS (fzE (cF (.bl true)))))) (skipS)) (seqS (ifS (testF (fun1 (isiD "bool") (varV 1))) (retS (fzE (andF (fun1 (isiD "bool") (varV 0)) (opF eqD (varV 0) (varV 1) true)))) (skipS)) (seqS (ifS (testF (fun1 (isiD "int") (varV 1))) (retS (fzE (andF (fun1 (isiD "int") (varV 0)) (andF (notF (fun1 (isiD "bool") (varV 0))) (opF eqD (varV 0) (varV 1) true))))) (skipS)) (seqS (ifS (testF (fun1 (isiD "list") (varV 1))) (retS (fzE (andF (fun1 (isiD "list") (varV 0)) (frF (callE S_ [none, none] (valAr (fzE (fun1 tupleC (varV 0))) (valAr (fzE (fun1 tupleC (varV 1))) (nilAr)))))))) (skipS)) (retS (fzE (andF (fun1 (isiD "str") (varV 0)) (opF eqD (varV 0) (varV 1) true))))))))
def S__law_same : Nat → Env → R O
  | 0 => fun _ => .bad
  | n + 1 => defF 3 [true, true] (s__law_same (S__law_same n))
def s__law_wrong_volume : Env → R Fl := retS (fzE (load (itemV (tmV (frF (lstE (consA (optF negD (cF (.int 1))) (consA (load (varV 1)) (consA (opF addD (tmV (opF addD (varV 1) (tmV (cF (.int 1))) true)) (tmV (frF (callE S__law_draw [some 0, none] (lendAr 0 (valAr (fzE (cF (.int 1000))) (nilAr)))))) false) (consA (opF subD (tmV (optF negD (cF (.int 2)))) (tmV (frF (callE S__law_draw [some 0, none] (lendAr 0 (valAr (fzE (cF (.int 1000))) (nilAr)))))) false) (nilA)))))))) (frF (callE S__law_draw [some 0, none] (lendAr 0 (valAr (fzE (cF (.int 4))) (nilAr))))) false)))
def S__law_wrong_volume : Env → R O := defF 2 [true, true] s__law_wrong_volume
def s__law_integers : Env → R Fl := seqS (setS 1 (lcE [true, true, false] [2] (range1I (consA (opF addD (tmV (cF (.int 1))) (tmV (frF (callE S__law_draw [some 0, none] (lendAr 0 (valAr (fzE (cF (.int 4))) (nilAr)))))) false) (nilA))) (nameG 2) (yesT) (fzE (load (itemV (tmV (frF (lstE (consA (frF (callE S__law_draw [some 0, none] (lendAr 0 (valAr (fzE (cF (.int 129))) (nilAr))))) (consA (cF (.int 128)) (consA (cF (.int 0)) (nilA))))))) (frF (callE S__law_draw [some 0, none] (lendAr 0 (valAr (fzE (cF (.int 3))) (nilAr))))) false))))) (seqS (ifS (testF (opF eqD (tmV (frF (callE S__law_draw [some 0, none] (lendAr 0 (valAr (fzE (cF (.int 2))) (nilAr)))))) (tmV (cF (.int 0))) true)) (retS (fzE (fun1 tupleC (varV 1)))) (skipS)) (retS (moveE 1)))
def S__law_integers : Env → R O := defF 3 [true] s__law_integers
def s__law_harm : Env → R Fl := seqS (setS 2 (callE S__law_draw [some 0, none] (lendAr 0 (valAr (fzE (opF max2D (tmV (cF (.int 1))) (varV 1) true)) (nilAr))))) (seqS (setS 3 (callE S__law_draw [some 0, none] (lendAr 0 (valAr (fzE (cF (.int 6))) (nilAr))))) (seqS (ifS (testF (opF eqD (varV 3) (tmV (cF (.int 0))) true)) (retS (fzE (tupF (consA (cF (.str "lose")) (consA (load (varV 2)) (nilA)))))) (skipS)) (seqS (ifS (testF (opF eqD (varV 3) (tmV (cF (.int 1))) true)) (retS (fzE (tupF (consA (cF (.str "turn")) (consA (load (varV 2)) (consA (frF (callE S__law_draw [some 0, none] (lendAr 0 (valAr (fzE (opF max2D (tmV (cF (.int 1))) (varV 1) true)) (nilAr))))) (nilA))))))) (skipS)) (seqS (ifS (testF (opF eqD (varV 3) (tmV (cF (.int 2))) true)) (retS (fzE (tupF (consA (cF (.str "double")) (consA (load (varV 2)) (nilA)))))) (skipS)) (seqS (setS 4 (fzE (load (itemV (tmV (frF (lstE (consA (frF (callE S__law_draw [some 0, none] (lendAr 0 (valAr (fzE (cF (.int 13))) (nilAr))))) (consA (frF (callE S__law_draw [some 0, none] (lendAr 0 (valAr (fzE (cF (.int 13))) (nilAr))))) (consA (cF (.int 0)) (consA (frF (callE S__law_draw [some 0, none] (lendAr 0 (valAr (fzE (cF (.int 100000))) (nilAr))))) (nilA)))))))) (frF (callE S__law_draw [some 0, none] (lendAr 0 (valAr (fzE (cF (.int 4))) (nilAr))))) false)))) (seqS (ifS (testF (opF eqD (varV 3) (tmV (cF (.int 3))) true)) (retS (fzE (tupF (consA (cF (.str "cut")) (consA (load (varV 2)) (consA (load (varV 4)) (consA (opF addD (varV 4) (itemV (tmV (frF (lstE (consA (cF (.int 0)) (consA (frF (callE S__law_draw [some 0, none] (lendAr 0 (valAr (fzE (cF (.int 13))) (nilAr))))) (consA (cF (.int 12)) (consA (frF (callE S__law_draw [some 0, none] (lendAr 0 (valAr (fzE (cF (.int 100000))) (nilAr))))) (nilA)))))))) (frF (callE S__law_draw [some 0, none] (lendAr 0 (valAr (fzE (cF (.int 4))) (nilAr))))) false) false) (nilA)))))))) (skipS)) (retS (fzE (tupF (consA (cF (.str "change")) (consA (load (varV 2)) (consA (load (varV 4)) (consA (frF (callE S__law_integers [some 0] (lendAr 0 (nilAr)))) (nilA))))))))))))))
def S__law_harm : Env → R O := defF 5 [true, true] s__law_harm
def s__law_spoilt : Env → R Fl := seqS (setS 3 (callE S__law_wrong_volume [some 0, none] (lendAr 0 (valAr (fzE (load (varV 2))) (nilAr))))) (seqS (ifS (testF (opF eqD (itemV (varV 1) (cF (.int 0)) true) (tmV (cF (.str "turn"))) true)) (retS (fzE (load (itemV (tmV (frF (lstE (consA (tupF (consA (cF (.str "turn")) (consA (load (varV 3)) (consA (load (itemV (varV 1) (cF (.int 2)) true)) (nilA))))) (consA (tupF (consA (cF (.str "turn")) (consA (load (itemV (varV 1) (cF (.int 1)) true)) (consA (load (varV 3)) (nilA))))) (nilA)))))) (frF (callE S__law_draw [some 0, none] (lendAr 0 (valAr (fzE (cF (.int 2))) (nilAr))))) false)))) (skipS)) (seqS (setS 4 (callE S__law_draw [some 0, none] (lendAr 0 (valAr (fzE (cF (.int 4))) (nilAr))))) (seqS (ifS (andT (testF (opF eqD (itemV (varV 1) (cF (.int 0)) true) (tmV (cF (.str "cut"))) true)) (testF (opF gtD (varV 4) (tmV (cF (.int 0))) true))) (seqS (setS 5 (fzE (opF addD (tmV (cF (.int 1))) (tmV (frF (callE S__law_draw [some 0, none] (lendAr 0 (valAr (fzE (cF (.int 20))) (nilAr)))))) false))) (retS (fzE (load (itemV (tmV (frF (lstE (consA (tupF (consA (cF (.str "cut")) (consA (load (itemV (varV 1) (cF (.int 1)) true)) (consA (load (varV 5)) (consA (opF subD (varV 5) (tmV (cF (.int 1))) true) (nilA)))))) (consA (tupF (consA (cF (.str "cut")) (consA (load (itemV (varV 1) (cF (.int 1)) true)) (consA (opF subD (tmV (cF (.int 0))) (varV 5) true) (consA (cF (.int 5)) (nilA)))))) (consA (tupF (consA (cF (.str "cut")) (consA (load (itemV (varV 1) (cF (.int 1)) true)) (consA (optF negD (cF (.int 1))) (consA (optF negD (cF (.int 1))) (nilA)))))) (nilA))))))) (opF subD (varV 4) (tmV (cF (.int 1))) true) true))))) (skipS)) (seqS (ifS (andT (testF (opF eqD (itemV (varV 1) (cF (.int 0)) true) (tmV (cF (.str "change"))) true)) (testF (opF eqD (varV 4) (tmV (cF (.int 1))) true))) (retS (fzE (tupF (consA (cF (.str "change")) (consA (load (itemV (varV 1) (cF (.int 1)) true)) (consA (opF subD (tmV (optF negD (cF (.int 1)))) (tmV (frF (callE S__law_draw [some 0, none] (lendAr 0 (valAr (fzE (cF (.int 50))) (nilAr)))))) false) (consA (load (itemV (varV 1) (cF (.int 3)) true)) (nilA)))))))) (skipS)) (seqS (ifS (andT (testF (opF eqD (itemV (varV 1) (cF (.int 0)) true) (tmV (cF (.str "change"))) true)) (testF (opF gtD (varV 4) (tmV (cF (.int 1))) true))) (seqS (setS 6 (fzE (tupF (consA (cF (.int 1)) (consA (cF (.int 2)) (consA (cF (.int 3)) (consA (cF (.int 4)) (nilA)))))))) (seqS (setS 7 (fzE (load (itemV (tmV (frF (lstE (consA (tupF (nilA)) (consA (opF addD (varV 6) (tmV (tupF (consA (cF (.int 5)) (nilA)))) false) (consA (tupF (consA (cF (.int 129)) (nilA))) (consA (tupF (consA (cF (.int 0)) (consA (optF negD (cF (.int 1))) (nilA)))) (consA (frF (lstE (consA (cF (.int 5)) (consA (cF (.int 1000)) (nilA))))) (consA (opF addD (tmV (sliceF (varV 6) (noP) (someP (cF (.int 3))) true true)) (tmV (tupF (consA (cF (.int 129)) (nilA)))) false) (consA (frF (lstE (nilA))) (nilA))))))))))) (frF (callE S__law_draw [some 0, none] (lendAr 0 (valAr (fzE (cF (.int 7))) (nilAr))))) false)))) (retS (fzE (tupF (consA (cF (.str "change")) (consA (load (itemV (varV 1) (cF (.int 1)) true)) (consA (load (itemV (varV 1) (cF (.int 2)) true)) (consA (load (varV 7)) (nilA)))))))))) (skipS)) (retS (fzE (opF addD (tmV (tupF (consA (load (itemV (varV 1) (cF (.int 0)) true)) (consA (load (varV 3)) (nilA))))) (tmV (sliceF (varV 1) (someP (cF (.int 2))) (noP) true true)) false))))))))
def S__law_spoilt : Env → R O := defF 8 [true, true, true] s__law_spoilt
def s__law_is_wrong : Env → R Fl := seqS (setS 2 (lstE (consA (load (itemV (varV 0) (cF (.int 1)) true)) (nilA)))) (seqS (ifS (testF (opF eqD (itemV (varV 0) (cF (.int 0)) true) (tmV (cF (.str "turn"))) true)) (appendS (varV 2) (fzE (load (itemV (varV 0) (cF (.int 2)) true)))) (skipS)) (seqS (forL (seqI (load (varV 2))) (nameG 3) (ifS (orT (testF (opF ltD (varV 3) (tmV (cF (.int 0))) true)) (testF (opF geD (varV 3) (varV 1) true))) (retS (fzE (cF (.bl true)))) (skipS))) (seqS (ifS (testF (opF eqD (itemV (varV 0) (cF (.int 0)) true) (tmV (cF (.str "cut"))) true)) (retS (fzE (orF (opF gtD (itemV (varV 0) (cF (.int 2)) true) (itemV (varV 0) (cF (.int 3)) true) true) (opF ltD (itemV (varV 0) (cF (.int 2)) true) (tmV (cF (.int 0))) true)))) (skipS)) (seqS (ifS (testF (opF eqD (itemV (varV 0) (cF (.int 0)) true) (tmV (cF (.str "change"))) true)) (seqS (setS 4 (lcE [true, true, true, true, true, false] [5] (seqI (load (itemV (varV 0) (cF (.int 3)) true))) (nameG 5) (orT (testF (opF ltD (varV 5) (tmV (cF (.int 0))) true)) (testF (opF gtD (varV 5) (tmV (cF (.int 128))) true))) (fzE (load (varV 5))))) (retS (fzE (orF (opF ltD (itemV (varV 0) (cF (.int 2)) true) (tmV (cF (.int 0))) true) (orF (opF ltD (tmV (fun1 lenC (itemV (varV 0) (cF (.int 3)) true))) (tmV (cF (.int 1))) true) (orF (opF gtD (tmV (fun1 lenC (itemV (varV 0) (cF (.int 3)) true))) (tmV (cF (.int 4))) true) (opF gtD (tmV (fun1 lenC (varV 4))) (tmV (cF (.int 0))) true))))))) (skipS)) (retS (fzE (cF (.bl false))))))))
def S__law_is_wrong : Env → R O := defF 6 [true, true] s__law_is_wrong
def s__law_done : Env → R Fl := seqS (setS 0 (fun1L listC (varV 0))) (seqS (setS 2 (fzE (load (itemV (varV 1) (cF (.int 1)) true)))) (seqS (setS 3 (fzE (load (itemV (varV 0) (load (varV 2)) true)))) (seqS (ifS (testF (opF eqD (itemV (varV 1) (cF (.int 0)) true) (tmV (cF (.str "lose"))) true)) (setIS (lstE (nilA)) (varV 0) (load (varV 2)) true) (skipS)) (seqS (ifS (testF (opF eqD (itemV (varV 1) (cF (.int 0)) true) (tmV (cF (.str "turn"))) true)) (seqS (setIS (fzE (load (itemV (varV 0) (load (itemV (varV 1) (cF (.int 2)) true)) true))) (varV 0) (load (varV 2)) true) (setIS (fzE (load (varV 3))) (varV 0) (load (itemV (varV 1) (cF (.int 2)) true)) true)) (skipS)) (seqS (ifS (testF (opF eqD (itemV (varV 1) (cF (.int 0)) true) (tmV (cF (.str "double"))) true)) (appendS (varV 0) (fun1L listC (varV 3))) (skipS)) (seqS (ifS (testF (opF eqD (itemV (varV 1) (cF (.int 0)) true) (tmV (cF (.str "cut"))) true)) (setIS (fzE (opF addD (tmV (sliceF (varV 3) (noP) (someP (load (itemV (varV 1) (cF (.int 2)) true))) true true)) (tmV (sliceF (varV 3) (someP (load (itemV (varV 1) (cF (.int 3)) true))) (noP) true true)) false)) (varV 0) (load (varV 2)) true) (skipS)) (seqS (ifS (testF (opF eqD (itemV (varV 1) (cF (.int 0)) true) (tmV (cF (.str "change"))) true)) (seqS (setS 4 (fun1L listC (varV 3))) (seqS (forL (range1I (consA (fun1 lenC (itemV (varV 1) (cF (.int 3)) true)) (nilA))) (nameG 5) (ifS (testF (opF ltD (tmV (opF addD (itemV (varV 1) (cF (.int 2)) true) (varV 5) true)) (tmV (fun1 lenC (varV 4))) true)) (setIS (fzE (load (itemV (itemV (varV 1) (cF (.int 3)) true) (load (varV 5)) true))) (varV 4) (opF addD (itemV (varV 1) (cF (.int 2)) true) (varV 5) true) false) (skipS))) (setIS (fzE (load (varV 4))) (varV 0) (load (varV 2)) true))) (skipS)) (retS (moveE 0)))))))))
def S__law_done : Env → R O := defF 6 [false, true] s__law_done
def s__law_due : Env → R Fl := seqS (setS 0 (lcE [true, true, false, true] [2] (seqI (load (varV 0))) (nameG 2) (yesT) (fun1L listC (varV 2)))) (seqS (forL (range1I (consA (fun1 lenC (varV 1)) (nilA))) (nameG 3) (seqS (ifS (testF (frF (callE S__law_is_wrong [none, none] (valAr (fzE (load (itemV (varV 1) (load (varV 3)) true))) (valAr (fzE (fun1 lenC (varV 0))) (nilAr)))))) (retS (fzE (tupF (consA (cF (.str "value")) (consA (load (varV 3)) (nilA)))))) (skipS)) (setS 0 (callE S__law_done [none, none] (valAr (fzE (load (varV 0))) (valAr (fzE (load (itemV (varV 1) (load (varV 3)) true))) (nilAr))))))) (retS (fzE (tupF (consA (cF (.str "told")) (consA (fun1 tupleC (tmV (frF (lcE [true, true, false, true] [2] (seqI (load (varV 0))) (nameG 2) (yesT) (fzE (fun1 tupleC (varV 2))))))) (nilA)))))))
def S__law_due : Env → R O := defF 4 [false, true] s__law_due
def s__law_told : Env → R Fl := seqS (tryS cat_BadValue 2 (retS (fzE (tupF (consA (cF (.str "told")) (consA (frF (callE S_harmed [none, none] (valAr (fzE (load (varV 0))) (valAr (fzE (load (varV 1))) (nilAr))))) (nilA)))))) (ifX (testX (isX is_VaultError)) (retX (tupX (consX (fun _ _ => cF (.str "value")) (consX (attrX exF "at") (nilX))))) (skipX))) (retS (fzE (tupF (consA (cF (.str "other")) (consA (cF (.int 0)) (nilA))))))
def S__law_told : Env → R O := defF 3 [true, true] s__law_told
def s__law_handed : Env → R Fl := seqS (ifS (testF (opF eqD (tmV (frF (callE S__law_draw [some 0, none] (lendAr 0 (valAr (fzE (cF (.int 2))) (nilAr)))))) (tmV (cF (.int 0))) true)) (retS (fzE (fun1 tupleC (varV 1)))) (skipS)) (retS (fun1L listC (varV 1)))
def S__law_handed : Env → R O := defF 2 [true, true] s__law_handed
def s_law : Env → R Fl := seqS (setS 1 (callE S__law_pool [none] (valAr (fzE (load (varV 0))) (nilAr)))) (seqS (setS 2 (lstE (nilA))) (seqS (forL (range1I (consA (load (itemV (tmV (frF (lstE (consA (cF (.int 0)) (consA (cF (.int 1)) (consA (cF (.int 2)) (consA (cF (.int 3)) (consA (cF (.int 4)) (consA (cF (.int 5)) (consA (cF (.int 2)) (consA (cF (.int 3)) (nilA)))))))))))) (frF (callE S__law_draw [some 1, none] (lendAr 1 (valAr (fzE (cF (.int 8))) (nilAr))))) false)) (nilA))) (nameG 3) (seqS (setS 4 (fzE (load (itemV (tmV (frF (lstE (consA (cF (.int 0)) (consA (frF (callE S__law_draw [some 1, none] (lendAr 1 (valAr (fzE (cF (.int 13))) (nilAr))))) (consA (cF (.int 12)) (nilA))))))) (frF (callE S__law_draw [some 1, none] (lendAr 1 (valAr (fzE (cF (.int 3))) (nilAr))))) false)))) (appendS (varV 2) (callE S__law_handed [some 1, none] (lendAr 1 (valAr (lcE [true, true, true, true, true, false, true, true, true, true, true, true, true, true, true] [5] (range1I (consA (load (varV 4)) (nilA))) (nameG 5) (yesT) (fzE (load (itemV (tmV (frF (lstE (consA (frF (callE S__law_draw [some 1, none] (lendAr 1 (valAr (fzE (cF (.int 129))) (nilAr))))) (consA (cF (.int 128)) (nilA)))))) (frF (callE S__law_draw [some 1, none] (lendAr 1 (valAr (fzE (cF (.int 2))) (nilAr))))) false)))) (nilAr))))))) (seqS (setS 6 (lstE (nilA))) (seqS (setS 7 (fzE (fun1 lenC (varV 2)))) (seqS (setS 8 (lstE (consA (frF (callE S__law_draw [some 1, none] (lendAr 1 (valAr (fzE (cF (.int 7))) (nilAr))))) (consA (frF (callE S__law_draw [some 1, none] (lendAr 1 (valAr (fzE (cF (.int 7))) (nilAr))))) (nilA))))) (seqS (ifS (testF (opF eqD (tmV (frF (callE S__law_draw [some 1, none] (lendAr 1 (valAr (fzE (cF (.int 2))) (nilAr)))))) (tmV (cF (.int 0))) true)) (setS 8 (lstE (nilA))) (skipS)) (seqS (forL (range1I (consA (frF (callE S__law_draw [some 1, none] (lendAr 1 (valAr (fzE (cF (.int 8))) (nilAr))))) (nilA))) (nameG 9) (seqS (setS 10 (callE S__law_harm [some 1, none] (lendAr 1 (valAr (fzE (load (varV 7))) (nilAr))))) (seqS (ifS (testF (opF inD (varV 9) (varV 8) true)) (setS 10 (callE S__law_spoilt [some 1, none, none] (lendAr 1 (valAr (fzE (load (varV 10))) (valAr (fzE (load (varV 7))) (nilAr)))))) (skipS)) (seqS (appendS (varV 6) (fzE (load (varV 10)))) (setS 7 (fzE (opF addD (varV 7) (tmV (fun1 intC (tmV (andF (opF eqD (itemV (varV 10) (cF (.int 0)) true) (tmV (cF (.str "double"))) true) (notF (frF (callE S__law_is_wrong [none, none] (valAr (fzE (load (varV 10))) (valAr (fzE (load (varV 7))) (nilAr)))))))))) false))))))) (seqS (setS 11 (callE S__law_handed [some 1, none] (lendAr 1 (valAr (fzE (load (varV 2))) (nilAr))))) (seqS (setS 12 (callE S__law_handed [some 1, none] (lendAr 1 (valAr (fzE (load (varV 6))) (nilAr))))) (seqS (setS 13 (fzE (optF reprC (tupF (consA (load (varV 11)) (consA (load (varV 12)) (nilA))))))) (seqS (setS 14 (callE S__law_due [none, none] (valAr (fzE (load (varV 2))) (valAr (fzE (load (varV 6))) (nilAr))))) (seqS (ifS (orT (notT (testF (frF (callE (S__law_same 6) [none, none] (valAr (callE S__law_told [none, none] (valAr (fzE (load (varV 11))) (valAr (fzE (load (varV 12))) (nilAr)))) (valAr (fzE (load (varV 14))) (nilAr))))))) (notT (testF (frF (callE (S__law_same 6) [none, none] (valAr (callE S__law_told [none, none] (valAr (fzE (load (varV 11))) (valAr (fzE (load (varV 12))) (nilAr)))) (valAr (fzE (load (varV 14))) (nilAr)))))))) (retS (fzE (cF (.bl false)))) (skipS)) (retS (fzE (opF eqD (tmV (optF reprC (tupF (consA (load (varV 11)) (consA (load (varV 12)) (nilA)))))) (varV 13) true)))))))))))))))
def S_law : Env → R O := defF 15 [true] s_law
/-! ### that they do -/
section
variable {P : Program} {w : World} {K : PySem.W.Frag} {mg : Str → Option Value} {base : Heap} {Γ : Ctx}

theorem a_is_integer (gk : Γ.K = K) (M : Mdl faL fnL K mg base) : Able P w K mg base Γ "is_integer" 1 1 S_is_integer := by
  have hK : K = Γ.K := gk.symm
  obtain ⟨fd, F⟩ := M.def_ 0 (d := d_is_integer) rfl
  have nd : (["value"] : List Str).Nodup := by decide +kernel
  have sc : FnScope ["value"] ["value"] (defScope st_is_integer) := ⟨rfl, rfl, rfl, nd, rfl, by decide +kernel, by decide +kernel⟩
  have hb : Binds K fd ["value"] [] := F.bindsN fun _ _ _ _ _ _ us hl => match us, hl with | [_], _ => rfl
  refine able (π := [true]) F (M.glo 14) sc rfl (by decide) hb fun cdv A outer s H E hr tk hp => ?_
  have hu := hu_of hr
  exact ds_one (ds_ret (DF.toE (df_and (df_isi hK (dv_var (pv 0)) (by rfl) (M.free 0) PyProof.Rows.boot_isinstance (pe_bltn (by rfl) (M.free 1) PyProof.Rows.boot_int rfl)) (df_one (df_not (df_isi hK (dv_var (pv 0)) (by rfl) (M.free 0) PyProof.Rows.boot_isinstance (pe_bltn (by rfl) (M.free 2) PyProof.Rows.boot_bool rfl)))))))
theorem a_is_from_to (gk : Γ.K = K) (M : Mdl faL fnL K mg base) (h_is_integer : Able P w K mg base Γ "is_integer" 1 1 S_is_integer) : Able P w K mg base Γ "is_from_to" 2 3 S_is_from_to := by
  have hK : K = Γ.K := gk.symm
  obtain ⟨fd, F⟩ := M.def_ 1 (d := d_is_from_to) rfl
  have nd : (["value", "least", "most"] : List Str).Nodup := by decide +kernel
  have sc : FnScope ["value", "least", "most"] ["value", "least", "most"] (defScope st_is_from_to) := ⟨rfl, rfl, rfl, nd, rfl, by decide +kernel, by decide +kernel⟩
  have hb : Binds K fd ["value", "least", "most"] [] := F.bindsN fun _ _ _ _ _ _ us hl => match us, hl with | [_, _, _], _ => rfl
  refine able (π := [true, true, true]) F (M.glo 15) sc rfl (by decide) hb fun cdv A outer s H E hr tk hp => ?_
  have hu := hu_of hr
  exact ds_one (ds_ret (DF.toE (df_and (DE.toF (de_by (ms := [none]) h_is_integer (by first | omega | exact Nat.le_refl _) tk hr (by rfl) (dar_val (DF.toE (DV.load (dv_var (pv 0)))) (dar_nil)))) (df_one (df_chain op_le op_le intCmp_ok intCmp_ok (DV.load (dv_var (pv 1))) (DV.load (dv_var (pv 0))) (DV.load (dv_var (pv 2))))))))
theorem a_is_place (gk : Γ.K = K) (M : Mdl faL fnL K mg base) (h_is_integer : Able P w K mg base Γ "is_integer" 1 1 S_is_integer) : Able P w K mg base Γ "is_place" 2 1 S_is_place := by
  have hK : K = Γ.K := gk.symm
  obtain ⟨fd, F⟩ := M.def_ 2 (d := d_is_place) rfl
  have nd : (["value"] : List Str).Nodup := by decide +kernel
  have sc : FnScope ["value"] ["value"] (defScope st_is_place) := ⟨rfl, rfl, rfl, nd, rfl, by decide +kernel, by decide +kernel⟩
  have hb : Binds K fd ["value"] [] := F.bindsN fun _ _ _ _ _ _ us hl => match us, hl with | [_], _ => rfl
  refine able (π := [true]) F (M.glo 16) sc rfl (by decide) hb fun cdv A outer s H E hr tk hp => ?_
  have hu := hu_of hr
  exact ds_one (ds_ret (DF.toE (df_and (DE.toF (de_by (ms := [none]) h_is_integer (by first | omega | exact Nat.le_refl _) tk hr (by rfl) (dar_val (DF.toE (DV.load (dv_var (pv 0)))) (dar_nil)))) (df_one (df_cmp op_ge intCmp_ok (dv_var (pv 0)) (DF.toV (df_int)) (nomark _))))))
theorem a_is_change (gk : Γ.K = K) (M : Mdl faL fnL K mg base) (h_is_place : Able P w K mg base Γ "is_place" 2 1 S_is_place) (h_is_from_to : Able P w K mg base Γ "is_from_to" 2 3 S_is_from_to) : Able P w K mg base Γ "is_change" 3 2 S_is_change := by
  have hK : K = Γ.K := gk.symm
  obtain ⟨fd, F⟩ := M.def_ 3 (d := d_is_change) rfl
  have nd : (["place", "integers", "one"] : List Str).Nodup := by decide +kernel
  have sc : FnScope ["place", "integers", "one"] ["place", "integers"] (defScope st_is_change) := ⟨rfl, rfl, rfl, nd, rfl, by decide +kernel, by decide +kernel⟩
  have hb : Binds K fd ["place", "integers"] [] := F.bindsN fun _ _ _ _ _ _ us hl => match us, hl with | [_, _], _ => rfl
  refine able (π := [true, true]) F (M.glo 17) sc rfl (by decide) hb fun cdv A outer s H E hr tk hp => ?_
  have hu := hu_of hr
  exact ds_cons (ds_if (DW.dt (dw_or (dt_not (dt_val (DE.toF (de_by (ms := [none]) h_is_place (by first | omega | exact Nat.le_refl _) tk hr (by rfl) (dar_val (DF.toE (DV.load (dv_var (pv 0)))) (dar_nil)))))) (dw_or (dt_not (dt_val (df_isi2 hK (DV.load (dv_var (pv 1))) (by rfl) (M.free 0) PyProof.Rows.boot_isinstance (pe_bltn (by rfl) (M.free 3) PyProof.Rows.boot_list rfl) (pe_bltn (by rfl) (M.free 4) PyProof.Rows.boot_tuple rfl)))) (dw_or1 (dt_not (dt_chain op_le op_le intCmp_ok intCmp_ok (df_int) (df_callB1 (cr_lenK hK) len_ok (dv_var (pv 1)) (by rfl) (M.free 5) PySem.boot_len) (df_gint (by rfl) (M.int 6)))))))) (ds_one (ds_ret (DF.toE (df_bl)))) (ds_nil)) (ds_one (ds_ret (DF.toE (df_callB1 (cr_allK hK rfl) all_ok (DF.toV (DE.toF (de_lc (π := [true, true, false]) (own := [("one", 2)]) (pin_by rfl) rfl nd (di_seq hK (DV.load (dv_var (pv 1)))) (blkOk_by (N := ["place", "integers", "one"]) (sc := defScope st_is_change) (own := [("one", 2)]) (by decide +kernel)) (fun _ _ _ _ _ => dg_name (pg_name (i := 2) nd rfl (by first | exact Or.inl rfl | exact Or.inr rfl)) (by decide)) (fun _ _ _ _ _ => PTs.yes) (fun _ _ _ _ _ => de_by (ms := [none, none, none]) h_is_from_to (by first | omega | exact Nat.le_refl _) takes0 hr (by rfl) (dar_val (DF.toE (DV.load (dv_var (pv 2)))) (dar_val (DF.toE (df_int)) (dar_val (DF.toE (df_gint (by rfl) (M.int 7))) (dar_nil)))))))) (by rfl) (M.free 8) PyProof.Rows.boot_all))))
theorem a_is_let (gk : Γ.K = K) (M : Mdl faL fnL K mg base) (h_is_from_to : Able P w K mg base Γ "is_from_to" 2 3 S_is_from_to) (h_is_change : Able P w K mg base Γ "is_change" 3 2 S_is_change) (h_is_place : Able P w K mg base Γ "is_place" 2 1 S_is_place) (h_is_integer : Able P w K mg base Γ "is_integer" 1 1 S_is_integer) : Able P w K mg base Γ "is_let" 4 2 S_is_let := by
  have hK : K = Γ.K := gk.symm
  obtain ⟨fd, F⟩ := M.def_ 4 (d := d_is_let) rfl
  have nd : (["harm", "many"] : List Str).Nodup := by decide +kernel
  have sc : FnScope ["harm", "many"] ["harm", "many"] (defScope st_is_let) := ⟨rfl, rfl, rfl, nd, rfl, by decide +kernel, by decide +kernel⟩
  have hb : Binds K fd ["harm", "many"] [] := F.bindsN fun _ _ _ _ _ _ us hl => match us, hl with | [_, _], _ => rfl
  refine able (π := [true, true]) F (M.glo 18) sc rfl (by decide) hb fun cdv A outer s H E hr tk hp => ?_
  have hu := hu_of hr
  exact ds_cons (ds_if (dt_not (dt_val (DE.toF (de_by (ms := [none, none, none]) h_is_from_to (by first | omega | exact Nat.le_refl _) tk hr (by rfl) (dar_val (DF.toE (DV.load (dv_item hu hK (dv_var (pv 0)) (df_int)))) (dar_val (DF.toE (df_int)) (dar_val (DF.toE (df_op op_sub sub_ok (dv_var (pv 1)) (DF.toV (df_int)))) (dar_nil)))))))) (ds_one (ds_ret (DF.toE (df_bl)))) (ds_nil)) (ds_cons (ds_if (dt_cmp op_eq eq_ok (dv_item hu hK (dv_var (pv 0)) (df_int)) (DF.toV (df_str)) (nomark _)) (ds_one (ds_ret (de_by (ms := [none, none]) h_is_change (by first | omega | exact Nat.le_refl _) tk hr (by rfl) (dar_val (DF.toE (DV.load (dv_item hu hK (dv_var (pv 0)) (df_int)))) (dar_val (DF.toE (DV.load (dv_item hu hK (dv_var (pv 0)) (df_int)))) (dar_nil)))))) (ds_nil)) (ds_cons (ds_if (dt_cmp op_eq eq_ok (dv_item hu hK (dv_var (pv 0)) (df_int)) (DF.toV (df_str)) (nomark _)) (ds_one (ds_ret (DF.toE (df_and (DE.toF (de_by (ms := [none]) h_is_place (by first | omega | exact Nat.le_refl _) tk hr (by rfl) (dar_val (DF.toE (DV.load (dv_item hu hK (dv_var (pv 0)) (df_int)))) (dar_nil)))) (df_and (DE.toF (de_by (ms := [none]) h_is_integer (by first | omega | exact Nat.le_refl _) tk hr (by rfl) (dar_val (DF.toE (DV.load (dv_item hu hK (dv_var (pv 0)) (df_int)))) (dar_nil)))) (df_one (df_cmp op_le intCmp_ok (dv_item hu hK (dv_var (pv 0)) (df_int)) (dv_item hu hK (dv_var (pv 0)) (df_int)) (nomark _)))))))) (ds_nil)) (ds_one (ds_ret (DF.toE (df_or (df_cmp op_ne ne_ok (dv_item hu hK (dv_var (pv 0)) (df_int)) (DF.toV (df_str)) (nomark _)) (df_one (DE.toF (de_by (ms := [none, none, none]) h_is_from_to (by first | omega | exact Nat.le_refl _) tk hr (by rfl) (dar_val (DF.toE (DV.load (dv_item hu hK (dv_var (pv 0)) (df_int)))) (dar_val (DF.toE (df_int)) (dar_val (DF.toE (df_op op_sub sub_ok (dv_var (pv 1)) (DF.toV (df_int)))) (dar_nil)))))))))))))
theorem a_changed (gk : Γ.K = K) (M : Mdl faL fnL K mg base) : Able P w K mg base Γ "changed" 1 3 S_changed := by
  have hK : K = Γ.K := gk.symm
  obtain ⟨fd, F⟩ := M.def_ 5 (d := d_changed) rfl
  have nd : (["volume", "place", "integers", "fitting"] : List Str).Nodup := by decide +kernel
  have sc : FnScope ["volume", "place", "integers", "fitting"] ["volume", "place", "integers"] (defScope st_changed) := ⟨rfl, rfl, rfl, nd, rfl, by decide +kernel, by decide +kernel⟩
  have hb : Binds K fd ["volume", "place", "integers"] [] := F.bindsN fun _ _ _ _ _ _ us hl => match us, hl with | [_, _, _], _ => rfl
  refine able (π := [true, true, true]) F (M.glo 19) sc rfl (by decide) hb fun cdv A outer s H E hr tk hp => ?_
  have hu := hu_of hr
  exact ds_cons (ds_set (pg_name (i := 3) nd rfl (by first | exact Or.inl rfl | exact Or.inr rfl)) (DF.toE (df_slice hK (DF.toV (df_callT1 (cr_tupleK hK) tuple_ok (dv_var (pv 2)) (by rfl) (M.free 4) PyProof.Rows.boot_tuple)) (dp_none) (dp_some (df_callB2 (call_max2 rfl) max2_ok (DF.toV (df_int)) (DF.toV (df_op op_sub sub_ok (DF.toV (df_callB1 (cr_lenK hK) len_ok (dv_var (pv 0)) (by rfl) (M.free 5) PySem.boot_len)) (dv_var (pv 1)))) (by rfl) (M.free 9) PyProof.Rows.boot_max)))) (by decide)) (ds_one (ds_ret (DF.toE (df_op (op_addA hK) add_ok (DF.toV (df_op (op_addA hK) add_ok (DF.toV (df_slice hK (dv_var (pv 0)) (dp_none) (dp_some (DV.load (dv_var (pv 1)))))) (dv_var (pv 3)))) (DF.toV (df_slice hK (dv_var (pv 0)) (dp_some (df_op (op_addA hK) add_ok (dv_var (pv 1)) (DF.toV (df_callB1 (cr_lenK hK) len_ok (dv_var (pv 3)) (by rfl) (M.free 5) PySem.boot_len)))) (dp_none)))))))
theorem a_harm_done (gk : Γ.K = K) (M : Mdl faL fnL K mg base) (h_changed : Able P w K mg base Γ "changed" 1 3 S_changed) : Able P w K mg base Γ "harm_done" 2 2 S_harm_done := by
  have hK : K = Γ.K := gk.symm
  obtain ⟨fd, F⟩ := M.def_ 6 (d := d_harm_done) rfl
  have nd : (["volumes", "harm", "word", "at", "left"] : List Str).Nodup := by decide +kernel
  have sc : FnScope ["volumes", "harm", "word", "at", "left"] ["volumes", "harm"] (defScope st_harm_done) := ⟨rfl, rfl, rfl, nd, rfl, by decide +kernel, by decide +kernel⟩
  have hb : Binds K fd ["volumes", "harm"] [] := F.bindsN fun _ _ _ _ _ _ us hl => match us, hl with | [_, _], _ => rfl
  refine able (π := [true, true]) F (M.glo 20) sc rfl (by decide) hb fun cdv A outer s H E hr tk hp => ?_
  have hu := hu_of hr
  exact ds_cons (ds_asg (dg_tup hK rfl (dgs_cons (dg_name (pg_name (i := 2) nd rfl (by first | exact Or.inl rfl | exact Or.inr rfl)) (by decide)) (dgs_cons (dg_name (pg_name (i := 3) nd rfl (by first | exact Or.inl rfl | exact Or.inr rfl)) (by decide)) (dgs_nil)))) (df_slice hK (dv_var (pv 1)) (dp_none) (dp_some (df_int)))) (ds_cons (ds_set (pg_name (i := 4) nd rfl (by first | exact Or.inl rfl | exact Or.inr rfl)) (de_callT1 (cr_listK hK) list_ok (dv_var (pv 0)) (by rfl) (M.free 3) PyProof.Rows.boot_list) (by decide)) (ds_cons (ds_if (dt_cmp op_eq eq_ok (dv_var (pv 2)) (DF.toV (df_str)) (nomark _)) (ds_one (ds_setItem hu (DF.toE (df_tup (da_nil))) (dv_var (pv 4)) (DV.load (dv_var (pv 3))))) (ds_one (ds_if (dt_cmp op_eq eq_ok (dv_var (pv 2)) (DF.toV (df_str)) (nomark _)) (ds_one (ds_setItem hu (de_by (ms := [none, none, none]) h_changed (by first | omega | exact Nat.le_refl _) tk hr (by rfl) (dar_val (DF.toE (DV.load (dv_item hu hK (dv_var (pv 4)) (DV.load (dv_var (pv 3)))))) (dar_val (DF.toE (DV.load (dv_item hu hK (dv_var (pv 1)) (df_int)))) (dar_val (DF.toE (DV.load (dv_item hu hK (dv_var (pv 1)) (df_int)))) (dar_nil))))) (dv_var (pv 4)) (DV.load (dv_var (pv 3))))) (ds_one (ds_if (dt_cmp op_eq eq_ok (dv_var (pv 2)) (DF.toV (df_str)) (nomark _)) (ds_one (ds_setItem hu (DF.toE (df_op (op_addA hK) add_ok (DF.toV (df_slice hK (dv_item hu hK (dv_var (pv 4)) (DV.load (dv_var (pv 3)))) (dp_none) (dp_some (DV.load (dv_item hu hK (dv_var (pv 1)) (df_int)))))) (DF.toV (df_slice hK (dv_item hu hK (dv_var (pv 4)) (DV.load (dv_var (pv 3)))) (dp_some (DV.load (dv_item hu hK (dv_var (pv 1)) (df_int)))) (dp_none))))) (dv_var (pv 4)) (DV.load (dv_var (pv 3))))) (ds_one (ds_if (dt_cmp op_eq eq_ok (dv_var (pv 2)) (DF.toV (df_str)) (nomark _)) (ds_cons (ds_setItem hu (DF.toE (DV.load (dv_item hu hK (dv_var (pv 0)) (DV.load (dv_item hu hK (dv_var (pv 1)) (df_int)))))) (dv_var (pv 4)) (DV.load (dv_var (pv 3)))) (ds_one (ds_setItem hu (DF.toE (DV.load (dv_item hu hK (dv_var (pv 0)) (DV.load (dv_var (pv 3)))))) (dv_var (pv 4)) (DV.load (dv_item hu hK (dv_var (pv 1)) (df_int)))))) (ds_one (ds_append hK (dv_var (pv 4)) (DF.toE (DV.load (dv_item hu hK (dv_var (pv 4)) (DV.load (dv_var (pv 3))))))))))))))) (ds_one (ds_ret (de_move (pv 4))))))
theorem a_harmed (gk : Γ.K = K) (M : Mdl faL fnL K mg base) (x_BadValue : DLX.ExT P K mg (Γ.cls 0) "at" ∧ exnOf Γ 0 = "at") (g_BadValue : mg "BadValue" = some (.ref (Γ.cls 0))) (h_is_let : Able P w K mg base Γ "is_let" 4 2 S_is_let) (h_harm_done : Able P w K mg base Γ "harm_done" 2 2 S_harm_done) : Able P w K mg base Γ "harmed" 5 2 S_harmed := by
  have hK : K = Γ.K := gk.symm
  obtain ⟨fd, F⟩ := M.def_ 7 (d := d_harmed) rfl
  have nd : (["volumes", "harms", "left", "volume", "number", "harm"] : List Str).Nodup := by decide +kernel
  have sc : FnScope ["volumes", "harms", "left", "volume", "number", "harm"] ["volumes", "harms"] (defScope st_harmed) := ⟨rfl, rfl, rfl, nd, rfl, by decide +kernel, by decide +kernel⟩
  have hb : Binds K fd ["volumes", "harms"] [] := F.bindsN fun _ _ _ _ _ _ us hl => match us, hl with | [_, _], _ => rfl
  refine able (π := [true, true]) F (M.glo 21) sc rfl (by decide) hb fun cdv A outer s H E hr tk hp => ?_
  have hu := hu_of hr
  exact ds_cons (ds_setLc (i := 2) (π := [true, true, true, false, true, true]) (own := [("volume", 3)]) (pin_by rfl) (by decide) rfl nd (by rfl) (by rfl) (sw_true rfl rfl rfl (by decide +kernel)) (di_seq hK (DV.load (dv_var (pv 0)))) (blkOk_by (N := ["volumes", "harms", "left", "volume", "number", "harm"]) (sc := defScope st_harmed) (own := [("volume", 3)]) (by decide +kernel)) (fun _ _ _ _ _ => dg_name (pg_name (i := 3) nd rfl (by first | exact Or.inl rfl | exact Or.inr rfl)) (by decide)) (fun _ _ _ _ _ => PTs.yes) (fun _ _ _ _ _ => DF.toE (df_callT1 (cr_tupleK hK) tuple_ok (dv_var (pv 3)) (by rfl) (M.free 4) PyProof.Rows.boot_tuple))) (ds_cons (ds_for hp rfl (di_enum hK (by rfl) (M.free 10) (DV.load (dv_var (pv 1)))) (dg_tup hK rfl (dgs_cons (dg_name (pg_name (i := 4) nd rfl (by first | exact Or.inl rfl | exact Or.inr rfl)) (by decide)) (dgs_cons (dg_name (pg_name (i := 5) nd rfl (by first | exact Or.inl rfl | exact Or.inr rfl)) (by decide)) (dgs_nil)))) (ds_cons (ds_if (dt_not (dt_val (DE.toF (de_by (ms := [none, none]) h_is_let (by first | omega | exact Nat.le_refl _) tk hr (by rfl) (dar_val (DF.toE (DV.load (dv_var (pv 5)))) (dar_val (DF.toE (df_callB1 (cr_lenK hK) len_ok (dv_var (pv 2)) (by rfl) (M.free 5) PySem.boot_len)) (dar_nil))))))) (ds_one (ds_raise rfl tk (x_BadValue).1 (x_BadValue).2 hr (DV.load (dv_var (pv 4))) (by rfl) (g_BadValue))) (ds_nil)) (ds_one (ds_set (pg_name (i := 2) nd rfl (by first | exact Or.inl rfl | exact Or.inr rfl)) (de_by (ms := [none, none]) h_harm_done (by first | omega | exact Nat.le_refl _) tk hr (by rfl) (dar_val (DF.toE (DV.load (dv_var (pv 2)))) (dar_val (DF.toE (DV.load (dv_var (pv 5)))) (dar_nil)))) (by decide))))) (ds_one (ds_ret (DF.toE (df_callT1 (cr_tupleK hK) tuple_ok (dv_var (pv 2)) (by rfl) (M.free 4) PyProof.Rows.boot_tuple)))))
theorem a__law_mixed (gk : Γ.K = K) (M : Mdl faL fnL K mg base) : Able P w K mg base Γ "_law_mixed" 1 2 S__law_mixed := by
  have hK : K = Γ.K := gk.symm
  obtain ⟨fd, F⟩ := M.def_ 8 (d := d__law_mixed) rfl
  have nd : (["_law_a", "_law_b", "_law_one", "_law_two"] : List Str).Nodup := by decide +kernel
  have sc : FnScope ["_law_a", "_law_b", "_law_one", "_law_two"] ["_law_a", "_law_b"] (defScope st__law_mixed) := ⟨rfl, rfl, rfl, nd, rfl, by decide +kernel, by decide +kernel⟩
  have hb : Binds K fd ["_law_a", "_law_b"] [] := F.bindsN fun _ _ _ _ _ _ us hl => match us, hl with | [_, _], _ => rfl
  refine able (π := [true, true]) F (M.glo 22) sc rfl (by decide) hb fun cdv A outer s H E hr tk hp => ?_
  have hu := hu_of hr
  exact ds_cons (ds_set (pg_name (i := 2) nd rfl (by first | exact Or.inl rfl | exact Or.inr rfl)) (DF.toE (df_op op_mod mod_ok (DF.toV (df_op (op_addA hK) add_ok (DF.toV (df_op (op_addA hK) add_ok (DF.toV (df_op op_mul mul_ok (DF.toV (df_op op_mod mod_ok (DF.toV (df_callT1 call_int1 int_ok (dv_var (pv 0)) (by rfl) (M.free 1) PyProof.Rows.boot_int)) (DF.toV (df_int)))) (DF.toV (df_int)))) (DF.toV (df_op op_mul mul_ok (DF.toV (df_op op_mod mod_ok (DF.toV (df_callT1 call_int1 int_ok (dv_var (pv 1)) (by rfl) (M.free 1) PyProof.Rows.boot_int)) (DF.toV (df_int)))) (DF.toV (df_int)))))) (DF.toV (df_int)))) (DF.toV (df_int)))) (by decide)) (ds_cons (ds_set (pg_name (i := 3) nd rfl (by first | exact Or.inl rfl | exact Or.inr rfl)) (DF.toE (df_op op_mod mod_ok (DF.toV (df_op (op_addA hK) add_ok (DF.toV (df_op (op_addA hK) add_ok (DF.toV (df_op (op_addA hK) add_ok (DF.toV (df_op op_mul mul_ok (dv_var (pv 2)) (dv_var (pv 2)))) (DF.toV (df_op op_mul mul_ok (dv_var (pv 2)) (DF.toV (df_int)))))) (DF.toV (df_op op_mul mul_ok (DF.toV (df_op op_mod mod_ok (DF.toV (df_callT1 call_int1 int_ok (dv_var (pv 1)) (by rfl) (M.free 1) PyProof.Rows.boot_int)) (DF.toV (df_int)))) (DF.toV (df_int)))))) (DF.toV (df_int)))) (DF.toV (df_int)))) (by decide)) (ds_one (ds_ret (DF.toE (df_op op_mod mod_ok (DF.toV (df_op (op_addA hK) add_ok (DF.toV (df_op op_mul mul_ok (dv_var (pv 3)) (DF.toV (df_int)))) (DF.toV (df_op op_fdiv fdiv_ok (dv_var (pv 2)) (DF.toV (df_int)))))) (DF.toV (df_int)))))))
theorem a__law_pool (gk : Γ.K = K) (M : Mdl faL fnL K mg base) : Able P w K mg base Γ "_law_pool" 1 1 S__law_pool := by
  have hK : K = Γ.K := gk.symm
  obtain ⟨fd, F⟩ := M.def_ 9 (d := d__law_pool) rfl
  have nd : (["_law_script"] : List Str).Nodup := by decide +kernel
  have sc : FnScope ["_law_script"] ["_law_script"] (defScope st__law_pool) := ⟨rfl, rfl, rfl, nd, rfl, by decide +kernel, by decide +kernel⟩
  have hb : Binds K fd ["_law_script"] [] := F.bindsN fun _ _ _ _ _ _ us hl => match us, hl with | [_], _ => rfl
  refine able (π := [true]) F (M.glo 23) sc rfl (by decide) hb fun cdv A outer s H E hr tk hp => ?_
  have hu := hu_of hr
  exact ds_one (ds_ret (de_lst (da_cons (DE.toF (de_callT1 (cr_listK hK) list_ok (dv_var (pv 0)) (by rfl) (M.free 3) PyProof.Rows.boot_list)) (da_cons (df_int) (da_cons (df_int) (da_cons (df_int) (da_cons (df_int) (da_cons (df_non) (da_nil)))))))))
theorem a__law_draw (gk : Γ.K = K) (M : Mdl faL fnL K mg base) (h__law_mixed : Able P w K mg base Γ "_law_mixed" 1 2 S__law_mixed) : Able P w K mg base Γ "_law_draw" 2 2 S__law_draw := by
  have hK : K = Γ.K := gk.symm
  obtain ⟨fd, F⟩ := M.def_ 10 (d := d__law_draw) rfl
  have nd : (["_law_pool_here", "_law_many", "_law_rest", "_law_cells", "_law_cell"] : List Str).Nodup := by decide +kernel
  have sc : FnScope ["_law_pool_here", "_law_many", "_law_rest", "_law_cells", "_law_cell"] ["_law_pool_here", "_law_many"] (defScope st__law_draw) := ⟨rfl, rfl, rfl, nd, rfl, by decide +kernel, by decide +kernel⟩
  have hb : Binds K fd ["_law_pool_here", "_law_many"] [] := F.bindsN fun _ _ _ _ _ _ us hl => match us, hl with | [_, _], _ => rfl
  refine able (π := [true, true]) F (M.glo 24) sc rfl (by decide) hb fun cdv A outer s H E hr tk hp => ?_
  have hu := hu_of hr
  exact ds_cons (ds_set (pg_name (i := 2) nd rfl (by first | exact Or.inl rfl | exact Or.inr rfl)) (DF.toE (DV.load (dv_item hu hK (dv_var (pv 0)) (df_int)))) (by decide)) (ds_cons (ds_if (DW.dt (dw_and (dt_cmp op_ltA lt_ok (dv_var (pv 2)) (DF.toV (df_int)) (nomark _)) (dw_and1 (dt_cmp op_ltA lt_ok (dv_item hu hK (dv_var (pv 0)) (df_int)) (DF.toV (df_callB1 (cr_lenK hK) len_ok (dv_item hu hK (dv_var (pv 0)) (df_int)) (by rfl) (M.free 5) PySem.boot_len)) (nomark _))))) (ds_cons (ds_set (pg_name (i := 3) nd rfl (by first | exact Or.inl rfl | exact Or.inr rfl)) (DF.toE (DV.load (dv_item hu hK (dv_var (pv 0)) (df_int)))) (by decide)) (ds_cons (ds_set (pg_name (i := 4) nd rfl (by first | exact Or.inl rfl | exact Or.inr rfl)) (DF.toE (DV.load (dv_item hu hK (dv_var (pv 3)) (DV.load (dv_item hu hK (dv_var (pv 0)) (df_int)))))) (by decide)) (ds_cons (ds_setItem hu (DF.toE (df_op (op_addA hK) add_ok (dv_item hu hK (dv_var (pv 0)) (df_int)) (DF.toV (df_int)))) (dv_var (pv 0)) (df_int)) (ds_cons (ds_if (dt_cmp op_ge intCmp_ok (dv_var (pv 4)) (DF.toV (df_op op_pow pow_ok (DF.toV (df_int)) (DF.toV (df_int)))) (nomark _)) (ds_cons (ds_set (pg_name (i := 2) nd rfl (by first | exact Or.inl rfl | exact Or.inr rfl)) (DF.toE (df_op op_sub sub_ok (dv_var (pv 4)) (DF.toV (df_op op_pow pow_ok (DF.toV (df_int)) (DF.toV (df_int)))))) (by decide)) (ds_cons (ds_setItem hu (DF.toE (df_op op_fdiv fdiv_ok (dv_var (pv 2)) (dv_var (pv 1)))) (dv_var (pv 0)) (df_int)) (ds_cons (ds_setItem hu (DF.toE (df_int)) (dv_var (pv 0)) (df_int)) (ds_one (ds_ret (DF.toE (df_op op_mod mod_ok (DF.toV (df_callT1 call_int1 int_ok (dv_var (pv 2)) (by rfl) (M.free 1) PyProof.Rows.boot_int)) (dv_var (pv 1))))))))) (ds_nil)) (ds_one (ds_setItem hu (de_by (ms := [none, none]) h__law_mixed (by first | omega | exact Nat.le_refl _) tk hr (by rfl) (dar_val (DF.toE (df_op (op_addA hK) add_ok (dv_item hu hK (dv_var (pv 0)) (df_int)) (dv_var (pv 4)))) (dar_val (DF.toE (DV.load (dv_item hu hK (dv_var (pv 0)) (df_int)))) (dar_nil)))) (dv_var (pv 0)) (df_int))))))) (ds_one (ds_if (dt_cmp op_ltA lt_ok (dv_var (pv 2)) (DF.toV (df_int)) (nomark _)) (ds_cons (ds_setItem hu (DF.toE (df_op (op_addA hK) add_ok (dv_item hu hK (dv_var (pv 0)) (df_int)) (DF.toV (df_int)))) (dv_var (pv 0)) (df_int)) (ds_one (ds_setItem hu (de_by (ms := [none, none]) h__law_mixed (by first | omega | exact Nat.le_refl _) tk hr (by rfl) (dar_val (DF.toE (DV.load (dv_item hu hK (dv_var (pv 0)) (df_int)))) (dar_val (DF.toE (df_op (op_addA hK) add_ok (DF.toV (df_int)) (dv_item hu hK (dv_var (pv 0)) (df_int)))) (dar_nil)))) (dv_var (pv 0)) (df_int)))) (ds_cons (ds_setItem hu (DF.toE (df_op op_sub sub_ok (dv_item hu hK (dv_var (pv 0)) (df_int)) (DF.toV (df_int)))) (dv_var (pv 0)) (df_int)) (ds_cons (ds_setItem hu (DF.toE (df_op op_mul mul_ok (DF.toV (df_op op_fdiv fdiv_ok (dv_var (pv 2)) (dv_var (pv 1)))) (DF.toV (df_callT1 call_int1 int_ok (DF.toV (df_cmp op_gtA gt_ok (dv_item hu hK (dv_var (pv 0)) (df_int)) (DF.toV (df_int)) (nomark _))) (by rfl) (M.free 1) PyProof.Rows.boot_int)))) (dv_var (pv 0)) (df_int)) (ds_one (ds_ret (DF.toE (df_op op_mod mod_ok (DF.toV (df_callT1 call_int1 int_ok (dv_var (pv 2)) (by rfl) (M.free 1) PyProof.Rows.boot_int)) (dv_var (pv 1))))))))))) (ds_cons (ds_setItem hu (DF.toE (df_int)) (dv_var (pv 0)) (df_int)) (ds_one (ds_ret (DF.toE (df_op op_mod mod_ok (DF.toV (df_callT1 call_int1 int_ok (dv_item hu hK (dv_var (pv 0)) (df_int)) (by rfl) (M.free 1) PyProof.Rows.boot_int)) (dv_var (pv 1))))))))
theorem a__law_same (gk : Γ.K = K) (M : Mdl faL fnL K mg base) (n : Nat) : Able P w K mg base Γ "_law_same" (1 + n) 2 (S__law_same n) := by
  have hK : K = Γ.K := gk.symm
  obtain ⟨fd, F⟩ := M.def_ 11 (d := d__law_same) rfl
  have nd : (["_law_actual", "_law_due_here", "_law_k"] : List Str).Nodup := by decide +kernel
  have sc : FnScope ["_law_actual", "_law_due_here", "_law_k"] ["_law_actual", "_law_due_here"] (defScope st__law_same) := ⟨rfl, rfl, rfl, nd, rfl, by decide +kernel, by decide +kernel⟩
  have hb : Binds K fd ["_law_actual", "_law_due_here"] [] := F.bindsN fun _ _ _ _ _ _ us hl => match us, hl with | [_, _], _ => rfl
  induction n with
  | zero => exact able_bad F (M.glo 25) sc hb
  | succ n ih =>
    have h__law_same := ih
    refine able (π := [true, true]) F (M.glo 25) sc rfl (by decide) hb fun cdv A outer s H E hr tk hp => ?_
    have hu := hu_of hr
    exact ds_cons (ds_if (dt_cmp op_isN isN_ok (dv_var (pv 1)) (DF.toV (df_non)) (nomark _)) (ds_one (ds_ret (DF.toE (df_cmp op_isN isN_ok (dv_var (pv 0)) (DF.toV (df_non)) (nomark _))))) (ds_nil)) (ds_cons (ds_if (dt_val (df_isi hK (dv_var (pv 1)) (by rfl) (M.free 0) PyProof.Rows.boot_isinstance (pe_bltn (by rfl) (M.free 4) PyProof.Rows.boot_tuple rfl))) (ds_cons (ds_if (DW.dt (dw_or (dt_not (dt_val (df_isi hK (dv_var (pv 0)) (by rfl) (M.free 0) PyProof.Rows.boot_isinstance (pe_bltn (by rfl) (M.free 4) PyProof.Rows.boot_tuple rfl)))) (dw_or1 (dt_cmp op_ne ne_ok (DF.toV (df_callB1 (cr_lenK hK) len_ok (dv_var (pv 0)) (by rfl) (M.free 5) PySem.boot_len)) (DF.toV (df_callB1 (cr_lenK hK) len_ok (dv_var (pv 1)) (by rfl) (M.free 5) PySem.boot_len)) (nomark _))))) (ds_one (ds_ret (DF.toE (df_bl)))) (ds_nil)) (ds_cons (ds_for hp rfl (di_range1 (by rfl) (M.free 11) (da_cons (df_callB1 (cr_lenK hK) len_ok (dv_var (pv 1)) (by rfl) (M.free 5) PySem.boot_len) (da_nil))) (dg_name (pg_name (i := 2) nd rfl (by first | exact Or.inl rfl | exact Or.inr rfl)) (by decide)) (ds_one (ds_if (dt_not (dt_val (DE.toF (de_by (ms := [none, none]) h__law_same (by first | omega | exact Nat.le_refl _) tk hr (by rfl) (dar_val (DF.toE (DV.load (dv_item hu hK (dv_var (pv 0)) (DV.load (dv_var (pv 2)))))) (dar_val (DF.toE (DV.load (dv_item hu hK (dv_var (pv 1)) (DV.load (dv_var (pv 2)))))) (dar_nil))))))) (ds_one (ds_ret (DF.toE (df_bl)))) (ds_nil)))) (ds_one (ds_ret (DF.toE (df_bl)))))) (ds_nil)) (ds_cons (ds_if (dt_val (df_isi hK (dv_var (pv 1)) (by rfl) (M.free 0) PyProof.Rows.boot_isinstance (pe_bltn (by rfl) (M.free 2) PyProof.Rows.boot_bool rfl))) (ds_one (ds_ret (DF.toE (df_and (df_isi hK (dv_var (pv 0)) (by rfl) (M.free 0) PyProof.Rows.boot_isinstance (pe_bltn (by rfl) (M.free 2) PyProof.Rows.boot_bool rfl)) (df_one (df_cmp op_eq eq_ok (dv_var (pv 0)) (dv_var (pv 1)) (nomark _))))))) (ds_nil)) (ds_cons (ds_if (dt_val (df_isi hK (dv_var (pv 1)) (by rfl) (M.free 0) PyProof.Rows.boot_isinstance (pe_bltn (by rfl) (M.free 1) PyProof.Rows.boot_int rfl))) (ds_one (ds_ret (DF.toE (df_and (df_isi hK (dv_var (pv 0)) (by rfl) (M.free 0) PyProof.Rows.boot_isinstance (pe_bltn (by rfl) (M.free 1) PyProof.Rows.boot_int rfl)) (df_and (df_not (df_isi hK (dv_var (pv 0)) (by rfl) (M.free 0) PyProof.Rows.boot_isinstance (pe_bltn (by rfl) (M.free 2) PyProof.Rows.boot_bool rfl))) (df_one (df_cmp op_eq eq_ok (dv_var (pv 0)) (dv_var (pv 1)) (nomark _)))))))) (ds_nil)) (ds_cons (ds_if (dt_val (df_isi hK (dv_var (pv 1)) (by rfl) (M.free 0) PyProof.Rows.boot_isinstance (pe_bltn (by rfl) (M.free 3) PyProof.Rows.boot_list rfl))) (ds_one (ds_ret (DF.toE (df_and (df_isi hK (dv_var (pv 0)) (by rfl) (M.free 0) PyProof.Rows.boot_isinstance (pe_bltn (by rfl) (M.free 3) PyProof.Rows.boot_list rfl)) (df_one (DE.toF (de_by (ms := [none, none]) h__law_same (by first | omega | exact Nat.le_refl _) tk hr (by rfl) (dar_val (DF.toE (df_callT1 (cr_tupleK hK) tuple_ok (dv_var (pv 0)) (by rfl) (M.free 4) PyProof.Rows.boot_tuple)) (dar_val (DF.toE (df_callT1 (cr_tupleK hK) tuple_ok (dv_var (pv 1)) (by rfl) (M.free 4) PyProof.Rows.boot_tuple)) (dar_nil)))))))))) (ds_nil)) (ds_one (ds_ret (DF.toE (df_and (df_isi hK (dv_var (pv 0)) (by rfl) (M.free 0) PyProof.Rows.boot_isinstance (pe_bltn (by rfl) (M.free 12) PyProof.Rows.boot_str rfl)) (df_one (df_cmp op_eq eq_ok (dv_var (pv 0)) (dv_var (pv 1)) (nomark _)))))))))))
theorem a__law_wrong_volume (gk : Γ.K = K) (M : Mdl faL fnL K mg base) (h__law_draw : Able P w K mg base Γ "_law_draw" 2 2 S__law_draw) : Able P w K mg base Γ "_law_wrong_volume" 3 2 S__law_wrong_volume := by
  have hK : K = Γ.K := gk.symm
  obtain ⟨fd, F⟩ := M.def_ 12 (d := d__law_wrong_volume) rfl
  have nd : (["_law_pool_here", "_law_many"] : List Str).Nodup := by decide +kernel
  have sc : FnScope ["_law_pool_here", "_law_many"] ["_law_pool_here", "_law_many"] (defScope st__law_wrong_volume) := ⟨rfl, rfl, rfl, nd, rfl, by decide +kernel, by decide +kernel⟩
  have hb : Binds K fd ["_law_pool_here", "_law_many"] [] := F.bindsN fun _ _ _ _ _ _ us hl => match us, hl with | [_, _], _ => rfl
  refine able (π := [true, true]) F (M.glo 26) sc rfl (by decide) hb fun cdv A outer s H E hr tk hp => ?_
  have hu := hu_of hr
  exact ds_one (ds_ret (DF.toE (DV.load (dv_item hu hK (DF.toV (DE.toF (de_lst (da_cons (df_neg (df_int)) (da_cons (DV.load (dv_var (pv 1))) (da_cons (df_op (op_addA hK) add_ok (DF.toV (df_op (op_addA hK) add_ok (dv_var (pv 1)) (DF.toV (df_int)))) (DF.toV (DE.toF (de_by (ms := [some 0, none]) h__law_draw (by first | omega | exact Nat.le_refl _) tk hr (by rfl) (dar_lend (pv 0) (dar_val (DF.toE (df_int)) (dar_nil))))))) (da_cons (df_op op_sub sub_ok (DF.toV (df_neg (df_int))) (DF.toV (DE.toF (de_by (ms := [some 0, none]) h__law_draw (by first | omega | exact Nat.le_refl _) tk hr (by rfl) (dar_lend (pv 0) (dar_val (DF.toE (df_int)) (dar_nil))))))) (da_nil)))))))) (DE.toF (de_by (ms := [some 0, none]) h__law_draw (by first | omega | exact Nat.le_refl _) tk hr (by rfl) (dar_lend (pv 0) (dar_val (DF.toE (df_int)) (dar_nil)))))))))
theorem a__law_integers (gk : Γ.K = K) (M : Mdl faL fnL K mg base) (h__law_draw : Able P w K mg base Γ "_law_draw" 2 2 S__law_draw) : Able P w K mg base Γ "_law_integers" 3 1 S__law_integers := by
  have hK : K = Γ.K := gk.symm
  obtain ⟨fd, F⟩ := M.def_ 13 (d := d__law_integers) rfl
  have nd : (["_law_pool_here", "_law_integers_here", "_law_k"] : List Str).Nodup := by decide +kernel
  have sc : FnScope ["_law_pool_here", "_law_integers_here", "_law_k"] ["_law_pool_here"] (defScope st__law_integers) := ⟨rfl, rfl, rfl, nd, rfl, by decide +kernel, by decide +kernel⟩
  have hb : Binds K fd ["_law_pool_here"] [] := F.bindsN fun _ _ _ _ _ _ us hl => match us, hl with | [_], _ => rfl
  refine able (π := [true]) F (M.glo 27) sc rfl (by decide) hb fun cdv A outer s H E hr tk hp => ?_
  have hu := hu_of hr
  exact ds_cons (ds_setLc (i := 1) (π := [true, true, false]) (own := [("_law_k", 2)]) (pin_by rfl) (by decide) rfl nd (by rfl) (by rfl) (sw_true rfl rfl rfl (by decide +kernel)) (di_range1 (by rfl) (M.free 11) (da_cons (df_op (op_addA hK) add_ok (DF.toV (df_int)) (DF.toV (DE.toF (de_by (ms := [some 0, none]) h__law_draw (by first | omega | exact Nat.le_refl _) tk hr (by rfl) (dar_lend (pv 0) (dar_val (DF.toE (df_int)) (dar_nil))))))) (da_nil))) (blkOk_by (N := ["_law_pool_here", "_law_integers_here", "_law_k"]) (sc := defScope st__law_integers) (own := [("_law_k", 2)]) (by decide +kernel)) (fun _ _ _ _ _ => dg_name (pg_name (i := 2) nd rfl (by first | exact Or.inl rfl | exact Or.inr rfl)) (by decide)) (fun _ _ _ _ _ => PTs.yes) (fun _ _ _ _ _ => DF.toE (DV.load (dv_item hu hK (DF.toV (DE.toF (de_lst (da_cons (DE.toF (de_by (ms := [some 0, none]) h__law_draw (by first | omega | exact Nat.le_refl _) takes0 hr (by rfl) (dar_lend (pv 0) (dar_val (DF.toE (df_int)) (dar_nil))))) (da_cons (df_int) (da_cons (df_int) (da_nil))))))) (DE.toF (de_by (ms := [some 0, none]) h__law_draw (by first | omega | exact Nat.le_refl _) takes0 hr (by rfl) (dar_lend (pv 0) (dar_val (DF.toE (df_int)) (dar_nil))))))))) (ds_cons (ds_if (dt_cmp op_eq eq_ok (DF.toV (DE.toF (de_by (ms := [some 0, none]) h__law_draw (by first | omega | exact Nat.le_refl _) tk hr (by rfl) (dar_lend (pv 0) (dar_val (DF.toE (df_int)) (dar_nil)))))) (DF.toV (df_int)) (nomark _)) (ds_one (ds_ret (DF.toE (df_callT1 (cr_tupleK hK) tuple_ok (dv_var (pv 1)) (by rfl) (M.free 4) PyProof.Rows.boot_tuple)))) (ds_nil)) (ds_one (ds_ret (de_move (pv 1)))))
theorem a__law_harm (gk : Γ.K = K) (M : Mdl faL fnL K mg base) (h__law_draw : Able P w K mg base Γ "_law_draw" 2 2 S__law_draw) (h__law_integers : Able P w K mg base Γ "_law_integers" 3 1 S__law_integers) : Able P w K mg base Γ "_law_harm" 4 2 S__law_harm := by
  have hK : K = Γ.K := gk.symm
  obtain ⟨fd, F⟩ := M.def_ 14 (d := d__law_harm) rfl
  have nd : (["_law_pool_here", "_law_many", "_law_v", "_law_kind", "_law_place"] : List Str).Nodup := by decide +kernel
  have sc : FnScope ["_law_pool_here", "_law_many", "_law_v", "_law_kind", "_law_place"] ["_law_pool_here", "_law_many"] (defScope st__law_harm) := ⟨rfl, rfl, rfl, nd, rfl, by decide +kernel, by decide +kernel⟩
  have hb : Binds K fd ["_law_pool_here", "_law_many"] [] := F.bindsN fun _ _ _ _ _ _ us hl => match us, hl with | [_, _], _ => rfl
  refine able (π := [true, true]) F (M.glo 28) sc rfl (by decide) hb fun cdv A outer s H E hr tk hp => ?_
  have hu := hu_of hr
  exact ds_cons (ds_set (pg_name (i := 2) nd rfl (by first | exact Or.inl rfl | exact Or.inr rfl)) (de_by (ms := [some 0, none]) h__law_draw (by first | omega | exact Nat.le_refl _) tk hr (by rfl) (dar_lend (pv 0) (dar_val (DF.toE (df_callB2 (call_max2 rfl) max2_ok (DF.toV (df_int)) (dv_var (pv 1)) (by rfl) (M.free 9) PyProof.Rows.boot_max)) (dar_nil)))) (by decide)) (ds_cons (ds_set (pg_name (i := 3) nd rfl (by first | exact Or.inl rfl | exact Or.inr rfl)) (de_by (ms := [some 0, none]) h__law_draw (by first | omega | exact Nat.le_refl _) tk hr (by rfl) (dar_lend (pv 0) (dar_val (DF.toE (df_int)) (dar_nil)))) (by decide)) (ds_cons (ds_if (dt_cmp op_eq eq_ok (dv_var (pv 3)) (DF.toV (df_int)) (nomark _)) (ds_one (ds_ret (DF.toE (df_tup (da_cons (df_str) (da_cons (DV.load (dv_var (pv 2))) (da_nil))))))) (ds_nil)) (ds_cons (ds_if (dt_cmp op_eq eq_ok (dv_var (pv 3)) (DF.toV (df_int)) (nomark _)) (ds_one (ds_ret (DF.toE (df_tup (da_cons (df_str) (da_cons (DV.load (dv_var (pv 2))) (da_cons (DE.toF (de_by (ms := [some 0, none]) h__law_draw (by first | omega | exact Nat.le_refl _) tk hr (by rfl) (dar_lend (pv 0) (dar_val (DF.toE (df_callB2 (call_max2 rfl) max2_ok (DF.toV (df_int)) (dv_var (pv 1)) (by rfl) (M.free 9) PyProof.Rows.boot_max)) (dar_nil))))) (da_nil)))))))) (ds_nil)) (ds_cons (ds_if (dt_cmp op_eq eq_ok (dv_var (pv 3)) (DF.toV (df_int)) (nomark _)) (ds_one (ds_ret (DF.toE (df_tup (da_cons (df_str) (da_cons (DV.load (dv_var (pv 2))) (da_nil))))))) (ds_nil)) (ds_cons (ds_set (pg_name (i := 4) nd rfl (by first | exact Or.inl rfl | exact Or.inr rfl)) (DF.toE (DV.load (dv_item hu hK (DF.toV (DE.toF (de_lst (da_cons (DE.toF (de_by (ms := [some 0, none]) h__law_draw (by first | omega | exact Nat.le_refl _) tk hr (by rfl) (dar_lend (pv 0) (dar_val (DF.toE (df_int)) (dar_nil))))) (da_cons (DE.toF (de_by (ms := [some 0, none]) h__law_draw (by first | omega | exact Nat.le_refl _) tk hr (by rfl) (dar_lend (pv 0) (dar_val (DF.toE (df_int)) (dar_nil))))) (da_cons (df_int) (da_cons (DE.toF (de_by (ms := [some 0, none]) h__law_draw (by first | omega | exact Nat.le_refl _) tk hr (by rfl) (dar_lend (pv 0) (dar_val (DF.toE (df_int)) (dar_nil))))) (da_nil)))))))) (DE.toF (de_by (ms := [some 0, none]) h__law_draw (by first | omega | exact Nat.le_refl _) tk hr (by rfl) (dar_lend (pv 0) (dar_val (DF.toE (df_int)) (dar_nil)))))))) (by decide)) (ds_cons (ds_if (dt_cmp op_eq eq_ok (dv_var (pv 3)) (DF.toV (df_int)) (nomark _)) (ds_one (ds_ret (DF.toE (df_tup (da_cons (df_str) (da_cons (DV.load (dv_var (pv 2))) (da_cons (DV.load (dv_var (pv 4))) (da_cons (df_op (op_addA hK) add_ok (dv_var (pv 4)) (dv_item hu hK (DF.toV (DE.toF (de_lst (da_cons (df_int) (da_cons (DE.toF (de_by (ms := [some 0, none]) h__law_draw (by first | omega | exact Nat.le_refl _) tk hr (by rfl) (dar_lend (pv 0) (dar_val (DF.toE (df_int)) (dar_nil))))) (da_cons (df_int) (da_cons (DE.toF (de_by (ms := [some 0, none]) h__law_draw (by first | omega | exact Nat.le_refl _) tk hr (by rfl) (dar_lend (pv 0) (dar_val (DF.toE (df_int)) (dar_nil))))) (da_nil)))))))) (DE.toF (de_by (ms := [some 0, none]) h__law_draw (by first | omega | exact Nat.le_refl _) tk hr (by rfl) (dar_lend (pv 0) (dar_val (DF.toE (df_int)) (dar_nil))))))) (da_nil))))))))) (ds_nil)) (ds_one (ds_ret (DF.toE (df_tup (da_cons (df_str) (da_cons (DV.load (dv_var (pv 2))) (da_cons (DV.load (dv_var (pv 4))) (da_cons (DE.toF (de_by (ms := [some 0]) h__law_integers (by first | omega | exact Nat.le_refl _) tk hr (by rfl) (dar_lend (pv 0) (dar_nil)))) (da_nil)))))))))))))))
theorem a__law_spoilt (gk : Γ.K = K) (M : Mdl faL fnL K mg base) (h__law_wrong_volume : Able P w K mg base Γ "_law_wrong_volume" 3 2 S__law_wrong_volume) (h__law_draw : Able P w K mg base Γ "_law_draw" 2 2 S__law_draw) : Able P w K mg base Γ "_law_spoilt" 4 3 S__law_spoilt := by
  have hK : K = Γ.K := gk.symm
  obtain ⟨fd, F⟩ := M.def_ 15 (d := d__law_spoilt) rfl
  have nd : (["_law_pool_here", "_law_harm_here", "_law_many", "_law_wrong", "_law_way", "_law_begin", "_law_four", "_law_odd"] : List Str).Nodup := by decide +kernel
  have sc : FnScope ["_law_pool_here", "_law_harm_here", "_law_many", "_law_wrong", "_law_way", "_law_begin", "_law_four", "_law_odd"] ["_law_pool_here", "_law_harm_here", "_law_many"] (defScope st__law_spoilt) := ⟨rfl, rfl, rfl, nd, rfl, by decide +kernel, by decide +kernel⟩
  have hb : Binds K fd ["_law_pool_here", "_law_harm_here", "_law_many"] [] := F.bindsN fun _ _ _ _ _ _ us hl => match us, hl with | [_, _, _], _ => rfl
  refine able (π := [true, true, true]) F (M.glo 29) sc rfl (by decide) hb fun cdv A outer s H E hr tk hp => ?_
  have hu := hu_of hr
  exact ds_cons (ds_set (pg_name (i := 3) nd rfl (by first | exact Or.inl rfl | exact Or.inr rfl)) (de_by (ms := [some 0, none]) h__law_wrong_volume (by first | omega | exact Nat.le_refl _) tk hr (by rfl) (dar_lend (pv 0) (dar_val (DF.toE (DV.load (dv_var (pv 2)))) (dar_nil)))) (by decide)) (ds_cons (ds_if (dt_cmp op_eq eq_ok (dv_item hu hK (dv_var (pv 1)) (df_int)) (DF.toV (df_str)) (nomark _)) (ds_one (ds_ret (DF.toE (DV.load (dv_item hu hK (DF.toV (DE.toF (de_lst (da_cons (df_tup (da_cons (df_str) (da_cons (DV.load (dv_var (pv 3))) (da_cons (DV.load (dv_item hu hK (dv_var (pv 1)) (df_int))) (da_nil))))) (da_cons (df_tup (da_cons (df_str) (da_cons (DV.load (dv_item hu hK (dv_var (pv 1)) (df_int))) (da_cons (DV.load (dv_var (pv 3))) (da_nil))))) (da_nil)))))) (DE.toF (de_by (ms := [some 0, none]) h__law_draw (by first | omega | exact Nat.le_refl _) tk hr (by rfl) (dar_lend (pv 0) (dar_val (DF.toE (df_int)) (dar_nil)))))))))) (ds_nil)) (ds_cons (ds_set (pg_name (i := 4) nd rfl (by first | exact Or.inl rfl | exact Or.inr rfl)) (de_by (ms := [some 0, none]) h__law_draw (by first | omega | exact Nat.le_refl _) tk hr (by rfl) (dar_lend (pv 0) (dar_val (DF.toE (df_int)) (dar_nil)))) (by decide)) (ds_cons (ds_if (DW.dt (dw_and (dt_cmp op_eq eq_ok (dv_item hu hK (dv_var (pv 1)) (df_int)) (DF.toV (df_str)) (nomark _)) (dw_and1 (dt_cmp op_gtA gt_ok (dv_var (pv 4)) (DF.toV (df_int)) (nomark _))))) (ds_cons (ds_set (pg_name (i := 5) nd rfl (by first | exact Or.inl rfl | exact Or.inr rfl)) (DF.toE (df_op (op_addA hK) add_ok (DF.toV (df_int)) (DF.toV (DE.toF (de_by (ms := [some 0, none]) h__law_draw (by first | omega | exact Nat.le_refl _) tk hr (by rfl) (dar_lend (pv 0) (dar_val (DF.toE (df_int)) (dar_nil)))))))) (by decide)) (ds_one (ds_ret (DF.toE (DV.load (dv_item hu hK (DF.toV (DE.toF (de_lst (da_cons (df_tup (da_cons (df_str) (da_cons (DV.load (dv_item hu hK (dv_var (pv 1)) (df_int))) (da_cons (DV.load (dv_var (pv 5))) (da_cons (df_op op_sub sub_ok (dv_var (pv 5)) (DF.toV (df_int))) (da_nil)))))) (da_cons (df_tup (da_cons (df_str) (da_cons (DV.load (dv_item hu hK (dv_var (pv 1)) (df_int))) (da_cons (df_op op_sub sub_ok (DF.toV (df_int)) (dv_var (pv 5))) (da_cons (df_int) (da_nil)))))) (da_cons (df_tup (da_cons (df_str) (da_cons (DV.load (dv_item hu hK (dv_var (pv 1)) (df_int))) (da_cons (df_neg (df_int)) (da_cons (df_neg (df_int)) (da_nil)))))) (da_nil))))))) (df_op op_sub sub_ok (dv_var (pv 4)) (DF.toV (df_int))))))))) (ds_nil)) (ds_cons (ds_if (DW.dt (dw_and (dt_cmp op_eq eq_ok (dv_item hu hK (dv_var (pv 1)) (df_int)) (DF.toV (df_str)) (nomark _)) (dw_and1 (dt_cmp op_eq eq_ok (dv_var (pv 4)) (DF.toV (df_int)) (nomark _))))) (ds_one (ds_ret (DF.toE (df_tup (da_cons (df_str) (da_cons (DV.load (dv_item hu hK (dv_var (pv 1)) (df_int))) (da_cons (df_op op_sub sub_ok (DF.toV (df_neg (df_int))) (DF.toV (DE.toF (de_by (ms := [some 0, none]) h__law_draw (by first | omega | exact Nat.le_refl _) tk hr (by rfl) (dar_lend (pv 0) (dar_val (DF.toE (df_int)) (dar_nil))))))) (da_cons (DV.load (dv_item hu hK (dv_var (pv 1)) (df_int))) (da_nil))))))))) (ds_nil)) (ds_cons (ds_if (DW.dt (dw_and (dt_cmp op_eq eq_ok (dv_item hu hK (dv_var (pv 1)) (df_int)) (DF.toV (df_str)) (nomark _)) (dw_and1 (dt_cmp op_gtA gt_ok (dv_var (pv 4)) (DF.toV (df_int)) (nomark _))))) (ds_cons (ds_set (pg_name (i := 6) nd rfl (by first | exact Or.inl rfl | exact Or.inr rfl)) (DF.toE (df_tup (da_cons (df_int) (da_cons (df_int) (da_cons (df_int) (da_cons (df_int) (da_nil))))))) (by decide)) (ds_cons (ds_set (pg_name (i := 7) nd rfl (by first | exact Or.inl rfl | exact Or.inr rfl)) (DF.toE (DV.load (dv_item hu hK (DF.toV (DE.toF (de_lst (da_cons (df_tup (da_nil)) (da_cons (df_op (op_addA hK) add_ok (dv_var (pv 6)) (DF.toV (df_tup (da_cons (df_int) (da_nil))))) (da_cons (df_tup (da_cons (df_int) (da_nil))) (da_cons (df_tup (da_cons (df_int) (da_cons (df_neg (df_int)) (da_nil)))) (da_cons (DE.toF (de_lst (da_cons (df_int) (da_cons (df_int) (da_nil))))) (da_cons (df_op (op_addA hK) add_ok (DF.toV (df_slice hK (dv_var (pv 6)) (dp_none) (dp_some (df_int)))) (DF.toV (df_tup (da_cons (df_int) (da_nil))))) (da_cons (DE.toF (de_lst (da_nil))) (da_nil))))))))))) (DE.toF (de_by (ms := [some 0, none]) h__law_draw (by first | omega | exact Nat.le_refl _) tk hr (by rfl) (dar_lend (pv 0) (dar_val (DF.toE (df_int)) (dar_nil)))))))) (by decide)) (ds_one (ds_ret (DF.toE (df_tup (da_cons (df_str) (da_cons (DV.load (dv_item hu hK (dv_var (pv 1)) (df_int))) (da_cons (DV.load (dv_item hu hK (dv_var (pv 1)) (df_int))) (da_cons (DV.load (dv_var (pv 7))) (da_nil))))))))))) (ds_nil)) (ds_one (ds_ret (DF.toE (df_op (op_addA hK) add_ok (DF.toV (df_tup (da_cons (DV.load (dv_item hu hK (dv_var (pv 1)) (df_int))) (da_cons (DV.load (dv_var (pv 3))) (da_nil))))) (DF.toV (df_slice hK (dv_var (pv 1)) (dp_some (df_int)) (dp_none))))))))))))
theorem a__law_is_wrong (gk : Γ.K = K) (M : Mdl faL fnL K mg base) : Able P w K mg base Γ "_law_is_wrong" 1 2 S__law_is_wrong := by
  have hK : K = Γ.K := gk.symm
  obtain ⟨fd, F⟩ := M.def_ 16 (d := d__law_is_wrong) rfl
  have nd : (["_law_harm_here", "_law_many", "_law_volumes", "_law_v", "_law_bad", "_law_integer"] : List Str).Nodup := by decide +kernel
  have sc : FnScope ["_law_harm_here", "_law_many", "_law_volumes", "_law_v", "_law_bad", "_law_integer"] ["_law_harm_here", "_law_many"] (defScope st__law_is_wrong) := ⟨rfl, rfl, rfl, nd, rfl, by decide +kernel, by decide +kernel⟩
  have hb : Binds K fd ["_law_harm_here", "_law_many"] [] := F.bindsN fun _ _ _ _ _ _ us hl => match us, hl with | [_, _], _ => rfl
  refine able (π := [true, true]) F (M.glo 30) sc rfl (by decide) hb fun cdv A outer s H E hr tk hp => ?_
  have hu := hu_of hr
  exact ds_cons (ds_set (pg_name (i := 2) nd rfl (by first | exact Or.inl rfl | exact Or.inr rfl)) (de_lst (da_cons (DV.load (dv_item hu hK (dv_var (pv 0)) (df_int))) (da_nil))) (by decide)) (ds_cons (ds_if (dt_cmp op_eq eq_ok (dv_item hu hK (dv_var (pv 0)) (df_int)) (DF.toV (df_str)) (nomark _)) (ds_one (ds_append hK (dv_var (pv 2)) (DF.toE (DV.load (dv_item hu hK (dv_var (pv 0)) (df_int)))))) (ds_nil)) (ds_cons (ds_for hp rfl (di_seq hK (DV.load (dv_var (pv 2)))) (dg_name (pg_name (i := 3) nd rfl (by first | exact Or.inl rfl | exact Or.inr rfl)) (by decide)) (ds_one (ds_if (DW.dt (dw_or (dt_cmp op_ltA lt_ok (dv_var (pv 3)) (DF.toV (df_int)) (nomark _)) (dw_or1 (dt_cmp op_ge intCmp_ok (dv_var (pv 3)) (dv_var (pv 1)) (nomark _))))) (ds_one (ds_ret (DF.toE (df_bl)))) (ds_nil)))) (ds_cons (ds_if (dt_cmp op_eq eq_ok (dv_item hu hK (dv_var (pv 0)) (df_int)) (DF.toV (df_str)) (nomark _)) (ds_one (ds_ret (DF.toE (df_or (df_cmp op_gtA gt_ok (dv_item hu hK (dv_var (pv 0)) (df_int)) (dv_item hu hK (dv_var (pv 0)) (df_int)) (nomark _)) (df_one (df_cmp op_ltA lt_ok (dv_item hu hK (dv_var (pv 0)) (df_int)) (DF.toV (df_int)) (nomark _))))))) (ds_nil)) (ds_cons (ds_if (dt_cmp op_eq eq_ok (dv_item hu hK (dv_var (pv 0)) (df_int)) (DF.toV (df_str)) (nomark _)) (ds_cons (ds_setLc (i := 4) (π := [true, true, true, true, true, false]) (own := [("_law_integer", 5)]) (pin_by rfl) (by decide) rfl nd (by rfl) (by rfl) (sw_true rfl rfl rfl (by decide +kernel)) (di_seq hK (DV.load (dv_item hu hK (dv_var (pv 0)) (df_int)))) (blkOk_by (N := ["_law_harm_here", "_law_many", "_law_volumes", "_law_v", "_law_bad", "_law_integer"]) (sc := defScope st__law_is_wrong) (own := [("_law_integer", 5)]) (by decide +kernel)) (fun _ _ _ _ _ => dg_name (pg_name (i := 5) nd rfl (by first | exact Or.inl rfl | exact Or.inr rfl)) (by decide)) (fun _ _ _ _ _ => pts_one (DW.dt (dw_or (dt_cmp op_ltA lt_ok (dv_var (pv 5)) (DF.toV (df_int)) (nomark _)) (dw_or1 (dt_cmp op_gtA gt_ok (dv_var (pv 5)) (DF.toV (df_int)) (nomark _)))))) (fun _ _ _ _ _ => DF.toE (DV.load (dv_var (pv 5))))) (ds_one (ds_ret (DF.toE (df_or (df_cmp op_ltA lt_ok (dv_item hu hK (dv_var (pv 0)) (df_int)) (DF.toV (df_int)) (nomark _)) (df_or (df_cmp op_ltA lt_ok (DF.toV (df_callB1 (cr_lenK hK) len_ok (dv_item hu hK (dv_var (pv 0)) (df_int)) (by rfl) (M.free 5) PySem.boot_len)) (DF.toV (df_int)) (nomark _)) (df_or (df_cmp op_gtA gt_ok (DF.toV (df_callB1 (cr_lenK hK) len_ok (dv_item hu hK (dv_var (pv 0)) (df_int)) (by rfl) (M.free 5) PySem.boot_len)) (DF.toV (df_int)) (nomark _)) (df_one (df_cmp op_gtA gt_ok (DF.toV (df_callB1 (cr_lenK hK) len_ok (dv_var (pv 4)) (by rfl) (M.free 5) PySem.boot_len)) (DF.toV (df_int)) (nomark _)))))))))) (ds_nil)) (ds_one (ds_ret (DF.toE (df_bl))))))))
theorem a__law_done (gk : Γ.K = K) (M : Mdl faL fnL K mg base) : Able P w K mg base Γ "_law_done" 1 2 S__law_done := by
  have hK : K = Γ.K := gk.symm
  obtain ⟨fd, F⟩ := M.def_ 17 (d := d__law_done) rfl
  have nd : (["_law_volumes", "_law_harm_here", "_law_v", "_law_volume", "_law_kept", "_law_k"] : List Str).Nodup := by decide +kernel
  have sc : FnScope ["_law_volumes", "_law_harm_here", "_law_v", "_law_volume", "_law_kept", "_law_k"] ["_law_volumes", "_law_harm_here"] (defScope st__law_done) := ⟨rfl, rfl, rfl, nd, rfl, by decide +kernel, by decide +kernel⟩
  have hb : Binds K fd ["_law_volumes", "_law_harm_here"] [] := F.bindsN fun _ _ _ _ _ _ us hl => match us, hl with | [_, _], _ => rfl
  refine able (π := [false, true]) F (M.glo 31) sc rfl (by decide) hb fun cdv A outer s H E hr tk hp => ?_
  have hu := hu_of hr
  exact ds_cons (ds_set (pg_name (i := 0) nd rfl (by first | exact Or.inl rfl | exact Or.inr rfl)) (de_callT1 (cr_listK hK) list_ok (dv_var (pv 0)) (by rfl) (M.free 3) PyProof.Rows.boot_list) (by decide)) (ds_cons (ds_set (pg_name (i := 2) nd rfl (by first | exact Or.inl rfl | exact Or.inr rfl)) (DF.toE (DV.load (dv_item hu hK (dv_var (pv 1)) (df_int)))) (by decide)) (ds_cons (ds_set (pg_name (i := 3) nd rfl (by first | exact Or.inl rfl | exact Or.inr rfl)) (DF.toE (DV.load (dv_item hu hK (dv_var (pv 0)) (DV.load (dv_var (pv 2)))))) (by decide)) (ds_cons (ds_if (dt_cmp op_eq eq_ok (dv_item hu hK (dv_var (pv 1)) (df_int)) (DF.toV (df_str)) (nomark _)) (ds_one (ds_setItem hu (de_lst (da_nil)) (dv_var (pv 0)) (DV.load (dv_var (pv 2))))) (ds_nil)) (ds_cons (ds_if (dt_cmp op_eq eq_ok (dv_item hu hK (dv_var (pv 1)) (df_int)) (DF.toV (df_str)) (nomark _)) (ds_cons (ds_setItem hu (DF.toE (DV.load (dv_item hu hK (dv_var (pv 0)) (DV.load (dv_item hu hK (dv_var (pv 1)) (df_int)))))) (dv_var (pv 0)) (DV.load (dv_var (pv 2)))) (ds_one (ds_setItem hu (DF.toE (DV.load (dv_var (pv 3)))) (dv_var (pv 0)) (DV.load (dv_item hu hK (dv_var (pv 1)) (df_int)))))) (ds_nil)) (ds_cons (ds_if (dt_cmp op_eq eq_ok (dv_item hu hK (dv_var (pv 1)) (df_int)) (DF.toV (df_str)) (nomark _)) (ds_one (ds_append hK (dv_var (pv 0)) (de_callT1 (cr_listK hK) list_ok (dv_var (pv 3)) (by rfl) (M.free 3) PyProof.Rows.boot_list))) (ds_nil)) (ds_cons (ds_if (dt_cmp op_eq eq_ok (dv_item hu hK (dv_var (pv 1)) (df_int)) (DF.toV (df_str)) (nomark _)) (ds_one (ds_setItem hu (DF.toE (df_op (op_addA hK) add_ok (DF.toV (df_slice hK (dv_var (pv 3)) (dp_none) (dp_some (DV.load (dv_item hu hK (dv_var (pv 1)) (df_int)))))) (DF.toV (df_slice hK (dv_var (pv 3)) (dp_some (DV.load (dv_item hu hK (dv_var (pv 1)) (df_int)))) (dp_none))))) (dv_var (pv 0)) (DV.load (dv_var (pv 2))))) (ds_nil)) (ds_cons (ds_if (dt_cmp op_eq eq_ok (dv_item hu hK (dv_var (pv 1)) (df_int)) (DF.toV (df_str)) (nomark _)) (ds_cons (ds_set (pg_name (i := 4) nd rfl (by first | exact Or.inl rfl | exact Or.inr rfl)) (de_callT1 (cr_listK hK) list_ok (dv_var (pv 3)) (by rfl) (M.free 3) PyProof.Rows.boot_list) (by decide)) (ds_cons (ds_for hp rfl (di_range1 (by rfl) (M.free 11) (da_cons (df_callB1 (cr_lenK hK) len_ok (dv_item hu hK (dv_var (pv 1)) (df_int)) (by rfl) (M.free 5) PySem.boot_len) (da_nil))) (dg_name (pg_name (i := 5) nd rfl (by first | exact Or.inl rfl | exact Or.inr rfl)) (by decide)) (ds_one (ds_if (dt_cmp op_ltA lt_ok (DF.toV (df_op (op_addA hK) add_ok (dv_item hu hK (dv_var (pv 1)) (df_int)) (dv_var (pv 5)))) (DF.toV (df_callB1 (cr_lenK hK) len_ok (dv_var (pv 4)) (by rfl) (M.free 5) PySem.boot_len)) (nomark _)) (ds_one (ds_setItem hu (DF.toE (DV.load (dv_item hu hK (dv_item hu hK (dv_var (pv 1)) (df_int)) (DV.load (dv_var (pv 5)))))) (dv_var (pv 4)) (df_op (op_addA hK) add_ok (dv_item hu hK (dv_var (pv 1)) (df_int)) (dv_var (pv 5))))) (ds_nil)))) (ds_one (ds_setItem hu (DF.toE (DV.load (dv_var (pv 4)))) (dv_var (pv 0)) (DV.load (dv_var (pv 2))))))) (ds_nil)) (ds_one (ds_ret (de_move (pv 0)))))))))))
theorem a__law_due (gk : Γ.K = K) (M : Mdl faL fnL K mg base) (h__law_is_wrong : Able P w K mg base Γ "_law_is_wrong" 1 2 S__law_is_wrong) (h__law_done : Able P w K mg base Γ "_law_done" 1 2 S__law_done) : Able P w K mg base Γ "_law_due" 2 2 S__law_due := by
  have hK : K = Γ.K := gk.symm
  obtain ⟨fd, F⟩ := M.def_ 18 (d := d__law_due) rfl
  have nd : (["_law_volumes", "_law_harms", "_law_volume", "_law_at"] : List Str).Nodup := by decide +kernel
  have sc : FnScope ["_law_volumes", "_law_harms", "_law_volume", "_law_at"] ["_law_volumes", "_law_harms"] (defScope st__law_due) := ⟨rfl, rfl, rfl, nd, rfl, by decide +kernel, by decide +kernel⟩
  have hb : Binds K fd ["_law_volumes", "_law_harms"] [] := F.bindsN fun _ _ _ _ _ _ us hl => match us, hl with | [_, _], _ => rfl
  refine able (π := [false, true]) F (M.glo 32) sc rfl (by decide) hb fun cdv A outer s H E hr tk hp => ?_
  have hu := hu_of hr
  exact ds_cons (ds_setLc (i := 0) (π := [true, true, false, true]) (own := [("_law_volume", 2)]) (pin_by rfl) (by decide) rfl nd (by rfl) (by rfl) (sw_true rfl rfl rfl (by decide +kernel)) (di_seq hK (DV.load (dv_var (pv 0)))) (blkOk_by (N := ["_law_volumes", "_law_harms", "_law_volume", "_law_at"]) (sc := defScope st__law_due) (own := [("_law_volume", 2)]) (by decide +kernel)) (fun _ _ _ _ _ => dg_name (pg_name (i := 2) nd rfl (by first | exact Or.inl rfl | exact Or.inr rfl)) (by decide)) (fun _ _ _ _ _ => PTs.yes) (fun _ _ _ _ _ => de_callT1 (cr_listK hK) list_ok (dv_var (pv 2)) (by rfl) (M.free 3) PyProof.Rows.boot_list)) (ds_cons (ds_for hp rfl (di_range1 (by rfl) (M.free 11) (da_cons (df_callB1 (cr_lenK hK) len_ok (dv_var (pv 1)) (by rfl) (M.free 5) PySem.boot_len) (da_nil))) (dg_name (pg_name (i := 3) nd rfl (by first | exact Or.inl rfl | exact Or.inr rfl)) (by decide)) (ds_cons (ds_if (dt_val (DE.toF (de_by (ms := [none, none]) h__law_is_wrong (by first | omega | exact Nat.le_refl _) tk hr (by rfl) (dar_val (DF.toE (DV.load (dv_item hu hK (dv_var (pv 1)) (DV.load (dv_var (pv 3)))))) (dar_val (DF.toE (df_callB1 (cr_lenK hK) len_ok (dv_var (pv 0)) (by rfl) (M.free 5) PySem.boot_len)) (dar_nil)))))) (ds_one (ds_ret (DF.toE (df_tup (da_cons (df_str) (da_cons (DV.load (dv_var (pv 3))) (da_nil))))))) (ds_nil)) (ds_one (ds_set (pg_name (i := 0) nd rfl (by first | exact Or.inl rfl | exact Or.inr rfl)) (de_by (ms := [none, none]) h__law_done (by first | omega | exact Nat.le_refl _) tk hr (by rfl) (dar_val (DF.toE (DV.load (dv_var (pv 0)))) (dar_val (DF.toE (DV.load (dv_item hu hK (dv_var (pv 1)) (DV.load (dv_var (pv 3)))))) (dar_nil)))) (by decide))))) (ds_one (ds_ret (DF.toE (df_tup (da_cons (df_str) (da_cons (df_callT1 (cr_tupleK hK) tuple_ok (DF.toV (DE.toF (de_lc (π := [true, true, false, true]) (own := [("_law_volume", 2)]) (pin_by rfl) rfl nd (di_seq hK (DV.load (dv_var (pv 0)))) (blkOk_by (N := ["_law_volumes", "_law_harms", "_law_volume", "_law_at"]) (sc := defScope st__law_due) (own := [("_law_volume", 2)]) (by decide +kernel)) (fun _ _ _ _ _ => dg_name (pg_name (i := 2) nd rfl (by first | exact Or.inl rfl | exact Or.inr rfl)) (by decide)) (fun _ _ _ _ _ => PTs.yes) (fun _ _ _ _ _ => DF.toE (df_callT1 (cr_tupleK hK) tuple_ok (dv_var (pv 2)) (by rfl) (M.free 4) PyProof.Rows.boot_tuple))))) (by rfl) (M.free 4) PyProof.Rows.boot_tuple) (da_nil))))))))
theorem a__law_told (gk : Γ.K = K) (M : Mdl faL fnL K mg base) (xAll : ∀ c f, exF[c]? = some f → DLX.ExT P K mg (Γ.cls c) f ∧ exnOf Γ c = f) (g_BadValue : mg "BadValue" = some (.ref (Γ.cls 0))) (k_BadValue : ∀ c b, cat_BadValue c = some b → PySem.W.exmOne K (.ref (Γ.cls c)) (.ref (Γ.cls 0)) = some b) (v_VaultError : Addr) (g_VaultError : mg "VaultError" = some (.ref v_VaultError)) (i_VaultError : ∀ c b, is_VaultError c = some b → (∃ f, DLX.ExT P K mg (Γ.cls c) f ∧ exnOf Γ c = f) ∧ PySem.W.kitOne K (.ref (Γ.cls c)) (.ref v_VaultError) = some b) (h_harmed : Able P w K mg base Γ "harmed" 5 2 S_harmed) : Able P w K mg base Γ "_law_told" 6 2 S__law_told := by
  have hK : K = Γ.K := gk.symm
  obtain ⟨fd, F⟩ := M.def_ 19 (d := d__law_told) rfl
  have nd : (["_law_volumes", "_law_harms", "e"] : List Str).Nodup := by decide +kernel
  have sc : FnScope ["_law_volumes", "_law_harms", "e"] ["_law_volumes", "_law_harms"] (defScope st__law_told) := ⟨rfl, rfl, rfl, nd, rfl, by decide +kernel, by decide +kernel⟩
  have hb : Binds K fd ["_law_volumes", "_law_harms"] [] := F.bindsN fun _ _ _ _ _ _ us hl => match us, hl with | [_, _], _ => rfl
  refine able (π := [true, true]) F (M.glo 33) sc rfl (by decide) hb fun cdv A outer s H E hr tk hp => ?_
  have hu := hu_of hr
  exact ds_cons (ds_tryAs (i := 2) (C := Γ.cls 0) (cat := cat_BadValue) rfl rfl nd rfl rfl ⟨rfl, by decide, Or.inl g_BadValue⟩ tk (by decide) (k_BadValue) (fun W pn xe tk hp => ds_one (ds_ret (DF.toE (df_tup (da_cons (df_str) (da_cons (DE.toF (de_by (ms := [none, none]) h_harmed (by first | omega | exact Nat.le_refl _) tk hr (by rfl) (dar_val (DF.toE (DV.load (dv_var (pv 0)))) (dar_val (DF.toE (DV.load (dv_var (pv 1)))) (dar_nil))))) (da_nil))))))) (fun a oe cls dd pn hz hfd => xs_one (xs_if (xt_val (xf_isi (exF := exF) hz hfd (i_VaultError) (pv 2) (by rfl) (M.free 0) PyProof.Rows.boot_isinstance (pe_glob (v := .ref v_VaultError) (by rfl) g_VaultError rfl))) (xs_one (xs_ret (xf_tup (xa_cons (xf_lift (df_str)) (xa_cons (xf_attr hz hfd (fun c hc => xAll c _ hc) (pv 2)) (xa_nil)))))) (xs_nil)))) (ds_one (ds_ret (DF.toE (df_tup (da_cons (df_str) (da_cons (df_int) (da_nil)))))))
theorem a__law_handed (gk : Γ.K = K) (M : Mdl faL fnL K mg base) (h__law_draw : Able P w K mg base Γ "_law_draw" 2 2 S__law_draw) : Able P w K mg base Γ "_law_handed" 3 2 S__law_handed := by
  have hK : K = Γ.K := gk.symm
  obtain ⟨fd, F⟩ := M.def_ 20 (d := d__law_handed) rfl
  have nd : (["_law_pool_here", "_law_row"] : List Str).Nodup := by decide +kernel
  have sc : FnScope ["_law_pool_here", "_law_row"] ["_law_pool_here", "_law_row"] (defScope st__law_handed) := ⟨rfl, rfl, rfl, nd, rfl, by decide +kernel, by decide +kernel⟩
  have hb : Binds K fd ["_law_pool_here", "_law_row"] [] := F.bindsN fun _ _ _ _ _ _ us hl => match us, hl with | [_, _], _ => rfl
  refine able (π := [true, true]) F (M.glo 34) sc rfl (by decide) hb fun cdv A outer s H E hr tk hp => ?_
  have hu := hu_of hr
  exact ds_cons (ds_if (dt_cmp op_eq eq_ok (DF.toV (DE.toF (de_by (ms := [some 0, none]) h__law_draw (by first | omega | exact Nat.le_refl _) tk hr (by rfl) (dar_lend (pv 0) (dar_val (DF.toE (df_int)) (dar_nil)))))) (DF.toV (df_int)) (nomark _)) (ds_one (ds_ret (DF.toE (df_callT1 (cr_tupleK hK) tuple_ok (dv_var (pv 1)) (by rfl) (M.free 4) PyProof.Rows.boot_tuple)))) (ds_nil)) (ds_one (ds_ret (de_callT1 (cr_listK hK) list_ok (dv_var (pv 1)) (by rfl) (M.free 3) PyProof.Rows.boot_list)))
theorem law_body {A : Around} (hG : A.guards = some []) (hu3 : A.units + 203 < cLine) (gk : Γ.K = K) (M : Mdl faL fnL K mg base) (h__law_pool : Able P w K mg base Γ "_law_pool" 1 1 S__law_pool) (h__law_draw : Able P w K mg base Γ "_law_draw" 2 2 S__law_draw) (h__law_handed : Able P w K mg base Γ "_law_handed" 3 2 S__law_handed) (h__law_harm : Able P w K mg base Γ "_law_harm" 4 2 S__law_harm) (h__law_spoilt : Able P w K mg base Γ "_law_spoilt" 4 3 S__law_spoilt) (h__law_is_wrong : Able P w K mg base Γ "_law_is_wrong" 1 2 S__law_is_wrong) (h__law_due : Able P w K mg base Γ "_law_due" 2 2 S__law_due) (h__law_same : Able P w K mg base Γ "_law_same" 7 2 (S__law_same 6)) (h__law_told : Able P w K mg base Γ "_law_told" 6 2 S__law_told) {k : Nat} (hk : 7 ≤ k) {outer : List PySem.Env} {s : Shared} {H : Hp} {E : XK} {cdv : Value} {fa_ : Addr} (hr : Room k (bx P w K mg base ["_law_script", "_law_pool_here", "_law_volumes", "_law_v", "_law_size", "_law_k", "_law_harms", "_law_many", "_law_odd", "_law_turn", "_law_harm_here", "_law_handed_here", "_law_given", "_law_kept", "_law_due_here"] "law" (defScope st_law) fa_ cdv A outer s H E).A) (nd : (["_law_script", "_law_pool_here", "_law_volumes", "_law_v", "_law_size", "_law_k", "_law_harms", "_law_many", "_law_odd", "_law_turn", "_law_harm_here", "_law_handed_here", "_law_given", "_law_kept", "_law_due_here"] : List Str).Nodup) :
    DSs (bx P w K mg base ["_law_script", "_law_pool_here", "_law_volumes", "_law_v", "_law_size", "_law_k", "_law_harms", "_law_many", "_law_odd", "_law_turn", "_law_harm_here", "_law_handed_here", "_law_given", "_law_kept", "_law_due_here"] "law" (defScope st_law) fa_ cdv A outer s H E) Γ (WD E) [true] (defBody st_law) s_law := by
  have hK : K = Γ.K := gk.symm
  have hu := hu_of hr
  have hu2 : A.units + 3 + 200 < cLine := hu3
  have tk : Takes (bx P w K mg base ["_law_script", "_law_pool_here", "_law_volumes", "_law_v", "_law_size", "_law_k", "_law_harms", "_law_many", "_law_odd", "_law_turn", "_law_harm_here", "_law_handed_here", "_law_given", "_law_kept", "_law_due_here"] "law" (defScope st_law) fa_ cdv A outer s H E) (WD E) := takes_of rfl rfl rfl rfl
  have hp : PassesOwn (model P w) (bx P w K mg base ["_law_script", "_law_pool_here", "_law_volumes", "_law_v", "_law_size", "_law_k", "_law_harms", "_law_many", "_law_odd", "_law_turn", "_law_harm_here", "_law_handed_here", "_law_given", "_law_kept", "_law_due_here"] "law" (defScope st_law) fa_ cdv A outer s H E).A (bx P w K mg base ["_law_script", "_law_pool_here", "_law_volumes", "_law_v", "_law_size", "_law_k", "_law_harms", "_law_many", "_law_odd", "_law_turn", "_law_harm_here", "_law_handed_here", "_law_given", "_law_kept", "_law_due_here"] "law" (defScope st_law) fa_ cdv A outer s H E).env (bx P w K mg base ["_law_script", "_law_pool_here", "_law_volumes", "_law_v", "_law_size", "_law_k", "_law_harms", "_law_many", "_law_odd", "_law_turn", "_law_harm_here", "_law_handed_here", "_law_given", "_law_kept", "_law_due_here"] "law" (defScope st_law) fa_ cdv A outer s H E).xe := passes_of rfl
  exact ds_cons (ds_set (pg_name (i := 1) nd rfl (by first | exact Or.inl rfl | exact Or.inr rfl)) (de_by (ms := [none]) h__law_pool (by first | omega | exact Nat.le_refl _) tk hr (by rfl) (dar_val (DF.toE (DV.load (dv_var (pv 0)))) (dar_nil))) (by decide)) (ds_cons (ds_set (pg_name (i := 2) nd rfl (by first | exact Or.inl rfl | exact Or.inr rfl)) (de_lst (da_nil)) (by decide)) (ds_cons (ds_for hp rfl (di_range1 (by rfl) (M.free 11) (da_cons (DV.load (dv_item hu hK (DF.toV (DE.toF (de_lst (da_cons (df_int) (da_cons (df_int) (da_cons (df_int) (da_cons (df_int) (da_cons (df_int) (da_cons (df_int) (da_cons (df_int) (da_cons (df_int) (da_nil)))))))))))) (DE.toF (de_by (ms := [some 1, none]) h__law_draw (by first | omega | exact Nat.le_refl _) tk hr (by rfl) (dar_lend (pv 1) (dar_val (DF.toE (df_int)) (dar_nil))))))) (da_nil))) (dg_name (pg_name (i := 3) nd rfl (by first | exact Or.inl rfl | exact Or.inr rfl)) (by decide)) (ds_cons (ds_set (pg_name (i := 4) nd rfl (by first | exact Or.inl rfl | exact Or.inr rfl)) (DF.toE (DV.load (dv_item hu hK (DF.toV (DE.toF (de_lst (da_cons (df_int) (da_cons (DE.toF (de_by (ms := [some 1, none]) h__law_draw (by first | omega | exact Nat.le_refl _) tk hr (by rfl) (dar_lend (pv 1) (dar_val (DF.toE (df_int)) (dar_nil))))) (da_cons (df_int) (da_nil))))))) (DE.toF (de_by (ms := [some 1, none]) h__law_draw (by first | omega | exact Nat.le_refl _) tk hr (by rfl) (dar_lend (pv 1) (dar_val (DF.toE (df_int)) (dar_nil)))))))) (by decide)) (ds_one (ds_append hK (dv_var (pv 2)) (de_by (ms := [some 1, none]) h__law_handed (by first | omega | exact Nat.le_refl _) tk hr (by rfl) (dar_lend (pv 1) (dar_val (de_lc (π := [true, true, true, true, true, false, true, true, true, true, true, true, true, true, true]) (own := [("_law_k", 5)]) (pin_by rfl) rfl nd (di_range1 (by rfl) (M.free 11) (da_cons (DV.load (dv_var (pv 4))) (da_nil))) (blkOk_by (N := ["_law_script", "_law_pool_here", "_law_volumes", "_law_v", "_law_size", "_law_k", "_law_harms", "_law_many", "_law_odd", "_law_turn", "_law_harm_here", "_law_handed_here", "_law_given", "_law_kept", "_law_due_here"]) (sc := defScope st_law) (own := [("_law_k", 5)]) (by decide +kernel)) (fun _ _ _ _ _ => dg_name (pg_name (i := 5) nd rfl (by first | exact Or.inl rfl | exact Or.inr rfl)) (by decide)) (fun _ _ _ _ _ => PTs.yes) (fun _ _ _ _ _ => DF.toE (DV.load (dv_item hu hK (DF.toV (DE.toF (de_lst (da_cons (DE.toF (de_by (ms := [some 1, none]) h__law_draw (by first | omega | exact Nat.le_refl _) takes0 hr (by rfl) (dar_lend (pv 1) (dar_val (DF.toE (df_int)) (dar_nil))))) (da_cons (df_int) (da_nil)))))) (DE.toF (de_by (ms := [some 1, none]) h__law_draw (by first | omega | exact Nat.le_refl _) takes0 hr (by rfl) (dar_lend (pv 1) (dar_val (DF.toE (df_int)) (dar_nil))))))))) (dar_nil)))))))) (ds_cons (ds_set (pg_name (i := 6) nd rfl (by first | exact Or.inl rfl | exact Or.inr rfl)) (de_lst (da_nil)) (by decide)) (ds_cons (ds_set (pg_name (i := 7) nd rfl (by first | exact Or.inl rfl | exact Or.inr rfl)) (DF.toE (df_callB1 (cr_lenK hK) len_ok (dv_var (pv 2)) (by rfl) (M.free 5) PySem.boot_len)) (by decide)) (ds_cons (ds_set (pg_name (i := 8) nd rfl (by first | exact Or.inl rfl | exact Or.inr rfl)) (de_lst (da_cons (DE.toF (de_by (ms := [some 1, none]) h__law_draw (by first | omega | exact Nat.le_refl _) tk hr (by rfl) (dar_lend (pv 1) (dar_val (DF.toE (df_int)) (dar_nil))))) (da_cons (DE.toF (de_by (ms := [some 1, none]) h__law_draw (by first | omega | exact Nat.le_refl _) tk hr (by rfl) (dar_lend (pv 1) (dar_val (DF.toE (df_int)) (dar_nil))))) (da_nil)))) (by decide)) (ds_cons (ds_if (dt_cmp op_eq eq_ok (DF.toV (DE.toF (de_by (ms := [some 1, none]) h__law_draw (by first | omega | exact Nat.le_refl _) tk hr (by rfl) (dar_lend (pv 1) (dar_val (DF.toE (df_int)) (dar_nil)))))) (DF.toV (df_int)) (nomark _)) (ds_one (ds_set (pg_name (i := 8) nd rfl (by first | exact Or.inl rfl | exact Or.inr rfl)) (de_lst (da_nil)) (by decide))) (ds_nil)) (ds_cons (ds_for hp rfl (di_range1 (by rfl) (M.free 11) (da_cons (DE.toF (de_by (ms := [some 1, none]) h__law_draw (by first | omega | exact Nat.le_refl _) tk hr (by rfl) (dar_lend (pv 1) (dar_val (DF.toE (df_int)) (dar_nil))))) (da_nil))) (dg_name (pg_name (i := 9) nd rfl (by first | exact Or.inl rfl | exact Or.inr rfl)) (by decide)) (ds_cons (ds_set (pg_name (i := 10) nd rfl (by first | exact Or.inl rfl | exact Or.inr rfl)) (de_by (ms := [some 1, none]) h__law_harm (by first | omega | exact Nat.le_refl _) tk hr (by rfl) (dar_lend (pv 1) (dar_val (DF.toE (DV.load (dv_var (pv 7)))) (dar_nil)))) (by decide)) (ds_cons (ds_if (dt_cmp (op_inA hu hK) in_ok (dv_var (pv 9)) (dv_var (pv 8)) (by with_unfolding_all rfl)) (ds_one (ds_set (pg_name (i := 10) nd rfl (by first | exact Or.inl rfl | exact Or.inr rfl)) (de_by (ms := [some 1, none, none]) h__law_spoilt (by first | omega | exact Nat.le_refl _) tk hr (by rfl) (dar_lend (pv 1) (dar_val (DF.toE (DV.load (dv_var (pv 10)))) (dar_val (DF.toE (DV.load (dv_var (pv 7)))) (dar_nil))))) (by decide))) (ds_nil)) (ds_cons (ds_append hK (dv_var (pv 6)) (DF.toE (DV.load (dv_var (pv 10))))) (ds_one (ds_set (pg_name (i := 7) nd rfl (by first | exact Or.inl rfl | exact Or.inr rfl)) (DF.toE (df_op (op_addA hK) add_ok (dv_var (pv 7)) (DF.toV (df_callT1 call_int1 int_ok (DF.toV (df_and (df_cmp op_eq eq_ok (dv_item hu hK (dv_var (pv 10)) (df_int)) (DF.toV (df_str)) (nomark _)) (df_one (df_not (DE.toF (de_by (ms := [none, none]) h__law_is_wrong (by first | omega | exact Nat.le_refl _) tk hr (by rfl) (dar_val (DF.toE (DV.load (dv_var (pv 10)))) (dar_val (DF.toE (DV.load (dv_var (pv 7)))) (dar_nil))))))))) (by rfl) (M.free 1) PyProof.Rows.boot_int)))) (by decide))))))) (ds_cons (ds_set (pg_name (i := 11) nd rfl (by first | exact Or.inl rfl | exact Or.inr rfl)) (de_by (ms := [some 1, none]) h__law_handed (by first | omega | exact Nat.le_refl _) tk hr (by rfl) (dar_lend (pv 1) (dar_val (DF.toE (DV.load (dv_var (pv 2)))) (dar_nil)))) (by decide)) (ds_cons (ds_set (pg_name (i := 12) nd rfl (by first | exact Or.inl rfl | exact Or.inr rfl)) (de_by (ms := [some 1, none]) h__law_handed (by first | omega | exact Nat.le_refl _) tk hr (by rfl) (dar_lend (pv 1) (dar_val (DF.toE (DV.load (dv_var (pv 6)))) (dar_nil)))) (by decide)) (ds_cons (ds_set (pg_name (i := 13) nd rfl (by first | exact Or.inl rfl | exact Or.inr rfl)) (DF.toE (df_repr hK hG hu2 (df_tup (da_cons (DV.load (dv_var (pv 11))) (da_cons (DV.load (dv_var (pv 12))) (da_nil)))) (by rfl) (M.free 13) PyProof.Rows.boot_repr)) (by decide)) (ds_cons (ds_set (pg_name (i := 14) nd rfl (by first | exact Or.inl rfl | exact Or.inr rfl)) (de_by (ms := [none, none]) h__law_due (by first | omega | exact Nat.le_refl _) tk hr (by rfl) (dar_val (DF.toE (DV.load (dv_var (pv 2)))) (dar_val (DF.toE (DV.load (dv_var (pv 6)))) (dar_nil)))) (by decide)) (ds_cons (ds_if (DW.dt (dw_or (dt_not (dt_val (DE.toF (de_by (ms := [none, none]) h__law_same (by first | omega | exact Nat.le_refl _) tk hr (by rfl) (dar_val (de_by (ms := [none, none]) h__law_told (by first | omega | exact Nat.le_refl _) tk hr (by rfl) (dar_val (DF.toE (DV.load (dv_var (pv 11)))) (dar_val (DF.toE (DV.load (dv_var (pv 12)))) (dar_nil)))) (dar_val (DF.toE (DV.load (dv_var (pv 14)))) (dar_nil))))))) (dw_or1 (dt_not (dt_val (DE.toF (de_by (ms := [none, none]) h__law_same (by first | omega | exact Nat.le_refl _) tk hr (by rfl) (dar_val (de_by (ms := [none, none]) h__law_told (by first | omega | exact Nat.le_refl _) tk hr (by rfl) (dar_val (DF.toE (DV.load (dv_var (pv 11)))) (dar_val (DF.toE (DV.load (dv_var (pv 12)))) (dar_nil)))) (dar_val (DF.toE (DV.load (dv_var (pv 14)))) (dar_nil)))))))))) (ds_one (ds_ret (DF.toE (df_bl)))) (ds_nil)) (ds_one (ds_ret (DF.toE (df_cmp op_eq eq_ok (DF.toV (df_repr hK hG hu2 (df_tup (da_cons (DV.load (dv_var (pv 11))) (da_cons (DV.load (dv_var (pv 12))) (da_nil)))) (by rfl) (M.free 13) PyProof.Rows.boot_repr)) (dv_var (pv 13)) (nomark _)))))))))))))))))
end
end DL.GW50
end

section
set_option Elab.async false
set_option linter.all false
set_option maxRecDepth 100000
/-! The layer D: reckoning with what the defs compute: each combinator at an environment that is there. -/
namespace DL
open PySem L2
def seqK (r : R Fl) (g : Env → R Fl) : R Fl := match r with
  | .ok .nx e => g e
  | r => r
theorem seqK_nx {e : Env} {g : Env → R Fl} : seqK (.ok .nx e) g = g e := .trans rfl rfl
theorem seqK_ret {o : O} {e : Env} {g : Env → R Fl} : seqK (.ok (.ret o) e) g = .ok (.ret o) e := .trans rfl rfl
theorem seqK_bk {e : Env} {g : Env → R Fl} : seqK (.ok .bk e) g = .ok .bk e := .trans rfl rfl
theorem seqK_ct {e : Env} {g : Env → R Fl} : seqK (.ok .ct e) g = .ok .ct e := .trans rfl rfl
theorem seqK_err {c : Nat} {x : D} {e : Env} {g : Env → R Fl} : seqK (.err c x e) g = .err c x e := .trans rfl rfl
def defK (r : R Fl) (π : List Bool) : R O := match r with
  | .ok (.ret o) e => .ok o (bck π e)
  | .ok .nx e => .ok (.fz .non) (bck π e)
  | .ok _ _ => .bad
  | .err c x e => .err c x (bck π e)
  | .bad => .bad
theorem defK_ret {o : O} {e : Env} {π : List Bool} : defK (.ok (.ret o) e) π = .ok o (bck π e) := .trans rfl rfl
theorem defK_nx {e : Env} {π : List Bool} : defK (.ok .nx e) π = .ok (.fz .non) (bck π e) := .trans rfl rfl
theorem defK_err {c : Nat} {x : D} {e : Env} {π : List Bool} : defK (.err c x e) π = .err c x (bck π e) := .trans rfl rfl
theorem defF_c {N : Nat} {π : List Bool} {body : Env → R Fl} {z : Option O} {zs : Env} : defF N π body (z :: zs) = defK (body (z :: (zs ++ List.replicate (N - (z :: zs).length) none))) π := .trans rfl rfl
def opK (g : D → D → Option D) (x y : AV) (qb : Bool) (e2 : Env) : R D := if stab x qb then (match peek x e2 with
    | some (d1, e3) => match peek y e3 with
      | some (d2, e4) => (match g d1 d2 with
        | some d => .ok d e4
        | none => .bad)
      | none => .bad
    | none => .bad) else .bad
def oneK {β : Type} (q : Option (D × Env)) (k : D → Env → R β) : R β := match q with
  | some (d, e2) => k d e2
  | none => .bad
theorem oneK_some {β : Type} {d : D} {e : Env} {k : D → Env → R β} : oneK (some (d, e)) k = k d e := .trans rfl rfl
theorem opK_tt {g : D → D → Option D} {a b : D} {qb : Bool} {e : Env} : opK g (.tm a) (.tm b) qb e = opt (g a b) e := by
  show (match g a b with | some d => R.ok d e | none => .bad) = _
  cases g a b <;> rfl
def ptK (g : D → D → Option D) (q : Option O) (i : Nat) (p : List Nat) (b : D) (e : Env) : R D := match q with
  | some o => opt (g (viewD o).1 b) (putS e i p (viewD o).2)
  | none => .bad
theorem opK_pt {g : D → D → Option D} {i : Nat} {p : List Nat} {b : D} {e : Env} : opK g (.pl i p) (.tm b) true e = ptK g (subS e i p) i p b e := by
  show (if stab (.pl i p) true = true then _ else _) = _
  rw [if_pos (by cases p <;> rfl)]
  show (match (match subS e i p with | some o => some ((viewD o).1, putS e i p (viewD o).2) | none => none) with | some (d1, e3) => _ | none => _) = _
  cases h : subS e i p with
  | none => rfl
  | some o =>
    show (match g (viewD o).1 b with | some d => R.ok d _ | none => R.bad) = opt (g (viewD o).1 b) _
    cases g (viewD o).1 b <;> rfl
theorem ptK_some {g : D → D → Option D} {o : O} {i : Nat} {p : List Nat} {b : D} {e : Env} : ptK g (some o) i p b e = opt (g (viewD o).1 b) (putS e i p (viewD o).2) := .trans rfl rfl
theorem intOp_i {C : Int → Int → Bool} {g : Int → Int → Int} {i j : Int} (h : C i j = true) : intOp C g (.int i) (.int j) = some (.int (g i j)) := by
  show (if C i j = true then _ else _) = _
  rw [if_pos h]
theorem intCmp_i {g : Int → Int → Bool} {i j : Int} : intCmp g (.int i) (.int j) = some (.bl (g i j)) := .trans rfl rfl
theorem addD_tt {xs ys : List D} (h : xs.length + ys.length ≤ sizeLine) : addD (.tup xs) (.tup ys) = some (.tup (xs ++ ys)) := if_pos h
theorem addD_ll {xs ys : List D} (h : xs.length + ys.length ≤ sizeLine) : addD (.lst xs) (.lst ys) = some (.lst (xs ++ ys)) := if_pos h
theorem addD_i {i j : Int} : addD (.int i) (.int j) = some (.int (i + j)) := .trans rfl rfl
theorem intOp_t {g : Int → Int → Int} {i j : Int} : intOp tt2 g (.int i) (.int j) = some (.int (g i j)) := .trans rfl rfl
theorem tt2_t {i j : Int} : tt2 i j = true := .trans rfl rfl
theorem mulC_r {i j : Int} (h1 : -(2 ^ 64) < j) (h2 : j < 2 ^ 64) : mulC i j = true := by simp [mulC]; omega
theorem mulC_l {i j : Int} (h1 : -(2 ^ 64) < i) (h2 : i < 2 ^ 64) : mulC i j = true := by simp [mulC]; omega
def callK2 (r : R O) (ms : List (Option Nat)) (e2 : Env) : R O := match r with
    | .ok o out => (match giveL ms out e2 with
      | some e3 => .ok o e3
      | none => .bad)
    | .err c x out => (match giveL ms out e2 with
      | some e3 => .err c x e3
      | none => .bad)
    | .bad => .bad
def callK1 (q : Option (Env × Env)) (S : Env → R O) (ms : List (Option Nat)) : R O := match q with
  | some (ta, e2) => callK2 (S ta) ms e2
  | none => .bad
theorem callK1_some {ta e2 : Env} {S : Env → R O} {ms : List (Option Nat)} : callK1 (some (ta, e2)) S ms = callK2 (S ta) ms e2 := .trans rfl rfl
def giveK (q : Option Env) (o : O) : R O := match q with
  | some e3 => .ok o e3
  | none => .bad
def giveX (q : Option Env) (c : Nat) (x : D) : R O := match q with
  | some e3 => .err c x e3
  | none => .bad
theorem callK2_ok {o : O} {out e2 : Env} {ms : List (Option Nat)} : callK2 (.ok o out) ms e2 = giveK (giveL ms out e2) o := .trans rfl rfl
theorem callK2_err {c : Nat} {x : D} {out e2 : Env} {ms : List (Option Nat)} : callK2 (.err c x out) ms e2 = giveX (giveL ms out e2) c x := .trans rfl rfl
theorem giveK_some {o : O} {e : Env} : giveK (some e) o = .ok o e := .trans rfl rfl
theorem giveX_some {c : Nat} {x : D} {e : Env} : giveX (some e) c x = .err c x e := .trans rfl rfl
theorem peek_tm {d : D} {e : Env} : peek (.tm d) e = some (d, e) := .trans rfl rfl
def sliceK (x : AV) (lo hi : Option Int) (q : Bool) (e3 : Env) : R D := if stab x q then (match peek x e3 with
    | some (d, e4) => (match sliceD d lo hi with
      | some d' => .ok d' e4
      | none => .bad)
    | none => .bad) else .bad
theorem sliceK_tm {d : D} {lo hi : Option Int} {q : Bool} {e : Env} : sliceK (.tm d) lo hi q e = opt (sliceD d lo hi) e := by
  show (match sliceD d lo hi with | some d' => R.ok d' e | none => .bad) = _
  cases sliceD d lo hi <;> rfl
def putK (q : Option Env) : R Fl := match q with
  | some e2 => .ok .nx e2
  | none => .bad
theorem putK_some {e : Env} : putK (some e) = .ok .nx e := .trans rfl rfl
theorem opt_some {α : Type} {a : α} {e : Env} : opt (some a) e = .ok a e := .trans rfl rfl
theorem stab_tm {d : D} {q : Bool} : stab (.tm d) q = true := .trans rfl rfl
def testK (d : D) (e : Env) : R Bool := match d with
  | .bl b => .ok b e
  | _ => .bad
theorem testK_bl {b : Bool} {e : Env} : testK (.bl b) e = .ok b e := .trans rfl rfl
def andTK (g : Env → R Bool) (b : Bool) (e : Env) : R Bool := if b then g e else .ok false e
theorem andTK_t {g : Env → R Bool} {e : Env} : andTK g true e = g e := .trans rfl rfl
theorem andTK_f {g : Env → R Bool} {e : Env} : andTK g false e = .ok false e := .trans rfl rfl
def orTK (g : Env → R Bool) (b : Bool) (e : Env) : R Bool := if b then .ok true e else g e
theorem orTK_t {g : Env → R Bool} {e : Env} : orTK g true e = .ok true e := .trans rfl rfl
theorem orTK_f {g : Env → R Bool} {e : Env} : orTK g false e = g e := .trans rfl rfl
def andFK (g : Env → R D) (d : D) (e : Env) : R D := match d with
  | .bl true => g e
  | .bl false => .ok (.bl false) e
  | _ => .bad
theorem andFK_t {g : Env → R D} {e : Env} : andFK g (.bl true) e = g e := .trans rfl rfl
theorem andFK_f {g : Env → R D} {e : Env} : andFK g (.bl false) e = .ok (.bl false) e := .trans rfl rfl
def orFK (g : Env → R D) (d : D) (e : Env) : R D := match d with
  | .bl false => g e
  | .bl true => .ok (.bl true) e
  | _ => .bad
theorem orFK_t {g : Env → R D} {e : Env} : orFK g (.bl true) e = .ok (.bl true) e := .trans rfl rfl
theorem orFK_f {g : Env → R D} {e : Env} : orFK g (.bl false) e = g e := .trans rfl rfl
def notFK (d : D) (e : Env) : R D := match d with
  | .bl b => .ok (.bl (!b)) e
  | _ => .bad
theorem notFK_bl {b : Bool} {e : Env} : notFK (.bl b) e = .ok (.bl (!b)) e := .trans rfl rfl
def ifFK (f g : Env → R D) (b : Bool) (e : Env) : R D := if b then f e else g e
theorem ifFK_t {f g : Env → R D} {e : Env} : ifFK f g true e = f e := .trans rfl rfl
theorem ifFK_f {f g : Env → R D} {e : Env} : ifFK f g false e = g e := .trans rfl rfl
def ifSK (f g : Env → R Fl) (b : Bool) (e : Env) : R Fl := if b then f e else g e
theorem ifSK_t {f g : Env → R Fl} {e : Env} : ifSK f g true e = f e := .trans rfl rfl
theorem ifSK_f {f g : Env → R Fl} {e : Env} : ifSK f g false e = g e := .trans rfl rfl
def itemK1 (x : AV) (i : D) (qb : Bool) (e : Env) : R AV := if stab x qb then item x i e else .bad
theorem itemK1_tm {d i : D} {qb : Bool} {e : Env} : itemK1 (.tm d) i qb e = optV (itemD d i) e := .trans rfl rfl
def somePK (d : D) (e : Env) : R (Option Int) := match d with
  | .int i => .ok (some i) e
  | _ => .bad
theorem somePK_int {i : Int} {e : Env} : somePK (.int i) e = .ok (some i) e := .trans rfl rfl
def tupK (ds : List D) (e : Env) : R D := if ds.length ≤ sizeLine then .ok (.tup ds) e else .bad
def lstK (ds : List D) (e : Env) : R O := if ds.length ≤ sizeLine then .ok (.lst (ds.map .fz)) e else .bad
theorem tupK_ok {ds : List D} {e : Env} (h : ds.length ≤ sizeLine) : tupK ds e = .ok (.tup ds) e := if_pos h
theorem lstK_ok {ds : List D} {e : Env} (h : ds.length ≤ sizeLine) : lstK ds e = .ok (.lst (ds.map .fz)) e := if_pos h
def lendK (o : Option O) (r : R Env) : R Env := match o with
  | some _ => r
  | none => .bad
theorem lendK_some {o : O} {r : R Env} : lendK (some o) r = r := .trans rfl rfl
def seqIK (d : D) (e : Env) : R (List D) := match items d with
  | some ds => .ok ds e
  | none => match d with
    | .str z => .ok (z.cps.toList.map fun c => .str ⟨#[c]⟩) e
    | _ => .bad
theorem seqIK_tup {ds : List D} {e : Env} : seqIK (.tup ds) e = .ok ds e := .trans rfl rfl
theorem seqIK_lst {ds : List D} {e : Env} : seqIK (.lst ds) e = .ok ds e := .trans rfl rfl
theorem seqIK_rol {ds : List D} {e : Env} : seqIK (.rol ds) e = .ok ds e := .trans rfl rfl
def range1K (ds : List D) (e : Env) : R (List D) := match ds with
  | [.int j] => if -(2 ^ 62) ≤ j ∧ j < 2 ^ 62 then .ok (rangeD 0 j.toNat) e else .bad
  | _ => .bad
theorem range1K_ok {j : Int} {e : Env} (h : -(2 ^ 62) ≤ j ∧ j < 2 ^ 62) : range1K [.int j] e = .ok (rangeD 0 j.toNat) e := if_pos h
def enumK (d : D) (e : Env) : R (List D) := match items d with
  | some ds => .ok (ds.mapIdx fun i x => .tup [.int i, x]) e
  | none => .bad
theorem enumK_tup {ds : List D} {e : Env} : enumK (.tup ds) e = .ok (ds.mapIdx fun i x => .tup [.int i, x]) e := .trans rfl rfl
theorem enumK_lst {ds : List D} {e : Env} : enumK (.lst ds) e = .ok (ds.mapIdx fun i x => .tup [.int i, x]) e := .trans rfl rfl
def chainK (q : Option D) (g' : D → D → Option D) (d2 : D) (fc : Env → R D) (e2 : Env) : R D := match q with
  | some (.bl true) => (fc e2).bind fun d3 e3 => opt (g' d2 d3) e3
  | some (.bl false) => .ok (.bl false) e2
  | _ => .bad
theorem chainK_t {g' : D → D → Option D} {d2 : D} {fc : Env → R D} {e2 : Env} : chainK (some (.bl true)) g' d2 fc e2 = (fc e2).bind fun d3 e3 => opt (g' d2 d3) e3 := .trans rfl rfl
theorem chainK_f {g' : D → D → Option D} {d2 : D} {fc : Env → R D} {e2 : Env} : chainK (some (.bl false)) g' d2 fc e2 = .ok (.bl false) e2 := .trans rfl rfl
def setIK (x : AV) (d : D) (o : O) (qb : Bool) (e3 : Env) : R Fl := if stab x qb then putItem x d o e3 else .bad
def putIK2 (q : Option Nat) (i : Nat) (p : List Nat) (os : List O) (o : O) (e : Env) : R Fl := match q with
  | some k => .ok .nx (putS e i p (.lst (os.set k o)))
  | none => .bad
def putIK (q : Option O) (i : Nat) (p : List Nat) (n : Int) (o : O) (e : Env) : R Fl := match q with
  | some (.lst os) => putIK2 (ixN os.length n) i p os o e
  | _ => .bad
theorem putIK2_some {k i : Nat} {p : List Nat} {os : List O} {o : O} {e : Env} : putIK2 (some k) i p os o e = .ok .nx (putS e i p (.lst (os.set k o))) := .trans rfl rfl
theorem putIK_lst {i : Nat} {p : List Nat} {os : List O} {n : Int} {o : O} {e : Env} : putIK (some (.lst os)) i p n o e = putIK2 (ixN os.length n) i p os o e := .trans rfl rfl
theorem setIK_0 {i : Nat} {os : List O} {n : Int} {o : O} {qb : Bool} {e : Env} (h : subS e i [] = some (.lst os)) : setIK (.pl i []) (.int n) o qb e = putIK2 (ixN os.length n) i [] os o e := by
  show putItem (.pl i []) (.int n) o e = _
  show (match subS e i [] with | some (.lst os) => _ | some (.dic kvs) => _ | _ => _) = _
  rw [h]
  show (match ixN os.length n with | some k => R.ok Fl.nx (putS e i [] (.lst (os.set k o))) | none => R.bad) = _
  cases ixN os.length n <;> rfl
theorem setIK_c0 {os : List O} {n : Int} {o : O} {qb : Bool} {zs : Env} : setIK (.pl 0 []) (.int n) o qb (some (.lst os) :: zs) = putIK2 (ixN os.length n) 0 [] os o (some (.lst os) :: zs) := setIK_0 rfl
theorem setIK_c1 {os : List O} {n : Int} {o : O} {qb : Bool} {z : Option O} {zs : Env} : setIK (.pl 1 []) (.int n) o qb (z :: some (.lst os) :: zs) = putIK2 (ixN os.length n) 1 [] os o (z :: some (.lst os) :: zs) := setIK_0 rfl
theorem setIK_c2 {os : List O} {n : Int} {o : O} {qb : Bool} {z y : Option O} {zs : Env} : setIK (.pl 2 []) (.int n) o qb (z :: y :: some (.lst os) :: zs) = putIK2 (ixN os.length n) 2 [] os o (z :: y :: some (.lst os) :: zs) := setIK_0 rfl
theorem setIK_c3 {os : List O} {n : Int} {o : O} {qb : Bool} {z y x : Option O} {zs : Env} : setIK (.pl 3 []) (.int n) o qb (z :: y :: x :: some (.lst os) :: zs) = putIK2 (ixN os.length n) 3 [] os o (z :: y :: x :: some (.lst os) :: zs) := setIK_0 rfl
theorem setIK_c4 {os : List O} {n : Int} {o : O} {qb : Bool} {z y x w : Option O} {zs : Env} : setIK (.pl 4 []) (.int n) o qb (z :: y :: x :: w :: some (.lst os) :: zs) = putIK2 (ixN os.length n) 4 [] os o (z :: y :: x :: w :: some (.lst os) :: zs) := setIK_0 rfl
def appK2 (q : Option O) (i : Nat) (o : O) (e : Env) : R Fl := match q with
  | some (.lst os) => if os.length < sizeLine then .ok .nx (putS e i [] (.lst (os ++ [o]))) else .bad
  | _ => .bad
theorem appK2_lst {i : Nat} {os : List O} {o : O} {e : Env} (h : os.length < sizeLine) : appK2 (some (.lst os)) i o e = .ok .nx (putS e i [] (.lst (os ++ [o]))) := if_pos h
def appK (x : AV) (f : Env → R O) (e1 : Env) : R Fl := match x with
  | .pl i p => if isLst (subS e1 i p) then (besideP i p f e1).bind fun o e2 => (match subS e2 i p with
    | some (.lst os) => if os.length < sizeLine then .ok .nx (putS e2 i p (.lst (os ++ [o]))) else .bad
    | _ => .bad) else .bad
  | .tm _ => .bad
theorem appK_0 {i : Nat} {f : Env → R O} {e : Env} (h : isLst (getS e i) = true) : appK (.pl i []) f e = (f e).bind fun o e2 => appK2 (subS e2 i []) i o e2 := by
  show (if isLst (subS e i []) = true then _ else _) = _
  rw [if_pos (by unfold subS; cases hg : getS e i <;> simp_all [sub, isLst])]
  show (f e).bind _ = _
  cases f e <;> first | rfl | skip
def lcK (π : List Bool) (vs : List Nat) (g : D → Env → Option Env) (t : Env → R Bool) (f : Env → R O) (ds : List D) (e : Env) : R O := if e.length = π.length ∧ ds.length ≤ sizeLine then (lcL g t f vs ds (wipeE e vs)).bind fun os e2 => .ok (.lst os) e2 else .bad
theorem lcE_c {π : List Bool} {vs : List Nat} {it : Env → R (List D)} {g : D → Env → Option Env} {t : Env → R Bool} {f : Env → R O} {z : Option O} {zs : Env} : lcE π vs it g t f (z :: zs) = (it (z :: zs)).bind fun ds e => lcK π vs g t f ds e := .trans rfl rfl
theorem lcK_ok {π : List Bool} {vs : List Nat} {g : D → Env → Option Env} {t : Env → R Bool} {f : Env → R O} {ds : List D} {e : Env} (h : e.length = π.length) (h2 : ds.length ≤ sizeLine) : lcK π vs g t f ds e = (lcL g t f vs ds (wipeE e vs)).bind fun os e2 => .ok (.lst os) e2 := if_pos ⟨h, h2⟩
theorem rangeD_len {lo : Int} {n : Nat} : (rangeD lo n).length = n := by simp [rangeD]
theorem eqD_ii {i j : Int} : eqD (.int i) (.int j) = some (.bl (decide (i = j))) := by
  by_cases h : i = j <;> simp [eqD, flat, h, scal]
theorem eqD_ss {i j : Str} : eqD (.str i) (.str j) = some (.bl (decide (i = j))) := by
  by_cases h : i = j <;> simp [eqD, flat, h, scal]
theorem eqD_bb {i j : Bool} : eqD (.bl i) (.bl j) = some (.bl (decide (i = j))) := by
  by_cases h : i = j <;> simp [eqD, flat, h, scal]
theorem neD_ii {i j : Int} : neD (.int i) (.int j) = some (.bl (decide (i ≠ j))) := by
  by_cases h : i = j <;> simp [neD, flat, h, scal]
theorem neD_ss {i j : Str} : neD (.str i) (.str j) = some (.bl (decide (i ≠ j))) := by
  by_cases h : i = j <;> simp [neD, flat, h, scal]
def moveK (q : Option O) (i : Nat) (e : Env) : R O := match q with
  | some o => .ok o (e.set i none)
  | none => .bad
theorem moveK_some {o : O} {i : Nat} {e : Env} : moveK (some o) i e = .ok o (e.set i none) := .trans rfl rfl
theorem lenC_tup {ds : List D} : lenC (.tup ds) = some (.int ds.length) := .trans rfl rfl
theorem lenC_lst {ds : List D} : lenC (.lst ds) = some (.int ds.length) := .trans rfl rfl
theorem lenC_rol {ds : List D} : lenC (.rol ds) = some (.int ds.length) := .trans rfl rfl
theorem listC_tup {ds : List D} : listC (.tup ds) = some ds := .trans rfl rfl
theorem listC_lst {ds : List D} : listC (.lst ds) = some ds := .trans rfl rfl
theorem listC_rol {ds : List D} : listC (.rol ds) = some ds := .trans rfl rfl
theorem tupleC_tup {ds : List D} : tupleC (.tup ds) = some (.tup ds) := .trans rfl rfl
theorem tupleC_lst {ds : List D} : tupleC (.lst ds) = some (.tup ds) := .trans rfl rfl
theorem tupleC_rol {ds : List D} : tupleC (.rol ds) = some (.tup ds) := .trans rfl rfl
theorem intC_int {i : Int} : intC (.int i) = some (.int i) := .trans rfl rfl
theorem intC_bl {b : Bool} : intC (.bl b) = some (.int (if b then 1 else 0)) := .trans rfl rfl
theorem getS_0 {z : Option O} {zs : Env} : getS (z :: zs) 0 = z := by cases z <;> rfl
theorem getS_s {z : Option O} {zs : Env} {n : Nat} : getS (z :: zs) (n + 1) = getS zs n := .trans rfl rfl
theorem loadV_tm {d : D} {e : Env} : loadV (.tm d) e = .ok d e := rfl
theorem varV_c {i : Nat} {z : Option O} {zs : Env} : varV i (z :: zs) = match getS (z :: zs) i with | some (.fz d) => .ok (.tm d) (z :: zs) | some _ => .ok (.pl i []) (z :: zs) | none => .bad := .trans rfl rfl
theorem load_c {f : Env → R AV} {z : Option O} {zs : Env} : load f (z :: zs) = (f (z :: zs)).bind loadV := .trans rfl rfl
theorem moveE_c {i : Nat} {z : Option O} {zs : Env} : moveE i (z :: zs) = moveK (getS (z :: zs) i) i (z :: zs) := .trans rfl rfl
theorem seqS_c {f g : Env → R Fl} {z : Option O} {zs : Env} : seqS f g (z :: zs) = seqK (f (z :: zs)) g := .trans rfl rfl
theorem opF_c {g : D → D → Option D} {fa fb : Env → R AV} {qb : Bool} {z : Option O} {zs : Env} : opF g fa fb qb (z :: zs) = (fa (z :: zs)).bind fun x e1 => (fb e1).bind fun y e2 => opK g x y qb e2 := .trans rfl rfl
theorem callE_c {S : Env → R O} {ms : List (Option Nat)} {args : Env → R Env} {z : Option O} {zs : Env} : callE S ms args (z :: zs) = (args (z :: zs)).bind fun ta e1 => callK1 (takeL ms ta e1) S ms := .trans rfl rfl
theorem fun1_c {g : D → Option D} {f : Env → R AV} {z : Option O} {zs : Env} : fun1 g f (z :: zs) = (f (z :: zs)).bind fun x e1 => oneK (peek x e1) fun d e => opt (g d) e := .trans rfl rfl
theorem fun1L_c {g : D → Option (List D)} {f : Env → R AV} {z : Option O} {zs : Env} : fun1L g f (z :: zs) = (f (z :: zs)).bind fun x e1 => oneK (peek x e1) fun d e => opt ((g d).map fun ds => .lst (ds.map .fz)) e := .trans rfl rfl
theorem sliceF_c {g : Env → R AV} {fl fh : Env → R (Option Int)} {ql qh : Bool} {z : Option O} {zs : Env} : sliceF g fl fh ql qh (z :: zs) = (g (z :: zs)).bind fun x e1 => (fl e1).bind fun lo e2 => (fh e2).bind fun hi e3 => sliceK x lo hi (ql && qh) e3 := .trans rfl rfl
theorem setS_c {i : Nat} {f : Env → R O} {z : Option O} {zs : Env} : setS i f (z :: zs) = (f (z :: zs)).bind fun o e => putK (putN i o e) := .trans rfl rfl
theorem testF_c {f : Env → R D} {z : Option O} {zs : Env} : testF f (z :: zs) = (f (z :: zs)).bind testK := .trans rfl rfl
theorem andT_c {f g : Env → R Bool} {z : Option O} {zs : Env} : andT f g (z :: zs) = (f (z :: zs)).bind (andTK g) := .trans rfl rfl
theorem orT_c {f g : Env → R Bool} {z : Option O} {zs : Env} : orT f g (z :: zs) = (f (z :: zs)).bind (orTK g) := .trans rfl rfl
theorem notT_c {f : Env → R Bool} {z : Option O} {zs : Env} : notT f (z :: zs) = (f (z :: zs)).bind fun b e => .ok (!b) e := .trans rfl rfl
theorem andF_c {f g : Env → R D} {z : Option O} {zs : Env} : andF f g (z :: zs) = (f (z :: zs)).bind (andFK g) := .trans rfl rfl
theorem orF_c {f g : Env → R D} {z : Option O} {zs : Env} : orF f g (z :: zs) = (f (z :: zs)).bind (orFK g) := .trans rfl rfl
theorem notF_c {f : Env → R D} {z : Option O} {zs : Env} : notF f (z :: zs) = (f (z :: zs)).bind notFK := .trans rfl rfl
theorem ifF_c {t : Env → R Bool} {f g : Env → R D} {z : Option O} {zs : Env} : ifF t f g (z :: zs) = (t (z :: zs)).bind (ifFK f g) := .trans rfl rfl
theorem itemV_c {g : Env → R AV} {f : Env → R D} {qb : Bool} {z : Option O} {zs : Env} : itemV g f qb (z :: zs) = (g (z :: zs)).bind fun x e1 => (f e1).bind fun i e2 => itemK1 x i qb e2 := .trans rfl rfl
theorem noP_c  {z : Option O} {zs : Env} : noP (z :: zs) = .ok none (z :: zs) := .trans rfl rfl
theorem someP_c {f : Env → R D} {z : Option O} {zs : Env} : someP f (z :: zs) = (f (z :: zs)).bind somePK := .trans rfl rfl
theorem nilA_c  {z : Option O} {zs : Env} : nilA (z :: zs) = .ok [] (z :: zs) := .trans rfl rfl
theorem consA_c {f : Env → R D} {g : Env → R (List D)} {z : Option O} {zs : Env} : consA f g (z :: zs) = (f (z :: zs)).bind fun d e => (g e).bind fun ds e2 => .ok (d :: ds) e2 := .trans rfl rfl
theorem tupF_c {f : Env → R (List D)} {z : Option O} {zs : Env} : tupF f (z :: zs) = (f (z :: zs)).bind tupK := .trans rfl rfl
theorem lstE_c {f : Env → R (List D)} {z : Option O} {zs : Env} : lstE f (z :: zs) = (f (z :: zs)).bind lstK := .trans rfl rfl
theorem nilAr_c  {z : Option O} {zs : Env} : nilAr (z :: zs) = .ok [] (z :: zs) := .trans rfl rfl
theorem valAr_c {f : Env → R O} {g : Env → R Env} {z : Option O} {zs : Env} : valAr f g (z :: zs) = (f (z :: zs)).bind fun o e => (g e).bind fun ta e2 => .ok (some o :: ta) e2 := .trans rfl rfl
theorem lendAr_c {i : Nat} {g : Env → R Env} {z : Option O} {zs : Env} : lendAr i g (z :: zs) = lendK (getS (z :: zs) i) ((g (z :: zs)).bind fun ta e2 => .ok (none :: ta) e2) := .trans rfl rfl
theorem ifS_c {c : Env → R Bool} {f g : Env → R Fl} {z : Option O} {zs : Env} : ifS c f g (z :: zs) = (c (z :: zs)).bind (ifSK f g) := .trans rfl rfl
theorem retS_c {f : Env → R O} {z : Option O} {zs : Env} : retS f (z :: zs) = (f (z :: zs)).bind fun o e => .ok (.ret o) e := .trans rfl rfl
theorem retNS_c  {z : Option O} {zs : Env} : retNS (z :: zs) = .ok (.ret (.fz .non)) (z :: zs) := .trans rfl rfl
theorem skipS_c  {z : Option O} {zs : Env} : skipS (z :: zs) = .ok .nx (z :: zs) := .trans rfl rfl
theorem bkS_c  {z : Option O} {zs : Env} : bkS (z :: zs) = .ok .bk (z :: zs) := .trans rfl rfl
theorem ctS_c  {z : Option O} {zs : Env} : ctS (z :: zs) = .ok .ct (z :: zs) := .trans rfl rfl
theorem asgS_c {g : D → Env → Option Env} {f : Env → R D} {z : Option O} {zs : Env} : asgS g f (z :: zs) = (f (z :: zs)).bind fun d e => putK (g d e) := .trans rfl rfl
theorem forL_c {it : Env → R (List D)} {g : D → Env → Option Env} {f : Env → R Fl} {z : Option O} {zs : Env} : forL it g f (z :: zs) = (it (z :: zs)).bind fun ds e => forS g f ds e := .trans rfl rfl
theorem seqI_c {f : Env → R D} {z : Option O} {zs : Env} : seqI f (z :: zs) = (f (z :: zs)).bind seqIK := .trans rfl rfl
theorem range1I_c {f : Env → R (List D)} {z : Option O} {zs : Env} : range1I f (z :: zs) = (f (z :: zs)).bind range1K := .trans rfl rfl
theorem enumI_c {f : Env → R D} {z : Option O} {zs : Env} : enumI f (z :: zs) = (f (z :: zs)).bind enumK := .trans rfl rfl
theorem optF_c {g : D → Option D} {f : Env → R D} {z : Option O} {zs : Env} : optF g f (z :: zs) = (f (z :: zs)).bind fun d e => opt (g d) e := .trans rfl rfl
theorem chainF_c {g g' : D → D → Option D} {fa fb fc : Env → R D} {z : Option O} {zs : Env} : chainF g g' fa fb fc (z :: zs) = (fa (z :: zs)).bind fun d1 e1 => (fb e1).bind fun d2 e2 => chainK (g d1 d2) g' d2 fc e2 := .trans rfl rfl
theorem setIS_c {f : Env → R O} {g : Env → R AV} {fi : Env → R D} {qb : Bool} {z : Option O} {zs : Env} : setIS f g fi qb (z :: zs) = (f (z :: zs)).bind fun o e1 => (g e1).bind fun x e2 => (fi e2).bind fun d e3 => setIK x d o qb e3 := .trans rfl rfl
theorem appendS_c {g : Env → R AV} {f : Env → R O} {z : Option O} {zs : Env} : appendS g f (z :: zs) = (g (z :: zs)).bind fun x e1 => appK x f e1 := .trans rfl rfl
theorem raiseS_c {c : Nat} {f : Env → R D} {z : Option O} {zs : Env} : raiseS c f (z :: zs) = (f (z :: zs)).bind fun d e1 => .err c d e1 := .trans rfl rfl
theorem fzE_c {f : Env → R D} {z : Option O} {zs : Env} : fzE f (z :: zs) = (f (z :: zs)).bind fun d e => .ok (.fz d) e := .trans rfl rfl
theorem frF_c {f : Env → R O} {z : Option O} {zs : Env} : frF f (z :: zs) = (f (z :: zs)).bind fun o e => .ok (frz o) e := .trans rfl rfl
theorem tmV_c {f : Env → R D} {z : Option O} {zs : Env} : tmV f (z :: zs) = (f (z :: zs)).bind fun d e => .ok (.tm d) e := .trans rfl rfl
theorem cF_c {d : D} {z : Option O} {zs : Env} : cF d (z :: zs) = .ok d (z :: zs) := .trans rfl rfl
theorem vf_fzs (ds : List D) : (ds.map O.fz).map vf = ds.map O.fz := by simp [Function.comp_def]
theorem frz_fzs (ds : List D) : (ds.map O.fz).map frz = ds := by simp [Function.comp_def]
theorem ixN_nonneg {n : Nat} {i : Int} (h0 : 0 ≤ i) (h : i < n) : ixN n i = some i.toNat := by
  unfold ixN
  simp [h0]
  omega
theorem atD_nonneg {α : Type} {ds : List α} {i : Int} (h0 : 0 ≤ i) (h : i < ds.length) : atD ds i = ds[i.toNat]? := by
  unfold atD
  rw [ixN_nonneg h0 h]; rfl
theorem itemD_lst {ds : List D} {i : Int} : itemD (.lst ds) (.int i) = atD ds i := .trans rfl rfl
theorem itemD_tup {ds : List D} {i : Int} : itemD (.tup ds) (.int i) = atD ds i := .trans rfl rfl
/-- a for loop that never leaves -/
theorem forS_inv {g : D → Env → Option Env} {f : Env → R Fl} (I : List D → Env → Prop) : ∀ {ds : List D} {env : Env}, (∀ d rest env, I (d :: rest) env → ∃ e1 e2, g d env = some e1 ∧ (f e1 = .ok .nx e2 ∨ f e1 = .ok .ct e2) ∧ I rest e2) → I ds env → ∃ e, forS g f ds env = .ok .nx e ∧ I [] e
  | [], env, h, h0 => ⟨env, rfl, h0⟩
  | d :: ds, env, h, h0 => by
    obtain ⟨e1, e2, h1, h2, h3⟩ := h d ds env h0
    obtain ⟨e, h4, h5⟩ := forS_inv I h h3
    refine ⟨e, ?_, h5⟩
    unfold forS
    rw [h1]
    rcases h2 with h2 | h2 <;> (simp only [h2]; exact h4)
end DL
end

section
set_option Elab.async false
set_option linter.all false
set_option maxRecDepth 100000
set_option maxHeartbeats 4000000
namespace DL.GW50
open PySem L2
theorem m_is_integer (i : Int) : S_is_integer [some (.fz (.int i))] = .ok (.fz (.bl true)) [some (.fz (.int i))] := by rfl
theorem m_is_from_to (i a b : Int) : S_is_from_to [some (.fz (.int i)), some (.fz (.int a)), some (.fz (.int b))] = .ok (.fz (.bl (decide (a ≤ i) && decide (i ≤ b)))) [some (.fz (.int i)), some (.fz (.int a)), some (.fz (.int b))] := by
  by_cases h : a ≤ i <;> simp [S_is_from_to, s_is_from_to, m_is_integer, h, varV_c, load_c, moveE_c, seqS_c, opF_c, callE_c, fun1_c, fun1L_c, sliceF_c, setS_c, testF_c, andT_c, orT_c, notT_c, andF_c, orF_c, notF_c, ifF_c, itemV_c, noP_c, someP_c, nilA_c, consA_c, tupF_c, lstE_c, nilAr_c, valAr_c, lendAr_c, ifS_c, retS_c, retNS_c, skipS_c, bkS_c, ctS_c, asgS_c, forL_c, seqI_c, range1I_c, enumI_c, optF_c, chainF_c, setIS_c, appendS_c, raiseS_c, fzE_c, frF_c, tmV_c, cF_c, R.bind_ok, R.bind_err, seqK_nx, seqK_ret, seqK_bk, seqK_ct, seqK_err, defF_c, defK_ret, defK_nx, defK_err, opK_tt, opK_pt, ptK_some, intOp_i, intCmp_i, addD_i, tt2_t, intOp_t, divC, modC, mulC_r, ixN, callK1_some, callK2_ok, callK2_err, giveK_some, giveX_some, oneK_some, peek_tm, sliceK_tm, putK_some, opt_some, stab_tm, testK_bl, andTK_t, andTK_f, orTK_t, orTK_f, andFK_t, andFK_f, orFK_t, orFK_f, notFK_bl, ifFK_t, ifFK_f, ifSK_t, ifSK_f, itemK1_tm, itemK1, somePK_int, tupK, lstK, lendK_some, seqIK_tup, seqIK_lst, seqIK_rol, enumK_tup, enumK_lst, chainK_t, chainK_f, setIK_c0, setIK_c1, setIK_c2, setIK_c3, setIK_c4, putIK2_some, appK_0, appK2_lst, eqD_ii, eqD_ss, eqD_bb, neD_ii, neD_ss, lcE_c, lcK_ok, rangeD_len, wipeE, getS_0, getS_s, loadV_tm, loadV, stab, peek, viewD, subS, putS, sub, put, kid, setKid, addD_tt, addD_ll, shrC, ltD, gtD, isN, isND, notND, lenC_tup, lenC_lst, lenC_rol, listC_tup, listC_lst, listC_rol, tupleC_tup, tupleC_lst, tupleC_rol, intC_int, intC_bl, item, itemK, optV, kidV, takeL, giveL, bck, putN, nameG, nilG, consG, tupG, negD, isLst, sizeLine_eq, isiD, isi2D, typeD, moveK_some, itemD_lst, itemD_tup]
theorem m_is_place (i : Int) : S_is_place [some (.fz (.int i))] = .ok (.fz (.bl (decide (0 ≤ i)))) [some (.fz (.int i))] := by
  simp [S_is_place, s_is_place, m_is_integer, varV_c, load_c, moveE_c, seqS_c, opF_c, callE_c, fun1_c, fun1L_c, sliceF_c, setS_c, testF_c, andT_c, orT_c, notT_c, andF_c, orF_c, notF_c, ifF_c, itemV_c, noP_c, someP_c, nilA_c, consA_c, tupF_c, lstE_c, nilAr_c, valAr_c, lendAr_c, ifS_c, retS_c, retNS_c, skipS_c, bkS_c, ctS_c, asgS_c, forL_c, seqI_c, range1I_c, enumI_c, optF_c, chainF_c, setIS_c, appendS_c, raiseS_c, fzE_c, frF_c, tmV_c, cF_c, R.bind_ok, R.bind_err, seqK_nx, seqK_ret, seqK_bk, seqK_ct, seqK_err, defF_c, defK_ret, defK_nx, defK_err, opK_tt, opK_pt, ptK_some, intOp_i, intCmp_i, addD_i, tt2_t, intOp_t, divC, modC, mulC_r, ixN, callK1_some, callK2_ok, callK2_err, giveK_some, giveX_some, oneK_some, peek_tm, sliceK_tm, putK_some, opt_some, stab_tm, testK_bl, andTK_t, andTK_f, orTK_t, orTK_f, andFK_t, andFK_f, orFK_t, orFK_f, notFK_bl, ifFK_t, ifFK_f, ifSK_t, ifSK_f, itemK1_tm, itemK1, somePK_int, tupK, lstK, lendK_some, seqIK_tup, seqIK_lst, seqIK_rol, enumK_tup, enumK_lst, chainK_t, chainK_f, setIK_c0, setIK_c1, setIK_c2, setIK_c3, setIK_c4, putIK2_some, appK_0, appK2_lst, eqD_ii, eqD_ss, eqD_bb, neD_ii, neD_ss, lcE_c, lcK_ok, rangeD_len, wipeE, getS_0, getS_s, loadV_tm, loadV, stab, peek, viewD, subS, putS, sub, put, kid, setKid, addD_tt, addD_ll, shrC, ltD, gtD, isN, isND, notND, lenC_tup, lenC_lst, lenC_rol, listC_tup, listC_lst, listC_rol, tupleC_tup, tupleC_lst, tupleC_rol, intC_int, intC_bl, item, itemK, optV, kidV, takeL, giveL, bck, putN, nameG, nilG, consG, tupG, negD, isLst, sizeLine_eq, isiD, isi2D, typeD, moveK_some, itemD_lst, itemD_tup]
/-- the pool -/
def pool (ns : List Int) (a r s t : Int) : O := .lst [.fz (.lst (ns.map .int)), .fz (.int a), .fz (.int r), .fz (.int s), .fz (.int t), .fz .non]
def one_ (a b : Int) : Int := (a % 1000003 * 48271 + b % 999983 * 69621 + 12345) % 2147483647
def two_ (a b : Int) : Int := (one_ a b * one_ a b + one_ a b * 40692 + b % 65537 * 16807 + 7) % 2147483629
def mixed (a b : Int) : Int := (two_ a b * 48271 + one_ a b / 127) % 2147483647
theorem m_mixed (a b : Int) : S__law_mixed [some (.fz (.int a)), some (.fz (.int b))] = .ok (.fz (.int (mixed a b))) [some (.fz (.int a)), some (.fz (.int b))] := by
  have h4 : 0 ≤ one_ a b ∧ one_ a b < 2147483647 := by unfold one_; omega
  have e1 : (a % 1000003 * 48271 + b % 999983 * 69621 + 12345) % 2147483647 = one_ a b := rfl
  have e2 : (one_ a b * one_ a b + one_ a b * 40692 + b % 65537 * 16807 + 7) % 2147483629 = two_ a b := rfl
  have m1 : mulC (one_ a b) (one_ a b) = true := mulC_r (by omega) (by omega)
  simp [S__law_mixed, s__law_mixed, e1, e2, m1, mixed, varV_c, load_c, moveE_c, seqS_c, opF_c, callE_c, fun1_c, fun1L_c, sliceF_c, setS_c, testF_c, andT_c, orT_c, notT_c, andF_c, orF_c, notF_c, ifF_c, itemV_c, noP_c, someP_c, nilA_c, consA_c, tupF_c, lstE_c, nilAr_c, valAr_c, lendAr_c, ifS_c, retS_c, retNS_c, skipS_c, bkS_c, ctS_c, asgS_c, forL_c, seqI_c, range1I_c, enumI_c, optF_c, chainF_c, setIS_c, appendS_c, raiseS_c, fzE_c, frF_c, tmV_c, cF_c, R.bind_ok, R.bind_err, seqK_nx, seqK_ret, seqK_bk, seqK_ct, seqK_err, defF_c, defK_ret, defK_nx, defK_err, opK_tt, opK_pt, ptK_some, intOp_i, intCmp_i, addD_i, tt2_t, intOp_t, divC, modC, mulC_r, ixN, callK1_some, callK2_ok, callK2_err, giveK_some, giveX_some, oneK_some, peek_tm, sliceK_tm, putK_some, opt_some, stab_tm, testK_bl, andTK_t, andTK_f, orTK_t, orTK_f, andFK_t, andFK_f, orFK_t, orFK_f, notFK_bl, ifFK_t, ifFK_f, ifSK_t, ifSK_f, itemK1_tm, itemK1, somePK_int, tupK, lstK, lendK_some, seqIK_tup, seqIK_lst, seqIK_rol, enumK_tup, enumK_lst, chainK_t, chainK_f, setIK_c0, setIK_c1, setIK_c2, setIK_c3, setIK_c4, putIK2_some, appK_0, appK2_lst, eqD_ii, eqD_ss, eqD_bb, neD_ii, neD_ss, lcE_c, lcK_ok, rangeD_len, wipeE, getS_0, getS_s, loadV_tm, loadV, stab, peek, viewD, subS, putS, sub, put, kid, setKid, addD_tt, addD_ll, shrC, ltD, gtD, isN, isND, notND, lenC_tup, lenC_lst, lenC_rol, listC_tup, listC_lst, listC_rol, tupleC_tup, tupleC_lst, tupleC_rol, intC_int, intC_bl, item, itemK, optV, kidV, takeL, giveL, bck, putN, nameG, nilG, consG, tupG, negD, isLst, sizeLine_eq, isiD, isi2D, typeD, moveK_some, itemD_lst, itemD_tup]
theorem m_pool (ns : List Int) : S__law_pool [some (.fz (.rol (ns.map .int)))] = .ok (pool ns 0 0 0 0) [some (.fz (.rol (ns.map .int)))] := by
  simp [S__law_pool, s__law_pool, pool, varV_c, load_c, moveE_c, seqS_c, opF_c, callE_c, fun1_c, fun1L_c, sliceF_c, setS_c, testF_c, andT_c, orT_c, notT_c, andF_c, orF_c, notF_c, ifF_c, itemV_c, noP_c, someP_c, nilA_c, consA_c, tupF_c, lstE_c, nilAr_c, valAr_c, lendAr_c, ifS_c, retS_c, retNS_c, skipS_c, bkS_c, ctS_c, asgS_c, forL_c, seqI_c, range1I_c, enumI_c, optF_c, chainF_c, setIS_c, appendS_c, raiseS_c, fzE_c, frF_c, tmV_c, cF_c, R.bind_ok, R.bind_err, seqK_nx, seqK_ret, seqK_bk, seqK_ct, seqK_err, defF_c, defK_ret, defK_nx, defK_err, opK_tt, opK_pt, ptK_some, intOp_i, intCmp_i, addD_i, tt2_t, intOp_t, divC, modC, mulC_r, ixN, callK1_some, callK2_ok, callK2_err, giveK_some, giveX_some, oneK_some, peek_tm, sliceK_tm, putK_some, opt_some, stab_tm, testK_bl, andTK_t, andTK_f, orTK_t, orTK_f, andFK_t, andFK_f, orFK_t, orFK_f, notFK_bl, ifFK_t, ifFK_f, ifSK_t, ifSK_f, itemK1_tm, itemK1, somePK_int, tupK, lstK, lendK_some, seqIK_tup, seqIK_lst, seqIK_rol, enumK_tup, enumK_lst, chainK_t, chainK_f, setIK_c0, setIK_c1, setIK_c2, setIK_c3, setIK_c4, putIK2_some, appK_0, appK2_lst, eqD_ii, eqD_ss, eqD_bb, neD_ii, neD_ss, lcE_c, lcK_ok, rangeD_len, wipeE, getS_0, getS_s, loadV_tm, loadV, stab, peek, viewD, subS, putS, sub, put, kid, setKid, addD_tt, addD_ll, shrC, ltD, gtD, isN, isND, notND, lenC_tup, lenC_lst, lenC_rol, listC_tup, listC_lst, listC_rol, tupleC_tup, tupleC_lst, tupleC_rol, intC_int, intC_bl, item, itemK, optV, kidV, takeL, giveL, bck, putN, nameG, nilG, consG, tupG, negD, isLst, sizeLine_eq, isiD, isi2D, typeD, moveK_some, itemD_lst, itemD_tup]
theorem m_draw (ns : List Int) (a r s t m : Int) (ha : 0 ≤ a) (hm : 0 < m) (hm2 : m < 1073741824) : ∃ v a' r' s' t', 0 ≤ a' ∧ 0 ≤ v ∧ v < m ∧ S__law_draw [some (pool ns a r s t), some (.fz (.int m))] = .ok (.fz (.int v)) [some (pool ns a' r' s' t'), some (.fz (.int m))] := by
  have emn : ∀ x : Int, 0 ≤ x % m := fun x => Int.emod_nonneg x (by omega)
  have eml : ∀ x : Int, x % m < m := fun x => Int.emod_lt_of_pos x hm
  have pw : (10 : Int) ^ 18 = 1000000000000000000 := by decide
  by_cases h1 : r < 2
  · by_cases h2 : a < ns.length
    · have hn : a.toNat < ns.length := by omega
      have ea : atD (ns.map D.int) a = some (.int ns[a.toNat]) := by rw [atD_nonneg ha (by simpa using h2)]; simp [hn]
      by_cases h3 : 1000000000000000000 ≤ ns[a.toNat]
      · refine ⟨(ns[a.toNat] - 1000000000000000000) % m, a + 1, (ns[a.toNat] - 1000000000000000000) / m, s, 60, by omega, emn _, eml _, ?_⟩
        simp [S__law_draw, s__law_draw, pool, h1, h2, ea, h3, pw, hm, hm2, m_mixed, powD, powC, varV_c, load_c, moveE_c, seqS_c, opF_c, callE_c, fun1_c, fun1L_c, sliceF_c, setS_c, testF_c, andT_c, orT_c, notT_c, andF_c, orF_c, notF_c, ifF_c, itemV_c, noP_c, someP_c, nilA_c, consA_c, tupF_c, lstE_c, nilAr_c, valAr_c, lendAr_c, ifS_c, retS_c, retNS_c, skipS_c, bkS_c, ctS_c, asgS_c, forL_c, seqI_c, range1I_c, enumI_c, optF_c, chainF_c, setIS_c, appendS_c, raiseS_c, fzE_c, frF_c, tmV_c, cF_c, R.bind_ok, R.bind_err, seqK_nx, seqK_ret, seqK_bk, seqK_ct, seqK_err, defF_c, defK_ret, defK_nx, defK_err, opK_tt, opK_pt, ptK_some, intOp_i, intCmp_i, addD_i, tt2_t, intOp_t, divC, modC, mulC_r, ixN, callK1_some, callK2_ok, callK2_err, giveK_some, giveX_some, oneK_some, peek_tm, sliceK_tm, putK_some, opt_some, stab_tm, testK_bl, andTK_t, andTK_f, orTK_t, orTK_f, andFK_t, andFK_f, orFK_t, orFK_f, notFK_bl, ifFK_t, ifFK_f, ifSK_t, ifSK_f, itemK1_tm, itemK1, somePK_int, tupK, lstK, lendK_some, seqIK_tup, seqIK_lst, seqIK_rol, enumK_tup, enumK_lst, chainK_t, chainK_f, setIK_c0, setIK_c1, setIK_c2, setIK_c3, setIK_c4, putIK2_some, appK_0, appK2_lst, eqD_ii, eqD_ss, eqD_bb, neD_ii, neD_ss, lcE_c, lcK_ok, rangeD_len, wipeE, getS_0, getS_s, loadV_tm, loadV, stab, peek, viewD, subS, putS, sub, put, kid, setKid, addD_tt, addD_ll, shrC, ltD, gtD, isN, isND, notND, lenC_tup, lenC_lst, lenC_rol, listC_tup, listC_lst, listC_rol, tupleC_tup, tupleC_lst, tupleC_rol, intC_int, intC_bl, item, itemK, optV, kidV, takeL, giveL, bck, putN, nameG, nilG, consG, tupG, negD, isLst, sizeLine_eq, isiD, isi2D, typeD, moveK_some, itemD_lst, itemD_tup]
      · refine ⟨mixed (s + ns[a.toNat]) (a + 1) % m, a + 1, 0, mixed (s + ns[a.toNat]) (a + 1), t, by omega, emn _, eml _, ?_⟩
        simp [S__law_draw, s__law_draw, pool, h1, h2, ea, h3, pw, hm, hm2, m_mixed, powD, powC, varV_c, load_c, moveE_c, seqS_c, opF_c, callE_c, fun1_c, fun1L_c, sliceF_c, setS_c, testF_c, andT_c, orT_c, notT_c, andF_c, orF_c, notF_c, ifF_c, itemV_c, noP_c, someP_c, nilA_c, consA_c, tupF_c, lstE_c, nilAr_c, valAr_c, lendAr_c, ifS_c, retS_c, retNS_c, skipS_c, bkS_c, ctS_c, asgS_c, forL_c, seqI_c, range1I_c, enumI_c, optF_c, chainF_c, setIS_c, appendS_c, raiseS_c, fzE_c, frF_c, tmV_c, cF_c, R.bind_ok, R.bind_err, seqK_nx, seqK_ret, seqK_bk, seqK_ct, seqK_err, defF_c, defK_ret, defK_nx, defK_err, opK_tt, opK_pt, ptK_some, intOp_i, intCmp_i, addD_i, tt2_t, intOp_t, divC, modC, mulC_r, ixN, callK1_some, callK2_ok, callK2_err, giveK_some, giveX_some, oneK_some, peek_tm, sliceK_tm, putK_some, opt_some, stab_tm, testK_bl, andTK_t, andTK_f, orTK_t, orTK_f, andFK_t, andFK_f, orFK_t, orFK_f, notFK_bl, ifFK_t, ifFK_f, ifSK_t, ifSK_f, itemK1_tm, itemK1, somePK_int, tupK, lstK, lendK_some, seqIK_tup, seqIK_lst, seqIK_rol, enumK_tup, enumK_lst, chainK_t, chainK_f, setIK_c0, setIK_c1, setIK_c2, setIK_c3, setIK_c4, putIK2_some, appK_0, appK2_lst, eqD_ii, eqD_ss, eqD_bb, neD_ii, neD_ss, lcE_c, lcK_ok, rangeD_len, wipeE, getS_0, getS_s, loadV_tm, loadV, stab, peek, viewD, subS, putS, sub, put, kid, setKid, addD_tt, addD_ll, shrC, ltD, gtD, isN, isND, notND, lenC_tup, lenC_lst, lenC_rol, listC_tup, listC_lst, listC_rol, tupleC_tup, tupleC_lst, tupleC_rol, intC_int, intC_bl, item, itemK, optV, kidV, takeL, giveL, bck, putN, nameG, nilG, consG, tupG, negD, isLst, sizeLine_eq, isiD, isi2D, typeD, moveK_some, itemD_lst, itemD_tup]
    · refine ⟨mixed s (77 + (a + 1)) % m, a + 1, 0, mixed s (77 + (a + 1)), t, by omega, emn _, eml _, ?_⟩
      simp [S__law_draw, s__law_draw, pool, h1, h2, hm, hm2, m_mixed, varV_c, load_c, moveE_c, seqS_c, opF_c, callE_c, fun1_c, fun1L_c, sliceF_c, setS_c, testF_c, andT_c, orT_c, notT_c, andF_c, orF_c, notF_c, ifF_c, itemV_c, noP_c, someP_c, nilA_c, consA_c, tupF_c, lstE_c, nilAr_c, valAr_c, lendAr_c, ifS_c, retS_c, retNS_c, skipS_c, bkS_c, ctS_c, asgS_c, forL_c, seqI_c, range1I_c, enumI_c, optF_c, chainF_c, setIS_c, appendS_c, raiseS_c, fzE_c, frF_c, tmV_c, cF_c, R.bind_ok, R.bind_err, seqK_nx, seqK_ret, seqK_bk, seqK_ct, seqK_err, defF_c, defK_ret, defK_nx, defK_err, opK_tt, opK_pt, ptK_some, intOp_i, intCmp_i, addD_i, tt2_t, intOp_t, divC, modC, mulC_r, ixN, callK1_some, callK2_ok, callK2_err, giveK_some, giveX_some, oneK_some, peek_tm, sliceK_tm, putK_some, opt_some, stab_tm, testK_bl, andTK_t, andTK_f, orTK_t, orTK_f, andFK_t, andFK_f, orFK_t, orFK_f, notFK_bl, ifFK_t, ifFK_f, ifSK_t, ifSK_f, itemK1_tm, itemK1, somePK_int, tupK, lstK, lendK_some, seqIK_tup, seqIK_lst, seqIK_rol, enumK_tup, enumK_lst, chainK_t, chainK_f, setIK_c0, setIK_c1, setIK_c2, setIK_c3, setIK_c4, putIK2_some, appK_0, appK2_lst, eqD_ii, eqD_ss, eqD_bb, neD_ii, neD_ss, lcE_c, lcK_ok, rangeD_len, wipeE, getS_0, getS_s, loadV_tm, loadV, stab, peek, viewD, subS, putS, sub, put, kid, setKid, addD_tt, addD_ll, shrC, ltD, gtD, isN, isND, notND, lenC_tup, lenC_lst, lenC_rol, listC_tup, listC_lst, listC_rol, tupleC_tup, tupleC_lst, tupleC_rol, intC_int, intC_bl, item, itemK, optV, kidV, takeL, giveL, bck, putN, nameG, nilG, consG, tupG, negD, isLst, sizeLine_eq, isiD, isi2D, typeD, moveK_some, itemD_lst, itemD_tup]
  · by_cases h9 : 1 < t
    · refine ⟨r % m, a, r / m * 1, s, t - 1, ha, emn _, eml _, ?_⟩
      simp [S__law_draw, s__law_draw, pool, h1, hm, hm2, h9, varV_c, load_c, moveE_c, seqS_c, opF_c, callE_c, fun1_c, fun1L_c, sliceF_c, setS_c, testF_c, andT_c, orT_c, notT_c, andF_c, orF_c, notF_c, ifF_c, itemV_c, noP_c, someP_c, nilA_c, consA_c, tupF_c, lstE_c, nilAr_c, valAr_c, lendAr_c, ifS_c, retS_c, retNS_c, skipS_c, bkS_c, ctS_c, asgS_c, forL_c, seqI_c, range1I_c, enumI_c, optF_c, chainF_c, setIS_c, appendS_c, raiseS_c, fzE_c, frF_c, tmV_c, cF_c, R.bind_ok, R.bind_err, seqK_nx, seqK_ret, seqK_bk, seqK_ct, seqK_err, defF_c, defK_ret, defK_nx, defK_err, opK_tt, opK_pt, ptK_some, intOp_i, intCmp_i, addD_i, tt2_t, intOp_t, divC, modC, mulC_r, ixN, callK1_some, callK2_ok, callK2_err, giveK_some, giveX_some, oneK_some, peek_tm, sliceK_tm, putK_some, opt_some, stab_tm, testK_bl, andTK_t, andTK_f, orTK_t, orTK_f, andFK_t, andFK_f, orFK_t, orFK_f, notFK_bl, ifFK_t, ifFK_f, ifSK_t, ifSK_f, itemK1_tm, itemK1, somePK_int, tupK, lstK, lendK_some, seqIK_tup, seqIK_lst, seqIK_rol, enumK_tup, enumK_lst, chainK_t, chainK_f, setIK_c0, setIK_c1, setIK_c2, setIK_c3, setIK_c4, putIK2_some, appK_0, appK2_lst, eqD_ii, eqD_ss, eqD_bb, neD_ii, neD_ss, lcE_c, lcK_ok, rangeD_len, wipeE, getS_0, getS_s, loadV_tm, loadV, stab, peek, viewD, subS, putS, sub, put, kid, setKid, addD_tt, addD_ll, shrC, ltD, gtD, isN, isND, notND, lenC_tup, lenC_lst, lenC_rol, listC_tup, listC_lst, listC_rol, tupleC_tup, tupleC_lst, tupleC_rol, intC_int, intC_bl, item, itemK, optV, kidV, takeL, giveL, bck, putN, nameG, nilG, consG, tupG, negD, isLst, sizeLine_eq, isiD, isi2D, typeD, moveK_some, itemD_lst, itemD_tup]
    · refine ⟨r % m, a, r / m * 0, s, t - 1, ha, emn _, eml _, ?_⟩
      simp [S__law_draw, s__law_draw, pool, h1, hm, hm2, h9, varV_c, load_c, moveE_c, seqS_c, opF_c, callE_c, fun1_c, fun1L_c, sliceF_c, setS_c, testF_c, andT_c, orT_c, notT_c, andF_c, orF_c, notF_c, ifF_c, itemV_c, noP_c, someP_c, nilA_c, consA_c, tupF_c, lstE_c, nilAr_c, valAr_c, lendAr_c, ifS_c, retS_c, retNS_c, skipS_c, bkS_c, ctS_c, asgS_c, forL_c, seqI_c, range1I_c, enumI_c, optF_c, chainF_c, setIS_c, appendS_c, raiseS_c, fzE_c, frF_c, tmV_c, cF_c, R.bind_ok, R.bind_err, seqK_nx, seqK_ret, seqK_bk, seqK_ct, seqK_err, defF_c, defK_ret, defK_nx, defK_err, opK_tt, opK_pt, ptK_some, intOp_i, intCmp_i, addD_i, tt2_t, intOp_t, divC, modC, mulC_r, ixN, callK1_some, callK2_ok, callK2_err, giveK_some, giveX_some, oneK_some, peek_tm, sliceK_tm, putK_some, opt_some, stab_tm, testK_bl, andTK_t, andTK_f, orTK_t, orTK_f, andFK_t, andFK_f, orFK_t, orFK_f, notFK_bl, ifFK_t, ifFK_f, ifSK_t, ifSK_f, itemK1_tm, itemK1, somePK_int, tupK, lstK, lendK_some, seqIK_tup, seqIK_lst, seqIK_rol, enumK_tup, enumK_lst, chainK_t, chainK_f, setIK_c0, setIK_c1, setIK_c2, setIK_c3, setIK_c4, putIK2_some, appK_0, appK2_lst, eqD_ii, eqD_ss, eqD_bb, neD_ii, neD_ss, lcE_c, lcK_ok, rangeD_len, wipeE, getS_0, getS_s, loadV_tm, loadV, stab, peek, viewD, subS, putS, sub, put, kid, setKid, addD_tt, addD_ll, shrC, ltD, gtD, isN, isND, notND, lenC_tup, lenC_lst, lenC_rol, listC_tup, listC_lst, listC_rol, tupleC_tup, tupleC_lst, tupleC_rol, intC_int, intC_bl, item, itemK, optV, kidV, takeL, giveL, bck, putN, nameG, nilG, consG, tupG, negD, isLst, sizeLine_eq, isiD, isi2D, typeD, moveK_some, itemD_lst, itemD_tup]
def Pool (p : O) : Prop := ∃ ns a r s t, 0 ≤ a ∧ p = pool ns a r s t
theorem draw {p : O} (hp : Pool p) (m : Int) (hm : 0 < m) (hm2 : m < 1073741824) : ∃ v p', Pool p' ∧ 0 ≤ v ∧ v < m ∧ S__law_draw [some p, some (.fz (.int m))] = .ok (.fz (.int v)) [some p', some (.fz (.int m))] := by
  obtain ⟨ns, a, r, s, t, ha, rfl⟩ := hp
  obtain ⟨v, a', r', s', t', h1, h2, h3, h4⟩ := m_draw ns a r s t m ha hm hm2
  exact ⟨v, _, ⟨ns, a', r', s', t', h1, rfl⟩, h2, h3, h4⟩
end DL.GW50
end

section
set_option Elab.async false
set_option linter.all false
set_option maxRecDepth 100000
set_option maxHeartbeats 4000000
namespace DL.GW50
open PySem L2
theorem w_lose_turn : (("lose" : Str) = "turn") = False := by simp only [eq_iff_iff, iff_false]; decide
theorem w_lose_double : (("lose" : Str) = "double") = False := by simp only [eq_iff_iff, iff_false]; decide
theorem w_lose_cut : (("lose" : Str) = "cut") = False := by simp only [eq_iff_iff, iff_false]; decide
theorem w_lose_change : (("lose" : Str) = "change") = False := by simp only [eq_iff_iff, iff_false]; decide
theorem w_turn_lose : (("turn" : Str) = "lose") = False := by simp only [eq_iff_iff, iff_false]; decide
theorem w_turn_double : (("turn" : Str) = "double") = False := by simp only [eq_iff_iff, iff_false]; decide
theorem w_turn_cut : (("turn" : Str) = "cut") = False := by simp only [eq_iff_iff, iff_false]; decide
theorem w_turn_change : (("turn" : Str) = "change") = False := by simp only [eq_iff_iff, iff_false]; decide
theorem w_double_lose : (("double" : Str) = "lose") = False := by simp only [eq_iff_iff, iff_false]; decide
theorem w_double_turn : (("double" : Str) = "turn") = False := by simp only [eq_iff_iff, iff_false]; decide
theorem w_double_cut : (("double" : Str) = "cut") = False := by simp only [eq_iff_iff, iff_false]; decide
theorem w_double_change : (("double" : Str) = "change") = False := by simp only [eq_iff_iff, iff_false]; decide
theorem w_cut_lose : (("cut" : Str) = "lose") = False := by simp only [eq_iff_iff, iff_false]; decide
theorem w_cut_turn : (("cut" : Str) = "turn") = False := by simp only [eq_iff_iff, iff_false]; decide
theorem w_cut_double : (("cut" : Str) = "double") = False := by simp only [eq_iff_iff, iff_false]; decide
theorem w_cut_change : (("cut" : Str) = "change") = False := by simp only [eq_iff_iff, iff_false]; decide
theorem w_change_lose : (("change" : Str) = "lose") = False := by simp only [eq_iff_iff, iff_false]; decide
theorem w_change_turn : (("change" : Str) = "turn") = False := by simp only [eq_iff_iff, iff_false]; decide
theorem w_change_double : (("change" : Str) = "double") = False := by simp only [eq_iff_iff, iff_false]; decide
theorem w_change_cut : (("change" : Str) = "cut") = False := by simp only [eq_iff_iff, iff_false]; decide
/-- a text of harms as the law draws them -/
inductive Harm where
  | lose (v : Int) | turn (v w : Int) | double (v : Int) | cut (v b e : Int) | change (v p : Int) (t : Bool) (xs : List Int)
def vd (t : Bool) (xs : List Int) : D := if t then .tup (xs.map .int) else .lst (xs.map .int)
def enc : Harm → D
  | .lose v => .tup [.str "lose", .int v]
  | .turn v w => .tup [.str "turn", .int v, .int w]
  | .double v => .tup [.str "double", .int v]
  | .cut v b e => .tup [.str "cut", .int v, .int b, .int e]
  | .change v p t xs => .tup [.str "change", .int v, .int p, vd t xs]
def sm (i : Int) : Prop := -1000000 ≤ i ∧ i ≤ 1000000
def Bd : Harm → Prop
  | .lose v => sm v
  | .turn v w => sm v ∧ sm w
  | .double v => sm v
  | .cut v b e => sm v ∧ sm b ∧ sm e
  | .change v p _ xs => sm v ∧ sm p ∧ xs.length ≤ 5 ∧ ∀ x ∈ xs, sm x
theorem m_wrong {p : O} (hp : Pool p) (m : Int) (hm : 0 ≤ m) (hm2 : m ≤ 100) : ∃ v p', Pool p' ∧ sm v ∧ S__law_wrong_volume [some p, some (.fz (.int m))] = .ok (.fz (.int v)) [some p', some (.fz (.int m))] := by
  obtain ⟨v1, p1, hp1, l1, u1, e1⟩ := draw hp 1000 (by decide) (by decide)
  obtain ⟨v2, p2, hp2, l2, u2, e2⟩ := draw hp1 1000 (by decide) (by decide)
  obtain ⟨v3, p3, hp3, l3, u3, e3⟩ := draw hp2 4 (by decide) (by decide)
  have h : v3 = 0 ∨ v3 = 1 ∨ v3 = 2 ∨ v3 = 3 := by omega
  rcases h with rfl | rfl | rfl | rfl
  · exact ⟨-1, p3, hp3, by unfold sm; omega, by simp [S__law_wrong_volume, s__law_wrong_volume, e1, e2, e3, atD, varV_c, load_c, moveE_c, seqS_c, opF_c, callE_c, fun1_c, fun1L_c, sliceF_c, setS_c, testF_c, andT_c, orT_c, notT_c, andF_c, orF_c, notF_c, ifF_c, itemV_c, noP_c, someP_c, nilA_c, consA_c, tupF_c, lstE_c, nilAr_c, valAr_c, lendAr_c, ifS_c, retS_c, retNS_c, skipS_c, bkS_c, ctS_c, asgS_c, forL_c, seqI_c, range1I_c, enumI_c, optF_c, chainF_c, setIS_c, appendS_c, raiseS_c, fzE_c, frF_c, tmV_c, cF_c, R.bind_ok, R.bind_err, seqK_nx, seqK_ret, seqK_bk, seqK_ct, seqK_err, defF_c, defK_ret, defK_nx, defK_err, opK_tt, opK_pt, ptK_some, intOp_i, intCmp_i, addD_i, tt2_t, intOp_t, divC, modC, mulC_r, ixN, callK1_some, callK2_ok, callK2_err, giveK_some, giveX_some, oneK_some, peek_tm, sliceK_tm, putK_some, opt_some, stab_tm, testK_bl, andTK_t, andTK_f, orTK_t, orTK_f, andFK_t, andFK_f, orFK_t, orFK_f, notFK_bl, ifFK_t, ifFK_f, ifSK_t, ifSK_f, itemK1_tm, itemK1, somePK_int, tupK, lstK, lendK_some, seqIK_tup, seqIK_lst, seqIK_rol, enumK_tup, enumK_lst, chainK_t, chainK_f, setIK_c0, setIK_c1, setIK_c2, setIK_c3, setIK_c4, putIK2_some, appK_0, appK2_lst, eqD_ii, eqD_ss, eqD_bb, neD_ii, neD_ss, lcE_c, lcK_ok, rangeD_len, wipeE, getS_0, getS_s, loadV_tm, loadV, stab, peek, viewD, subS, putS, sub, put, kid, setKid, addD_tt, addD_ll, shrC, ltD, gtD, isN, isND, notND, lenC_tup, lenC_lst, lenC_rol, listC_tup, listC_lst, listC_rol, tupleC_tup, tupleC_lst, tupleC_rol, intC_int, intC_bl, item, itemK, optV, kidV, takeL, giveL, bck, putN, nameG, nilG, consG, tupG, negD, isLst, sizeLine_eq, isiD, isi2D, typeD, moveK_some, itemD_lst, itemD_tup]⟩
  · exact ⟨m, p3, hp3, by unfold sm; omega, by simp [S__law_wrong_volume, s__law_wrong_volume, e1, e2, e3, atD, varV_c, load_c, moveE_c, seqS_c, opF_c, callE_c, fun1_c, fun1L_c, sliceF_c, setS_c, testF_c, andT_c, orT_c, notT_c, andF_c, orF_c, notF_c, ifF_c, itemV_c, noP_c, someP_c, nilA_c, consA_c, tupF_c, lstE_c, nilAr_c, valAr_c, lendAr_c, ifS_c, retS_c, retNS_c, skipS_c, bkS_c, ctS_c, asgS_c, forL_c, seqI_c, range1I_c, enumI_c, optF_c, chainF_c, setIS_c, appendS_c, raiseS_c, fzE_c, frF_c, tmV_c, cF_c, R.bind_ok, R.bind_err, seqK_nx, seqK_ret, seqK_bk, seqK_ct, seqK_err, defF_c, defK_ret, defK_nx, defK_err, opK_tt, opK_pt, ptK_some, intOp_i, intCmp_i, addD_i, tt2_t, intOp_t, divC, modC, mulC_r, ixN, callK1_some, callK2_ok, callK2_err, giveK_some, giveX_some, oneK_some, peek_tm, sliceK_tm, putK_some, opt_some, stab_tm, testK_bl, andTK_t, andTK_f, orTK_t, orTK_f, andFK_t, andFK_f, orFK_t, orFK_f, notFK_bl, ifFK_t, ifFK_f, ifSK_t, ifSK_f, itemK1_tm, itemK1, somePK_int, tupK, lstK, lendK_some, seqIK_tup, seqIK_lst, seqIK_rol, enumK_tup, enumK_lst, chainK_t, chainK_f, setIK_c0, setIK_c1, setIK_c2, setIK_c3, setIK_c4, putIK2_some, appK_0, appK2_lst, eqD_ii, eqD_ss, eqD_bb, neD_ii, neD_ss, lcE_c, lcK_ok, rangeD_len, wipeE, getS_0, getS_s, loadV_tm, loadV, stab, peek, viewD, subS, putS, sub, put, kid, setKid, addD_tt, addD_ll, shrC, ltD, gtD, isN, isND, notND, lenC_tup, lenC_lst, lenC_rol, listC_tup, listC_lst, listC_rol, tupleC_tup, tupleC_lst, tupleC_rol, intC_int, intC_bl, item, itemK, optV, kidV, takeL, giveL, bck, putN, nameG, nilG, consG, tupG, negD, isLst, sizeLine_eq, isiD, isi2D, typeD, moveK_some, itemD_lst, itemD_tup]⟩
  · exact ⟨m + 1 + v1, p3, hp3, by unfold sm; omega, by simp [S__law_wrong_volume, s__law_wrong_volume, e1, e2, e3, atD, varV_c, load_c, moveE_c, seqS_c, opF_c, callE_c, fun1_c, fun1L_c, sliceF_c, setS_c, testF_c, andT_c, orT_c, notT_c, andF_c, orF_c, notF_c, ifF_c, itemV_c, noP_c, someP_c, nilA_c, consA_c, tupF_c, lstE_c, nilAr_c, valAr_c, lendAr_c, ifS_c, retS_c, retNS_c, skipS_c, bkS_c, ctS_c, asgS_c, forL_c, seqI_c, range1I_c, enumI_c, optF_c, chainF_c, setIS_c, appendS_c, raiseS_c, fzE_c, frF_c, tmV_c, cF_c, R.bind_ok, R.bind_err, seqK_nx, seqK_ret, seqK_bk, seqK_ct, seqK_err, defF_c, defK_ret, defK_nx, defK_err, opK_tt, opK_pt, ptK_some, intOp_i, intCmp_i, addD_i, tt2_t, intOp_t, divC, modC, mulC_r, ixN, callK1_some, callK2_ok, callK2_err, giveK_some, giveX_some, oneK_some, peek_tm, sliceK_tm, putK_some, opt_some, stab_tm, testK_bl, andTK_t, andTK_f, orTK_t, orTK_f, andFK_t, andFK_f, orFK_t, orFK_f, notFK_bl, ifFK_t, ifFK_f, ifSK_t, ifSK_f, itemK1_tm, itemK1, somePK_int, tupK, lstK, lendK_some, seqIK_tup, seqIK_lst, seqIK_rol, enumK_tup, enumK_lst, chainK_t, chainK_f, setIK_c0, setIK_c1, setIK_c2, setIK_c3, setIK_c4, putIK2_some, appK_0, appK2_lst, eqD_ii, eqD_ss, eqD_bb, neD_ii, neD_ss, lcE_c, lcK_ok, rangeD_len, wipeE, getS_0, getS_s, loadV_tm, loadV, stab, peek, viewD, subS, putS, sub, put, kid, setKid, addD_tt, addD_ll, shrC, ltD, gtD, isN, isND, notND, lenC_tup, lenC_lst, lenC_rol, listC_tup, listC_lst, listC_rol, tupleC_tup, tupleC_lst, tupleC_rol, intC_int, intC_bl, item, itemK, optV, kidV, takeL, giveL, bck, putN, nameG, nilG, consG, tupG, negD, isLst, sizeLine_eq, isiD, isi2D, typeD, moveK_some, itemD_lst, itemD_tup]⟩
  · exact ⟨-2 - v2, p3, hp3, by unfold sm; omega, by simp [S__law_wrong_volume, s__law_wrong_volume, e1, e2, e3, atD, varV_c, load_c, moveE_c, seqS_c, opF_c, callE_c, fun1_c, fun1L_c, sliceF_c, setS_c, testF_c, andT_c, orT_c, notT_c, andF_c, orF_c, notF_c, ifF_c, itemV_c, noP_c, someP_c, nilA_c, consA_c, tupF_c, lstE_c, nilAr_c, valAr_c, lendAr_c, ifS_c, retS_c, retNS_c, skipS_c, bkS_c, ctS_c, asgS_c, forL_c, seqI_c, range1I_c, enumI_c, optF_c, chainF_c, setIS_c, appendS_c, raiseS_c, fzE_c, frF_c, tmV_c, cF_c, R.bind_ok, R.bind_err, seqK_nx, seqK_ret, seqK_bk, seqK_ct, seqK_err, defF_c, defK_ret, defK_nx, defK_err, opK_tt, opK_pt, ptK_some, intOp_i, intCmp_i, addD_i, tt2_t, intOp_t, divC, modC, mulC_r, ixN, callK1_some, callK2_ok, callK2_err, giveK_some, giveX_some, oneK_some, peek_tm, sliceK_tm, putK_some, opt_some, stab_tm, testK_bl, andTK_t, andTK_f, orTK_t, orTK_f, andFK_t, andFK_f, orFK_t, orFK_f, notFK_bl, ifFK_t, ifFK_f, ifSK_t, ifSK_f, itemK1_tm, itemK1, somePK_int, tupK, lstK, lendK_some, seqIK_tup, seqIK_lst, seqIK_rol, enumK_tup, enumK_lst, chainK_t, chainK_f, setIK_c0, setIK_c1, setIK_c2, setIK_c3, setIK_c4, putIK2_some, appK_0, appK2_lst, eqD_ii, eqD_ss, eqD_bb, neD_ii, neD_ss, lcE_c, lcK_ok, rangeD_len, wipeE, getS_0, getS_s, loadV_tm, loadV, stab, peek, viewD, subS, putS, sub, put, kid, setKid, addD_tt, addD_ll, shrC, ltD, gtD, isN, isND, notND, lenC_tup, lenC_lst, lenC_rol, listC_tup, listC_lst, listC_rol, tupleC_tup, tupleC_lst, tupleC_rol, intC_int, intC_bl, item, itemK, optV, kidV, takeL, giveL, bck, putN, nameG, nilG, consG, tupG, negD, isLst, sizeLine_eq, isiD, isi2D, typeD, moveK_some, itemD_lst, itemD_tup]⟩
/-- a comprehension over a range, all drawn: each turn makes an int that P says -/
theorem lc_ints {g : D → Env → Option Env} {f : Env → R O} {vs : List Nat} {P : Int → Prop} {mk : O → Env} (hg : ∀ d p, ∃ e, g d (mk p) = some e ∧ (Pool p → ∃ v p', Pool p' ∧ P v ∧ ∃ e', f e = .ok (.fz (.int v)) e' ∧ wipeE e' vs = mk p')) :
    ∀ (ds : List D) {p : O}, Pool p → ∃ (xs : List Int) (p' : O), Pool p' ∧ xs.length = ds.length ∧ (∀ x ∈ xs, P x) ∧ lcL g yesT f vs ds (mk p) = .ok ((xs.map D.int).map O.fz) (mk p')
  | [], p, hp => ⟨[], p, hp, rfl, fun _ h => by simp at h, rfl⟩
  | d :: ds, p, hp => by
    obtain ⟨e, h1, h2⟩ := hg d p
    obtain ⟨v, p1, hp1, hv, e', h3, h4⟩ := h2 hp
    obtain ⟨xs, p2, hp2, hl, hx, h5⟩ := lc_ints hg ds hp1
    refine ⟨v :: xs, p2, hp2, by simp [hl], fun x hx' => ?_, ?_⟩
    · rcases List.mem_cons.mp hx' with rfl | h
      · exact hv
      · exact hx x h
    · simp only [lcL, h1, yesT, noErr, R.bind_ok, if_true, h3, h4, h5, List.map_cons]
theorem m_integers {p : O} (hp : Pool p) : ∃ t xs p', Pool p' ∧ xs.length ≤ 4 ∧ (∀ x ∈ xs, sm x) ∧ ∃ o, frz o = vd t xs ∧ S__law_integers [some p] = .ok o [some p'] := by
  obtain ⟨n, p1, hp1, l1, u1, e1⟩ := draw hp 4 (by decide) (by decide)
  obtain ⟨xs, p2, hp2, hl, hx, e2⟩ := lc_ints (P := sm) (mk := fun p => [some p, none, none]) (g := nameG 2) (vs := [2]) (f := fzE (load (itemV (tmV (frF (lstE (consA (frF (callE S__law_draw [some 0, none] (lendAr 0 (valAr (fzE (cF (.int 129))) (nilAr))))) (consA (cF (.int 128)) (consA (cF (.int 0)) (nilA))))))) (frF (callE S__law_draw [some 0, none] (lendAr 0 (valAr (fzE (cF (.int 3))) (nilAr))))) false))) (fun d p => ⟨_, rfl, fun hp => by
    obtain ⟨a, p1, hp1, l1, u1, e1⟩ := draw hp 129 (by decide) (by decide)
    obtain ⟨b, p2, hp2, l2, u2, e2⟩ := draw hp1 3 (by decide) (by decide)
    have h : b = 0 ∨ b = 1 ∨ b = 2 := by omega
    rcases h with rfl | rfl | rfl
    · exact ⟨a, p2, hp2, by unfold sm; omega, [some p2, none, some (.fz d)], by simp [e1, e2, atD, varV_c, load_c, moveE_c, seqS_c, opF_c, callE_c, fun1_c, fun1L_c, sliceF_c, setS_c, testF_c, andT_c, orT_c, notT_c, andF_c, orF_c, notF_c, ifF_c, itemV_c, noP_c, someP_c, nilA_c, consA_c, tupF_c, lstE_c, nilAr_c, valAr_c, lendAr_c, ifS_c, retS_c, retNS_c, skipS_c, bkS_c, ctS_c, asgS_c, forL_c, seqI_c, range1I_c, enumI_c, optF_c, chainF_c, setIS_c, appendS_c, raiseS_c, fzE_c, frF_c, tmV_c, cF_c, R.bind_ok, R.bind_err, seqK_nx, seqK_ret, seqK_bk, seqK_ct, seqK_err, defF_c, defK_ret, defK_nx, defK_err, opK_tt, opK_pt, ptK_some, intOp_i, intCmp_i, addD_i, tt2_t, intOp_t, divC, modC, mulC_r, ixN, callK1_some, callK2_ok, callK2_err, giveK_some, giveX_some, oneK_some, peek_tm, sliceK_tm, putK_some, opt_some, stab_tm, testK_bl, andTK_t, andTK_f, orTK_t, orTK_f, andFK_t, andFK_f, orFK_t, orFK_f, notFK_bl, ifFK_t, ifFK_f, ifSK_t, ifSK_f, itemK1_tm, itemK1, somePK_int, tupK, lstK, lendK_some, seqIK_tup, seqIK_lst, seqIK_rol, enumK_tup, enumK_lst, chainK_t, chainK_f, setIK_c0, setIK_c1, setIK_c2, setIK_c3, setIK_c4, putIK2_some, appK_0, appK2_lst, eqD_ii, eqD_ss, eqD_bb, neD_ii, neD_ss, lcE_c, lcK_ok, rangeD_len, wipeE, getS_0, getS_s, loadV_tm, loadV, stab, peek, viewD, subS, putS, sub, put, kid, setKid, addD_tt, addD_ll, shrC, ltD, gtD, isN, isND, notND, lenC_tup, lenC_lst, lenC_rol, listC_tup, listC_lst, listC_rol, tupleC_tup, tupleC_lst, tupleC_rol, intC_int, intC_bl, item, itemK, optV, kidV, takeL, giveL, bck, putN, nameG, nilG, consG, tupG, negD, isLst, sizeLine_eq, isiD, isi2D, typeD, moveK_some, itemD_lst, itemD_tup], rfl⟩
    · exact ⟨128, p2, hp2, by unfold sm; omega, [some p2, none, some (.fz d)], by simp [e1, e2, atD, varV_c, load_c, moveE_c, seqS_c, opF_c, callE_c, fun1_c, fun1L_c, sliceF_c, setS_c, testF_c, andT_c, orT_c, notT_c, andF_c, orF_c, notF_c, ifF_c, itemV_c, noP_c, someP_c, nilA_c, consA_c, tupF_c, lstE_c, nilAr_c, valAr_c, lendAr_c, ifS_c, retS_c, retNS_c, skipS_c, bkS_c, ctS_c, asgS_c, forL_c, seqI_c, range1I_c, enumI_c, optF_c, chainF_c, setIS_c, appendS_c, raiseS_c, fzE_c, frF_c, tmV_c, cF_c, R.bind_ok, R.bind_err, seqK_nx, seqK_ret, seqK_bk, seqK_ct, seqK_err, defF_c, defK_ret, defK_nx, defK_err, opK_tt, opK_pt, ptK_some, intOp_i, intCmp_i, addD_i, tt2_t, intOp_t, divC, modC, mulC_r, ixN, callK1_some, callK2_ok, callK2_err, giveK_some, giveX_some, oneK_some, peek_tm, sliceK_tm, putK_some, opt_some, stab_tm, testK_bl, andTK_t, andTK_f, orTK_t, orTK_f, andFK_t, andFK_f, orFK_t, orFK_f, notFK_bl, ifFK_t, ifFK_f, ifSK_t, ifSK_f, itemK1_tm, itemK1, somePK_int, tupK, lstK, lendK_some, seqIK_tup, seqIK_lst, seqIK_rol, enumK_tup, enumK_lst, chainK_t, chainK_f, setIK_c0, setIK_c1, setIK_c2, setIK_c3, setIK_c4, putIK2_some, appK_0, appK2_lst, eqD_ii, eqD_ss, eqD_bb, neD_ii, neD_ss, lcE_c, lcK_ok, rangeD_len, wipeE, getS_0, getS_s, loadV_tm, loadV, stab, peek, viewD, subS, putS, sub, put, kid, setKid, addD_tt, addD_ll, shrC, ltD, gtD, isN, isND, notND, lenC_tup, lenC_lst, lenC_rol, listC_tup, listC_lst, listC_rol, tupleC_tup, tupleC_lst, tupleC_rol, intC_int, intC_bl, item, itemK, optV, kidV, takeL, giveL, bck, putN, nameG, nilG, consG, tupG, negD, isLst, sizeLine_eq, isiD, isi2D, typeD, moveK_some, itemD_lst, itemD_tup], rfl⟩
    · exact ⟨0, p2, hp2, by unfold sm; omega, [some p2, none, some (.fz d)], by simp [e1, e2, atD, varV_c, load_c, moveE_c, seqS_c, opF_c, callE_c, fun1_c, fun1L_c, sliceF_c, setS_c, testF_c, andT_c, orT_c, notT_c, andF_c, orF_c, notF_c, ifF_c, itemV_c, noP_c, someP_c, nilA_c, consA_c, tupF_c, lstE_c, nilAr_c, valAr_c, lendAr_c, ifS_c, retS_c, retNS_c, skipS_c, bkS_c, ctS_c, asgS_c, forL_c, seqI_c, range1I_c, enumI_c, optF_c, chainF_c, setIS_c, appendS_c, raiseS_c, fzE_c, frF_c, tmV_c, cF_c, R.bind_ok, R.bind_err, seqK_nx, seqK_ret, seqK_bk, seqK_ct, seqK_err, defF_c, defK_ret, defK_nx, defK_err, opK_tt, opK_pt, ptK_some, intOp_i, intCmp_i, addD_i, tt2_t, intOp_t, divC, modC, mulC_r, ixN, callK1_some, callK2_ok, callK2_err, giveK_some, giveX_some, oneK_some, peek_tm, sliceK_tm, putK_some, opt_some, stab_tm, testK_bl, andTK_t, andTK_f, orTK_t, orTK_f, andFK_t, andFK_f, orFK_t, orFK_f, notFK_bl, ifFK_t, ifFK_f, ifSK_t, ifSK_f, itemK1_tm, itemK1, somePK_int, tupK, lstK, lendK_some, seqIK_tup, seqIK_lst, seqIK_rol, enumK_tup, enumK_lst, chainK_t, chainK_f, setIK_c0, setIK_c1, setIK_c2, setIK_c3, setIK_c4, putIK2_some, appK_0, appK2_lst, eqD_ii, eqD_ss, eqD_bb, neD_ii, neD_ss, lcE_c, lcK_ok, rangeD_len, wipeE, getS_0, getS_s, loadV_tm, loadV, stab, peek, viewD, subS, putS, sub, put, kid, setKid, addD_tt, addD_ll, shrC, ltD, gtD, isN, isND, notND, lenC_tup, lenC_lst, lenC_rol, listC_tup, listC_lst, listC_rol, tupleC_tup, tupleC_lst, tupleC_rol, intC_int, intC_bl, item, itemK, optV, kidV, takeL, giveL, bck, putN, nameG, nilG, consG, tupG, negD, isLst, sizeLine_eq, isiD, isi2D, typeD, moveK_some, itemD_lst, itemD_tup], rfl⟩⟩) (rangeD 0 (1 + n).toNat) hp1
  obtain ⟨b, p3, hp3, l3, u3, e3⟩ := draw hp2 2 (by decide) (by decide)
  have hl' : xs.length ≤ 4 := by rw [hl]; simp [rangeD]; omega
  have h : b = 0 ∨ b = 1 := by omega
  have hr : ∀ e, range1K [.int (1 + n)] e = .ok (rangeD 0 (1 + n).toNat) e := fun e => range1K_ok (by omega)
  have hz : 1 + n ≤ 16777216 := by omega
  rcases h with rfl | rfl
  · refine ⟨true, xs, p3, hp3, hl', hx, .fz (.tup (xs.map .int)), by simp [vd], ?_⟩
    simp [S__law_integers, s__law_integers, e1, e3, e2, hr, hz, varV_c, load_c, moveE_c, seqS_c, opF_c, callE_c, fun1_c, fun1L_c, sliceF_c, setS_c, testF_c, andT_c, orT_c, notT_c, andF_c, orF_c, notF_c, ifF_c, itemV_c, noP_c, someP_c, nilA_c, consA_c, tupF_c, lstE_c, nilAr_c, valAr_c, lendAr_c, ifS_c, retS_c, retNS_c, skipS_c, bkS_c, ctS_c, asgS_c, forL_c, seqI_c, range1I_c, enumI_c, optF_c, chainF_c, setIS_c, appendS_c, raiseS_c, fzE_c, frF_c, tmV_c, cF_c, R.bind_ok, R.bind_err, seqK_nx, seqK_ret, seqK_bk, seqK_ct, seqK_err, defF_c, defK_ret, defK_nx, defK_err, opK_tt, opK_pt, ptK_some, intOp_i, intCmp_i, addD_i, tt2_t, intOp_t, divC, modC, mulC_r, ixN, callK1_some, callK2_ok, callK2_err, giveK_some, giveX_some, oneK_some, peek_tm, sliceK_tm, putK_some, opt_some, stab_tm, testK_bl, andTK_t, andTK_f, orTK_t, orTK_f, andFK_t, andFK_f, orFK_t, orFK_f, notFK_bl, ifFK_t, ifFK_f, ifSK_t, ifSK_f, itemK1_tm, itemK1, somePK_int, tupK, lstK, lendK_some, seqIK_tup, seqIK_lst, seqIK_rol, enumK_tup, enumK_lst, chainK_t, chainK_f, setIK_c0, setIK_c1, setIK_c2, setIK_c3, setIK_c4, putIK2_some, appK_0, appK2_lst, eqD_ii, eqD_ss, eqD_bb, neD_ii, neD_ss, lcE_c, lcK_ok, rangeD_len, wipeE, getS_0, getS_s, loadV_tm, loadV, stab, peek, viewD, subS, putS, sub, put, kid, setKid, addD_tt, addD_ll, shrC, ltD, gtD, isN, isND, notND, lenC_tup, lenC_lst, lenC_rol, listC_tup, listC_lst, listC_rol, tupleC_tup, tupleC_lst, tupleC_rol, intC_int, intC_bl, item, itemK, optV, kidV, takeL, giveL, bck, putN, nameG, nilG, consG, tupG, negD, isLst, sizeLine_eq, isiD, isi2D, typeD, moveK_some, itemD_lst, itemD_tup]
  · refine ⟨false, xs, p3, hp3, hl', hx, .lst ((xs.map D.int).map O.fz), by simp [vd, Function.comp_def], ?_⟩
    simp [S__law_integers, s__law_integers, e1, e3, e2, hr, hz, varV_c, load_c, moveE_c, seqS_c, opF_c, callE_c, fun1_c, fun1L_c, sliceF_c, setS_c, testF_c, andT_c, orT_c, notT_c, andF_c, orF_c, notF_c, ifF_c, itemV_c, noP_c, someP_c, nilA_c, consA_c, tupF_c, lstE_c, nilAr_c, valAr_c, lendAr_c, ifS_c, retS_c, retNS_c, skipS_c, bkS_c, ctS_c, asgS_c, forL_c, seqI_c, range1I_c, enumI_c, optF_c, chainF_c, setIS_c, appendS_c, raiseS_c, fzE_c, frF_c, tmV_c, cF_c, R.bind_ok, R.bind_err, seqK_nx, seqK_ret, seqK_bk, seqK_ct, seqK_err, defF_c, defK_ret, defK_nx, defK_err, opK_tt, opK_pt, ptK_some, intOp_i, intCmp_i, addD_i, tt2_t, intOp_t, divC, modC, mulC_r, ixN, callK1_some, callK2_ok, callK2_err, giveK_some, giveX_some, oneK_some, peek_tm, sliceK_tm, putK_some, opt_some, stab_tm, testK_bl, andTK_t, andTK_f, orTK_t, orTK_f, andFK_t, andFK_f, orFK_t, orFK_f, notFK_bl, ifFK_t, ifFK_f, ifSK_t, ifSK_f, itemK1_tm, itemK1, somePK_int, tupK, lstK, lendK_some, seqIK_tup, seqIK_lst, seqIK_rol, enumK_tup, enumK_lst, chainK_t, chainK_f, setIK_c0, setIK_c1, setIK_c2, setIK_c3, setIK_c4, putIK2_some, appK_0, appK2_lst, eqD_ii, eqD_ss, eqD_bb, neD_ii, neD_ss, lcE_c, lcK_ok, rangeD_len, wipeE, getS_0, getS_s, loadV_tm, loadV, stab, peek, viewD, subS, putS, sub, put, kid, setKid, addD_tt, addD_ll, shrC, ltD, gtD, isN, isND, notND, lenC_tup, lenC_lst, lenC_rol, listC_tup, listC_lst, listC_rol, tupleC_tup, tupleC_lst, tupleC_rol, intC_int, intC_bl, item, itemK, optV, kidV, takeL, giveL, bck, putN, nameG, nilG, consG, tupG, negD, isLst, sizeLine_eq, isiD, isi2D, typeD, moveK_some, itemD_lst, itemD_tup]
theorem m_harm {p : O} (hp : Pool p) (m : Int) (hm : 0 ≤ m) (hm2 : m ≤ 100) : ∃ h p', Pool p' ∧ Bd h ∧ S__law_harm [some p, some (.fz (.int m))] = .ok (.fz (enc h)) [some p', some (.fz (.int m))] := by
  have hmx : 0 < (if m > 1 then m else 1) ∧ (if m > 1 then m else 1) ≤ 100 := by split <;> omega
  generalize hq : (if m > 1 then m else 1) = mx at hmx
  have hq' : max2D (.int 1) (.int m) = some (.int mx) := by simp [max2D, hq]
  obtain ⟨v, p1, hp1, l1, u1, e1⟩ := draw hp mx (by omega) (by omega)
  obtain ⟨k, p2, hp2, l2, u2, e2⟩ := draw hp1 6 (by decide) (by decide)
  have smv : sm v := by unfold sm; omega
  by_cases h0 : k = 0
  · subst h0
    exact ⟨.lose v, p2, hp2, smv, by simp [S__law_harm, s__law_harm, enc, hq', e1, e2, varV_c, load_c, moveE_c, seqS_c, opF_c, callE_c, fun1_c, fun1L_c, sliceF_c, setS_c, testF_c, andT_c, orT_c, notT_c, andF_c, orF_c, notF_c, ifF_c, itemV_c, noP_c, someP_c, nilA_c, consA_c, tupF_c, lstE_c, nilAr_c, valAr_c, lendAr_c, ifS_c, retS_c, retNS_c, skipS_c, bkS_c, ctS_c, asgS_c, forL_c, seqI_c, range1I_c, enumI_c, optF_c, chainF_c, setIS_c, appendS_c, raiseS_c, fzE_c, frF_c, tmV_c, cF_c, R.bind_ok, R.bind_err, seqK_nx, seqK_ret, seqK_bk, seqK_ct, seqK_err, defF_c, defK_ret, defK_nx, defK_err, opK_tt, opK_pt, ptK_some, intOp_i, intCmp_i, addD_i, tt2_t, intOp_t, divC, modC, mulC_r, ixN, callK1_some, callK2_ok, callK2_err, giveK_some, giveX_some, oneK_some, peek_tm, sliceK_tm, putK_some, opt_some, stab_tm, testK_bl, andTK_t, andTK_f, orTK_t, orTK_f, andFK_t, andFK_f, orFK_t, orFK_f, notFK_bl, ifFK_t, ifFK_f, ifSK_t, ifSK_f, itemK1_tm, itemK1, somePK_int, tupK, lstK, lendK_some, seqIK_tup, seqIK_lst, seqIK_rol, enumK_tup, enumK_lst, chainK_t, chainK_f, setIK_c0, setIK_c1, setIK_c2, setIK_c3, setIK_c4, putIK2_some, appK_0, appK2_lst, eqD_ii, eqD_ss, eqD_bb, neD_ii, neD_ss, lcE_c, lcK_ok, rangeD_len, wipeE, getS_0, getS_s, loadV_tm, loadV, stab, peek, viewD, subS, putS, sub, put, kid, setKid, addD_tt, addD_ll, shrC, ltD, gtD, isN, isND, notND, lenC_tup, lenC_lst, lenC_rol, listC_tup, listC_lst, listC_rol, tupleC_tup, tupleC_lst, tupleC_rol, intC_int, intC_bl, item, itemK, optV, kidV, takeL, giveL, bck, putN, nameG, nilG, consG, tupG, negD, isLst, sizeLine_eq, isiD, isi2D, typeD, moveK_some, itemD_lst, itemD_tup]⟩
  by_cases h1 : k = 1
  · subst h1
    obtain ⟨w, p3, hp3, l3, u3, e3⟩ := draw hp2 mx (by omega) (by omega)
    exact ⟨.turn v w, p3, hp3, ⟨smv, by unfold sm; omega⟩, by simp [S__law_harm, s__law_harm, enc, hq', e1, e2, e3, varV_c, load_c, moveE_c, seqS_c, opF_c, callE_c, fun1_c, fun1L_c, sliceF_c, setS_c, testF_c, andT_c, orT_c, notT_c, andF_c, orF_c, notF_c, ifF_c, itemV_c, noP_c, someP_c, nilA_c, consA_c, tupF_c, lstE_c, nilAr_c, valAr_c, lendAr_c, ifS_c, retS_c, retNS_c, skipS_c, bkS_c, ctS_c, asgS_c, forL_c, seqI_c, range1I_c, enumI_c, optF_c, chainF_c, setIS_c, appendS_c, raiseS_c, fzE_c, frF_c, tmV_c, cF_c, R.bind_ok, R.bind_err, seqK_nx, seqK_ret, seqK_bk, seqK_ct, seqK_err, defF_c, defK_ret, defK_nx, defK_err, opK_tt, opK_pt, ptK_some, intOp_i, intCmp_i, addD_i, tt2_t, intOp_t, divC, modC, mulC_r, ixN, callK1_some, callK2_ok, callK2_err, giveK_some, giveX_some, oneK_some, peek_tm, sliceK_tm, putK_some, opt_some, stab_tm, testK_bl, andTK_t, andTK_f, orTK_t, orTK_f, andFK_t, andFK_f, orFK_t, orFK_f, notFK_bl, ifFK_t, ifFK_f, ifSK_t, ifSK_f, itemK1_tm, itemK1, somePK_int, tupK, lstK, lendK_some, seqIK_tup, seqIK_lst, seqIK_rol, enumK_tup, enumK_lst, chainK_t, chainK_f, setIK_c0, setIK_c1, setIK_c2, setIK_c3, setIK_c4, putIK2_some, appK_0, appK2_lst, eqD_ii, eqD_ss, eqD_bb, neD_ii, neD_ss, lcE_c, lcK_ok, rangeD_len, wipeE, getS_0, getS_s, loadV_tm, loadV, stab, peek, viewD, subS, putS, sub, put, kid, setKid, addD_tt, addD_ll, shrC, ltD, gtD, isN, isND, notND, lenC_tup, lenC_lst, lenC_rol, listC_tup, listC_lst, listC_rol, tupleC_tup, tupleC_lst, tupleC_rol, intC_int, intC_bl, item, itemK, optV, kidV, takeL, giveL, bck, putN, nameG, nilG, consG, tupG, negD, isLst, sizeLine_eq, isiD, isi2D, typeD, moveK_some, itemD_lst, itemD_tup]⟩
  by_cases h2 : k = 2
  · subst h2
    exact ⟨.double v, p2, hp2, smv, by simp [S__law_harm, s__law_harm, enc, hq', e1, e2, varV_c, load_c, moveE_c, seqS_c, opF_c, callE_c, fun1_c, fun1L_c, sliceF_c, setS_c, testF_c, andT_c, orT_c, notT_c, andF_c, orF_c, notF_c, ifF_c, itemV_c, noP_c, someP_c, nilA_c, consA_c, tupF_c, lstE_c, nilAr_c, valAr_c, lendAr_c, ifS_c, retS_c, retNS_c, skipS_c, bkS_c, ctS_c, asgS_c, forL_c, seqI_c, range1I_c, enumI_c, optF_c, chainF_c, setIS_c, appendS_c, raiseS_c, fzE_c, frF_c, tmV_c, cF_c, R.bind_ok, R.bind_err, seqK_nx, seqK_ret, seqK_bk, seqK_ct, seqK_err, defF_c, defK_ret, defK_nx, defK_err, opK_tt, opK_pt, ptK_some, intOp_i, intCmp_i, addD_i, tt2_t, intOp_t, divC, modC, mulC_r, ixN, callK1_some, callK2_ok, callK2_err, giveK_some, giveX_some, oneK_some, peek_tm, sliceK_tm, putK_some, opt_some, stab_tm, testK_bl, andTK_t, andTK_f, orTK_t, orTK_f, andFK_t, andFK_f, orFK_t, orFK_f, notFK_bl, ifFK_t, ifFK_f, ifSK_t, ifSK_f, itemK1_tm, itemK1, somePK_int, tupK, lstK, lendK_some, seqIK_tup, seqIK_lst, seqIK_rol, enumK_tup, enumK_lst, chainK_t, chainK_f, setIK_c0, setIK_c1, setIK_c2, setIK_c3, setIK_c4, putIK2_some, appK_0, appK2_lst, eqD_ii, eqD_ss, eqD_bb, neD_ii, neD_ss, lcE_c, lcK_ok, rangeD_len, wipeE, getS_0, getS_s, loadV_tm, loadV, stab, peek, viewD, subS, putS, sub, put, kid, setKid, addD_tt, addD_ll, shrC, ltD, gtD, isN, isND, notND, lenC_tup, lenC_lst, lenC_rol, listC_tup, listC_lst, listC_rol, tupleC_tup, tupleC_lst, tupleC_rol, intC_int, intC_bl, item, itemK, optV, kidV, takeL, giveL, bck, putN, nameG, nilG, consG, tupG, negD, isLst, sizeLine_eq, isiD, isi2D, typeD, moveK_some, itemD_lst, itemD_tup]⟩
  obtain ⟨a, p3, hp3, l3, u3, e3⟩ := draw hp2 13 (by decide) (by decide)
  obtain ⟨b, p4, hp4, l4, u4, e4⟩ := draw hp3 13 (by decide) (by decide)
  obtain ⟨c, p5, hp5, l5, u5, e5⟩ := draw hp4 100000 (by decide) (by decide)
  obtain ⟨i, p6, hp6, l6, u6, e6⟩ := draw hp5 4 (by decide) (by decide)
  obtain ⟨pl, hpl, ei⟩ : ∃ pl, (0 ≤ pl ∧ pl < 100000) ∧ atD [D.int a, D.int b, D.int 0, D.int c] i = some (.int pl) := by
    have h : i = 0 ∨ i = 1 ∨ i = 2 ∨ i = 3 := by omega
    rcases h with rfl | rfl | rfl | rfl
    · exact ⟨a, by omega, rfl⟩
    · exact ⟨b, by omega, rfl⟩
    · exact ⟨0, by omega, rfl⟩
    · exact ⟨c, by omega, rfl⟩
  by_cases h3 : k = 3
  · subst h3
    obtain ⟨d, p7, hp7, l7, u7, e7⟩ := draw hp6 13 (by decide) (by decide)
    obtain ⟨e, p8, hp8, l8, u8, e8⟩ := draw hp7 100000 (by decide) (by decide)
    obtain ⟨j, p9, hp9, l9, u9, e9⟩ := draw hp8 4 (by decide) (by decide)
    obtain ⟨pj, hpj, ej⟩ : ∃ pj, (0 ≤ pj ∧ pj < 100000) ∧ atD [D.int 0, D.int d, D.int 12, D.int e] j = some (.int pj) := by
      have h : j = 0 ∨ j = 1 ∨ j = 2 ∨ j = 3 := by omega
      rcases h with rfl | rfl | rfl | rfl
      · exact ⟨0, by omega, rfl⟩
      · exact ⟨d, by omega, rfl⟩
      · exact ⟨12, by omega, rfl⟩
      · exact ⟨e, by omega, rfl⟩
    exact ⟨.cut v pl (pl + pj), p9, hp9, ⟨smv, by unfold sm; omega, by unfold sm; omega⟩, by simp [S__law_harm, s__law_harm, enc, hq', e1, e2, e3, e4, e5, e6, e7, e8, e9, ei, ej, varV_c, load_c, moveE_c, seqS_c, opF_c, callE_c, fun1_c, fun1L_c, sliceF_c, setS_c, testF_c, andT_c, orT_c, notT_c, andF_c, orF_c, notF_c, ifF_c, itemV_c, noP_c, someP_c, nilA_c, consA_c, tupF_c, lstE_c, nilAr_c, valAr_c, lendAr_c, ifS_c, retS_c, retNS_c, skipS_c, bkS_c, ctS_c, asgS_c, forL_c, seqI_c, range1I_c, enumI_c, optF_c, chainF_c, setIS_c, appendS_c, raiseS_c, fzE_c, frF_c, tmV_c, cF_c, R.bind_ok, R.bind_err, seqK_nx, seqK_ret, seqK_bk, seqK_ct, seqK_err, defF_c, defK_ret, defK_nx, defK_err, opK_tt, opK_pt, ptK_some, intOp_i, intCmp_i, addD_i, tt2_t, intOp_t, divC, modC, mulC_r, ixN, callK1_some, callK2_ok, callK2_err, giveK_some, giveX_some, oneK_some, peek_tm, sliceK_tm, putK_some, opt_some, stab_tm, testK_bl, andTK_t, andTK_f, orTK_t, orTK_f, andFK_t, andFK_f, orFK_t, orFK_f, notFK_bl, ifFK_t, ifFK_f, ifSK_t, ifSK_f, itemK1_tm, itemK1, somePK_int, tupK, lstK, lendK_some, seqIK_tup, seqIK_lst, seqIK_rol, enumK_tup, enumK_lst, chainK_t, chainK_f, setIK_c0, setIK_c1, setIK_c2, setIK_c3, setIK_c4, putIK2_some, appK_0, appK2_lst, eqD_ii, eqD_ss, eqD_bb, neD_ii, neD_ss, lcE_c, lcK_ok, rangeD_len, wipeE, getS_0, getS_s, loadV_tm, loadV, stab, peek, viewD, subS, putS, sub, put, kid, setKid, addD_tt, addD_ll, shrC, ltD, gtD, isN, isND, notND, lenC_tup, lenC_lst, lenC_rol, listC_tup, listC_lst, listC_rol, tupleC_tup, tupleC_lst, tupleC_rol, intC_int, intC_bl, item, itemK, optV, kidV, takeL, giveL, bck, putN, nameG, nilG, consG, tupG, negD, isLst, sizeLine_eq, isiD, isi2D, typeD, moveK_some, itemD_lst, itemD_tup]⟩
  obtain ⟨t, xs, p7, hp7, hl, hx, o, ho, e7⟩ := m_integers hp6
  exact ⟨.change v pl t xs, p7, hp7, ⟨smv, by unfold sm; omega, by omega, hx⟩, by simp [S__law_harm, s__law_harm, enc, hq', e1, e2, e3, e4, e5, e6, e7, ei, h0, h1, h2, h3, ho, varV_c, load_c, moveE_c, seqS_c, opF_c, callE_c, fun1_c, fun1L_c, sliceF_c, setS_c, testF_c, andT_c, orT_c, notT_c, andF_c, orF_c, notF_c, ifF_c, itemV_c, noP_c, someP_c, nilA_c, consA_c, tupF_c, lstE_c, nilAr_c, valAr_c, lendAr_c, ifS_c, retS_c, retNS_c, skipS_c, bkS_c, ctS_c, asgS_c, forL_c, seqI_c, range1I_c, enumI_c, optF_c, chainF_c, setIS_c, appendS_c, raiseS_c, fzE_c, frF_c, tmV_c, cF_c, R.bind_ok, R.bind_err, seqK_nx, seqK_ret, seqK_bk, seqK_ct, seqK_err, defF_c, defK_ret, defK_nx, defK_err, opK_tt, opK_pt, ptK_some, intOp_i, intCmp_i, addD_i, tt2_t, intOp_t, divC, modC, mulC_r, ixN, callK1_some, callK2_ok, callK2_err, giveK_some, giveX_some, oneK_some, peek_tm, sliceK_tm, putK_some, opt_some, stab_tm, testK_bl, andTK_t, andTK_f, orTK_t, orTK_f, andFK_t, andFK_f, orFK_t, orFK_f, notFK_bl, ifFK_t, ifFK_f, ifSK_t, ifSK_f, itemK1_tm, itemK1, somePK_int, tupK, lstK, lendK_some, seqIK_tup, seqIK_lst, seqIK_rol, enumK_tup, enumK_lst, chainK_t, chainK_f, setIK_c0, setIK_c1, setIK_c2, setIK_c3, setIK_c4, putIK2_some, appK_0, appK2_lst, eqD_ii, eqD_ss, eqD_bb, neD_ii, neD_ss, lcE_c, lcK_ok, rangeD_len, wipeE, getS_0, getS_s, loadV_tm, loadV, stab, peek, viewD, subS, putS, sub, put, kid, setKid, addD_tt, addD_ll, shrC, ltD, gtD, isN, isND, notND, lenC_tup, lenC_lst, lenC_rol, listC_tup, listC_lst, listC_rol, tupleC_tup, tupleC_lst, tupleC_rol, intC_int, intC_bl, item, itemK, optV, kidV, takeL, giveL, bck, putN, nameG, nilG, consG, tupG, negD, isLst, sizeLine_eq, isiD, isi2D, typeD, moveK_some, itemD_lst, itemD_tup]⟩
theorem m_spoilt {p : O} (hp : Pool p) (h : Harm) (hb : Bd h) (m : Int) (hm : 0 ≤ m) (hm2 : m ≤ 100) : ∃ h' p', Pool p' ∧ Bd h' ∧ S__law_spoilt [some p, some (.fz (enc h)), some (.fz (.int m))] = .ok (.fz (enc h')) [some p', some (.fz (enc h)), some (.fz (.int m))] := by
  obtain ⟨w, p1, hp1, smw, e1⟩ := m_wrong hp m hm hm2
  cases h with
  | turn v x =>
    obtain ⟨i, p2, hp2, l2, u2, e2⟩ := draw hp1 2 (by decide) (by decide)
    have h : i = 0 ∨ i = 1 := by omega
    rcases h with rfl | rfl
    · exact ⟨.turn w x, p2, hp2, ⟨smw, hb.2⟩, by simp [S__law_spoilt, s__law_spoilt, enc, e1, e2, atD, w_lose_turn, w_lose_double, w_lose_cut, w_lose_change, w_turn_lose, w_turn_double, w_turn_cut, w_turn_change, w_double_lose, w_double_turn, w_double_cut, w_double_change, w_cut_lose, w_cut_turn, w_cut_double, w_cut_change, w_change_lose, w_change_turn, w_change_double, w_change_cut, varV_c, load_c, moveE_c, seqS_c, opF_c, callE_c, fun1_c, fun1L_c, sliceF_c, setS_c, testF_c, andT_c, orT_c, notT_c, andF_c, orF_c, notF_c, ifF_c, itemV_c, noP_c, someP_c, nilA_c, consA_c, tupF_c, lstE_c, nilAr_c, valAr_c, lendAr_c, ifS_c, retS_c, retNS_c, skipS_c, bkS_c, ctS_c, asgS_c, forL_c, seqI_c, range1I_c, enumI_c, optF_c, chainF_c, setIS_c, appendS_c, raiseS_c, fzE_c, frF_c, tmV_c, cF_c, R.bind_ok, R.bind_err, seqK_nx, seqK_ret, seqK_bk, seqK_ct, seqK_err, defF_c, defK_ret, defK_nx, defK_err, opK_tt, opK_pt, ptK_some, intOp_i, intCmp_i, addD_i, tt2_t, intOp_t, divC, modC, mulC_r, ixN, callK1_some, callK2_ok, callK2_err, giveK_some, giveX_some, oneK_some, peek_tm, sliceK_tm, putK_some, opt_some, stab_tm, testK_bl, andTK_t, andTK_f, orTK_t, orTK_f, andFK_t, andFK_f, orFK_t, orFK_f, notFK_bl, ifFK_t, ifFK_f, ifSK_t, ifSK_f, itemK1_tm, itemK1, somePK_int, tupK, lstK, lendK_some, seqIK_tup, seqIK_lst, seqIK_rol, enumK_tup, enumK_lst, chainK_t, chainK_f, setIK_c0, setIK_c1, setIK_c2, setIK_c3, setIK_c4, putIK2_some, appK_0, appK2_lst, eqD_ii, eqD_ss, eqD_bb, neD_ii, neD_ss, lcE_c, lcK_ok, rangeD_len, wipeE, getS_0, getS_s, loadV_tm, loadV, stab, peek, viewD, subS, putS, sub, put, kid, setKid, addD_tt, addD_ll, shrC, ltD, gtD, isN, isND, notND, lenC_tup, lenC_lst, lenC_rol, listC_tup, listC_lst, listC_rol, tupleC_tup, tupleC_lst, tupleC_rol, intC_int, intC_bl, item, itemK, optV, kidV, takeL, giveL, bck, putN, nameG, nilG, consG, tupG, negD, isLst, sizeLine_eq, isiD, isi2D, typeD, moveK_some, itemD_lst, itemD_tup]⟩
    · exact ⟨.turn v w, p2, hp2, ⟨hb.1, smw⟩, by simp [S__law_spoilt, s__law_spoilt, enc, e1, e2, atD, w_lose_turn, w_lose_double, w_lose_cut, w_lose_change, w_turn_lose, w_turn_double, w_turn_cut, w_turn_change, w_double_lose, w_double_turn, w_double_cut, w_double_change, w_cut_lose, w_cut_turn, w_cut_double, w_cut_change, w_change_lose, w_change_turn, w_change_double, w_change_cut, varV_c, load_c, moveE_c, seqS_c, opF_c, callE_c, fun1_c, fun1L_c, sliceF_c, setS_c, testF_c, andT_c, orT_c, notT_c, andF_c, orF_c, notF_c, ifF_c, itemV_c, noP_c, someP_c, nilA_c, consA_c, tupF_c, lstE_c, nilAr_c, valAr_c, lendAr_c, ifS_c, retS_c, retNS_c, skipS_c, bkS_c, ctS_c, asgS_c, forL_c, seqI_c, range1I_c, enumI_c, optF_c, chainF_c, setIS_c, appendS_c, raiseS_c, fzE_c, frF_c, tmV_c, cF_c, R.bind_ok, R.bind_err, seqK_nx, seqK_ret, seqK_bk, seqK_ct, seqK_err, defF_c, defK_ret, defK_nx, defK_err, opK_tt, opK_pt, ptK_some, intOp_i, intCmp_i, addD_i, tt2_t, intOp_t, divC, modC, mulC_r, ixN, callK1_some, callK2_ok, callK2_err, giveK_some, giveX_some, oneK_some, peek_tm, sliceK_tm, putK_some, opt_some, stab_tm, testK_bl, andTK_t, andTK_f, orTK_t, orTK_f, andFK_t, andFK_f, orFK_t, orFK_f, notFK_bl, ifFK_t, ifFK_f, ifSK_t, ifSK_f, itemK1_tm, itemK1, somePK_int, tupK, lstK, lendK_some, seqIK_tup, seqIK_lst, seqIK_rol, enumK_tup, enumK_lst, chainK_t, chainK_f, setIK_c0, setIK_c1, setIK_c2, setIK_c3, setIK_c4, putIK2_some, appK_0, appK2_lst, eqD_ii, eqD_ss, eqD_bb, neD_ii, neD_ss, lcE_c, lcK_ok, rangeD_len, wipeE, getS_0, getS_s, loadV_tm, loadV, stab, peek, viewD, subS, putS, sub, put, kid, setKid, addD_tt, addD_ll, shrC, ltD, gtD, isN, isND, notND, lenC_tup, lenC_lst, lenC_rol, listC_tup, listC_lst, listC_rol, tupleC_tup, tupleC_lst, tupleC_rol, intC_int, intC_bl, item, itemK, optV, kidV, takeL, giveL, bck, putN, nameG, nilG, consG, tupG, negD, isLst, sizeLine_eq, isiD, isi2D, typeD, moveK_some, itemD_lst, itemD_tup]⟩
  | lose v =>
    obtain ⟨i, p2, hp2, l2, u2, e2⟩ := draw hp1 4 (by decide) (by decide)
    exact ⟨.lose w, p2, hp2, smw, by simp [S__law_spoilt, s__law_spoilt, enc, e1, e2, atD, sliceD, cutL, HT.sIx, w_lose_turn, w_lose_double, w_lose_cut, w_lose_change, w_turn_lose, w_turn_double, w_turn_cut, w_turn_change, w_double_lose, w_double_turn, w_double_cut, w_double_change, w_cut_lose, w_cut_turn, w_cut_double, w_cut_change, w_change_lose, w_change_turn, w_change_double, w_change_cut, varV_c, load_c, moveE_c, seqS_c, opF_c, callE_c, fun1_c, fun1L_c, sliceF_c, setS_c, testF_c, andT_c, orT_c, notT_c, andF_c, orF_c, notF_c, ifF_c, itemV_c, noP_c, someP_c, nilA_c, consA_c, tupF_c, lstE_c, nilAr_c, valAr_c, lendAr_c, ifS_c, retS_c, retNS_c, skipS_c, bkS_c, ctS_c, asgS_c, forL_c, seqI_c, range1I_c, enumI_c, optF_c, chainF_c, setIS_c, appendS_c, raiseS_c, fzE_c, frF_c, tmV_c, cF_c, R.bind_ok, R.bind_err, seqK_nx, seqK_ret, seqK_bk, seqK_ct, seqK_err, defF_c, defK_ret, defK_nx, defK_err, opK_tt, opK_pt, ptK_some, intOp_i, intCmp_i, addD_i, tt2_t, intOp_t, divC, modC, mulC_r, ixN, callK1_some, callK2_ok, callK2_err, giveK_some, giveX_some, oneK_some, peek_tm, sliceK_tm, putK_some, opt_some, stab_tm, testK_bl, andTK_t, andTK_f, orTK_t, orTK_f, andFK_t, andFK_f, orFK_t, orFK_f, notFK_bl, ifFK_t, ifFK_f, ifSK_t, ifSK_f, itemK1_tm, itemK1, somePK_int, tupK, lstK, lendK_some, seqIK_tup, seqIK_lst, seqIK_rol, enumK_tup, enumK_lst, chainK_t, chainK_f, setIK_c0, setIK_c1, setIK_c2, setIK_c3, setIK_c4, putIK2_some, appK_0, appK2_lst, eqD_ii, eqD_ss, eqD_bb, neD_ii, neD_ss, lcE_c, lcK_ok, rangeD_len, wipeE, getS_0, getS_s, loadV_tm, loadV, stab, peek, viewD, subS, putS, sub, put, kid, setKid, addD_tt, addD_ll, shrC, ltD, gtD, isN, isND, notND, lenC_tup, lenC_lst, lenC_rol, listC_tup, listC_lst, listC_rol, tupleC_tup, tupleC_lst, tupleC_rol, intC_int, intC_bl, item, itemK, optV, kidV, takeL, giveL, bck, putN, nameG, nilG, consG, tupG, negD, isLst, sizeLine_eq, isiD, isi2D, typeD, moveK_some, itemD_lst, itemD_tup]⟩
  | double v =>
    obtain ⟨i, p2, hp2, l2, u2, e2⟩ := draw hp1 4 (by decide) (by decide)
    exact ⟨.double w, p2, hp2, smw, by simp [S__law_spoilt, s__law_spoilt, enc, e1, e2, atD, sliceD, cutL, HT.sIx, w_lose_turn, w_lose_double, w_lose_cut, w_lose_change, w_turn_lose, w_turn_double, w_turn_cut, w_turn_change, w_double_lose, w_double_turn, w_double_cut, w_double_change, w_cut_lose, w_cut_turn, w_cut_double, w_cut_change, w_change_lose, w_change_turn, w_change_double, w_change_cut, varV_c, load_c, moveE_c, seqS_c, opF_c, callE_c, fun1_c, fun1L_c, sliceF_c, setS_c, testF_c, andT_c, orT_c, notT_c, andF_c, orF_c, notF_c, ifF_c, itemV_c, noP_c, someP_c, nilA_c, consA_c, tupF_c, lstE_c, nilAr_c, valAr_c, lendAr_c, ifS_c, retS_c, retNS_c, skipS_c, bkS_c, ctS_c, asgS_c, forL_c, seqI_c, range1I_c, enumI_c, optF_c, chainF_c, setIS_c, appendS_c, raiseS_c, fzE_c, frF_c, tmV_c, cF_c, R.bind_ok, R.bind_err, seqK_nx, seqK_ret, seqK_bk, seqK_ct, seqK_err, defF_c, defK_ret, defK_nx, defK_err, opK_tt, opK_pt, ptK_some, intOp_i, intCmp_i, addD_i, tt2_t, intOp_t, divC, modC, mulC_r, ixN, callK1_some, callK2_ok, callK2_err, giveK_some, giveX_some, oneK_some, peek_tm, sliceK_tm, putK_some, opt_some, stab_tm, testK_bl, andTK_t, andTK_f, orTK_t, orTK_f, andFK_t, andFK_f, orFK_t, orFK_f, notFK_bl, ifFK_t, ifFK_f, ifSK_t, ifSK_f, itemK1_tm, itemK1, somePK_int, tupK, lstK, lendK_some, seqIK_tup, seqIK_lst, seqIK_rol, enumK_tup, enumK_lst, chainK_t, chainK_f, setIK_c0, setIK_c1, setIK_c2, setIK_c3, setIK_c4, putIK2_some, appK_0, appK2_lst, eqD_ii, eqD_ss, eqD_bb, neD_ii, neD_ss, lcE_c, lcK_ok, rangeD_len, wipeE, getS_0, getS_s, loadV_tm, loadV, stab, peek, viewD, subS, putS, sub, put, kid, setKid, addD_tt, addD_ll, shrC, ltD, gtD, isN, isND, notND, lenC_tup, lenC_lst, lenC_rol, listC_tup, listC_lst, listC_rol, tupleC_tup, tupleC_lst, tupleC_rol, intC_int, intC_bl, item, itemK, optV, kidV, takeL, giveL, bck, putN, nameG, nilG, consG, tupG, negD, isLst, sizeLine_eq, isiD, isi2D, typeD, moveK_some, itemD_lst, itemD_tup]⟩
  | cut v b e =>
    obtain ⟨smv, smb, sme⟩ := hb
    obtain ⟨i, p2, hp2, l2, u2, e2⟩ := draw hp1 4 (by decide) (by decide)
    by_cases h0 : i = 0
    · subst h0
      exact ⟨.cut w b e, p2, hp2, ⟨smw, smb, sme⟩, by simp [S__law_spoilt, s__law_spoilt, enc, e1, e2, atD, sliceD, cutL, HT.sIx, w_lose_turn, w_lose_double, w_lose_cut, w_lose_change, w_turn_lose, w_turn_double, w_turn_cut, w_turn_change, w_double_lose, w_double_turn, w_double_cut, w_double_change, w_cut_lose, w_cut_turn, w_cut_double, w_cut_change, w_change_lose, w_change_turn, w_change_double, w_change_cut, varV_c, load_c, moveE_c, seqS_c, opF_c, callE_c, fun1_c, fun1L_c, sliceF_c, setS_c, testF_c, andT_c, orT_c, notT_c, andF_c, orF_c, notF_c, ifF_c, itemV_c, noP_c, someP_c, nilA_c, consA_c, tupF_c, lstE_c, nilAr_c, valAr_c, lendAr_c, ifS_c, retS_c, retNS_c, skipS_c, bkS_c, ctS_c, asgS_c, forL_c, seqI_c, range1I_c, enumI_c, optF_c, chainF_c, setIS_c, appendS_c, raiseS_c, fzE_c, frF_c, tmV_c, cF_c, R.bind_ok, R.bind_err, seqK_nx, seqK_ret, seqK_bk, seqK_ct, seqK_err, defF_c, defK_ret, defK_nx, defK_err, opK_tt, opK_pt, ptK_some, intOp_i, intCmp_i, addD_i, tt2_t, intOp_t, divC, modC, mulC_r, ixN, callK1_some, callK2_ok, callK2_err, giveK_some, giveX_some, oneK_some, peek_tm, sliceK_tm, putK_some, opt_some, stab_tm, testK_bl, andTK_t, andTK_f, orTK_t, orTK_f, andFK_t, andFK_f, orFK_t, orFK_f, notFK_bl, ifFK_t, ifFK_f, ifSK_t, ifSK_f, itemK1_tm, itemK1, somePK_int, tupK, lstK, lendK_some, seqIK_tup, seqIK_lst, seqIK_rol, enumK_tup, enumK_lst, chainK_t, chainK_f, setIK_c0, setIK_c1, setIK_c2, setIK_c3, setIK_c4, putIK2_some, appK_0, appK2_lst, eqD_ii, eqD_ss, eqD_bb, neD_ii, neD_ss, lcE_c, lcK_ok, rangeD_len, wipeE, getS_0, getS_s, loadV_tm, loadV, stab, peek, viewD, subS, putS, sub, put, kid, setKid, addD_tt, addD_ll, shrC, ltD, gtD, isN, isND, notND, lenC_tup, lenC_lst, lenC_rol, listC_tup, listC_lst, listC_rol, tupleC_tup, tupleC_lst, tupleC_rol, intC_int, intC_bl, item, itemK, optV, kidV, takeL, giveL, bck, putN, nameG, nilG, consG, tupG, negD, isLst, sizeLine_eq, isiD, isi2D, typeD, moveK_some, itemD_lst, itemD_tup]⟩
    obtain ⟨d, p3, hp3, l3, u3, e3⟩ := draw hp2 20 (by decide) (by decide)
    have h : i = 1 ∨ i = 2 ∨ i = 3 := by omega
    rcases h with rfl | rfl | rfl
    · exact ⟨.cut v (1 + d) (1 + d - 1), p3, hp3, ⟨smv, by unfold sm; omega, by unfold sm; omega⟩, by simp [S__law_spoilt, s__law_spoilt, enc, e1, e2, e3, atD, w_lose_turn, w_lose_double, w_lose_cut, w_lose_change, w_turn_lose, w_turn_double, w_turn_cut, w_turn_change, w_double_lose, w_double_turn, w_double_cut, w_double_change, w_cut_lose, w_cut_turn, w_cut_double, w_cut_change, w_change_lose, w_change_turn, w_change_double, w_change_cut, varV_c, load_c, moveE_c, seqS_c, opF_c, callE_c, fun1_c, fun1L_c, sliceF_c, setS_c, testF_c, andT_c, orT_c, notT_c, andF_c, orF_c, notF_c, ifF_c, itemV_c, noP_c, someP_c, nilA_c, consA_c, tupF_c, lstE_c, nilAr_c, valAr_c, lendAr_c, ifS_c, retS_c, retNS_c, skipS_c, bkS_c, ctS_c, asgS_c, forL_c, seqI_c, range1I_c, enumI_c, optF_c, chainF_c, setIS_c, appendS_c, raiseS_c, fzE_c, frF_c, tmV_c, cF_c, R.bind_ok, R.bind_err, seqK_nx, seqK_ret, seqK_bk, seqK_ct, seqK_err, defF_c, defK_ret, defK_nx, defK_err, opK_tt, opK_pt, ptK_some, intOp_i, intCmp_i, addD_i, tt2_t, intOp_t, divC, modC, mulC_r, ixN, callK1_some, callK2_ok, callK2_err, giveK_some, giveX_some, oneK_some, peek_tm, sliceK_tm, putK_some, opt_some, stab_tm, testK_bl, andTK_t, andTK_f, orTK_t, orTK_f, andFK_t, andFK_f, orFK_t, orFK_f, notFK_bl, ifFK_t, ifFK_f, ifSK_t, ifSK_f, itemK1_tm, itemK1, somePK_int, tupK, lstK, lendK_some, seqIK_tup, seqIK_lst, seqIK_rol, enumK_tup, enumK_lst, chainK_t, chainK_f, setIK_c0, setIK_c1, setIK_c2, setIK_c3, setIK_c4, putIK2_some, appK_0, appK2_lst, eqD_ii, eqD_ss, eqD_bb, neD_ii, neD_ss, lcE_c, lcK_ok, rangeD_len, wipeE, getS_0, getS_s, loadV_tm, loadV, stab, peek, viewD, subS, putS, sub, put, kid, setKid, addD_tt, addD_ll, shrC, ltD, gtD, isN, isND, notND, lenC_tup, lenC_lst, lenC_rol, listC_tup, listC_lst, listC_rol, tupleC_tup, tupleC_lst, tupleC_rol, intC_int, intC_bl, item, itemK, optV, kidV, takeL, giveL, bck, putN, nameG, nilG, consG, tupG, negD, isLst, sizeLine_eq, isiD, isi2D, typeD, moveK_some, itemD_lst, itemD_tup]⟩
    · exact ⟨.cut v (0 - (1 + d)) 5, p3, hp3, ⟨smv, by unfold sm; omega, by unfold sm; omega⟩, by simp [S__law_spoilt, s__law_spoilt, enc, e1, e2, e3, atD, w_lose_turn, w_lose_double, w_lose_cut, w_lose_change, w_turn_lose, w_turn_double, w_turn_cut, w_turn_change, w_double_lose, w_double_turn, w_double_cut, w_double_change, w_cut_lose, w_cut_turn, w_cut_double, w_cut_change, w_change_lose, w_change_turn, w_change_double, w_change_cut, varV_c, load_c, moveE_c, seqS_c, opF_c, callE_c, fun1_c, fun1L_c, sliceF_c, setS_c, testF_c, andT_c, orT_c, notT_c, andF_c, orF_c, notF_c, ifF_c, itemV_c, noP_c, someP_c, nilA_c, consA_c, tupF_c, lstE_c, nilAr_c, valAr_c, lendAr_c, ifS_c, retS_c, retNS_c, skipS_c, bkS_c, ctS_c, asgS_c, forL_c, seqI_c, range1I_c, enumI_c, optF_c, chainF_c, setIS_c, appendS_c, raiseS_c, fzE_c, frF_c, tmV_c, cF_c, R.bind_ok, R.bind_err, seqK_nx, seqK_ret, seqK_bk, seqK_ct, seqK_err, defF_c, defK_ret, defK_nx, defK_err, opK_tt, opK_pt, ptK_some, intOp_i, intCmp_i, addD_i, tt2_t, intOp_t, divC, modC, mulC_r, ixN, callK1_some, callK2_ok, callK2_err, giveK_some, giveX_some, oneK_some, peek_tm, sliceK_tm, putK_some, opt_some, stab_tm, testK_bl, andTK_t, andTK_f, orTK_t, orTK_f, andFK_t, andFK_f, orFK_t, orFK_f, notFK_bl, ifFK_t, ifFK_f, ifSK_t, ifSK_f, itemK1_tm, itemK1, somePK_int, tupK, lstK, lendK_some, seqIK_tup, seqIK_lst, seqIK_rol, enumK_tup, enumK_lst, chainK_t, chainK_f, setIK_c0, setIK_c1, setIK_c2, setIK_c3, setIK_c4, putIK2_some, appK_0, appK2_lst, eqD_ii, eqD_ss, eqD_bb, neD_ii, neD_ss, lcE_c, lcK_ok, rangeD_len, wipeE, getS_0, getS_s, loadV_tm, loadV, stab, peek, viewD, subS, putS, sub, put, kid, setKid, addD_tt, addD_ll, shrC, ltD, gtD, isN, isND, notND, lenC_tup, lenC_lst, lenC_rol, listC_tup, listC_lst, listC_rol, tupleC_tup, tupleC_lst, tupleC_rol, intC_int, intC_bl, item, itemK, optV, kidV, takeL, giveL, bck, putN, nameG, nilG, consG, tupG, negD, isLst, sizeLine_eq, isiD, isi2D, typeD, moveK_some, itemD_lst, itemD_tup]⟩
    · exact ⟨.cut v (-1) (-1), p3, hp3, ⟨smv, by unfold sm; omega, by unfold sm; omega⟩, by simp [S__law_spoilt, s__law_spoilt, enc, e1, e2, e3, atD, w_lose_turn, w_lose_double, w_lose_cut, w_lose_change, w_turn_lose, w_turn_double, w_turn_cut, w_turn_change, w_double_lose, w_double_turn, w_double_cut, w_double_change, w_cut_lose, w_cut_turn, w_cut_double, w_cut_change, w_change_lose, w_change_turn, w_change_double, w_change_cut, varV_c, load_c, moveE_c, seqS_c, opF_c, callE_c, fun1_c, fun1L_c, sliceF_c, setS_c, testF_c, andT_c, orT_c, notT_c, andF_c, orF_c, notF_c, ifF_c, itemV_c, noP_c, someP_c, nilA_c, consA_c, tupF_c, lstE_c, nilAr_c, valAr_c, lendAr_c, ifS_c, retS_c, retNS_c, skipS_c, bkS_c, ctS_c, asgS_c, forL_c, seqI_c, range1I_c, enumI_c, optF_c, chainF_c, setIS_c, appendS_c, raiseS_c, fzE_c, frF_c, tmV_c, cF_c, R.bind_ok, R.bind_err, seqK_nx, seqK_ret, seqK_bk, seqK_ct, seqK_err, defF_c, defK_ret, defK_nx, defK_err, opK_tt, opK_pt, ptK_some, intOp_i, intCmp_i, addD_i, tt2_t, intOp_t, divC, modC, mulC_r, ixN, callK1_some, callK2_ok, callK2_err, giveK_some, giveX_some, oneK_some, peek_tm, sliceK_tm, putK_some, opt_some, stab_tm, testK_bl, andTK_t, andTK_f, orTK_t, orTK_f, andFK_t, andFK_f, orFK_t, orFK_f, notFK_bl, ifFK_t, ifFK_f, ifSK_t, ifSK_f, itemK1_tm, itemK1, somePK_int, tupK, lstK, lendK_some, seqIK_tup, seqIK_lst, seqIK_rol, enumK_tup, enumK_lst, chainK_t, chainK_f, setIK_c0, setIK_c1, setIK_c2, setIK_c3, setIK_c4, putIK2_some, appK_0, appK2_lst, eqD_ii, eqD_ss, eqD_bb, neD_ii, neD_ss, lcE_c, lcK_ok, rangeD_len, wipeE, getS_0, getS_s, loadV_tm, loadV, stab, peek, viewD, subS, putS, sub, put, kid, setKid, addD_tt, addD_ll, shrC, ltD, gtD, isN, isND, notND, lenC_tup, lenC_lst, lenC_rol, listC_tup, listC_lst, listC_rol, tupleC_tup, tupleC_lst, tupleC_rol, intC_int, intC_bl, item, itemK, optV, kidV, takeL, giveL, bck, putN, nameG, nilG, consG, tupG, negD, isLst, sizeLine_eq, isiD, isi2D, typeD, moveK_some, itemD_lst, itemD_tup]⟩
  | change v q t xs =>
    obtain ⟨smv, smq, hl, hx⟩ := hb
    obtain ⟨i, p2, hp2, l2, u2, e2⟩ := draw hp1 4 (by decide) (by decide)
    by_cases h0 : i = 0
    · subst h0
      exact ⟨.change w q t xs, p2, hp2, ⟨smw, smq, hl, hx⟩, by simp [S__law_spoilt, s__law_spoilt, enc, e1, e2, atD, sliceD, cutL, HT.sIx, w_lose_turn, w_lose_double, w_lose_cut, w_lose_change, w_turn_lose, w_turn_double, w_turn_cut, w_turn_change, w_double_lose, w_double_turn, w_double_cut, w_double_change, w_cut_lose, w_cut_turn, w_cut_double, w_cut_change, w_change_lose, w_change_turn, w_change_double, w_change_cut, varV_c, load_c, moveE_c, seqS_c, opF_c, callE_c, fun1_c, fun1L_c, sliceF_c, setS_c, testF_c, andT_c, orT_c, notT_c, andF_c, orF_c, notF_c, ifF_c, itemV_c, noP_c, someP_c, nilA_c, consA_c, tupF_c, lstE_c, nilAr_c, valAr_c, lendAr_c, ifS_c, retS_c, retNS_c, skipS_c, bkS_c, ctS_c, asgS_c, forL_c, seqI_c, range1I_c, enumI_c, optF_c, chainF_c, setIS_c, appendS_c, raiseS_c, fzE_c, frF_c, tmV_c, cF_c, R.bind_ok, R.bind_err, seqK_nx, seqK_ret, seqK_bk, seqK_ct, seqK_err, defF_c, defK_ret, defK_nx, defK_err, opK_tt, opK_pt, ptK_some, intOp_i, intCmp_i, addD_i, tt2_t, intOp_t, divC, modC, mulC_r, ixN, callK1_some, callK2_ok, callK2_err, giveK_some, giveX_some, oneK_some, peek_tm, sliceK_tm, putK_some, opt_some, stab_tm, testK_bl, andTK_t, andTK_f, orTK_t, orTK_f, andFK_t, andFK_f, orFK_t, orFK_f, notFK_bl, ifFK_t, ifFK_f, ifSK_t, ifSK_f, itemK1_tm, itemK1, somePK_int, tupK, lstK, lendK_some, seqIK_tup, seqIK_lst, seqIK_rol, enumK_tup, enumK_lst, chainK_t, chainK_f, setIK_c0, setIK_c1, setIK_c2, setIK_c3, setIK_c4, putIK2_some, appK_0, appK2_lst, eqD_ii, eqD_ss, eqD_bb, neD_ii, neD_ss, lcE_c, lcK_ok, rangeD_len, wipeE, getS_0, getS_s, loadV_tm, loadV, stab, peek, viewD, subS, putS, sub, put, kid, setKid, addD_tt, addD_ll, shrC, ltD, gtD, isN, isND, notND, lenC_tup, lenC_lst, lenC_rol, listC_tup, listC_lst, listC_rol, tupleC_tup, tupleC_lst, tupleC_rol, intC_int, intC_bl, item, itemK, optV, kidV, takeL, giveL, bck, putN, nameG, nilG, consG, tupG, negD, isLst, sizeLine_eq, isiD, isi2D, typeD, moveK_some, itemD_lst, itemD_tup]⟩
    by_cases h1 : i = 1
    · subst h1
      obtain ⟨d, p3, hp3, l3, u3, e3⟩ := draw hp2 50 (by decide) (by decide)
      exact ⟨.change v (-1 - d) t xs, p3, hp3, ⟨smv, by unfold sm; omega, hl, hx⟩, by simp [S__law_spoilt, s__law_spoilt, enc, e1, e2, e3, atD, w_lose_turn, w_lose_double, w_lose_cut, w_lose_change, w_turn_lose, w_turn_double, w_turn_cut, w_turn_change, w_double_lose, w_double_turn, w_double_cut, w_double_change, w_cut_lose, w_cut_turn, w_cut_double, w_cut_change, w_change_lose, w_change_turn, w_change_double, w_change_cut, varV_c, load_c, moveE_c, seqS_c, opF_c, callE_c, fun1_c, fun1L_c, sliceF_c, setS_c, testF_c, andT_c, orT_c, notT_c, andF_c, orF_c, notF_c, ifF_c, itemV_c, noP_c, someP_c, nilA_c, consA_c, tupF_c, lstE_c, nilAr_c, valAr_c, lendAr_c, ifS_c, retS_c, retNS_c, skipS_c, bkS_c, ctS_c, asgS_c, forL_c, seqI_c, range1I_c, enumI_c, optF_c, chainF_c, setIS_c, appendS_c, raiseS_c, fzE_c, frF_c, tmV_c, cF_c, R.bind_ok, R.bind_err, seqK_nx, seqK_ret, seqK_bk, seqK_ct, seqK_err, defF_c, defK_ret, defK_nx, defK_err, opK_tt, opK_pt, ptK_some, intOp_i, intCmp_i, addD_i, tt2_t, intOp_t, divC, modC, mulC_r, ixN, callK1_some, callK2_ok, callK2_err, giveK_some, giveX_some, oneK_some, peek_tm, sliceK_tm, putK_some, opt_some, stab_tm, testK_bl, andTK_t, andTK_f, orTK_t, orTK_f, andFK_t, andFK_f, orFK_t, orFK_f, notFK_bl, ifFK_t, ifFK_f, ifSK_t, ifSK_f, itemK1_tm, itemK1, somePK_int, tupK, lstK, lendK_some, seqIK_tup, seqIK_lst, seqIK_rol, enumK_tup, enumK_lst, chainK_t, chainK_f, setIK_c0, setIK_c1, setIK_c2, setIK_c3, setIK_c4, putIK2_some, appK_0, appK2_lst, eqD_ii, eqD_ss, eqD_bb, neD_ii, neD_ss, lcE_c, lcK_ok, rangeD_len, wipeE, getS_0, getS_s, loadV_tm, loadV, stab, peek, viewD, subS, putS, sub, put, kid, setKid, addD_tt, addD_ll, shrC, ltD, gtD, isN, isND, notND, lenC_tup, lenC_lst, lenC_rol, listC_tup, listC_lst, listC_rol, tupleC_tup, tupleC_lst, tupleC_rol, intC_int, intC_bl, item, itemK, optV, kidV, takeL, giveL, bck, putN, nameG, nilG, consG, tupG, negD, isLst, sizeLine_eq, isiD, isi2D, typeD, moveK_some, itemD_lst, itemD_tup]⟩
    have h2 : ¬ i < 2 ∧ 1 < i := by omega
    obtain ⟨j, p3, hp3, l3, u3, e3⟩ := draw hp2 7 (by decide) (by decide)
    have h : j = 0 ∨ j = 1 ∨ j = 2 ∨ j = 3 ∨ j = 4 ∨ j = 5 ∨ j = 6 := by omega
    rcases h with rfl | rfl | rfl | rfl | rfl | rfl | rfl
    · exact ⟨.change v q true [], p3, hp3, ⟨smv, smq, by decide, fun x hx => by simp at hx; try (unfold sm; omega)⟩, by simp [S__law_spoilt, s__law_spoilt, enc, vd, e1, e2, e3, h0, h1, h2, atD, sliceD, cutL, HT.sIx, w_lose_turn, w_lose_double, w_lose_cut, w_lose_change, w_turn_lose, w_turn_double, w_turn_cut, w_turn_change, w_double_lose, w_double_turn, w_double_cut, w_double_change, w_cut_lose, w_cut_turn, w_cut_double, w_cut_change, w_change_lose, w_change_turn, w_change_double, w_change_cut, varV_c, load_c, moveE_c, seqS_c, opF_c, callE_c, fun1_c, fun1L_c, sliceF_c, setS_c, testF_c, andT_c, orT_c, notT_c, andF_c, orF_c, notF_c, ifF_c, itemV_c, noP_c, someP_c, nilA_c, consA_c, tupF_c, lstE_c, nilAr_c, valAr_c, lendAr_c, ifS_c, retS_c, retNS_c, skipS_c, bkS_c, ctS_c, asgS_c, forL_c, seqI_c, range1I_c, enumI_c, optF_c, chainF_c, setIS_c, appendS_c, raiseS_c, fzE_c, frF_c, tmV_c, cF_c, R.bind_ok, R.bind_err, seqK_nx, seqK_ret, seqK_bk, seqK_ct, seqK_err, defF_c, defK_ret, defK_nx, defK_err, opK_tt, opK_pt, ptK_some, intOp_i, intCmp_i, addD_i, tt2_t, intOp_t, divC, modC, mulC_r, ixN, callK1_some, callK2_ok, callK2_err, giveK_some, giveX_some, oneK_some, peek_tm, sliceK_tm, putK_some, opt_some, stab_tm, testK_bl, andTK_t, andTK_f, orTK_t, orTK_f, andFK_t, andFK_f, orFK_t, orFK_f, notFK_bl, ifFK_t, ifFK_f, ifSK_t, ifSK_f, itemK1_tm, itemK1, somePK_int, tupK, lstK, lendK_some, seqIK_tup, seqIK_lst, seqIK_rol, enumK_tup, enumK_lst, chainK_t, chainK_f, setIK_c0, setIK_c1, setIK_c2, setIK_c3, setIK_c4, putIK2_some, appK_0, appK2_lst, eqD_ii, eqD_ss, eqD_bb, neD_ii, neD_ss, lcE_c, lcK_ok, rangeD_len, wipeE, getS_0, getS_s, loadV_tm, loadV, stab, peek, viewD, subS, putS, sub, put, kid, setKid, addD_tt, addD_ll, shrC, ltD, gtD, isN, isND, notND, lenC_tup, lenC_lst, lenC_rol, listC_tup, listC_lst, listC_rol, tupleC_tup, tupleC_lst, tupleC_rol, intC_int, intC_bl, item, itemK, optV, kidV, takeL, giveL, bck, putN, nameG, nilG, consG, tupG, negD, isLst, sizeLine_eq, isiD, isi2D, typeD, moveK_some, itemD_lst, itemD_tup]⟩
    · exact ⟨.change v q true [1, 2, 3, 4, 5], p3, hp3, ⟨smv, smq, by decide, fun x hx => by simp at hx; try (unfold sm; omega)⟩, by simp [S__law_spoilt, s__law_spoilt, enc, vd, e1, e2, e3, h0, h1, h2, atD, sliceD, cutL, HT.sIx, w_lose_turn, w_lose_double, w_lose_cut, w_lose_change, w_turn_lose, w_turn_double, w_turn_cut, w_turn_change, w_double_lose, w_double_turn, w_double_cut, w_double_change, w_cut_lose, w_cut_turn, w_cut_double, w_cut_change, w_change_lose, w_change_turn, w_change_double, w_change_cut, varV_c, load_c, moveE_c, seqS_c, opF_c, callE_c, fun1_c, fun1L_c, sliceF_c, setS_c, testF_c, andT_c, orT_c, notT_c, andF_c, orF_c, notF_c, ifF_c, itemV_c, noP_c, someP_c, nilA_c, consA_c, tupF_c, lstE_c, nilAr_c, valAr_c, lendAr_c, ifS_c, retS_c, retNS_c, skipS_c, bkS_c, ctS_c, asgS_c, forL_c, seqI_c, range1I_c, enumI_c, optF_c, chainF_c, setIS_c, appendS_c, raiseS_c, fzE_c, frF_c, tmV_c, cF_c, R.bind_ok, R.bind_err, seqK_nx, seqK_ret, seqK_bk, seqK_ct, seqK_err, defF_c, defK_ret, defK_nx, defK_err, opK_tt, opK_pt, ptK_some, intOp_i, intCmp_i, addD_i, tt2_t, intOp_t, divC, modC, mulC_r, ixN, callK1_some, callK2_ok, callK2_err, giveK_some, giveX_some, oneK_some, peek_tm, sliceK_tm, putK_some, opt_some, stab_tm, testK_bl, andTK_t, andTK_f, orTK_t, orTK_f, andFK_t, andFK_f, orFK_t, orFK_f, notFK_bl, ifFK_t, ifFK_f, ifSK_t, ifSK_f, itemK1_tm, itemK1, somePK_int, tupK, lstK, lendK_some, seqIK_tup, seqIK_lst, seqIK_rol, enumK_tup, enumK_lst, chainK_t, chainK_f, setIK_c0, setIK_c1, setIK_c2, setIK_c3, setIK_c4, putIK2_some, appK_0, appK2_lst, eqD_ii, eqD_ss, eqD_bb, neD_ii, neD_ss, lcE_c, lcK_ok, rangeD_len, wipeE, getS_0, getS_s, loadV_tm, loadV, stab, peek, viewD, subS, putS, sub, put, kid, setKid, addD_tt, addD_ll, shrC, ltD, gtD, isN, isND, notND, lenC_tup, lenC_lst, lenC_rol, listC_tup, listC_lst, listC_rol, tupleC_tup, tupleC_lst, tupleC_rol, intC_int, intC_bl, item, itemK, optV, kidV, takeL, giveL, bck, putN, nameG, nilG, consG, tupG, negD, isLst, sizeLine_eq, isiD, isi2D, typeD, moveK_some, itemD_lst, itemD_tup]⟩
    · exact ⟨.change v q true [129], p3, hp3, ⟨smv, smq, by decide, fun x hx => by simp at hx; try (unfold sm; omega)⟩, by simp [S__law_spoilt, s__law_spoilt, enc, vd, e1, e2, e3, h0, h1, h2, atD, sliceD, cutL, HT.sIx, w_lose_turn, w_lose_double, w_lose_cut, w_lose_change, w_turn_lose, w_turn_double, w_turn_cut, w_turn_change, w_double_lose, w_double_turn, w_double_cut, w_double_change, w_cut_lose, w_cut_turn, w_cut_double, w_cut_change, w_change_lose, w_change_turn, w_change_double, w_change_cut, varV_c, load_c, moveE_c, seqS_c, opF_c, callE_c, fun1_c, fun1L_c, sliceF_c, setS_c, testF_c, andT_c, orT_c, notT_c, andF_c, orF_c, notF_c, ifF_c, itemV_c, noP_c, someP_c, nilA_c, consA_c, tupF_c, lstE_c, nilAr_c, valAr_c, lendAr_c, ifS_c, retS_c, retNS_c, skipS_c, bkS_c, ctS_c, asgS_c, forL_c, seqI_c, range1I_c, enumI_c, optF_c, chainF_c, setIS_c, appendS_c, raiseS_c, fzE_c, frF_c, tmV_c, cF_c, R.bind_ok, R.bind_err, seqK_nx, seqK_ret, seqK_bk, seqK_ct, seqK_err, defF_c, defK_ret, defK_nx, defK_err, opK_tt, opK_pt, ptK_some, intOp_i, intCmp_i, addD_i, tt2_t, intOp_t, divC, modC, mulC_r, ixN, callK1_some, callK2_ok, callK2_err, giveK_some, giveX_some, oneK_some, peek_tm, sliceK_tm, putK_some, opt_some, stab_tm, testK_bl, andTK_t, andTK_f, orTK_t, orTK_f, andFK_t, andFK_f, orFK_t, orFK_f, notFK_bl, ifFK_t, ifFK_f, ifSK_t, ifSK_f, itemK1_tm, itemK1, somePK_int, tupK, lstK, lendK_some, seqIK_tup, seqIK_lst, seqIK_rol, enumK_tup, enumK_lst, chainK_t, chainK_f, setIK_c0, setIK_c1, setIK_c2, setIK_c3, setIK_c4, putIK2_some, appK_0, appK2_lst, eqD_ii, eqD_ss, eqD_bb, neD_ii, neD_ss, lcE_c, lcK_ok, rangeD_len, wipeE, getS_0, getS_s, loadV_tm, loadV, stab, peek, viewD, subS, putS, sub, put, kid, setKid, addD_tt, addD_ll, shrC, ltD, gtD, isN, isND, notND, lenC_tup, lenC_lst, lenC_rol, listC_tup, listC_lst, listC_rol, tupleC_tup, tupleC_lst, tupleC_rol, intC_int, intC_bl, item, itemK, optV, kidV, takeL, giveL, bck, putN, nameG, nilG, consG, tupG, negD, isLst, sizeLine_eq, isiD, isi2D, typeD, moveK_some, itemD_lst, itemD_tup]⟩
    · exact ⟨.change v q true [0, -1], p3, hp3, ⟨smv, smq, by decide, fun x hx => by simp at hx; try (unfold sm; omega)⟩, by simp [S__law_spoilt, s__law_spoilt, enc, vd, e1, e2, e3, h0, h1, h2, atD, sliceD, cutL, HT.sIx, w_lose_turn, w_lose_double, w_lose_cut, w_lose_change, w_turn_lose, w_turn_double, w_turn_cut, w_turn_change, w_double_lose, w_double_turn, w_double_cut, w_double_change, w_cut_lose, w_cut_turn, w_cut_double, w_cut_change, w_change_lose, w_change_turn, w_change_double, w_change_cut, varV_c, load_c, moveE_c, seqS_c, opF_c, callE_c, fun1_c, fun1L_c, sliceF_c, setS_c, testF_c, andT_c, orT_c, notT_c, andF_c, orF_c, notF_c, ifF_c, itemV_c, noP_c, someP_c, nilA_c, consA_c, tupF_c, lstE_c, nilAr_c, valAr_c, lendAr_c, ifS_c, retS_c, retNS_c, skipS_c, bkS_c, ctS_c, asgS_c, forL_c, seqI_c, range1I_c, enumI_c, optF_c, chainF_c, setIS_c, appendS_c, raiseS_c, fzE_c, frF_c, tmV_c, cF_c, R.bind_ok, R.bind_err, seqK_nx, seqK_ret, seqK_bk, seqK_ct, seqK_err, defF_c, defK_ret, defK_nx, defK_err, opK_tt, opK_pt, ptK_some, intOp_i, intCmp_i, addD_i, tt2_t, intOp_t, divC, modC, mulC_r, ixN, callK1_some, callK2_ok, callK2_err, giveK_some, giveX_some, oneK_some, peek_tm, sliceK_tm, putK_some, opt_some, stab_tm, testK_bl, andTK_t, andTK_f, orTK_t, orTK_f, andFK_t, andFK_f, orFK_t, orFK_f, notFK_bl, ifFK_t, ifFK_f, ifSK_t, ifSK_f, itemK1_tm, itemK1, somePK_int, tupK, lstK, lendK_some, seqIK_tup, seqIK_lst, seqIK_rol, enumK_tup, enumK_lst, chainK_t, chainK_f, setIK_c0, setIK_c1, setIK_c2, setIK_c3, setIK_c4, putIK2_some, appK_0, appK2_lst, eqD_ii, eqD_ss, eqD_bb, neD_ii, neD_ss, lcE_c, lcK_ok, rangeD_len, wipeE, getS_0, getS_s, loadV_tm, loadV, stab, peek, viewD, subS, putS, sub, put, kid, setKid, addD_tt, addD_ll, shrC, ltD, gtD, isN, isND, notND, lenC_tup, lenC_lst, lenC_rol, listC_tup, listC_lst, listC_rol, tupleC_tup, tupleC_lst, tupleC_rol, intC_int, intC_bl, item, itemK, optV, kidV, takeL, giveL, bck, putN, nameG, nilG, consG, tupG, negD, isLst, sizeLine_eq, isiD, isi2D, typeD, moveK_some, itemD_lst, itemD_tup]⟩
    · exact ⟨.change v q false [5, 1000], p3, hp3, ⟨smv, smq, by decide, fun x hx => by simp at hx; try (unfold sm; omega)⟩, by simp [S__law_spoilt, s__law_spoilt, enc, vd, e1, e2, e3, h0, h1, h2, atD, sliceD, cutL, HT.sIx, w_lose_turn, w_lose_double, w_lose_cut, w_lose_change, w_turn_lose, w_turn_double, w_turn_cut, w_turn_change, w_double_lose, w_double_turn, w_double_cut, w_double_change, w_cut_lose, w_cut_turn, w_cut_double, w_cut_change, w_change_lose, w_change_turn, w_change_double, w_change_cut, varV_c, load_c, moveE_c, seqS_c, opF_c, callE_c, fun1_c, fun1L_c, sliceF_c, setS_c, testF_c, andT_c, orT_c, notT_c, andF_c, orF_c, notF_c, ifF_c, itemV_c, noP_c, someP_c, nilA_c, consA_c, tupF_c, lstE_c, nilAr_c, valAr_c, lendAr_c, ifS_c, retS_c, retNS_c, skipS_c, bkS_c, ctS_c, asgS_c, forL_c, seqI_c, range1I_c, enumI_c, optF_c, chainF_c, setIS_c, appendS_c, raiseS_c, fzE_c, frF_c, tmV_c, cF_c, R.bind_ok, R.bind_err, seqK_nx, seqK_ret, seqK_bk, seqK_ct, seqK_err, defF_c, defK_ret, defK_nx, defK_err, opK_tt, opK_pt, ptK_some, intOp_i, intCmp_i, addD_i, tt2_t, intOp_t, divC, modC, mulC_r, ixN, callK1_some, callK2_ok, callK2_err, giveK_some, giveX_some, oneK_some, peek_tm, sliceK_tm, putK_some, opt_some, stab_tm, testK_bl, andTK_t, andTK_f, orTK_t, orTK_f, andFK_t, andFK_f, orFK_t, orFK_f, notFK_bl, ifFK_t, ifFK_f, ifSK_t, ifSK_f, itemK1_tm, itemK1, somePK_int, tupK, lstK, lendK_some, seqIK_tup, seqIK_lst, seqIK_rol, enumK_tup, enumK_lst, chainK_t, chainK_f, setIK_c0, setIK_c1, setIK_c2, setIK_c3, setIK_c4, putIK2_some, appK_0, appK2_lst, eqD_ii, eqD_ss, eqD_bb, neD_ii, neD_ss, lcE_c, lcK_ok, rangeD_len, wipeE, getS_0, getS_s, loadV_tm, loadV, stab, peek, viewD, subS, putS, sub, put, kid, setKid, addD_tt, addD_ll, shrC, ltD, gtD, isN, isND, notND, lenC_tup, lenC_lst, lenC_rol, listC_tup, listC_lst, listC_rol, tupleC_tup, tupleC_lst, tupleC_rol, intC_int, intC_bl, item, itemK, optV, kidV, takeL, giveL, bck, putN, nameG, nilG, consG, tupG, negD, isLst, sizeLine_eq, isiD, isi2D, typeD, moveK_some, itemD_lst, itemD_tup]⟩
    · exact ⟨.change v q true [1, 2, 3, 129], p3, hp3, ⟨smv, smq, by decide, fun x hx => by simp at hx; try (unfold sm; omega)⟩, by simp [S__law_spoilt, s__law_spoilt, enc, vd, e1, e2, e3, h0, h1, h2, atD, sliceD, cutL, HT.sIx, w_lose_turn, w_lose_double, w_lose_cut, w_lose_change, w_turn_lose, w_turn_double, w_turn_cut, w_turn_change, w_double_lose, w_double_turn, w_double_cut, w_double_change, w_cut_lose, w_cut_turn, w_cut_double, w_cut_change, w_change_lose, w_change_turn, w_change_double, w_change_cut, varV_c, load_c, moveE_c, seqS_c, opF_c, callE_c, fun1_c, fun1L_c, sliceF_c, setS_c, testF_c, andT_c, orT_c, notT_c, andF_c, orF_c, notF_c, ifF_c, itemV_c, noP_c, someP_c, nilA_c, consA_c, tupF_c, lstE_c, nilAr_c, valAr_c, lendAr_c, ifS_c, retS_c, retNS_c, skipS_c, bkS_c, ctS_c, asgS_c, forL_c, seqI_c, range1I_c, enumI_c, optF_c, chainF_c, setIS_c, appendS_c, raiseS_c, fzE_c, frF_c, tmV_c, cF_c, R.bind_ok, R.bind_err, seqK_nx, seqK_ret, seqK_bk, seqK_ct, seqK_err, defF_c, defK_ret, defK_nx, defK_err, opK_tt, opK_pt, ptK_some, intOp_i, intCmp_i, addD_i, tt2_t, intOp_t, divC, modC, mulC_r, ixN, callK1_some, callK2_ok, callK2_err, giveK_some, giveX_some, oneK_some, peek_tm, sliceK_tm, putK_some, opt_some, stab_tm, testK_bl, andTK_t, andTK_f, orTK_t, orTK_f, andFK_t, andFK_f, orFK_t, orFK_f, notFK_bl, ifFK_t, ifFK_f, ifSK_t, ifSK_f, itemK1_tm, itemK1, somePK_int, tupK, lstK, lendK_some, seqIK_tup, seqIK_lst, seqIK_rol, enumK_tup, enumK_lst, chainK_t, chainK_f, setIK_c0, setIK_c1, setIK_c2, setIK_c3, setIK_c4, putIK2_some, appK_0, appK2_lst, eqD_ii, eqD_ss, eqD_bb, neD_ii, neD_ss, lcE_c, lcK_ok, rangeD_len, wipeE, getS_0, getS_s, loadV_tm, loadV, stab, peek, viewD, subS, putS, sub, put, kid, setKid, addD_tt, addD_ll, shrC, ltD, gtD, isN, isND, notND, lenC_tup, lenC_lst, lenC_rol, listC_tup, listC_lst, listC_rol, tupleC_tup, tupleC_lst, tupleC_rol, intC_int, intC_bl, item, itemK, optV, kidV, takeL, giveL, bck, putN, nameG, nilG, consG, tupG, negD, isLst, sizeLine_eq, isiD, isi2D, typeD, moveK_some, itemD_lst, itemD_tup]⟩
    · exact ⟨.change v q false [], p3, hp3, ⟨smv, smq, by decide, fun x hx => by simp at hx; try (unfold sm; omega)⟩, by simp [S__law_spoilt, s__law_spoilt, enc, vd, e1, e2, e3, h0, h1, h2, atD, sliceD, cutL, HT.sIx, w_lose_turn, w_lose_double, w_lose_cut, w_lose_change, w_turn_lose, w_turn_double, w_turn_cut, w_turn_change, w_double_lose, w_double_turn, w_double_cut, w_double_change, w_cut_lose, w_cut_turn, w_cut_double, w_cut_change, w_change_lose, w_change_turn, w_change_double, w_change_cut, varV_c, load_c, moveE_c, seqS_c, opF_c, callE_c, fun1_c, fun1L_c, sliceF_c, setS_c, testF_c, andT_c, orT_c, notT_c, andF_c, orF_c, notF_c, ifF_c, itemV_c, noP_c, someP_c, nilA_c, consA_c, tupF_c, lstE_c, nilAr_c, valAr_c, lendAr_c, ifS_c, retS_c, retNS_c, skipS_c, bkS_c, ctS_c, asgS_c, forL_c, seqI_c, range1I_c, enumI_c, optF_c, chainF_c, setIS_c, appendS_c, raiseS_c, fzE_c, frF_c, tmV_c, cF_c, R.bind_ok, R.bind_err, seqK_nx, seqK_ret, seqK_bk, seqK_ct, seqK_err, defF_c, defK_ret, defK_nx, defK_err, opK_tt, opK_pt, ptK_some, intOp_i, intCmp_i, addD_i, tt2_t, intOp_t, divC, modC, mulC_r, ixN, callK1_some, callK2_ok, callK2_err, giveK_some, giveX_some, oneK_some, peek_tm, sliceK_tm, putK_some, opt_some, stab_tm, testK_bl, andTK_t, andTK_f, orTK_t, orTK_f, andFK_t, andFK_f, orFK_t, orFK_f, notFK_bl, ifFK_t, ifFK_f, ifSK_t, ifSK_f, itemK1_tm, itemK1, somePK_int, tupK, lstK, lendK_some, seqIK_tup, seqIK_lst, seqIK_rol, enumK_tup, enumK_lst, chainK_t, chainK_f, setIK_c0, setIK_c1, setIK_c2, setIK_c3, setIK_c4, putIK2_some, appK_0, appK2_lst, eqD_ii, eqD_ss, eqD_bb, neD_ii, neD_ss, lcE_c, lcK_ok, rangeD_len, wipeE, getS_0, getS_s, loadV_tm, loadV, stab, peek, viewD, subS, putS, sub, put, kid, setKid, addD_tt, addD_ll, shrC, ltD, gtD, isN, isND, notND, lenC_tup, lenC_lst, lenC_rol, listC_tup, listC_lst, listC_rol, tupleC_tup, tupleC_lst, tupleC_rol, intC_int, intC_bl, item, itemK, optV, kidV, takeL, giveL, bck, putN, nameG, nilG, consG, tupG, negD, isLst, sizeLine_eq, isiD, isi2D, typeD, moveK_some, itemD_lst, itemD_tup]⟩
end DL.GW50
end

section
set_option Elab.async false
set_option linter.all false
set_option maxRecDepth 100000
set_option maxHeartbeats 4000000
namespace DL.GW50
open PySem L2
/-- a comprehension that changes nothing besides -/
theorem lc_map {g : D → Env → Option Env} {f : Env → R O} {vs : List Nat} {m : Env} {o : D → O} : ∀ {ds : List D}, (∀ d ∈ ds, ∃ e e', g d m = some e ∧ f e = .ok (o d) e' ∧ wipeE e' vs = m) → lcL g yesT f vs ds m = .ok (ds.map o) m
  | [], _ => rfl
  | d :: ds, h => by
    obtain ⟨e, e', h1, h2, h3⟩ := h d (List.mem_cons_self ..)
    have ih := lc_map (o := o) fun x hx => h x (List.mem_cons_of_mem _ hx)
    simp only [lcL, h1, yesT, noErr, R.bind_ok, if_true, h2, h3, ih, List.map_cons]
/-- .. that leaves some out -/
theorem lc_filter {g : D → Env → Option Env} {t : Env → R Bool} {f : Env → R O} {vs : List Nat} {m : Env} {p : D → Bool} {o : D → O} : ∀ {ds : List D}, (∀ d ∈ ds, ∃ e e1 e2, g d m = some e ∧ t e = .ok (p d) e1 ∧ wipeE e1 vs = m ∧ (p d = true → f e1 = .ok (o d) e2 ∧ wipeE e2 vs = m)) → lcL g t f vs ds m = .ok ((ds.filter p).map o) m
  | [], _ => rfl
  | d :: ds, h => by
    obtain ⟨e, e1, e2, h1, h2, h3, h4⟩ := h d (List.mem_cons_self ..)
    have ih := lc_filter (p := p) (o := o) fun x hx => h x (List.mem_cons_of_mem _ hx)
    cases hp : p d with
    | false =>
      rw [hp] at h2
      simp only [lcL, h1, noErr, R.bind_ok, h2, h3, ih, List.filter_cons, hp, Bool.false_eq_true, if_false]
    | true =>
      rw [hp] at h2
      obtain ⟨h5, h6⟩ := h4 hp
      simp only [lcL, h1, noErr, R.bind_ok, h2, h5, h6, ih, List.filter_cons, hp, if_true, List.map_cons]
def inB (x : Int) : Bool := decide (0 ≤ x) && decide (x ≤ 128)
def okX (xs : List Int) : Bool := decide (1 ≤ xs.length) && decide (xs.length ≤ 4) && xs.all inB
def isOk (h : Harm) (m : Int) : Bool := match h with
  | .lose v => decide (0 ≤ v) && decide (v ≤ m - 1)
  | .double v => decide (0 ≤ v) && decide (v ≤ m - 1)
  | .turn v w => (decide (0 ≤ v) && decide (v ≤ m - 1)) && (decide (0 ≤ w) && decide (w ≤ m - 1))
  | .cut v b e => (decide (0 ≤ v) && decide (v ≤ m - 1)) && (decide (0 ≤ b) && decide (b ≤ e))
  | .change v p _ xs => (decide (0 ≤ v) && decide (v ≤ m - 1)) && (decide (0 ≤ p) && okX xs)
theorem boolsOf_map (f : Int → Bool) : ∀ xs : List Int, boolsOf (xs.map fun x => D.bl (f x)) = some (xs.map f)
  | [] => rfl
  | x :: xs => by simp [boolsOf, boolsOf_map f xs]
theorem m_is_change (p : Int) (t : Bool) (xs : List Int) (hl : xs.length ≤ 5) : S_is_change [some (.fz (.int p)), some (.fz (vd t xs))] = .ok (.fz (.bl (decide (0 ≤ p) && okX xs))) [some (.fz (.int p)), some (.fz (vd t xs))] := by
  have e1 := lc_map (g := nameG 2) (vs := [2]) (m := [some (.fz (.int p)), some (.fz (vd t xs)), none]) (f := callE S_is_from_to [none, none, none] (valAr (fzE (load (varV 2))) (valAr (fzE (cF (.int 0))) (valAr (fzE (cF (.int 128))) (nilAr)))))
    (ds := xs.map D.int) (o := fun d => match d with | .int x => .fz (.bl (inB x)) | _ => .fz .non) (fun d hd => by
      obtain ⟨x, _, rfl⟩ := List.mem_map.mp hd
      exact ⟨_, [some (.fz (.int p)), some (.fz (vd t xs)), some (.fz (.int x))], rfl, by simp [m_is_from_to, inB, varV_c, load_c, moveE_c, seqS_c, opF_c, callE_c, fun1_c, fun1L_c, sliceF_c, setS_c, testF_c, andT_c, orT_c, notT_c, andF_c, orF_c, notF_c, ifF_c, itemV_c, noP_c, someP_c, nilA_c, consA_c, tupF_c, lstE_c, nilAr_c, valAr_c, lendAr_c, ifS_c, retS_c, retNS_c, skipS_c, bkS_c, ctS_c, asgS_c, forL_c, seqI_c, range1I_c, enumI_c, optF_c, chainF_c, setIS_c, appendS_c, raiseS_c, fzE_c, frF_c, tmV_c, cF_c, R.bind_ok, R.bind_err, seqK_nx, seqK_ret, seqK_bk, seqK_ct, seqK_err, defF_c, defK_ret, defK_nx, defK_err, opK_tt, opK_pt, ptK_some, intOp_i, intCmp_i, addD_i, tt2_t, intOp_t, divC, modC, mulC_r, ixN, callK1_some, callK2_ok, callK2_err, giveK_some, giveX_some, oneK_some, peek_tm, sliceK_tm, putK_some, opt_some, stab_tm, testK_bl, andTK_t, andTK_f, orTK_t, orTK_f, andFK_t, andFK_f, orFK_t, orFK_f, notFK_bl, ifFK_t, ifFK_f, ifSK_t, ifSK_f, itemK1_tm, itemK1, somePK_int, tupK, lstK, lendK_some, seqIK_tup, seqIK_lst, seqIK_rol, enumK_tup, enumK_lst, chainK_t, chainK_f, setIK_c0, setIK_c1, setIK_c2, setIK_c3, setIK_c4, putIK2_some, appK_0, appK2_lst, eqD_ii, eqD_ss, eqD_bb, neD_ii, neD_ss, lcE_c, lcK_ok, rangeD_len, wipeE, getS_0, getS_s, loadV_tm, loadV, stab, peek, viewD, subS, putS, sub, put, kid, setKid, addD_tt, addD_ll, shrC, ltD, gtD, isN, isND, notND, lenC_tup, lenC_lst, lenC_rol, listC_tup, listC_lst, listC_rol, tupleC_tup, tupleC_lst, tupleC_rol, intC_int, intC_bl, item, itemK, optV, kidV, takeL, giveL, bck, putN, nameG, nilG, consG, tupG, negD, isLst, sizeLine_eq, isiD, isi2D, typeD, moveK_some, itemD_lst, itemD_tup], rfl⟩)
  have e2 : ((xs.map D.int).map fun d => match d with | .int x => O.fz (.bl (inB x)) | _ => .fz .non) = (xs.map fun x => D.bl (inB x)).map O.fz := by simp [Function.comp_def]
  rw [e2] at e1
  have e3 : allC (.lst (xs.map fun x => D.bl (inB x))) = some (.bl (xs.all inB)) := by simp [allC, boolsOf_map, List.all_map, Function.comp_def]
  have hz : xs.length ≤ 16777216 := by omega
  have hk : kitB "tuple" "list" = some false := by decide +kernel
  have hk2 : kitB "tuple" "tuple" = some true := by decide +kernel
  have hk3 : kitB "list" "list" = some true := by decide +kernel
  by_cases h1 : 0 ≤ p
  · by_cases h2 : 1 ≤ xs.length
    · by_cases h3 : xs.length ≤ 4
      · have h2' : (1 : Int) ≤ xs.length := by omega
        have h3' : (xs.length : Int) ≤ 4 := by omega
        cases t
        · simp only [vd, Bool.false_eq_true, if_false, if_true] at e1 ⊢
          simp [S_is_change, s_is_change, okX, m_is_place, e1, e3, hz, h1, h2, h3, h2', h3', hk, hk2, hk3, Function.comp_def, -List.map_map, frz_fzs, varV_c, load_c, moveE_c, seqS_c, opF_c, callE_c, fun1_c, fun1L_c, sliceF_c, setS_c, testF_c, andT_c, orT_c, notT_c, andF_c, orF_c, notF_c, ifF_c, itemV_c, noP_c, someP_c, nilA_c, consA_c, tupF_c, lstE_c, nilAr_c, valAr_c, lendAr_c, ifS_c, retS_c, retNS_c, skipS_c, bkS_c, ctS_c, asgS_c, forL_c, seqI_c, range1I_c, enumI_c, optF_c, chainF_c, setIS_c, appendS_c, raiseS_c, fzE_c, frF_c, tmV_c, cF_c, R.bind_ok, R.bind_err, seqK_nx, seqK_ret, seqK_bk, seqK_ct, seqK_err, defF_c, defK_ret, defK_nx, defK_err, opK_tt, opK_pt, ptK_some, intOp_i, intCmp_i, addD_i, tt2_t, intOp_t, divC, modC, mulC_r, ixN, callK1_some, callK2_ok, callK2_err, giveK_some, giveX_some, oneK_some, peek_tm, sliceK_tm, putK_some, opt_some, stab_tm, testK_bl, andTK_t, andTK_f, orTK_t, orTK_f, andFK_t, andFK_f, orFK_t, orFK_f, notFK_bl, ifFK_t, ifFK_f, ifSK_t, ifSK_f, itemK1_tm, itemK1, somePK_int, tupK, lstK, lendK_some, seqIK_tup, seqIK_lst, seqIK_rol, enumK_tup, enumK_lst, chainK_t, chainK_f, setIK_c0, setIK_c1, setIK_c2, setIK_c3, setIK_c4, putIK2_some, appK_0, appK2_lst, eqD_ii, eqD_ss, eqD_bb, neD_ii, neD_ss, lcE_c, lcK_ok, rangeD_len, wipeE, getS_0, getS_s, loadV_tm, loadV, stab, peek, viewD, subS, putS, sub, put, kid, setKid, addD_tt, addD_ll, shrC, ltD, gtD, isN, isND, notND, lenC_tup, lenC_lst, lenC_rol, listC_tup, listC_lst, listC_rol, tupleC_tup, tupleC_lst, tupleC_rol, intC_int, intC_bl, item, itemK, optV, kidV, takeL, giveL, bck, putN, nameG, nilG, consG, tupG, negD, isLst, sizeLine_eq, isiD, isi2D, typeD, moveK_some, itemD_lst, itemD_tup]
        · simp only [vd, Bool.false_eq_true, if_false, if_true] at e1 ⊢
          simp [S_is_change, s_is_change, okX, m_is_place, e1, e3, hz, h1, h2, h3, h2', h3', hk, hk2, hk3, Function.comp_def, -List.map_map, frz_fzs, varV_c, load_c, moveE_c, seqS_c, opF_c, callE_c, fun1_c, fun1L_c, sliceF_c, setS_c, testF_c, andT_c, orT_c, notT_c, andF_c, orF_c, notF_c, ifF_c, itemV_c, noP_c, someP_c, nilA_c, consA_c, tupF_c, lstE_c, nilAr_c, valAr_c, lendAr_c, ifS_c, retS_c, retNS_c, skipS_c, bkS_c, ctS_c, asgS_c, forL_c, seqI_c, range1I_c, enumI_c, optF_c, chainF_c, setIS_c, appendS_c, raiseS_c, fzE_c, frF_c, tmV_c, cF_c, R.bind_ok, R.bind_err, seqK_nx, seqK_ret, seqK_bk, seqK_ct, seqK_err, defF_c, defK_ret, defK_nx, defK_err, opK_tt, opK_pt, ptK_some, intOp_i, intCmp_i, addD_i, tt2_t, intOp_t, divC, modC, mulC_r, ixN, callK1_some, callK2_ok, callK2_err, giveK_some, giveX_some, oneK_some, peek_tm, sliceK_tm, putK_some, opt_some, stab_tm, testK_bl, andTK_t, andTK_f, orTK_t, orTK_f, andFK_t, andFK_f, orFK_t, orFK_f, notFK_bl, ifFK_t, ifFK_f, ifSK_t, ifSK_f, itemK1_tm, itemK1, somePK_int, tupK, lstK, lendK_some, seqIK_tup, seqIK_lst, seqIK_rol, enumK_tup, enumK_lst, chainK_t, chainK_f, setIK_c0, setIK_c1, setIK_c2, setIK_c3, setIK_c4, putIK2_some, appK_0, appK2_lst, eqD_ii, eqD_ss, eqD_bb, neD_ii, neD_ss, lcE_c, lcK_ok, rangeD_len, wipeE, getS_0, getS_s, loadV_tm, loadV, stab, peek, viewD, subS, putS, sub, put, kid, setKid, addD_tt, addD_ll, shrC, ltD, gtD, isN, isND, notND, lenC_tup, lenC_lst, lenC_rol, listC_tup, listC_lst, listC_rol, tupleC_tup, tupleC_lst, tupleC_rol, intC_int, intC_bl, item, itemK, optV, kidV, takeL, giveL, bck, putN, nameG, nilG, consG, tupG, negD, isLst, sizeLine_eq, isiD, isi2D, typeD, moveK_some, itemD_lst, itemD_tup]
      · have h3' : ¬ (xs.length : Int) ≤ 4 := by omega
        have h2' : (1 : Int) ≤ xs.length := by omega
        cases t <;> simp [S_is_change, s_is_change, okX, vd, m_is_place, h1, h2, h3, h2', h3', hk, hk2, hk3, varV_c, load_c, moveE_c, seqS_c, opF_c, callE_c, fun1_c, fun1L_c, sliceF_c, setS_c, testF_c, andT_c, orT_c, notT_c, andF_c, orF_c, notF_c, ifF_c, itemV_c, noP_c, someP_c, nilA_c, consA_c, tupF_c, lstE_c, nilAr_c, valAr_c, lendAr_c, ifS_c, retS_c, retNS_c, skipS_c, bkS_c, ctS_c, asgS_c, forL_c, seqI_c, range1I_c, enumI_c, optF_c, chainF_c, setIS_c, appendS_c, raiseS_c, fzE_c, frF_c, tmV_c, cF_c, R.bind_ok, R.bind_err, seqK_nx, seqK_ret, seqK_bk, seqK_ct, seqK_err, defF_c, defK_ret, defK_nx, defK_err, opK_tt, opK_pt, ptK_some, intOp_i, intCmp_i, addD_i, tt2_t, intOp_t, divC, modC, mulC_r, ixN, callK1_some, callK2_ok, callK2_err, giveK_some, giveX_some, oneK_some, peek_tm, sliceK_tm, putK_some, opt_some, stab_tm, testK_bl, andTK_t, andTK_f, orTK_t, orTK_f, andFK_t, andFK_f, orFK_t, orFK_f, notFK_bl, ifFK_t, ifFK_f, ifSK_t, ifSK_f, itemK1_tm, itemK1, somePK_int, tupK, lstK, lendK_some, seqIK_tup, seqIK_lst, seqIK_rol, enumK_tup, enumK_lst, chainK_t, chainK_f, setIK_c0, setIK_c1, setIK_c2, setIK_c3, setIK_c4, putIK2_some, appK_0, appK2_lst, eqD_ii, eqD_ss, eqD_bb, neD_ii, neD_ss, lcE_c, lcK_ok, rangeD_len, wipeE, getS_0, getS_s, loadV_tm, loadV, stab, peek, viewD, subS, putS, sub, put, kid, setKid, addD_tt, addD_ll, shrC, ltD, gtD, isN, isND, notND, lenC_tup, lenC_lst, lenC_rol, listC_tup, listC_lst, listC_rol, tupleC_tup, tupleC_lst, tupleC_rol, intC_int, intC_bl, item, itemK, optV, kidV, takeL, giveL, bck, putN, nameG, nilG, consG, tupG, negD, isLst, sizeLine_eq, isiD, isi2D, typeD, moveK_some, itemD_lst, itemD_tup]
    · have h2' : ¬ (1 : Int) ≤ xs.length := by omega
      cases t <;> simp [S_is_change, s_is_change, okX, vd, m_is_place, h1, h2, h2', hk, hk2, hk3, varV_c, load_c, moveE_c, seqS_c, opF_c, callE_c, fun1_c, fun1L_c, sliceF_c, setS_c, testF_c, andT_c, orT_c, notT_c, andF_c, orF_c, notF_c, ifF_c, itemV_c, noP_c, someP_c, nilA_c, consA_c, tupF_c, lstE_c, nilAr_c, valAr_c, lendAr_c, ifS_c, retS_c, retNS_c, skipS_c, bkS_c, ctS_c, asgS_c, forL_c, seqI_c, range1I_c, enumI_c, optF_c, chainF_c, setIS_c, appendS_c, raiseS_c, fzE_c, frF_c, tmV_c, cF_c, R.bind_ok, R.bind_err, seqK_nx, seqK_ret, seqK_bk, seqK_ct, seqK_err, defF_c, defK_ret, defK_nx, defK_err, opK_tt, opK_pt, ptK_some, intOp_i, intCmp_i, addD_i, tt2_t, intOp_t, divC, modC, mulC_r, ixN, callK1_some, callK2_ok, callK2_err, giveK_some, giveX_some, oneK_some, peek_tm, sliceK_tm, putK_some, opt_some, stab_tm, testK_bl, andTK_t, andTK_f, orTK_t, orTK_f, andFK_t, andFK_f, orFK_t, orFK_f, notFK_bl, ifFK_t, ifFK_f, ifSK_t, ifSK_f, itemK1_tm, itemK1, somePK_int, tupK, lstK, lendK_some, seqIK_tup, seqIK_lst, seqIK_rol, enumK_tup, enumK_lst, chainK_t, chainK_f, setIK_c0, setIK_c1, setIK_c2, setIK_c3, setIK_c4, putIK2_some, appK_0, appK2_lst, eqD_ii, eqD_ss, eqD_bb, neD_ii, neD_ss, lcE_c, lcK_ok, rangeD_len, wipeE, getS_0, getS_s, loadV_tm, loadV, stab, peek, viewD, subS, putS, sub, put, kid, setKid, addD_tt, addD_ll, shrC, ltD, gtD, isN, isND, notND, lenC_tup, lenC_lst, lenC_rol, listC_tup, listC_lst, listC_rol, tupleC_tup, tupleC_lst, tupleC_rol, intC_int, intC_bl, item, itemK, optV, kidV, takeL, giveL, bck, putN, nameG, nilG, consG, tupG, negD, isLst, sizeLine_eq, isiD, isi2D, typeD, moveK_some, itemD_lst, itemD_tup]
  · simp [S_is_change, s_is_change, m_is_place, h1, varV_c, load_c, moveE_c, seqS_c, opF_c, callE_c, fun1_c, fun1L_c, sliceF_c, setS_c, testF_c, andT_c, orT_c, notT_c, andF_c, orF_c, notF_c, ifF_c, itemV_c, noP_c, someP_c, nilA_c, consA_c, tupF_c, lstE_c, nilAr_c, valAr_c, lendAr_c, ifS_c, retS_c, retNS_c, skipS_c, bkS_c, ctS_c, asgS_c, forL_c, seqI_c, range1I_c, enumI_c, optF_c, chainF_c, setIS_c, appendS_c, raiseS_c, fzE_c, frF_c, tmV_c, cF_c, R.bind_ok, R.bind_err, seqK_nx, seqK_ret, seqK_bk, seqK_ct, seqK_err, defF_c, defK_ret, defK_nx, defK_err, opK_tt, opK_pt, ptK_some, intOp_i, intCmp_i, addD_i, tt2_t, intOp_t, divC, modC, mulC_r, ixN, callK1_some, callK2_ok, callK2_err, giveK_some, giveX_some, oneK_some, peek_tm, sliceK_tm, putK_some, opt_some, stab_tm, testK_bl, andTK_t, andTK_f, orTK_t, orTK_f, andFK_t, andFK_f, orFK_t, orFK_f, notFK_bl, ifFK_t, ifFK_f, ifSK_t, ifSK_f, itemK1_tm, itemK1, somePK_int, tupK, lstK, lendK_some, seqIK_tup, seqIK_lst, seqIK_rol, enumK_tup, enumK_lst, chainK_t, chainK_f, setIK_c0, setIK_c1, setIK_c2, setIK_c3, setIK_c4, putIK2_some, appK_0, appK2_lst, eqD_ii, eqD_ss, eqD_bb, neD_ii, neD_ss, lcE_c, lcK_ok, rangeD_len, wipeE, getS_0, getS_s, loadV_tm, loadV, stab, peek, viewD, subS, putS, sub, put, kid, setKid, addD_tt, addD_ll, shrC, ltD, gtD, isN, isND, notND, lenC_tup, lenC_lst, lenC_rol, listC_tup, listC_lst, listC_rol, tupleC_tup, tupleC_lst, tupleC_rol, intC_int, intC_bl, item, itemK, optV, kidV, takeL, giveL, bck, putN, nameG, nilG, consG, tupG, negD, isLst, sizeLine_eq, isiD, isi2D, typeD, moveK_some, itemD_lst, itemD_tup]
theorem m_is_let (h : Harm) (hb : Bd h) (m : Int) : S_is_let [some (.fz (enc h)), some (.fz (.int m))] = .ok (.fz (.bl (isOk h m))) [some (.fz (enc h)), some (.fz (.int m))] := by
  cases h with
  | lose v => by_cases h1 : 0 ≤ v <;> by_cases h2 : v ≤ m - 1 <;> simp [S_is_let, s_is_let, enc, isOk, m_is_from_to, atD, h1, h2, w_lose_turn, w_lose_double, w_lose_cut, w_lose_change, w_turn_lose, w_turn_double, w_turn_cut, w_turn_change, w_double_lose, w_double_turn, w_double_cut, w_double_change, w_cut_lose, w_cut_turn, w_cut_double, w_cut_change, w_change_lose, w_change_turn, w_change_double, w_change_cut, varV_c, load_c, moveE_c, seqS_c, opF_c, callE_c, fun1_c, fun1L_c, sliceF_c, setS_c, testF_c, andT_c, orT_c, notT_c, andF_c, orF_c, notF_c, ifF_c, itemV_c, noP_c, someP_c, nilA_c, consA_c, tupF_c, lstE_c, nilAr_c, valAr_c, lendAr_c, ifS_c, retS_c, retNS_c, skipS_c, bkS_c, ctS_c, asgS_c, forL_c, seqI_c, range1I_c, enumI_c, optF_c, chainF_c, setIS_c, appendS_c, raiseS_c, fzE_c, frF_c, tmV_c, cF_c, R.bind_ok, R.bind_err, seqK_nx, seqK_ret, seqK_bk, seqK_ct, seqK_err, defF_c, defK_ret, defK_nx, defK_err, opK_tt, opK_pt, ptK_some, intOp_i, intCmp_i, addD_i, tt2_t, intOp_t, divC, modC, mulC_r, ixN, callK1_some, callK2_ok, callK2_err, giveK_some, giveX_some, oneK_some, peek_tm, sliceK_tm, putK_some, opt_some, stab_tm, testK_bl, andTK_t, andTK_f, orTK_t, orTK_f, andFK_t, andFK_f, orFK_t, orFK_f, notFK_bl, ifFK_t, ifFK_f, ifSK_t, ifSK_f, itemK1_tm, itemK1, somePK_int, tupK, lstK, lendK_some, seqIK_tup, seqIK_lst, seqIK_rol, enumK_tup, enumK_lst, chainK_t, chainK_f, setIK_c0, setIK_c1, setIK_c2, setIK_c3, setIK_c4, putIK2_some, appK_0, appK2_lst, eqD_ii, eqD_ss, eqD_bb, neD_ii, neD_ss, lcE_c, lcK_ok, rangeD_len, wipeE, getS_0, getS_s, loadV_tm, loadV, stab, peek, viewD, subS, putS, sub, put, kid, setKid, addD_tt, addD_ll, shrC, ltD, gtD, isN, isND, notND, lenC_tup, lenC_lst, lenC_rol, listC_tup, listC_lst, listC_rol, tupleC_tup, tupleC_lst, tupleC_rol, intC_int, intC_bl, item, itemK, optV, kidV, takeL, giveL, bck, putN, nameG, nilG, consG, tupG, negD, isLst, sizeLine_eq, isiD, isi2D, typeD, moveK_some, itemD_lst, itemD_tup]
  | double v => by_cases h1 : 0 ≤ v <;> by_cases h2 : v ≤ m - 1 <;> simp [S_is_let, s_is_let, enc, isOk, m_is_from_to, atD, h1, h2, w_lose_turn, w_lose_double, w_lose_cut, w_lose_change, w_turn_lose, w_turn_double, w_turn_cut, w_turn_change, w_double_lose, w_double_turn, w_double_cut, w_double_change, w_cut_lose, w_cut_turn, w_cut_double, w_cut_change, w_change_lose, w_change_turn, w_change_double, w_change_cut, varV_c, load_c, moveE_c, seqS_c, opF_c, callE_c, fun1_c, fun1L_c, sliceF_c, setS_c, testF_c, andT_c, orT_c, notT_c, andF_c, orF_c, notF_c, ifF_c, itemV_c, noP_c, someP_c, nilA_c, consA_c, tupF_c, lstE_c, nilAr_c, valAr_c, lendAr_c, ifS_c, retS_c, retNS_c, skipS_c, bkS_c, ctS_c, asgS_c, forL_c, seqI_c, range1I_c, enumI_c, optF_c, chainF_c, setIS_c, appendS_c, raiseS_c, fzE_c, frF_c, tmV_c, cF_c, R.bind_ok, R.bind_err, seqK_nx, seqK_ret, seqK_bk, seqK_ct, seqK_err, defF_c, defK_ret, defK_nx, defK_err, opK_tt, opK_pt, ptK_some, intOp_i, intCmp_i, addD_i, tt2_t, intOp_t, divC, modC, mulC_r, ixN, callK1_some, callK2_ok, callK2_err, giveK_some, giveX_some, oneK_some, peek_tm, sliceK_tm, putK_some, opt_some, stab_tm, testK_bl, andTK_t, andTK_f, orTK_t, orTK_f, andFK_t, andFK_f, orFK_t, orFK_f, notFK_bl, ifFK_t, ifFK_f, ifSK_t, ifSK_f, itemK1_tm, itemK1, somePK_int, tupK, lstK, lendK_some, seqIK_tup, seqIK_lst, seqIK_rol, enumK_tup, enumK_lst, chainK_t, chainK_f, setIK_c0, setIK_c1, setIK_c2, setIK_c3, setIK_c4, putIK2_some, appK_0, appK2_lst, eqD_ii, eqD_ss, eqD_bb, neD_ii, neD_ss, lcE_c, lcK_ok, rangeD_len, wipeE, getS_0, getS_s, loadV_tm, loadV, stab, peek, viewD, subS, putS, sub, put, kid, setKid, addD_tt, addD_ll, shrC, ltD, gtD, isN, isND, notND, lenC_tup, lenC_lst, lenC_rol, listC_tup, listC_lst, listC_rol, tupleC_tup, tupleC_lst, tupleC_rol, intC_int, intC_bl, item, itemK, optV, kidV, takeL, giveL, bck, putN, nameG, nilG, consG, tupG, negD, isLst, sizeLine_eq, isiD, isi2D, typeD, moveK_some, itemD_lst, itemD_tup]
  | turn v w => by_cases h1 : 0 ≤ v <;> by_cases h2 : v ≤ m - 1 <;> simp [S_is_let, s_is_let, enc, isOk, m_is_from_to, atD, h1, h2, w_lose_turn, w_lose_double, w_lose_cut, w_lose_change, w_turn_lose, w_turn_double, w_turn_cut, w_turn_change, w_double_lose, w_double_turn, w_double_cut, w_double_change, w_cut_lose, w_cut_turn, w_cut_double, w_cut_change, w_change_lose, w_change_turn, w_change_double, w_change_cut, varV_c, load_c, moveE_c, seqS_c, opF_c, callE_c, fun1_c, fun1L_c, sliceF_c, setS_c, testF_c, andT_c, orT_c, notT_c, andF_c, orF_c, notF_c, ifF_c, itemV_c, noP_c, someP_c, nilA_c, consA_c, tupF_c, lstE_c, nilAr_c, valAr_c, lendAr_c, ifS_c, retS_c, retNS_c, skipS_c, bkS_c, ctS_c, asgS_c, forL_c, seqI_c, range1I_c, enumI_c, optF_c, chainF_c, setIS_c, appendS_c, raiseS_c, fzE_c, frF_c, tmV_c, cF_c, R.bind_ok, R.bind_err, seqK_nx, seqK_ret, seqK_bk, seqK_ct, seqK_err, defF_c, defK_ret, defK_nx, defK_err, opK_tt, opK_pt, ptK_some, intOp_i, intCmp_i, addD_i, tt2_t, intOp_t, divC, modC, mulC_r, ixN, callK1_some, callK2_ok, callK2_err, giveK_some, giveX_some, oneK_some, peek_tm, sliceK_tm, putK_some, opt_some, stab_tm, testK_bl, andTK_t, andTK_f, orTK_t, orTK_f, andFK_t, andFK_f, orFK_t, orFK_f, notFK_bl, ifFK_t, ifFK_f, ifSK_t, ifSK_f, itemK1_tm, itemK1, somePK_int, tupK, lstK, lendK_some, seqIK_tup, seqIK_lst, seqIK_rol, enumK_tup, enumK_lst, chainK_t, chainK_f, setIK_c0, setIK_c1, setIK_c2, setIK_c3, setIK_c4, putIK2_some, appK_0, appK2_lst, eqD_ii, eqD_ss, eqD_bb, neD_ii, neD_ss, lcE_c, lcK_ok, rangeD_len, wipeE, getS_0, getS_s, loadV_tm, loadV, stab, peek, viewD, subS, putS, sub, put, kid, setKid, addD_tt, addD_ll, shrC, ltD, gtD, isN, isND, notND, lenC_tup, lenC_lst, lenC_rol, listC_tup, listC_lst, listC_rol, tupleC_tup, tupleC_lst, tupleC_rol, intC_int, intC_bl, item, itemK, optV, kidV, takeL, giveL, bck, putN, nameG, nilG, consG, tupG, negD, isLst, sizeLine_eq, isiD, isi2D, typeD, moveK_some, itemD_lst, itemD_tup]
  | cut v b e => by_cases h1 : 0 ≤ v <;> by_cases h2 : v ≤ m - 1 <;> by_cases h3 : 0 ≤ b <;> simp [S_is_let, s_is_let, enc, isOk, m_is_from_to, m_is_place, m_is_integer, atD, h1, h2, h3, w_lose_turn, w_lose_double, w_lose_cut, w_lose_change, w_turn_lose, w_turn_double, w_turn_cut, w_turn_change, w_double_lose, w_double_turn, w_double_cut, w_double_change, w_cut_lose, w_cut_turn, w_cut_double, w_cut_change, w_change_lose, w_change_turn, w_change_double, w_change_cut, varV_c, load_c, moveE_c, seqS_c, opF_c, callE_c, fun1_c, fun1L_c, sliceF_c, setS_c, testF_c, andT_c, orT_c, notT_c, andF_c, orF_c, notF_c, ifF_c, itemV_c, noP_c, someP_c, nilA_c, consA_c, tupF_c, lstE_c, nilAr_c, valAr_c, lendAr_c, ifS_c, retS_c, retNS_c, skipS_c, bkS_c, ctS_c, asgS_c, forL_c, seqI_c, range1I_c, enumI_c, optF_c, chainF_c, setIS_c, appendS_c, raiseS_c, fzE_c, frF_c, tmV_c, cF_c, R.bind_ok, R.bind_err, seqK_nx, seqK_ret, seqK_bk, seqK_ct, seqK_err, defF_c, defK_ret, defK_nx, defK_err, opK_tt, opK_pt, ptK_some, intOp_i, intCmp_i, addD_i, tt2_t, intOp_t, divC, modC, mulC_r, ixN, callK1_some, callK2_ok, callK2_err, giveK_some, giveX_some, oneK_some, peek_tm, sliceK_tm, putK_some, opt_some, stab_tm, testK_bl, andTK_t, andTK_f, orTK_t, orTK_f, andFK_t, andFK_f, orFK_t, orFK_f, notFK_bl, ifFK_t, ifFK_f, ifSK_t, ifSK_f, itemK1_tm, itemK1, somePK_int, tupK, lstK, lendK_some, seqIK_tup, seqIK_lst, seqIK_rol, enumK_tup, enumK_lst, chainK_t, chainK_f, setIK_c0, setIK_c1, setIK_c2, setIK_c3, setIK_c4, putIK2_some, appK_0, appK2_lst, eqD_ii, eqD_ss, eqD_bb, neD_ii, neD_ss, lcE_c, lcK_ok, rangeD_len, wipeE, getS_0, getS_s, loadV_tm, loadV, stab, peek, viewD, subS, putS, sub, put, kid, setKid, addD_tt, addD_ll, shrC, ltD, gtD, isN, isND, notND, lenC_tup, lenC_lst, lenC_rol, listC_tup, listC_lst, listC_rol, tupleC_tup, tupleC_lst, tupleC_rol, intC_int, intC_bl, item, itemK, optV, kidV, takeL, giveL, bck, putN, nameG, nilG, consG, tupG, negD, isLst, sizeLine_eq, isiD, isi2D, typeD, moveK_some, itemD_lst, itemD_tup]
  | change v p t xs => by_cases h1 : 0 ≤ v <;> by_cases h2 : v ≤ m - 1 <;> simp [S_is_let, s_is_let, enc, isOk, m_is_from_to, m_is_change _ _ _ hb.2.2.1, atD, h1, h2, w_lose_turn, w_lose_double, w_lose_cut, w_lose_change, w_turn_lose, w_turn_double, w_turn_cut, w_turn_change, w_double_lose, w_double_turn, w_double_cut, w_double_change, w_cut_lose, w_cut_turn, w_cut_double, w_cut_change, w_change_lose, w_change_turn, w_change_double, w_change_cut, varV_c, load_c, moveE_c, seqS_c, opF_c, callE_c, fun1_c, fun1L_c, sliceF_c, setS_c, testF_c, andT_c, orT_c, notT_c, andF_c, orF_c, notF_c, ifF_c, itemV_c, noP_c, someP_c, nilA_c, consA_c, tupF_c, lstE_c, nilAr_c, valAr_c, lendAr_c, ifS_c, retS_c, retNS_c, skipS_c, bkS_c, ctS_c, asgS_c, forL_c, seqI_c, range1I_c, enumI_c, optF_c, chainF_c, setIS_c, appendS_c, raiseS_c, fzE_c, frF_c, tmV_c, cF_c, R.bind_ok, R.bind_err, seqK_nx, seqK_ret, seqK_bk, seqK_ct, seqK_err, defF_c, defK_ret, defK_nx, defK_err, opK_tt, opK_pt, ptK_some, intOp_i, intCmp_i, addD_i, tt2_t, intOp_t, divC, modC, mulC_r, ixN, callK1_some, callK2_ok, callK2_err, giveK_some, giveX_some, oneK_some, peek_tm, sliceK_tm, putK_some, opt_some, stab_tm, testK_bl, andTK_t, andTK_f, orTK_t, orTK_f, andFK_t, andFK_f, orFK_t, orFK_f, notFK_bl, ifFK_t, ifFK_f, ifSK_t, ifSK_f, itemK1_tm, itemK1, somePK_int, tupK, lstK, lendK_some, seqIK_tup, seqIK_lst, seqIK_rol, enumK_tup, enumK_lst, chainK_t, chainK_f, setIK_c0, setIK_c1, setIK_c2, setIK_c3, setIK_c4, putIK2_some, appK_0, appK2_lst, eqD_ii, eqD_ss, eqD_bb, neD_ii, neD_ss, lcE_c, lcK_ok, rangeD_len, wipeE, getS_0, getS_s, loadV_tm, loadV, stab, peek, viewD, subS, putS, sub, put, kid, setKid, addD_tt, addD_ll, shrC, ltD, gtD, isN, isND, notND, lenC_tup, lenC_lst, lenC_rol, listC_tup, listC_lst, listC_rol, tupleC_tup, tupleC_lst, tupleC_rol, intC_int, intC_bl, item, itemK, optV, kidV, takeL, giveL, bck, putN, nameG, nilG, consG, tupG, negD, isLst, sizeLine_eq, isiD, isi2D, typeD, moveK_some, itemD_lst, itemD_tup]
theorem m_is_wrong (h : Harm) (hb : Bd h) (m : Int) : S__law_is_wrong [some (.fz (enc h)), some (.fz (.int m))] = .ok (.fz (.bl (!isOk h m))) [some (.fz (enc h)), some (.fz (.int m))] := by
  cases h with
  | lose v => by_cases h1 : v < 0 <;> by_cases h2 : m ≤ v <;> simp [S__law_is_wrong, s__law_is_wrong, enc, isOk, atD, h1, h2, forS, w_lose_turn, w_lose_double, w_lose_cut, w_lose_change, w_turn_lose, w_turn_double, w_turn_cut, w_turn_change, w_double_lose, w_double_turn, w_double_cut, w_double_change, w_cut_lose, w_cut_turn, w_cut_double, w_cut_change, w_change_lose, w_change_turn, w_change_double, w_change_cut, varV_c, load_c, moveE_c, seqS_c, opF_c, callE_c, fun1_c, fun1L_c, sliceF_c, setS_c, testF_c, andT_c, orT_c, notT_c, andF_c, orF_c, notF_c, ifF_c, itemV_c, noP_c, someP_c, nilA_c, consA_c, tupF_c, lstE_c, nilAr_c, valAr_c, lendAr_c, ifS_c, retS_c, retNS_c, skipS_c, bkS_c, ctS_c, asgS_c, forL_c, seqI_c, range1I_c, enumI_c, optF_c, chainF_c, setIS_c, appendS_c, raiseS_c, fzE_c, frF_c, tmV_c, cF_c, R.bind_ok, R.bind_err, seqK_nx, seqK_ret, seqK_bk, seqK_ct, seqK_err, defF_c, defK_ret, defK_nx, defK_err, opK_tt, opK_pt, ptK_some, intOp_i, intCmp_i, addD_i, tt2_t, intOp_t, divC, modC, mulC_r, ixN, callK1_some, callK2_ok, callK2_err, giveK_some, giveX_some, oneK_some, peek_tm, sliceK_tm, putK_some, opt_some, stab_tm, testK_bl, andTK_t, andTK_f, orTK_t, orTK_f, andFK_t, andFK_f, orFK_t, orFK_f, notFK_bl, ifFK_t, ifFK_f, ifSK_t, ifSK_f, itemK1_tm, itemK1, somePK_int, tupK, lstK, lendK_some, seqIK_tup, seqIK_lst, seqIK_rol, enumK_tup, enumK_lst, chainK_t, chainK_f, setIK_c0, setIK_c1, setIK_c2, setIK_c3, setIK_c4, putIK2_some, appK_0, appK2_lst, eqD_ii, eqD_ss, eqD_bb, neD_ii, neD_ss, lcE_c, lcK_ok, rangeD_len, wipeE, getS_0, getS_s, loadV_tm, loadV, stab, peek, viewD, subS, putS, sub, put, kid, setKid, addD_tt, addD_ll, shrC, ltD, gtD, isN, isND, notND, lenC_tup, lenC_lst, lenC_rol, listC_tup, listC_lst, listC_rol, tupleC_tup, tupleC_lst, tupleC_rol, intC_int, intC_bl, item, itemK, optV, kidV, takeL, giveL, bck, putN, nameG, nilG, consG, tupG, negD, isLst, sizeLine_eq, isiD, isi2D, typeD, moveK_some, itemD_lst, itemD_tup] <;> omega
  | double v => by_cases h1 : v < 0 <;> by_cases h2 : m ≤ v <;> simp [S__law_is_wrong, s__law_is_wrong, enc, isOk, atD, h1, h2, forS, w_lose_turn, w_lose_double, w_lose_cut, w_lose_change, w_turn_lose, w_turn_double, w_turn_cut, w_turn_change, w_double_lose, w_double_turn, w_double_cut, w_double_change, w_cut_lose, w_cut_turn, w_cut_double, w_cut_change, w_change_lose, w_change_turn, w_change_double, w_change_cut, varV_c, load_c, moveE_c, seqS_c, opF_c, callE_c, fun1_c, fun1L_c, sliceF_c, setS_c, testF_c, andT_c, orT_c, notT_c, andF_c, orF_c, notF_c, ifF_c, itemV_c, noP_c, someP_c, nilA_c, consA_c, tupF_c, lstE_c, nilAr_c, valAr_c, lendAr_c, ifS_c, retS_c, retNS_c, skipS_c, bkS_c, ctS_c, asgS_c, forL_c, seqI_c, range1I_c, enumI_c, optF_c, chainF_c, setIS_c, appendS_c, raiseS_c, fzE_c, frF_c, tmV_c, cF_c, R.bind_ok, R.bind_err, seqK_nx, seqK_ret, seqK_bk, seqK_ct, seqK_err, defF_c, defK_ret, defK_nx, defK_err, opK_tt, opK_pt, ptK_some, intOp_i, intCmp_i, addD_i, tt2_t, intOp_t, divC, modC, mulC_r, ixN, callK1_some, callK2_ok, callK2_err, giveK_some, giveX_some, oneK_some, peek_tm, sliceK_tm, putK_some, opt_some, stab_tm, testK_bl, andTK_t, andTK_f, orTK_t, orTK_f, andFK_t, andFK_f, orFK_t, orFK_f, notFK_bl, ifFK_t, ifFK_f, ifSK_t, ifSK_f, itemK1_tm, itemK1, somePK_int, tupK, lstK, lendK_some, seqIK_tup, seqIK_lst, seqIK_rol, enumK_tup, enumK_lst, chainK_t, chainK_f, setIK_c0, setIK_c1, setIK_c2, setIK_c3, setIK_c4, putIK2_some, appK_0, appK2_lst, eqD_ii, eqD_ss, eqD_bb, neD_ii, neD_ss, lcE_c, lcK_ok, rangeD_len, wipeE, getS_0, getS_s, loadV_tm, loadV, stab, peek, viewD, subS, putS, sub, put, kid, setKid, addD_tt, addD_ll, shrC, ltD, gtD, isN, isND, notND, lenC_tup, lenC_lst, lenC_rol, listC_tup, listC_lst, listC_rol, tupleC_tup, tupleC_lst, tupleC_rol, intC_int, intC_bl, item, itemK, optV, kidV, takeL, giveL, bck, putN, nameG, nilG, consG, tupG, negD, isLst, sizeLine_eq, isiD, isi2D, typeD, moveK_some, itemD_lst, itemD_tup] <;> omega
  | turn v w => by_cases h1 : v < 0 <;> by_cases h2 : m ≤ v <;> by_cases h3 : w < 0 <;> by_cases h4 : m ≤ w <;> simp [S__law_is_wrong, s__law_is_wrong, enc, isOk, atD, h1, h2, h3, h4, forS, w_lose_turn, w_lose_double, w_lose_cut, w_lose_change, w_turn_lose, w_turn_double, w_turn_cut, w_turn_change, w_double_lose, w_double_turn, w_double_cut, w_double_change, w_cut_lose, w_cut_turn, w_cut_double, w_cut_change, w_change_lose, w_change_turn, w_change_double, w_change_cut, varV_c, load_c, moveE_c, seqS_c, opF_c, callE_c, fun1_c, fun1L_c, sliceF_c, setS_c, testF_c, andT_c, orT_c, notT_c, andF_c, orF_c, notF_c, ifF_c, itemV_c, noP_c, someP_c, nilA_c, consA_c, tupF_c, lstE_c, nilAr_c, valAr_c, lendAr_c, ifS_c, retS_c, retNS_c, skipS_c, bkS_c, ctS_c, asgS_c, forL_c, seqI_c, range1I_c, enumI_c, optF_c, chainF_c, setIS_c, appendS_c, raiseS_c, fzE_c, frF_c, tmV_c, cF_c, R.bind_ok, R.bind_err, seqK_nx, seqK_ret, seqK_bk, seqK_ct, seqK_err, defF_c, defK_ret, defK_nx, defK_err, opK_tt, opK_pt, ptK_some, intOp_i, intCmp_i, addD_i, tt2_t, intOp_t, divC, modC, mulC_r, ixN, callK1_some, callK2_ok, callK2_err, giveK_some, giveX_some, oneK_some, peek_tm, sliceK_tm, putK_some, opt_some, stab_tm, testK_bl, andTK_t, andTK_f, orTK_t, orTK_f, andFK_t, andFK_f, orFK_t, orFK_f, notFK_bl, ifFK_t, ifFK_f, ifSK_t, ifSK_f, itemK1_tm, itemK1, somePK_int, tupK, lstK, lendK_some, seqIK_tup, seqIK_lst, seqIK_rol, enumK_tup, enumK_lst, chainK_t, chainK_f, setIK_c0, setIK_c1, setIK_c2, setIK_c3, setIK_c4, putIK2_some, appK_0, appK2_lst, eqD_ii, eqD_ss, eqD_bb, neD_ii, neD_ss, lcE_c, lcK_ok, rangeD_len, wipeE, getS_0, getS_s, loadV_tm, loadV, stab, peek, viewD, subS, putS, sub, put, kid, setKid, addD_tt, addD_ll, shrC, ltD, gtD, isN, isND, notND, lenC_tup, lenC_lst, lenC_rol, listC_tup, listC_lst, listC_rol, tupleC_tup, tupleC_lst, tupleC_rol, intC_int, intC_bl, item, itemK, optV, kidV, takeL, giveL, bck, putN, nameG, nilG, consG, tupG, negD, isLst, sizeLine_eq, isiD, isi2D, typeD, moveK_some, itemD_lst, itemD_tup] <;> omega
  | cut v b e => by_cases h1 : v < 0 <;> by_cases h2 : m ≤ v <;> by_cases h3 : e < b <;> by_cases h4 : b < 0 <;> simp [S__law_is_wrong, s__law_is_wrong, enc, isOk, atD, h1, h2, h3, h4, forS, w_lose_turn, w_lose_double, w_lose_cut, w_lose_change, w_turn_lose, w_turn_double, w_turn_cut, w_turn_change, w_double_lose, w_double_turn, w_double_cut, w_double_change, w_cut_lose, w_cut_turn, w_cut_double, w_cut_change, w_change_lose, w_change_turn, w_change_double, w_change_cut, varV_c, load_c, moveE_c, seqS_c, opF_c, callE_c, fun1_c, fun1L_c, sliceF_c, setS_c, testF_c, andT_c, orT_c, notT_c, andF_c, orF_c, notF_c, ifF_c, itemV_c, noP_c, someP_c, nilA_c, consA_c, tupF_c, lstE_c, nilAr_c, valAr_c, lendAr_c, ifS_c, retS_c, retNS_c, skipS_c, bkS_c, ctS_c, asgS_c, forL_c, seqI_c, range1I_c, enumI_c, optF_c, chainF_c, setIS_c, appendS_c, raiseS_c, fzE_c, frF_c, tmV_c, cF_c, R.bind_ok, R.bind_err, seqK_nx, seqK_ret, seqK_bk, seqK_ct, seqK_err, defF_c, defK_ret, defK_nx, defK_err, opK_tt, opK_pt, ptK_some, intOp_i, intCmp_i, addD_i, tt2_t, intOp_t, divC, modC, mulC_r, ixN, callK1_some, callK2_ok, callK2_err, giveK_some, giveX_some, oneK_some, peek_tm, sliceK_tm, putK_some, opt_some, stab_tm, testK_bl, andTK_t, andTK_f, orTK_t, orTK_f, andFK_t, andFK_f, orFK_t, orFK_f, notFK_bl, ifFK_t, ifFK_f, ifSK_t, ifSK_f, itemK1_tm, itemK1, somePK_int, tupK, lstK, lendK_some, seqIK_tup, seqIK_lst, seqIK_rol, enumK_tup, enumK_lst, chainK_t, chainK_f, setIK_c0, setIK_c1, setIK_c2, setIK_c3, setIK_c4, putIK2_some, appK_0, appK2_lst, eqD_ii, eqD_ss, eqD_bb, neD_ii, neD_ss, lcE_c, lcK_ok, rangeD_len, wipeE, getS_0, getS_s, loadV_tm, loadV, stab, peek, viewD, subS, putS, sub, put, kid, setKid, addD_tt, addD_ll, shrC, ltD, gtD, isN, isND, notND, lenC_tup, lenC_lst, lenC_rol, listC_tup, listC_lst, listC_rol, tupleC_tup, tupleC_lst, tupleC_rol, intC_int, intC_bl, item, itemK, optV, kidV, takeL, giveL, bck, putN, nameG, nilG, consG, tupG, negD, isLst, sizeLine_eq, isiD, isi2D, typeD, moveK_some, itemD_lst, itemD_tup] <;> omega
  | change v p t xs =>
    obtain ⟨_, _, hl, _⟩ := hb
    by_cases h1 : v < 0
    · simp [S__law_is_wrong, s__law_is_wrong, enc, isOk, atD, h1, forS, w_lose_turn, w_lose_double, w_lose_cut, w_lose_change, w_turn_lose, w_turn_double, w_turn_cut, w_turn_change, w_double_lose, w_double_turn, w_double_cut, w_double_change, w_cut_lose, w_cut_turn, w_cut_double, w_cut_change, w_change_lose, w_change_turn, w_change_double, w_change_cut, varV_c, load_c, moveE_c, seqS_c, opF_c, callE_c, fun1_c, fun1L_c, sliceF_c, setS_c, testF_c, andT_c, orT_c, notT_c, andF_c, orF_c, notF_c, ifF_c, itemV_c, noP_c, someP_c, nilA_c, consA_c, tupF_c, lstE_c, nilAr_c, valAr_c, lendAr_c, ifS_c, retS_c, retNS_c, skipS_c, bkS_c, ctS_c, asgS_c, forL_c, seqI_c, range1I_c, enumI_c, optF_c, chainF_c, setIS_c, appendS_c, raiseS_c, fzE_c, frF_c, tmV_c, cF_c, R.bind_ok, R.bind_err, seqK_nx, seqK_ret, seqK_bk, seqK_ct, seqK_err, defF_c, defK_ret, defK_nx, defK_err, opK_tt, opK_pt, ptK_some, intOp_i, intCmp_i, addD_i, tt2_t, intOp_t, divC, modC, mulC_r, ixN, callK1_some, callK2_ok, callK2_err, giveK_some, giveX_some, oneK_some, peek_tm, sliceK_tm, putK_some, opt_some, stab_tm, testK_bl, andTK_t, andTK_f, orTK_t, orTK_f, andFK_t, andFK_f, orFK_t, orFK_f, notFK_bl, ifFK_t, ifFK_f, ifSK_t, ifSK_f, itemK1_tm, itemK1, somePK_int, tupK, lstK, lendK_some, seqIK_tup, seqIK_lst, seqIK_rol, enumK_tup, enumK_lst, chainK_t, chainK_f, setIK_c0, setIK_c1, setIK_c2, setIK_c3, setIK_c4, putIK2_some, appK_0, appK2_lst, eqD_ii, eqD_ss, eqD_bb, neD_ii, neD_ss, lcE_c, lcK_ok, rangeD_len, wipeE, getS_0, getS_s, loadV_tm, loadV, stab, peek, viewD, subS, putS, sub, put, kid, setKid, addD_tt, addD_ll, shrC, ltD, gtD, isN, isND, notND, lenC_tup, lenC_lst, lenC_rol, listC_tup, listC_lst, listC_rol, tupleC_tup, tupleC_lst, tupleC_rol, intC_int, intC_bl, item, itemK, optV, kidV, takeL, giveL, bck, putN, nameG, nilG, consG, tupG, negD, isLst, sizeLine_eq, isiD, isi2D, typeD, moveK_some, itemD_lst, itemD_tup]; try omega
    by_cases h2 : m ≤ v
    · simp [S__law_is_wrong, s__law_is_wrong, enc, isOk, atD, h1, h2, forS, w_lose_turn, w_lose_double, w_lose_cut, w_lose_change, w_turn_lose, w_turn_double, w_turn_cut, w_turn_change, w_double_lose, w_double_turn, w_double_cut, w_double_change, w_cut_lose, w_cut_turn, w_cut_double, w_cut_change, w_change_lose, w_change_turn, w_change_double, w_change_cut, varV_c, load_c, moveE_c, seqS_c, opF_c, callE_c, fun1_c, fun1L_c, sliceF_c, setS_c, testF_c, andT_c, orT_c, notT_c, andF_c, orF_c, notF_c, ifF_c, itemV_c, noP_c, someP_c, nilA_c, consA_c, tupF_c, lstE_c, nilAr_c, valAr_c, lendAr_c, ifS_c, retS_c, retNS_c, skipS_c, bkS_c, ctS_c, asgS_c, forL_c, seqI_c, range1I_c, enumI_c, optF_c, chainF_c, setIS_c, appendS_c, raiseS_c, fzE_c, frF_c, tmV_c, cF_c, R.bind_ok, R.bind_err, seqK_nx, seqK_ret, seqK_bk, seqK_ct, seqK_err, defF_c, defK_ret, defK_nx, defK_err, opK_tt, opK_pt, ptK_some, intOp_i, intCmp_i, addD_i, tt2_t, intOp_t, divC, modC, mulC_r, ixN, callK1_some, callK2_ok, callK2_err, giveK_some, giveX_some, oneK_some, peek_tm, sliceK_tm, putK_some, opt_some, stab_tm, testK_bl, andTK_t, andTK_f, orTK_t, orTK_f, andFK_t, andFK_f, orFK_t, orFK_f, notFK_bl, ifFK_t, ifFK_f, ifSK_t, ifSK_f, itemK1_tm, itemK1, somePK_int, tupK, lstK, lendK_some, seqIK_tup, seqIK_lst, seqIK_rol, enumK_tup, enumK_lst, chainK_t, chainK_f, setIK_c0, setIK_c1, setIK_c2, setIK_c3, setIK_c4, putIK2_some, appK_0, appK2_lst, eqD_ii, eqD_ss, eqD_bb, neD_ii, neD_ss, lcE_c, lcK_ok, rangeD_len, wipeE, getS_0, getS_s, loadV_tm, loadV, stab, peek, viewD, subS, putS, sub, put, kid, setKid, addD_tt, addD_ll, shrC, ltD, gtD, isN, isND, notND, lenC_tup, lenC_lst, lenC_rol, listC_tup, listC_lst, listC_rol, tupleC_tup, tupleC_lst, tupleC_rol, intC_int, intC_bl, item, itemK, optV, kidV, takeL, giveL, bck, putN, nameG, nilG, consG, tupG, negD, isLst, sizeLine_eq, isiD, isi2D, typeD, moveK_some, itemD_lst, itemD_tup]; try omega
    have e1 := lc_filter (g := nameG 5) (vs := [5]) (m := [some (.fz (enc (.change v p t xs))), some (.fz (.int m)), some (.fz (.lst [.int v])), some (.fz (.int v)), none, none]) (t := orT (testF (opF ltD (varV 5) (tmV (cF (.int 0))) true)) (testF (opF gtD (varV 5) (tmV (cF (.int 128))) true))) (f := fzE (load (varV 5)))
      (ds := xs.map D.int) (p := fun d => match d with | .int x => !inB x | _ => false) (o := O.fz) (fun d hd => by
        obtain ⟨x, _, rfl⟩ := List.mem_map.mp hd
        refine ⟨_, [some (.fz (enc (.change v p t xs))), some (.fz (.int m)), some (.fz (.lst [.int v])), some (.fz (.int v)), none, some (.fz (.int x))], [some (.fz (enc (.change v p t xs))), some (.fz (.int m)), some (.fz (.lst [.int v])), some (.fz (.int v)), none, some (.fz (.int x))], rfl, ?_, rfl, fun _ => ⟨by simp [varV_c, load_c, moveE_c, seqS_c, opF_c, callE_c, fun1_c, fun1L_c, sliceF_c, setS_c, testF_c, andT_c, orT_c, notT_c, andF_c, orF_c, notF_c, ifF_c, itemV_c, noP_c, someP_c, nilA_c, consA_c, tupF_c, lstE_c, nilAr_c, valAr_c, lendAr_c, ifS_c, retS_c, retNS_c, skipS_c, bkS_c, ctS_c, asgS_c, forL_c, seqI_c, range1I_c, enumI_c, optF_c, chainF_c, setIS_c, appendS_c, raiseS_c, fzE_c, frF_c, tmV_c, cF_c, R.bind_ok, R.bind_err, seqK_nx, seqK_ret, seqK_bk, seqK_ct, seqK_err, defF_c, defK_ret, defK_nx, defK_err, opK_tt, opK_pt, ptK_some, intOp_i, intCmp_i, addD_i, tt2_t, intOp_t, divC, modC, mulC_r, ixN, callK1_some, callK2_ok, callK2_err, giveK_some, giveX_some, oneK_some, peek_tm, sliceK_tm, putK_some, opt_some, stab_tm, testK_bl, andTK_t, andTK_f, orTK_t, orTK_f, andFK_t, andFK_f, orFK_t, orFK_f, notFK_bl, ifFK_t, ifFK_f, ifSK_t, ifSK_f, itemK1_tm, itemK1, somePK_int, tupK, lstK, lendK_some, seqIK_tup, seqIK_lst, seqIK_rol, enumK_tup, enumK_lst, chainK_t, chainK_f, setIK_c0, setIK_c1, setIK_c2, setIK_c3, setIK_c4, putIK2_some, appK_0, appK2_lst, eqD_ii, eqD_ss, eqD_bb, neD_ii, neD_ss, lcE_c, lcK_ok, rangeD_len, wipeE, getS_0, getS_s, loadV_tm, loadV, stab, peek, viewD, subS, putS, sub, put, kid, setKid, addD_tt, addD_ll, shrC, ltD, gtD, isN, isND, notND, lenC_tup, lenC_lst, lenC_rol, listC_tup, listC_lst, listC_rol, tupleC_tup, tupleC_lst, tupleC_rol, intC_int, intC_bl, item, itemK, optV, kidV, takeL, giveL, bck, putN, nameG, nilG, consG, tupG, negD, isLst, sizeLine_eq, isiD, isi2D, typeD, moveK_some, itemD_lst, itemD_tup], rfl⟩⟩
        by_cases h3 : x < 0 <;> by_cases h4 : 128 < x <;> simp [inB, h3, h4, varV_c, load_c, moveE_c, seqS_c, opF_c, callE_c, fun1_c, fun1L_c, sliceF_c, setS_c, testF_c, andT_c, orT_c, notT_c, andF_c, orF_c, notF_c, ifF_c, itemV_c, noP_c, someP_c, nilA_c, consA_c, tupF_c, lstE_c, nilAr_c, valAr_c, lendAr_c, ifS_c, retS_c, retNS_c, skipS_c, bkS_c, ctS_c, asgS_c, forL_c, seqI_c, range1I_c, enumI_c, optF_c, chainF_c, setIS_c, appendS_c, raiseS_c, fzE_c, frF_c, tmV_c, cF_c, R.bind_ok, R.bind_err, seqK_nx, seqK_ret, seqK_bk, seqK_ct, seqK_err, defF_c, defK_ret, defK_nx, defK_err, opK_tt, opK_pt, ptK_some, intOp_i, intCmp_i, addD_i, tt2_t, intOp_t, divC, modC, mulC_r, ixN, callK1_some, callK2_ok, callK2_err, giveK_some, giveX_some, oneK_some, peek_tm, sliceK_tm, putK_some, opt_some, stab_tm, testK_bl, andTK_t, andTK_f, orTK_t, orTK_f, andFK_t, andFK_f, orFK_t, orFK_f, notFK_bl, ifFK_t, ifFK_f, ifSK_t, ifSK_f, itemK1_tm, itemK1, somePK_int, tupK, lstK, lendK_some, seqIK_tup, seqIK_lst, seqIK_rol, enumK_tup, enumK_lst, chainK_t, chainK_f, setIK_c0, setIK_c1, setIK_c2, setIK_c3, setIK_c4, putIK2_some, appK_0, appK2_lst, eqD_ii, eqD_ss, eqD_bb, neD_ii, neD_ss, lcE_c, lcK_ok, rangeD_len, wipeE, getS_0, getS_s, loadV_tm, loadV, stab, peek, viewD, subS, putS, sub, put, kid, setKid, addD_tt, addD_ll, shrC, ltD, gtD, isN, isND, notND, lenC_tup, lenC_lst, lenC_rol, listC_tup, listC_lst, listC_rol, tupleC_tup, tupleC_lst, tupleC_rol, intC_int, intC_bl, item, itemK, optV, kidV, takeL, giveL, bck, putN, nameG, nilG, consG, tupG, negD, isLst, sizeLine_eq, isiD, isi2D, typeD, moveK_some, itemD_lst, itemD_tup] <;> omega)
    have e2 : (xs.map D.int).filter (fun d => match d with | .int x => !inB x | _ => false) = (xs.filter fun x => !inB x).map D.int := by
      rw [List.filter_map]; rfl
    rw [e2] at e1
    have hall : xs.all inB = decide ((xs.filter fun x => !inB x).length = 0) := by
      rw [Bool.eq_iff_iff]
      simp only [List.all_eq_true, decide_eq_true_eq, List.length_eq_zero_iff, List.filter_eq_nil_iff, Bool.not_eq_true', Bool.not_eq_false]
    generalize hbad : (xs.filter fun x => !inB x) = bad at e1 hall
    have e3 : isOk (.change v p t xs) m = (decide (0 ≤ p) && (decide (1 ≤ xs.length) && decide (xs.length ≤ 4) && decide (bad.length = 0))) := by
      have g1 : 0 ≤ v := by omega
      have g2 : v ≤ m - 1 := by omega
      simp [isOk, okX, hall, g1, g2]
    rw [e3]
    have hz : xs.length ≤ 16777216 := by omega
    have e4 : enc (.change v p t xs) = .tup [.str "change", .int v, .int p, vd t xs] := rfl
    rw [e4] at e1
    by_cases h5 : p < 0
    · have g5 : ¬ 0 ≤ p := by omega
      cases t <;> (simp only [vd, Bool.false_eq_true, if_false, if_true] at e1 ⊢; simp [S__law_is_wrong, s__law_is_wrong, enc, vd, atD, h1, h2, h5, g5, forS, e1, hz, w_lose_turn, w_lose_double, w_lose_cut, w_lose_change, w_turn_lose, w_turn_double, w_turn_cut, w_turn_change, w_double_lose, w_double_turn, w_double_cut, w_double_change, w_cut_lose, w_cut_turn, w_cut_double, w_cut_change, w_change_lose, w_change_turn, w_change_double, w_change_cut, varV_c, load_c, moveE_c, seqS_c, opF_c, callE_c, fun1_c, fun1L_c, sliceF_c, setS_c, testF_c, andT_c, orT_c, notT_c, andF_c, orF_c, notF_c, ifF_c, itemV_c, noP_c, someP_c, nilA_c, consA_c, tupF_c, lstE_c, nilAr_c, valAr_c, lendAr_c, ifS_c, retS_c, retNS_c, skipS_c, bkS_c, ctS_c, asgS_c, forL_c, seqI_c, range1I_c, enumI_c, optF_c, chainF_c, setIS_c, appendS_c, raiseS_c, fzE_c, frF_c, tmV_c, cF_c, R.bind_ok, R.bind_err, seqK_nx, seqK_ret, seqK_bk, seqK_ct, seqK_err, defF_c, defK_ret, defK_nx, defK_err, opK_tt, opK_pt, ptK_some, intOp_i, intCmp_i, addD_i, tt2_t, intOp_t, divC, modC, mulC_r, ixN, callK1_some, callK2_ok, callK2_err, giveK_some, giveX_some, oneK_some, peek_tm, sliceK_tm, putK_some, opt_some, stab_tm, testK_bl, andTK_t, andTK_f, orTK_t, orTK_f, andFK_t, andFK_f, orFK_t, orFK_f, notFK_bl, ifFK_t, ifFK_f, ifSK_t, ifSK_f, itemK1_tm, itemK1, somePK_int, tupK, lstK, lendK_some, seqIK_tup, seqIK_lst, seqIK_rol, enumK_tup, enumK_lst, chainK_t, chainK_f, setIK_c0, setIK_c1, setIK_c2, setIK_c3, setIK_c4, putIK2_some, appK_0, appK2_lst, eqD_ii, eqD_ss, eqD_bb, neD_ii, neD_ss, lcE_c, lcK_ok, rangeD_len, wipeE, getS_0, getS_s, loadV_tm, loadV, stab, peek, viewD, subS, putS, sub, put, kid, setKid, addD_tt, addD_ll, shrC, ltD, gtD, isN, isND, notND, lenC_tup, lenC_lst, lenC_rol, listC_tup, listC_lst, listC_rol, tupleC_tup, tupleC_lst, tupleC_rol, intC_int, intC_bl, item, itemK, optV, kidV, takeL, giveL, bck, putN, nameG, nilG, consG, tupG, negD, isLst, sizeLine_eq, isiD, isi2D, typeD, moveK_some, itemD_lst, itemD_tup])
    · have g5 : 0 ≤ p := by omega
      by_cases h6 : (xs.length : Int) < 1
      · have g6 : xs.length = 0 := by omega
        cases t <;> (simp only [vd, Bool.false_eq_true, if_false, if_true] at e1 ⊢; simp [S__law_is_wrong, s__law_is_wrong, enc, vd, atD, h1, h2, h5, g5, h6, g6, forS, e1, hz, w_lose_turn, w_lose_double, w_lose_cut, w_lose_change, w_turn_lose, w_turn_double, w_turn_cut, w_turn_change, w_double_lose, w_double_turn, w_double_cut, w_double_change, w_cut_lose, w_cut_turn, w_cut_double, w_cut_change, w_change_lose, w_change_turn, w_change_double, w_change_cut, varV_c, load_c, moveE_c, seqS_c, opF_c, callE_c, fun1_c, fun1L_c, sliceF_c, setS_c, testF_c, andT_c, orT_c, notT_c, andF_c, orF_c, notF_c, ifF_c, itemV_c, noP_c, someP_c, nilA_c, consA_c, tupF_c, lstE_c, nilAr_c, valAr_c, lendAr_c, ifS_c, retS_c, retNS_c, skipS_c, bkS_c, ctS_c, asgS_c, forL_c, seqI_c, range1I_c, enumI_c, optF_c, chainF_c, setIS_c, appendS_c, raiseS_c, fzE_c, frF_c, tmV_c, cF_c, R.bind_ok, R.bind_err, seqK_nx, seqK_ret, seqK_bk, seqK_ct, seqK_err, defF_c, defK_ret, defK_nx, defK_err, opK_tt, opK_pt, ptK_some, intOp_i, intCmp_i, addD_i, tt2_t, intOp_t, divC, modC, mulC_r, ixN, callK1_some, callK2_ok, callK2_err, giveK_some, giveX_some, oneK_some, peek_tm, sliceK_tm, putK_some, opt_some, stab_tm, testK_bl, andTK_t, andTK_f, orTK_t, orTK_f, andFK_t, andFK_f, orFK_t, orFK_f, notFK_bl, ifFK_t, ifFK_f, ifSK_t, ifSK_f, itemK1_tm, itemK1, somePK_int, tupK, lstK, lendK_some, seqIK_tup, seqIK_lst, seqIK_rol, enumK_tup, enumK_lst, chainK_t, chainK_f, setIK_c0, setIK_c1, setIK_c2, setIK_c3, setIK_c4, putIK2_some, appK_0, appK2_lst, eqD_ii, eqD_ss, eqD_bb, neD_ii, neD_ss, lcE_c, lcK_ok, rangeD_len, wipeE, getS_0, getS_s, loadV_tm, loadV, stab, peek, viewD, subS, putS, sub, put, kid, setKid, addD_tt, addD_ll, shrC, ltD, gtD, isN, isND, notND, lenC_tup, lenC_lst, lenC_rol, listC_tup, listC_lst, listC_rol, tupleC_tup, tupleC_lst, tupleC_rol, intC_int, intC_bl, item, itemK, optV, kidV, takeL, giveL, bck, putN, nameG, nilG, consG, tupG, negD, isLst, sizeLine_eq, isiD, isi2D, typeD, moveK_some, itemD_lst, itemD_tup])
      · by_cases h7 : 4 < (xs.length : Int)
        · have g7 : ¬ xs.length ≤ 4 := by omega
          cases t <;> (simp only [vd, Bool.false_eq_true, if_false, if_true] at e1 ⊢; simp [S__law_is_wrong, s__law_is_wrong, enc, vd, atD, h1, h2, h5, g5, h6, h7, g7, forS, e1, hz, w_lose_turn, w_lose_double, w_lose_cut, w_lose_change, w_turn_lose, w_turn_double, w_turn_cut, w_turn_change, w_double_lose, w_double_turn, w_double_cut, w_double_change, w_cut_lose, w_cut_turn, w_cut_double, w_cut_change, w_change_lose, w_change_turn, w_change_double, w_change_cut, varV_c, load_c, moveE_c, seqS_c, opF_c, callE_c, fun1_c, fun1L_c, sliceF_c, setS_c, testF_c, andT_c, orT_c, notT_c, andF_c, orF_c, notF_c, ifF_c, itemV_c, noP_c, someP_c, nilA_c, consA_c, tupF_c, lstE_c, nilAr_c, valAr_c, lendAr_c, ifS_c, retS_c, retNS_c, skipS_c, bkS_c, ctS_c, asgS_c, forL_c, seqI_c, range1I_c, enumI_c, optF_c, chainF_c, setIS_c, appendS_c, raiseS_c, fzE_c, frF_c, tmV_c, cF_c, R.bind_ok, R.bind_err, seqK_nx, seqK_ret, seqK_bk, seqK_ct, seqK_err, defF_c, defK_ret, defK_nx, defK_err, opK_tt, opK_pt, ptK_some, intOp_i, intCmp_i, addD_i, tt2_t, intOp_t, divC, modC, mulC_r, ixN, callK1_some, callK2_ok, callK2_err, giveK_some, giveX_some, oneK_some, peek_tm, sliceK_tm, putK_some, opt_some, stab_tm, testK_bl, andTK_t, andTK_f, orTK_t, orTK_f, andFK_t, andFK_f, orFK_t, orFK_f, notFK_bl, ifFK_t, ifFK_f, ifSK_t, ifSK_f, itemK1_tm, itemK1, somePK_int, tupK, lstK, lendK_some, seqIK_tup, seqIK_lst, seqIK_rol, enumK_tup, enumK_lst, chainK_t, chainK_f, setIK_c0, setIK_c1, setIK_c2, setIK_c3, setIK_c4, putIK2_some, appK_0, appK2_lst, eqD_ii, eqD_ss, eqD_bb, neD_ii, neD_ss, lcE_c, lcK_ok, rangeD_len, wipeE, getS_0, getS_s, loadV_tm, loadV, stab, peek, viewD, subS, putS, sub, put, kid, setKid, addD_tt, addD_ll, shrC, ltD, gtD, isN, isND, notND, lenC_tup, lenC_lst, lenC_rol, listC_tup, listC_lst, listC_rol, tupleC_tup, tupleC_lst, tupleC_rol, intC_int, intC_bl, item, itemK, optV, kidV, takeL, giveL, bck, putN, nameG, nilG, consG, tupG, negD, isLst, sizeLine_eq, isiD, isi2D, typeD, moveK_some, itemD_lst, itemD_tup])
        · have g6 : 1 ≤ xs.length := by omega
          have g7 : xs.length ≤ 4 := by omega
          by_cases h8 : bad.length = 0
          · cases t <;> (simp only [vd, Bool.false_eq_true, if_false, if_true] at e1 ⊢; simp [S__law_is_wrong, s__law_is_wrong, enc, vd, atD, h1, h2, h5, g5, h6, h7, g6, g7, h8, forS, e1, hz, w_lose_turn, w_lose_double, w_lose_cut, w_lose_change, w_turn_lose, w_turn_double, w_turn_cut, w_turn_change, w_double_lose, w_double_turn, w_double_cut, w_double_change, w_cut_lose, w_cut_turn, w_cut_double, w_cut_change, w_change_lose, w_change_turn, w_change_double, w_change_cut, varV_c, load_c, moveE_c, seqS_c, opF_c, callE_c, fun1_c, fun1L_c, sliceF_c, setS_c, testF_c, andT_c, orT_c, notT_c, andF_c, orF_c, notF_c, ifF_c, itemV_c, noP_c, someP_c, nilA_c, consA_c, tupF_c, lstE_c, nilAr_c, valAr_c, lendAr_c, ifS_c, retS_c, retNS_c, skipS_c, bkS_c, ctS_c, asgS_c, forL_c, seqI_c, range1I_c, enumI_c, optF_c, chainF_c, setIS_c, appendS_c, raiseS_c, fzE_c, frF_c, tmV_c, cF_c, R.bind_ok, R.bind_err, seqK_nx, seqK_ret, seqK_bk, seqK_ct, seqK_err, defF_c, defK_ret, defK_nx, defK_err, opK_tt, opK_pt, ptK_some, intOp_i, intCmp_i, addD_i, tt2_t, intOp_t, divC, modC, mulC_r, ixN, callK1_some, callK2_ok, callK2_err, giveK_some, giveX_some, oneK_some, peek_tm, sliceK_tm, putK_some, opt_some, stab_tm, testK_bl, andTK_t, andTK_f, orTK_t, orTK_f, andFK_t, andFK_f, orFK_t, orFK_f, notFK_bl, ifFK_t, ifFK_f, ifSK_t, ifSK_f, itemK1_tm, itemK1, somePK_int, tupK, lstK, lendK_some, seqIK_tup, seqIK_lst, seqIK_rol, enumK_tup, enumK_lst, chainK_t, chainK_f, setIK_c0, setIK_c1, setIK_c2, setIK_c3, setIK_c4, putIK2_some, appK_0, appK2_lst, eqD_ii, eqD_ss, eqD_bb, neD_ii, neD_ss, lcE_c, lcK_ok, rangeD_len, wipeE, getS_0, getS_s, loadV_tm, loadV, stab, peek, viewD, subS, putS, sub, put, kid, setKid, addD_tt, addD_ll, shrC, ltD, gtD, isN, isND, notND, lenC_tup, lenC_lst, lenC_rol, listC_tup, listC_lst, listC_rol, tupleC_tup, tupleC_lst, tupleC_rol, intC_int, intC_bl, item, itemK, optV, kidV, takeL, giveL, bck, putN, nameG, nilG, consG, tupG, negD, isLst, sizeLine_eq, isiD, isi2D, typeD, moveK_some, itemD_lst, itemD_tup])
          · have g8 : 0 < (bad.length : Int) := by omega
            cases t <;> (simp only [vd, Bool.false_eq_true, if_false, if_true] at e1 ⊢; simp [S__law_is_wrong, s__law_is_wrong, enc, vd, atD, h1, h2, h5, g5, h6, h7, g6, g7, h8, g8, (show 0 < bad.length by omega), forS, e1, hz, w_lose_turn, w_lose_double, w_lose_cut, w_lose_change, w_turn_lose, w_turn_double, w_turn_cut, w_turn_change, w_double_lose, w_double_turn, w_double_cut, w_double_change, w_cut_lose, w_cut_turn, w_cut_double, w_cut_change, w_change_lose, w_change_turn, w_change_double, w_change_cut, varV_c, load_c, moveE_c, seqS_c, opF_c, callE_c, fun1_c, fun1L_c, sliceF_c, setS_c, testF_c, andT_c, orT_c, notT_c, andF_c, orF_c, notF_c, ifF_c, itemV_c, noP_c, someP_c, nilA_c, consA_c, tupF_c, lstE_c, nilAr_c, valAr_c, lendAr_c, ifS_c, retS_c, retNS_c, skipS_c, bkS_c, ctS_c, asgS_c, forL_c, seqI_c, range1I_c, enumI_c, optF_c, chainF_c, setIS_c, appendS_c, raiseS_c, fzE_c, frF_c, tmV_c, cF_c, R.bind_ok, R.bind_err, seqK_nx, seqK_ret, seqK_bk, seqK_ct, seqK_err, defF_c, defK_ret, defK_nx, defK_err, opK_tt, opK_pt, ptK_some, intOp_i, intCmp_i, addD_i, tt2_t, intOp_t, divC, modC, mulC_r, ixN, callK1_some, callK2_ok, callK2_err, giveK_some, giveX_some, oneK_some, peek_tm, sliceK_tm, putK_some, opt_some, stab_tm, testK_bl, andTK_t, andTK_f, orTK_t, orTK_f, andFK_t, andFK_f, orFK_t, orFK_f, notFK_bl, ifFK_t, ifFK_f, ifSK_t, ifSK_f, itemK1_tm, itemK1, somePK_int, tupK, lstK, lendK_some, seqIK_tup, seqIK_lst, seqIK_rol, enumK_tup, enumK_lst, chainK_t, chainK_f, setIK_c0, setIK_c1, setIK_c2, setIK_c3, setIK_c4, putIK2_some, appK_0, appK2_lst, eqD_ii, eqD_ss, eqD_bb, neD_ii, neD_ss, lcE_c, lcK_ok, rangeD_len, wipeE, getS_0, getS_s, loadV_tm, loadV, stab, peek, viewD, subS, putS, sub, put, kid, setKid, addD_tt, addD_ll, shrC, ltD, gtD, isN, isND, notND, lenC_tup, lenC_lst, lenC_rol, listC_tup, listC_lst, listC_rol, tupleC_tup, tupleC_lst, tupleC_rol, intC_int, intC_bl, item, itemK, optV, kidV, takeL, giveL, bck, putN, nameG, nilG, consG, tupG, negD, isLst, sizeLine_eq, isiD, isi2D, typeD, moveK_some, itemD_lst, itemD_tup])
end DL.GW50
end

section
set_option Elab.async false
set_option linter.all false
set_option maxRecDepth 100000
set_option maxHeartbeats 4000000
namespace DL.GW50
open PySem L2
def chg (l : List Int) (p : Nat) (xs : List Int) : List Int := l.take p ++ xs.take (l.length - p) ++ l.drop (p + (xs.take (l.length - p)).length)
def step (h : Harm) (vs : List (List Int)) : List (List Int) := match h with
  | .lose v => vs.set v.toNat []
  | .turn v w => (vs.set v.toNat (vs.getD w.toNat [])).set w.toNat (vs.getD v.toNat [])
  | .double v => vs ++ [vs.getD v.toNat []]
  | .cut v b e => vs.set v.toNat ((vs.getD v.toNat []).take b.toNat ++ (vs.getD v.toNat []).drop e.toNat)
  | .change v p _ xs => vs.set v.toNat (chg (vs.getD v.toNat []) p.toNat xs)
def tups (vs : List (List Int)) : List D := vs.map fun l => .tup (l.map .int)
def lsts (vs : List (List Int)) : List D := vs.map fun l => .lst (l.map .int)
theorem cut_lo {α : Type} (xs : List α) (b : Int) (hb : 0 ≤ b) : cutL xs none (some b) = xs.take b.toNat := by
  have h1 : HT.sIx xs.length 0 none = 0 := rfl
  have h2 : HT.sIx xs.length xs.length (some b) = min b.toNat xs.length := by
    show (if b < 0 then _ else min b.toNat xs.length) = _
    rw [if_neg (by omega)]
  unfold cutL
  rw [h1, h2]
  simp [List.take_eq_take_iff]
theorem cut_hi {α : Type} (xs : List α) (b : Int) (hb : 0 ≤ b) : cutL xs (some b) none = xs.drop b.toNat := by
  have h1 : HT.sIx xs.length xs.length none = xs.length := rfl
  have h2 : HT.sIx xs.length 0 (some b) = min b.toNat xs.length := by
    show (if b < 0 then _ else min b.toNat xs.length) = _
    rw [if_neg (by omega)]
  unfold cutL
  rw [h1, h2]
  by_cases h : b.toNat ≤ xs.length
  · rw [Nat.min_eq_left h, List.take_of_length_le (by simp)]
  · rw [Nat.min_eq_right (by omega), List.drop_eq_nil_of_le (as := xs) (i := b.toNat) (by omega)]; simp
theorem m_changed (l : List Int) (p : Int) (hp : 0 ≤ p) (t : Bool) (xs : List Int) (hl : l.length ≤ 1000) (hx : xs.length ≤ 5) : S_changed [some (.fz (.tup (l.map .int))), some (.fz (.int p)), some (.fz (vd t xs))] = .ok (.fz (.tup ((chg l p.toNat xs).map .int))) [some (.fz (.tup (l.map .int))), some (.fz (.int p)), some (.fz (vd t xs))] := by
  have e1 : max2D (.int 0) (.int (l.length - p)) = some (.int ((l.length - p.toNat : Nat) : Int)) := by
    simp only [max2D]
    congr 2
    split <;> omega
  have e2 : ∀ ys : List D, cutL ys none (some ((l.length - p.toNat : Nat) : Int)) = ys.take (l.length - p.toNat) := fun ys => by rw [cut_lo _ _ (by omega)]; simp
  have e3 : ∀ ys : List D, cutL ys none (some p) = ys.take p.toNat := fun ys => cut_lo _ _ hp
  have e4 : ∀ (n : Nat) (ys : List D), cutL ys (some (p + n)) none = ys.drop (p.toNat + n) := fun n ys => by rw [cut_hi _ _ (by omega)]; congr 1; omega
  have a1 : addD (.tup ((l.map D.int).take p.toNat)) (.tup ((xs.map D.int).take (l.length - p.toNat))) = some (.tup ((l.map D.int).take p.toNat ++ (xs.map D.int).take (l.length - p.toNat))) := addD_tt (by rw [sizeLine_eq]; simp; omega)
  have a2 : ∀ n : Nat, addD (.tup ((l.map D.int).take p.toNat ++ (xs.map D.int).take (l.length - p.toNat))) (.tup ((l.map D.int).drop n)) = some (.tup ((l.map D.int).take p.toNat ++ (xs.map D.int).take (l.length - p.toNat) ++ (l.map D.int).drop n)) := fun n => addD_tt (by rw [sizeLine_eq]; simp; omega)
  cases t <;> simp [S_changed, s_changed, vd, chg, e1, e2, e3, e4, a1, a2, sliceD, -List.length_take, -List.append_assoc, varV_c, load_c, moveE_c, seqS_c, opF_c, callE_c, fun1_c, fun1L_c, sliceF_c, setS_c, testF_c, andT_c, orT_c, notT_c, andF_c, orF_c, notF_c, ifF_c, itemV_c, noP_c, someP_c, nilA_c, consA_c, tupF_c, lstE_c, nilAr_c, valAr_c, lendAr_c, ifS_c, retS_c, retNS_c, skipS_c, bkS_c, ctS_c, asgS_c, forL_c, seqI_c, range1I_c, enumI_c, optF_c, chainF_c, setIS_c, appendS_c, raiseS_c, fzE_c, frF_c, tmV_c, cF_c, R.bind_ok, R.bind_err, seqK_nx, seqK_ret, seqK_bk, seqK_ct, seqK_err, defF_c, defK_ret, defK_nx, defK_err, opK_tt, opK_pt, ptK_some, intOp_i, intCmp_i, addD_i, tt2_t, intOp_t, divC, modC, mulC_r, ixN, callK1_some, callK2_ok, callK2_err, giveK_some, giveX_some, oneK_some, peek_tm, sliceK_tm, putK_some, opt_some, stab_tm, testK_bl, andTK_t, andTK_f, orTK_t, orTK_f, andFK_t, andFK_f, orFK_t, orFK_f, notFK_bl, ifFK_t, ifFK_f, ifSK_t, ifSK_f, itemK1_tm, itemK1, somePK_int, tupK, lstK, lendK_some, seqIK_tup, seqIK_lst, seqIK_rol, enumK_tup, enumK_lst, chainK_t, chainK_f, setIK_c0, setIK_c1, setIK_c2, setIK_c3, setIK_c4, putIK2_some, appK_0, appK2_lst, eqD_ii, eqD_ss, eqD_bb, neD_ii, neD_ss, lcE_c, lcK_ok, rangeD_len, wipeE, getS_0, getS_s, loadV_tm, loadV, stab, peek, viewD, subS, putS, sub, put, kid, setKid, addD_tt, addD_ll, shrC, ltD, gtD, isN, isND, notND, lenC_tup, lenC_lst, lenC_rol, listC_tup, listC_lst, listC_rol, tupleC_tup, tupleC_lst, tupleC_rol, intC_int, intC_bl, item, itemK, optV, kidV, takeL, giveL, bck, putN, nameG, nilG, consG, tupG, negD, isLst, sizeLine_eq, isiD, isi2D, typeD, moveK_some, itemD_lst, itemD_tup] <;> simp [List.map_take, List.map_drop]
theorem tups_len {vs : List (List Int)} : (tups vs).length = vs.length := by simp [tups]
theorem lsts_len {vs : List (List Int)} : (lsts vs).length = vs.length := by simp [lsts]
theorem tups_at {vs : List (List Int)} {k : Nat} (h : k < vs.length) : (tups vs)[k]? = some (.tup ((vs.getD k []).map .int)) := by simp [tups, List.getElem?_map, List.getElem?_eq_getElem h]
theorem lsts_at {vs : List (List Int)} {k : Nat} (h : k < vs.length) : (lsts vs)[k]? = some (.lst ((vs.getD k []).map .int)) := by simp [lsts, List.getElem?_map, List.getElem?_eq_getElem h]
theorem set_tups {vs : List (List Int)} {k : Nat} {l : List Int} : ((tups vs).map O.fz).set k (.fz (.tup (l.map .int))) = (tups (vs.set k l)).map O.fz := by simp [tups, List.map_set]
theorem set_lsts {vs : List (List Int)} {k : Nat} {l : List Int} : ((lsts vs).map O.fz).set k (.fz (.lst (l.map .int))) = (lsts (vs.set k l)).map O.fz := by simp [lsts, List.map_set]
theorem set_tups0 {vs : List (List Int)} {k : Nat} : ((tups vs).map O.fz).set k (.fz (.tup [])) = (tups (vs.set k [])).map O.fz := set_tups (l := [])
theorem set_lsts0 {vs : List (List Int)} {k : Nat} : ((lsts vs).map O.fz).set k (.fz (.lst [])) = (lsts (vs.set k [])).map O.fz := set_lsts (l := [])
theorem snoc_tups {vs : List (List Int)} {l : List Int} : (tups vs).map O.fz ++ [.fz (.tup (l.map .int))] = (tups (vs ++ [l])).map O.fz := by simp [tups]
theorem snoc_lsts {vs : List (List Int)} {l : List Int} : (lsts vs).map O.fz ++ [.fz (.lst (l.map .int))] = (lsts (vs ++ [l])).map O.fz := by simp [lsts]
theorem tups_get {vs : List (List Int)} {k : Nat} (h : k < (tups vs).length) : (tups vs)[k] = .tup ((vs[k]'(by rw [tups_len] at h; exact h)).map .int) := by simp [tups]
theorem lsts_get {vs : List (List Int)} {k : Nat} (h : k < (lsts vs).length) : (lsts vs)[k] = .lst ((vs[k]'(by rw [lsts_len] at h; exact h)).map .int) := by simp [lsts]
def Vs (vs : List (List Int)) : Prop := vs.length ≤ 100 ∧ ∀ l ∈ vs, l.length ≤ 100
theorem Vs.at {vs : List (List Int)} (h : Vs vs) (k : Nat) : (vs.getD k []).length ≤ 100 := by
  by_cases hk : k < vs.length
  · simp [List.getElem?_eq_getElem hk]
    exact h.2 _ (List.getElem_mem hk)
  · simp [List.getElem?_eq_none (Nat.le_of_not_lt hk)]
theorem m_harm_done (h : Harm) (hb : Bd h) (vs : List (List Int)) (hv : Vs vs) (ok : isOk h vs.length = true) : S_harm_done [some (.fz (.lst (tups vs))), some (.fz (enc h))] = .ok (.lst ((tups (step h vs)).map O.fz)) [some (.fz (.lst (tups vs))), some (.fz (enc h))] := by
  have hz : vs.length < 16777216 := by have := hv.1; omega
  have fat : ∀ v : Int, 0 ≤ v → v ≤ vs.length - 1 → atD (tups vs) v = some (.tup ((vs.getD v.toNat []).map .int)) ∧ (tups vs)[v.toNat]? = some (.tup ((vs.getD v.toNat []).map .int)) ∧ v < vs.length := fun v h0 h1 => ⟨by rw [atD_nonneg h0 (by rw [tups_len]; omega), tups_at (by omega)], tups_at (by omega), by omega⟩
  cases h with
  | lose v =>
    simp [isOk] at ok
    obtain ⟨g1, g2⟩ := ok
    obtain ⟨f1, f2, f3⟩ := fat v g1 g2
    simp [S_harm_done, s_harm_done, enc, step, sliceD, cutL, HT.sIx, tups_len, set_tups0, g1, f3, w_lose_turn, w_lose_double, w_lose_cut, w_lose_change, w_turn_lose, w_turn_double, w_turn_cut, w_turn_change, w_double_lose, w_double_turn, w_double_cut, w_double_change, w_cut_lose, w_cut_turn, w_cut_double, w_cut_change, w_change_lose, w_change_turn, w_change_double, w_change_cut, varV_c, load_c, moveE_c, seqS_c, opF_c, callE_c, fun1_c, fun1L_c, sliceF_c, setS_c, testF_c, andT_c, orT_c, notT_c, andF_c, orF_c, notF_c, ifF_c, itemV_c, noP_c, someP_c, nilA_c, consA_c, tupF_c, lstE_c, nilAr_c, valAr_c, lendAr_c, ifS_c, retS_c, retNS_c, skipS_c, bkS_c, ctS_c, asgS_c, forL_c, seqI_c, range1I_c, enumI_c, optF_c, chainF_c, setIS_c, appendS_c, raiseS_c, fzE_c, frF_c, tmV_c, cF_c, R.bind_ok, R.bind_err, seqK_nx, seqK_ret, seqK_bk, seqK_ct, seqK_err, defF_c, defK_ret, defK_nx, defK_err, opK_tt, opK_pt, ptK_some, intOp_i, intCmp_i, addD_i, tt2_t, intOp_t, divC, modC, mulC_r, ixN, callK1_some, callK2_ok, callK2_err, giveK_some, giveX_some, oneK_some, peek_tm, sliceK_tm, putK_some, opt_some, stab_tm, testK_bl, andTK_t, andTK_f, orTK_t, orTK_f, andFK_t, andFK_f, orFK_t, orFK_f, notFK_bl, ifFK_t, ifFK_f, ifSK_t, ifSK_f, itemK1_tm, itemK1, somePK_int, tupK, lstK, lendK_some, seqIK_tup, seqIK_lst, seqIK_rol, enumK_tup, enumK_lst, chainK_t, chainK_f, setIK_c0, setIK_c1, setIK_c2, setIK_c3, setIK_c4, putIK2_some, appK_0, appK2_lst, eqD_ii, eqD_ss, eqD_bb, neD_ii, neD_ss, lcE_c, lcK_ok, rangeD_len, wipeE, getS_0, getS_s, loadV_tm, loadV, stab, peek, viewD, subS, putS, sub, put, kid, setKid, addD_tt, addD_ll, shrC, ltD, gtD, isN, isND, notND, lenC_tup, lenC_lst, lenC_rol, listC_tup, listC_lst, listC_rol, tupleC_tup, tupleC_lst, tupleC_rol, intC_int, intC_bl, item, itemK, optV, kidV, takeL, giveL, bck, putN, nameG, nilG, consG, tupG, negD, isLst, sizeLine_eq, isiD, isi2D, typeD, moveK_some, itemD_lst, itemD_tup]
  | double v =>
    simp [isOk] at ok
    obtain ⟨g1, g2⟩ := ok
    obtain ⟨f1, f2, f3⟩ := fat v g1 g2
    simp [S_harm_done, s_harm_done, enc, step, sliceD, cutL, HT.sIx, tups_len, tups_get, snoc_tups, g1, f3, hz, w_lose_turn, w_lose_double, w_lose_cut, w_lose_change, w_turn_lose, w_turn_double, w_turn_cut, w_turn_change, w_double_lose, w_double_turn, w_double_cut, w_double_change, w_cut_lose, w_cut_turn, w_cut_double, w_cut_change, w_change_lose, w_change_turn, w_change_double, w_change_cut, varV_c, load_c, moveE_c, seqS_c, opF_c, callE_c, fun1_c, fun1L_c, sliceF_c, setS_c, testF_c, andT_c, orT_c, notT_c, andF_c, orF_c, notF_c, ifF_c, itemV_c, noP_c, someP_c, nilA_c, consA_c, tupF_c, lstE_c, nilAr_c, valAr_c, lendAr_c, ifS_c, retS_c, retNS_c, skipS_c, bkS_c, ctS_c, asgS_c, forL_c, seqI_c, range1I_c, enumI_c, optF_c, chainF_c, setIS_c, appendS_c, raiseS_c, fzE_c, frF_c, tmV_c, cF_c, R.bind_ok, R.bind_err, seqK_nx, seqK_ret, seqK_bk, seqK_ct, seqK_err, defF_c, defK_ret, defK_nx, defK_err, opK_tt, opK_pt, ptK_some, intOp_i, intCmp_i, addD_i, tt2_t, intOp_t, divC, modC, mulC_r, ixN, callK1_some, callK2_ok, callK2_err, giveK_some, giveX_some, oneK_some, peek_tm, sliceK_tm, putK_some, opt_some, stab_tm, testK_bl, andTK_t, andTK_f, orTK_t, orTK_f, andFK_t, andFK_f, orFK_t, orFK_f, notFK_bl, ifFK_t, ifFK_f, ifSK_t, ifSK_f, itemK1_tm, itemK1, somePK_int, tupK, lstK, lendK_some, seqIK_tup, seqIK_lst, seqIK_rol, enumK_tup, enumK_lst, chainK_t, chainK_f, setIK_c0, setIK_c1, setIK_c2, setIK_c3, setIK_c4, putIK2_some, appK_0, appK2_lst, eqD_ii, eqD_ss, eqD_bb, neD_ii, neD_ss, lcE_c, lcK_ok, rangeD_len, wipeE, getS_0, getS_s, loadV_tm, loadV, stab, peek, viewD, subS, putS, sub, put, kid, setKid, addD_tt, addD_ll, shrC, ltD, gtD, isN, isND, notND, lenC_tup, lenC_lst, lenC_rol, listC_tup, listC_lst, listC_rol, tupleC_tup, tupleC_lst, tupleC_rol, intC_int, intC_bl, item, itemK, optV, kidV, takeL, giveL, bck, putN, nameG, nilG, consG, tupG, negD, isLst, sizeLine_eq, isiD, isi2D, typeD, moveK_some, itemD_lst, itemD_tup]
  | turn v w =>
    simp [isOk] at ok
    obtain ⟨⟨g1, g2⟩, g3, g4⟩ := ok
    obtain ⟨f1, f2, f3⟩ := fat v g1 g2
    obtain ⟨f4, f5, f6⟩ := fat w g3 g4
    simp only [List.getD_eq_getElem?_getD] at f1 f2 f4 f5
    simp [S_harm_done, s_harm_done, enc, step, sliceD, cutL, HT.sIx, tups_len, tups_get, set_tups, g1, g3, f3, f6, hz, atD, w_lose_turn, w_lose_double, w_lose_cut, w_lose_change, w_turn_lose, w_turn_double, w_turn_cut, w_turn_change, w_double_lose, w_double_turn, w_double_cut, w_double_change, w_cut_lose, w_cut_turn, w_cut_double, w_cut_change, w_change_lose, w_change_turn, w_change_double, w_change_cut, varV_c, load_c, moveE_c, seqS_c, opF_c, callE_c, fun1_c, fun1L_c, sliceF_c, setS_c, testF_c, andT_c, orT_c, notT_c, andF_c, orF_c, notF_c, ifF_c, itemV_c, noP_c, someP_c, nilA_c, consA_c, tupF_c, lstE_c, nilAr_c, valAr_c, lendAr_c, ifS_c, retS_c, retNS_c, skipS_c, bkS_c, ctS_c, asgS_c, forL_c, seqI_c, range1I_c, enumI_c, optF_c, chainF_c, setIS_c, appendS_c, raiseS_c, fzE_c, frF_c, tmV_c, cF_c, R.bind_ok, R.bind_err, seqK_nx, seqK_ret, seqK_bk, seqK_ct, seqK_err, defF_c, defK_ret, defK_nx, defK_err, opK_tt, opK_pt, ptK_some, intOp_i, intCmp_i, addD_i, tt2_t, intOp_t, divC, modC, mulC_r, ixN, callK1_some, callK2_ok, callK2_err, giveK_some, giveX_some, oneK_some, peek_tm, sliceK_tm, putK_some, opt_some, stab_tm, testK_bl, andTK_t, andTK_f, orTK_t, orTK_f, andFK_t, andFK_f, orFK_t, orFK_f, notFK_bl, ifFK_t, ifFK_f, ifSK_t, ifSK_f, itemK1_tm, itemK1, somePK_int, tupK, lstK, lendK_some, seqIK_tup, seqIK_lst, seqIK_rol, enumK_tup, enumK_lst, chainK_t, chainK_f, setIK_c0, setIK_c1, setIK_c2, setIK_c3, setIK_c4, putIK2_some, appK_0, appK2_lst, eqD_ii, eqD_ss, eqD_bb, neD_ii, neD_ss, lcE_c, lcK_ok, rangeD_len, wipeE, getS_0, getS_s, loadV_tm, loadV, stab, peek, viewD, subS, putS, sub, put, kid, setKid, addD_tt, addD_ll, shrC, ltD, gtD, isN, isND, notND, lenC_tup, lenC_lst, lenC_rol, listC_tup, listC_lst, listC_rol, tupleC_tup, tupleC_lst, tupleC_rol, intC_int, intC_bl, item, itemK, optV, kidV, takeL, giveL, bck, putN, nameG, nilG, consG, tupG, negD, isLst, sizeLine_eq, isiD, isi2D, typeD, moveK_some, itemD_lst, itemD_tup]
  | cut v b e =>
    simp [isOk] at ok
    obtain ⟨⟨g1, g2⟩, g3, g4⟩ := ok
    obtain ⟨f1, f2, f3⟩ := fat v g1 g2
    have fl := hv.at v.toNat
    have hk : v.toNat < vs.length := by omega
    rw [List.getD_eq_getElem?_getD, List.getElem?_eq_getElem hk, Option.getD_some] at fl
    have e2 : ∀ ys : List D, cutL ys none (some b) = ys.take b.toNat := fun ys => cut_lo _ _ g3
    have e3 : ∀ ys : List D, cutL ys (some e) none = ys.drop e.toNat := fun ys => cut_hi _ _ (by omega)
    have a1 : addD (.tup (((vs[v.toNat]).map D.int).take b.toNat)) (.tup (((vs[v.toNat]).map D.int).drop e.toNat)) = some (.tup (((vs[v.toNat]).take b.toNat ++ (vs[v.toNat]).drop e.toNat).map D.int)) := by
      rw [addD_tt (by rw [sizeLine_eq]; simp; omega)]; simp [List.map_take, List.map_drop]
    have e5 : ∀ ys : List D, cutL ys none (some 2) = ys.take 2 := fun ys => cut_lo _ _ (by decide)
    simp [S_harm_done, s_harm_done, enc, step, sliceD, e2, e3, e5, a1, tups_len, tups_get, set_tups, g1, f3, hz, atD, w_lose_turn, w_lose_double, w_lose_cut, w_lose_change, w_turn_lose, w_turn_double, w_turn_cut, w_turn_change, w_double_lose, w_double_turn, w_double_cut, w_double_change, w_cut_lose, w_cut_turn, w_cut_double, w_cut_change, w_change_lose, w_change_turn, w_change_double, w_change_cut, -List.map_append, varV_c, load_c, moveE_c, seqS_c, opF_c, callE_c, fun1_c, fun1L_c, sliceF_c, setS_c, testF_c, andT_c, orT_c, notT_c, andF_c, orF_c, notF_c, ifF_c, itemV_c, noP_c, someP_c, nilA_c, consA_c, tupF_c, lstE_c, nilAr_c, valAr_c, lendAr_c, ifS_c, retS_c, retNS_c, skipS_c, bkS_c, ctS_c, asgS_c, forL_c, seqI_c, range1I_c, enumI_c, optF_c, chainF_c, setIS_c, appendS_c, raiseS_c, fzE_c, frF_c, tmV_c, cF_c, R.bind_ok, R.bind_err, seqK_nx, seqK_ret, seqK_bk, seqK_ct, seqK_err, defF_c, defK_ret, defK_nx, defK_err, opK_tt, opK_pt, ptK_some, intOp_i, intCmp_i, addD_i, tt2_t, intOp_t, divC, modC, mulC_r, ixN, callK1_some, callK2_ok, callK2_err, giveK_some, giveX_some, oneK_some, peek_tm, sliceK_tm, putK_some, opt_some, stab_tm, testK_bl, andTK_t, andTK_f, orTK_t, orTK_f, andFK_t, andFK_f, orFK_t, orFK_f, notFK_bl, ifFK_t, ifFK_f, ifSK_t, ifSK_f, itemK1_tm, itemK1, somePK_int, tupK, lstK, lendK_some, seqIK_tup, seqIK_lst, seqIK_rol, enumK_tup, enumK_lst, chainK_t, chainK_f, setIK_c0, setIK_c1, setIK_c2, setIK_c3, setIK_c4, putIK2_some, appK_0, appK2_lst, eqD_ii, eqD_ss, eqD_bb, neD_ii, neD_ss, lcE_c, lcK_ok, rangeD_len, wipeE, getS_0, getS_s, loadV_tm, loadV, stab, peek, viewD, subS, putS, sub, put, kid, setKid, addD_tt, addD_ll, shrC, ltD, gtD, isN, isND, notND, lenC_tup, lenC_lst, lenC_rol, listC_tup, listC_lst, listC_rol, tupleC_tup, tupleC_lst, tupleC_rol, intC_int, intC_bl, item, itemK, optV, kidV, takeL, giveL, bck, putN, nameG, nilG, consG, tupG, negD, isLst, sizeLine_eq, isiD, isi2D, typeD, moveK_some, itemD_lst, itemD_tup]
  | change v p t xs =>
    simp [isOk] at ok
    obtain ⟨⟨g1, g2⟩, g3, g4⟩ := ok
    obtain ⟨f1, f2, f3⟩ := fat v g1 g2
    have fl := hv.at v.toNat
    have hk : v.toNat < vs.length := by omega
    rw [List.getD_eq_getElem?_getD, List.getElem?_eq_getElem hk, Option.getD_some] at fl
    have e1 := m_changed (vs[v.toNat]) p g3 t xs (by omega) hb.2.2.1
    have e5 : ∀ ys : List D, cutL ys none (some 2) = ys.take 2 := fun ys => cut_lo _ _ (by decide)
    simp [S_harm_done, s_harm_done, enc, step, sliceD, e1, e5, tups_len, tups_get, set_tups, g1, f3, hz, atD, w_lose_turn, w_lose_double, w_lose_cut, w_lose_change, w_turn_lose, w_turn_double, w_turn_cut, w_turn_change, w_double_lose, w_double_turn, w_double_cut, w_double_change, w_cut_lose, w_cut_turn, w_cut_double, w_cut_change, w_change_lose, w_change_turn, w_change_double, w_change_cut, varV_c, load_c, moveE_c, seqS_c, opF_c, callE_c, fun1_c, fun1L_c, sliceF_c, setS_c, testF_c, andT_c, orT_c, notT_c, andF_c, orF_c, notF_c, ifF_c, itemV_c, noP_c, someP_c, nilA_c, consA_c, tupF_c, lstE_c, nilAr_c, valAr_c, lendAr_c, ifS_c, retS_c, retNS_c, skipS_c, bkS_c, ctS_c, asgS_c, forL_c, seqI_c, range1I_c, enumI_c, optF_c, chainF_c, setIS_c, appendS_c, raiseS_c, fzE_c, frF_c, tmV_c, cF_c, R.bind_ok, R.bind_err, seqK_nx, seqK_ret, seqK_bk, seqK_ct, seqK_err, defF_c, defK_ret, defK_nx, defK_err, opK_tt, opK_pt, ptK_some, intOp_i, intCmp_i, addD_i, tt2_t, intOp_t, divC, modC, mulC_r, ixN, callK1_some, callK2_ok, callK2_err, giveK_some, giveX_some, oneK_some, peek_tm, sliceK_tm, putK_some, opt_some, stab_tm, testK_bl, andTK_t, andTK_f, orTK_t, orTK_f, andFK_t, andFK_f, orFK_t, orFK_f, notFK_bl, ifFK_t, ifFK_f, ifSK_t, ifSK_f, itemK1_tm, itemK1, somePK_int, tupK, lstK, lendK_some, seqIK_tup, seqIK_lst, seqIK_rol, enumK_tup, enumK_lst, chainK_t, chainK_f, setIK_c0, setIK_c1, setIK_c2, setIK_c3, setIK_c4, putIK2_some, appK_0, appK2_lst, eqD_ii, eqD_ss, eqD_bb, neD_ii, neD_ss, lcE_c, lcK_ok, rangeD_len, wipeE, getS_0, getS_s, loadV_tm, loadV, stab, peek, viewD, subS, putS, sub, put, kid, setKid, addD_tt, addD_ll, shrC, ltD, gtD, isN, isND, notND, lenC_tup, lenC_lst, lenC_rol, listC_tup, listC_lst, listC_rol, tupleC_tup, tupleC_lst, tupleC_rol, intC_int, intC_bl, item, itemK, optV, kidV, takeL, giveL, bck, putN, nameG, nilG, consG, tupG, negD, isLst, sizeLine_eq, isiD, isi2D, typeD, moveK_some, itemD_lst, itemD_tup]
end DL.GW50
end

section
set_option Elab.async false
set_option linter.all false
set_option maxRecDepth 100000
set_option maxHeartbeats 4000000
namespace DL.GW50
open PySem L2
/-- one integer after another is put -/
def puts (l : List Int) (p : Nat) : List Int → List Int
  | [] => l
  | x :: xs => puts (if p < l.length then l.set p x else l) (p + 1) xs
theorem chg_nil (l : List Int) (p : Nat) : chg l p [] = l := by simp [chg]
theorem chg_cons (l : List Int) (p : Nat) (x : Int) (xs : List Int) : chg l p (x :: xs) = chg (if p < l.length then l.set p x else l) (p + 1) xs := by
  by_cases h : p < l.length
  · rw [if_pos h]
    have h1 : l.length - p = (l.length - (p + 1)) + 1 := by omega
    have t1 : (l.set p x).take (p + 1) = l.take p ++ [x] := by
      rw [List.set_eq_take_append_cons_drop, if_pos h, List.take_append]
      simp [Nat.min_eq_left (Nat.le_of_lt h)]
      exact List.take_of_length_le (by simp; omega)
    have t2 : ∀ n, (l.set p x).drop (p + 1 + n) = l.drop (p + 1 + n) := fun n => by
      rw [List.drop_set, if_pos (by omega)]
    simp only [chg, List.length_set]
    rw [h1, List.take_succ_cons, t1, t2]
    simp only [List.length_cons, List.append_assoc, List.cons_append, List.nil_append]
    congr 4
    omega
  · rw [if_neg h]
    have h1 : l.length - p = 0 := by omega
    have h2 : l.length - (p + 1) = 0 := by omega
    simp [chg, h1, h2, List.take_of_length_le (show l.length ≤ p by omega), List.take_of_length_le (show l.length ≤ p + 1 by omega), List.drop_eq_nil_of_le (show l.length ≤ p by omega), List.drop_eq_nil_of_le (show l.length ≤ p + 1 by omega)]
theorem puts_chg : ∀ (xs : List Int) (l : List Int) (p : Nat), puts l p xs = chg l p xs
  | [], l, p => (chg_nil l p).symm
  | x :: xs, l, p => by rw [puts, puts_chg xs, chg_cons]
theorem rangeD_at {n j : Nat} (h : j < n) : (rangeD 0 n).drop j = .int j :: (rangeD 0 n).drop (j + 1) := by
  rw [List.drop_eq_getElem_cons (by rw [rangeD_len]; exact h)]
  simp [rangeD]
def fzi (l : List Int) : List O := l.map fun x => .fz (.int x)
theorem fzi_len {l : List Int} : (fzi l).length = l.length := by simp [fzi]
theorem fzi_map (l : List Int) : (l.map D.int).map O.fz = fzi l := by simp [fzi]
theorem fzi_comp (l : List Int) : l.map (O.fz ∘ D.int) = fzi l := .trans rfl rfl
theorem fzi_set {l : List Int} {k : Nat} {x : Int} : (fzi l).set k (.fz (.int x)) = fzi (l.set k x) := by simp [fzi, List.map_set]
theorem fzi_frz {l : List Int} : (fzi l).map frz = l.map D.int := by simp [fzi]
theorem fzi_vf {l : List Int} : (fzi l).map vf = fzi l := by simp [fzi]
theorem vd_at {t : Bool} {xs : List Int} {j : Nat} (h : j < xs.length) : itemD (vd t xs) (.int j) = some (.int xs[j]) := by
  cases t <;> (simp only [vd, if_true, if_false, Bool.false_eq_true, itemD_lst, itemD_tup]; rw [atD_nonneg (by omega) (by simp; exact h)]; simp [h])
/-- the loop of a change in the law -/
theorem chg_loop (V : O) (v p : Int) (hp : 0 ≤ p) (t : Bool) (xs l : List Int) (hl : l.length ≤ 100) (hx : xs.length ≤ 5) (e4 : O) :
    ∃ z, forS (nameG 5) (ifS (testF (opF ltD (tmV (opF addD (itemV (varV 1) (cF (.int 2)) true) (varV 5) true)) (tmV (fun1 lenC (varV 4))) true)) (setIS (fzE (load (itemV (itemV (varV 1) (cF (.int 3)) true) (load (varV 5)) true))) (varV 4) (opF addD (itemV (varV 1) (cF (.int 2)) true) (varV 5) true) false) (skipS)) (rangeD 0 xs.length)
      [some V, some (.fz (enc (.change v p t xs))), some (.fz (.int v)), some e4, some (.lst (fzi l)), none] = .ok .nx [some V, some (.fz (enc (.change v p t xs))), some (.fz (.int v)), some e4, some (.lst (fzi (chg l p.toNat xs))), z] := by
  obtain ⟨e, h1, j, k, z, h2, h3, h4, h5⟩ := forS_inv (I := fun ds env => ∃ (j : Nat) (k : List Int) (z : Option O), ds = (rangeD 0 xs.length).drop j ∧ env = [some V, some (.fz (enc (.change v p t xs))), some (.fz (.int v)), some e4, some (.lst (fzi k)), z] ∧ puts k (p.toNat + j) (xs.drop j) = puts l p.toNat xs ∧ k.length = l.length) (g := nameG 5) (f := (ifS (testF (opF ltD (tmV (opF addD (itemV (varV 1) (cF (.int 2)) true) (varV 5) true)) (tmV (fun1 lenC (varV 4))) true)) (setIS (fzE (load (itemV (itemV (varV 1) (cF (.int 3)) true) (load (varV 5)) true))) (varV 4) (opF addD (itemV (varV 1) (cF (.int 2)) true) (varV 5) true) false) (skipS)))
    (ds := rangeD 0 xs.length) (env := [some V, some (.fz (enc (.change v p t xs))), some (.fz (.int v)), some e4, some (.lst (fzi l)), none]) (fun d rest env ⟨j, k, z, h1, h2, h3, h4⟩ => by
      have hj : j < xs.length := by
        apply Classical.byContradiction
        intro hn
        rw [List.drop_eq_nil_of_le (by rw [rangeD_len]; omega)] at h1
        cases h1
      rw [rangeD_at hj] at h1
      obtain ⟨rfl, rfl⟩ := List.cons.inj h1
      subst h2
      have hd : xs.drop j = xs[j] :: xs.drop (j + 1) := List.drop_eq_getElem_cons hj
      rw [hd, puts] at h3
      refine ⟨_, [some V, some (.fz (enc (.change v p t xs))), some (.fz (.int v)), some e4, some (.lst (fzi (if p.toNat + j < k.length then k.set (p.toNat + j) xs[j] else k))), some (.fz (.int j))], rfl, .inl ?_, j + 1, _, _, rfl, rfl, h3, by split <;> simp [h4]⟩
      have hv := vd_at (t := t) hj
      by_cases hlt : p + j < k.length
      · have h6 : p.toNat + j < k.length := by omega
        have h7 : (p + (j : Int)).toNat = p.toNat + j := by omega
        have h8 : 0 ≤ p + (j : Int) := by omega
        simp [enc, hlt, h6, h7, h8, hv, fzi_len, fzi_set, fzi_vf, atD, varV_c, load_c, moveE_c, seqS_c, opF_c, callE_c, fun1_c, fun1L_c, sliceF_c, setS_c, testF_c, andT_c, orT_c, notT_c, andF_c, orF_c, notF_c, ifF_c, itemV_c, noP_c, someP_c, nilA_c, consA_c, tupF_c, lstE_c, nilAr_c, valAr_c, lendAr_c, ifS_c, retS_c, retNS_c, skipS_c, bkS_c, ctS_c, asgS_c, forL_c, seqI_c, range1I_c, enumI_c, optF_c, chainF_c, setIS_c, appendS_c, raiseS_c, fzE_c, frF_c, tmV_c, cF_c, R.bind_ok, R.bind_err, seqK_nx, seqK_ret, seqK_bk, seqK_ct, seqK_err, defF_c, defK_ret, defK_nx, defK_err, opK_tt, opK_pt, ptK_some, intOp_i, intCmp_i, addD_i, tt2_t, intOp_t, divC, modC, mulC_r, ixN, callK1_some, callK2_ok, callK2_err, giveK_some, giveX_some, oneK_some, peek_tm, sliceK_tm, putK_some, opt_some, stab_tm, testK_bl, andTK_t, andTK_f, orTK_t, orTK_f, andFK_t, andFK_f, orFK_t, orFK_f, notFK_bl, ifFK_t, ifFK_f, ifSK_t, ifSK_f, itemK1_tm, itemK1, somePK_int, tupK, lstK, lendK_some, seqIK_tup, seqIK_lst, seqIK_rol, enumK_tup, enumK_lst, chainK_t, chainK_f, setIK_c0, setIK_c1, setIK_c2, setIK_c3, setIK_c4, putIK2_some, appK_0, appK2_lst, eqD_ii, eqD_ss, eqD_bb, neD_ii, neD_ss, lcE_c, lcK_ok, rangeD_len, wipeE, getS_0, getS_s, loadV_tm, loadV, stab, peek, viewD, subS, putS, sub, put, kid, setKid, addD_tt, addD_ll, shrC, ltD, gtD, isN, isND, notND, lenC_tup, lenC_lst, lenC_rol, listC_tup, listC_lst, listC_rol, tupleC_tup, tupleC_lst, tupleC_rol, intC_int, intC_bl, item, itemK, optV, kidV, takeL, giveL, bck, putN, nameG, nilG, consG, tupG, negD, isLst, sizeLine_eq, isiD, isi2D, typeD, moveK_some, itemD_lst, itemD_tup]
      · have h6 : ¬ p.toNat + j < k.length := by omega
        simp [enc, hlt, h6, fzi_len, fzi_vf, atD, varV_c, load_c, moveE_c, seqS_c, opF_c, callE_c, fun1_c, fun1L_c, sliceF_c, setS_c, testF_c, andT_c, orT_c, notT_c, andF_c, orF_c, notF_c, ifF_c, itemV_c, noP_c, someP_c, nilA_c, consA_c, tupF_c, lstE_c, nilAr_c, valAr_c, lendAr_c, ifS_c, retS_c, retNS_c, skipS_c, bkS_c, ctS_c, asgS_c, forL_c, seqI_c, range1I_c, enumI_c, optF_c, chainF_c, setIS_c, appendS_c, raiseS_c, fzE_c, frF_c, tmV_c, cF_c, R.bind_ok, R.bind_err, seqK_nx, seqK_ret, seqK_bk, seqK_ct, seqK_err, defF_c, defK_ret, defK_nx, defK_err, opK_tt, opK_pt, ptK_some, intOp_i, intCmp_i, addD_i, tt2_t, intOp_t, divC, modC, mulC_r, ixN, callK1_some, callK2_ok, callK2_err, giveK_some, giveX_some, oneK_some, peek_tm, sliceK_tm, putK_some, opt_some, stab_tm, testK_bl, andTK_t, andTK_f, orTK_t, orTK_f, andFK_t, andFK_f, orFK_t, orFK_f, notFK_bl, ifFK_t, ifFK_f, ifSK_t, ifSK_f, itemK1_tm, itemK1, somePK_int, tupK, lstK, lendK_some, seqIK_tup, seqIK_lst, seqIK_rol, enumK_tup, enumK_lst, chainK_t, chainK_f, setIK_c0, setIK_c1, setIK_c2, setIK_c3, setIK_c4, putIK2_some, appK_0, appK2_lst, eqD_ii, eqD_ss, eqD_bb, neD_ii, neD_ss, lcE_c, lcK_ok, rangeD_len, wipeE, getS_0, getS_s, loadV_tm, loadV, stab, peek, viewD, subS, putS, sub, put, kid, setKid, addD_tt, addD_ll, shrC, ltD, gtD, isN, isND, notND, lenC_tup, lenC_lst, lenC_rol, listC_tup, listC_lst, listC_rol, tupleC_tup, tupleC_lst, tupleC_rol, intC_int, intC_bl, item, itemK, optV, kidV, takeL, giveL, bck, putN, nameG, nilG, consG, tupG, negD, isLst, sizeLine_eq, isiD, isi2D, typeD, moveK_some, itemD_lst, itemD_tup]) ⟨0, l, none, rfl, rfl, rfl, rfl⟩
  have hj : xs.length ≤ j := by
    have := congrArg List.length h2
    simp [rangeD_len] at this
    omega
  rw [List.drop_eq_nil_of_le hj, puts, puts_chg] at h4
  subst h4
  exact ⟨z, by rw [h1, h3]⟩
theorem frz_vf (o : O) : frz (vf o) = frz o := by simp [vf]
theorem frz_fzi (l : List Int) : frz (.lst (fzi l)) = .lst (l.map .int) := by simp [fzi, Function.comp_def]
theorem done_frz {vs : List (List Int)} {k : Nat} {o : O} {l : List Int} (h : frz o = .lst (l.map .int)) : (((lsts vs).map O.fz).set k o).map frz = lsts (vs.set k l) := by
  rw [List.map_set, frz_fzs, h]; simp [lsts, List.map_set]
theorem m_ld_lose (v : Int) (hb : Bd (.lose v)) (vs : List (List Int)) (hv : Vs vs) (ok : isOk (.lose v) vs.length = true) : ∃ os, os.map frz = lsts (step (.lose v) vs) ∧ S__law_done [some (.fz (.lst (lsts vs))), some (.fz (enc (.lose v)))] = .ok (.lst os) [none, some (.fz (enc (.lose v)))] := by
  have hz : vs.length < 16777216 := by have := hv.1; omega
  simp [isOk] at ok
  obtain ⟨g1, g2⟩ := ok
  have f3 : v < vs.length := by omega
  exact ⟨((lsts vs).map O.fz).set v.toNat (.lst []), done_frz (l := []) (by simp), by simp [S__law_done, s__law_done, enc, atD, lsts_len, lsts_get, g1, f3, w_lose_turn, w_lose_double, w_lose_cut, w_lose_change, w_turn_lose, w_turn_double, w_turn_cut, w_turn_change, w_double_lose, w_double_turn, w_double_cut, w_double_change, w_cut_lose, w_cut_turn, w_cut_double, w_cut_change, w_change_lose, w_change_turn, w_change_double, w_change_cut, varV_c, load_c, moveE_c, seqS_c, opF_c, callE_c, fun1_c, fun1L_c, sliceF_c, setS_c, testF_c, andT_c, orT_c, notT_c, andF_c, orF_c, notF_c, ifF_c, itemV_c, noP_c, someP_c, nilA_c, consA_c, tupF_c, lstE_c, nilAr_c, valAr_c, lendAr_c, ifS_c, retS_c, retNS_c, skipS_c, bkS_c, ctS_c, asgS_c, forL_c, seqI_c, range1I_c, enumI_c, optF_c, chainF_c, setIS_c, appendS_c, raiseS_c, fzE_c, frF_c, tmV_c, cF_c, R.bind_ok, R.bind_err, seqK_nx, seqK_ret, seqK_bk, seqK_ct, seqK_err, defF_c, defK_ret, defK_nx, defK_err, opK_tt, opK_pt, ptK_some, intOp_i, intCmp_i, addD_i, tt2_t, intOp_t, divC, modC, mulC_r, ixN, callK1_some, callK2_ok, callK2_err, giveK_some, giveX_some, oneK_some, peek_tm, sliceK_tm, putK_some, opt_some, stab_tm, testK_bl, andTK_t, andTK_f, orTK_t, orTK_f, andFK_t, andFK_f, orFK_t, orFK_f, notFK_bl, ifFK_t, ifFK_f, ifSK_t, ifSK_f, itemK1_tm, itemK1, somePK_int, tupK, lstK, lendK_some, seqIK_tup, seqIK_lst, seqIK_rol, enumK_tup, enumK_lst, chainK_t, chainK_f, setIK_c0, setIK_c1, setIK_c2, setIK_c3, setIK_c4, putIK2_some, appK_0, appK2_lst, eqD_ii, eqD_ss, eqD_bb, neD_ii, neD_ss, lcE_c, lcK_ok, rangeD_len, wipeE, getS_0, getS_s, loadV_tm, loadV, stab, peek, viewD, subS, putS, sub, put, kid, setKid, addD_tt, addD_ll, shrC, ltD, gtD, isN, isND, notND, lenC_tup, lenC_lst, lenC_rol, listC_tup, listC_lst, listC_rol, tupleC_tup, tupleC_lst, tupleC_rol, intC_int, intC_bl, item, itemK, optV, kidV, takeL, giveL, bck, putN, nameG, nilG, consG, tupG, negD, isLst, sizeLine_eq, isiD, isi2D, typeD, moveK_some, itemD_lst, itemD_tup]⟩
theorem m_ld_double (v : Int) (hb : Bd (.double v)) (vs : List (List Int)) (hv : Vs vs) (ok : isOk (.double v) vs.length = true) : ∃ os, os.map frz = lsts (step (.double v) vs) ∧ S__law_done [some (.fz (.lst (lsts vs))), some (.fz (enc (.double v)))] = .ok (.lst os) [none, some (.fz (enc (.double v)))] := by
  have hz : vs.length < 16777216 := by have := hv.1; omega
  simp [isOk] at ok
  obtain ⟨g1, g2⟩ := ok
  have f3 : v < vs.length := by omega
  have hk : v.toNat < vs.length := by omega
  refine ⟨(lsts vs).map O.fz ++ [.lst (fzi vs[v.toNat])], by rw [List.map_append, frz_fzs, List.map_singleton, frz_fzi]; simp [step, lsts, List.getElem?_eq_getElem hk], by simp [S__law_done, s__law_done, enc, atD, lsts_len, lsts_get, g1, f3, hz, fzi, w_lose_turn, w_lose_double, w_lose_cut, w_lose_change, w_turn_lose, w_turn_double, w_turn_cut, w_turn_change, w_double_lose, w_double_turn, w_double_cut, w_double_change, w_cut_lose, w_cut_turn, w_cut_double, w_cut_change, w_change_lose, w_change_turn, w_change_double, w_change_cut, varV_c, load_c, moveE_c, seqS_c, opF_c, callE_c, fun1_c, fun1L_c, sliceF_c, setS_c, testF_c, andT_c, orT_c, notT_c, andF_c, orF_c, notF_c, ifF_c, itemV_c, noP_c, someP_c, nilA_c, consA_c, tupF_c, lstE_c, nilAr_c, valAr_c, lendAr_c, ifS_c, retS_c, retNS_c, skipS_c, bkS_c, ctS_c, asgS_c, forL_c, seqI_c, range1I_c, enumI_c, optF_c, chainF_c, setIS_c, appendS_c, raiseS_c, fzE_c, frF_c, tmV_c, cF_c, R.bind_ok, R.bind_err, seqK_nx, seqK_ret, seqK_bk, seqK_ct, seqK_err, defF_c, defK_ret, defK_nx, defK_err, opK_tt, opK_pt, ptK_some, intOp_i, intCmp_i, addD_i, tt2_t, intOp_t, divC, modC, mulC_r, ixN, callK1_some, callK2_ok, callK2_err, giveK_some, giveX_some, oneK_some, peek_tm, sliceK_tm, putK_some, opt_some, stab_tm, testK_bl, andTK_t, andTK_f, orTK_t, orTK_f, andFK_t, andFK_f, orFK_t, orFK_f, notFK_bl, ifFK_t, ifFK_f, ifSK_t, ifSK_f, itemK1_tm, itemK1, somePK_int, tupK, lstK, lendK_some, seqIK_tup, seqIK_lst, seqIK_rol, enumK_tup, enumK_lst, chainK_t, chainK_f, setIK_c0, setIK_c1, setIK_c2, setIK_c3, setIK_c4, putIK2_some, appK_0, appK2_lst, eqD_ii, eqD_ss, eqD_bb, neD_ii, neD_ss, lcE_c, lcK_ok, rangeD_len, wipeE, getS_0, getS_s, loadV_tm, loadV, stab, peek, viewD, subS, putS, sub, put, kid, setKid, addD_tt, addD_ll, shrC, ltD, gtD, isN, isND, notND, lenC_tup, lenC_lst, lenC_rol, listC_tup, listC_lst, listC_rol, tupleC_tup, tupleC_lst, tupleC_rol, intC_int, intC_bl, item, itemK, optV, kidV, takeL, giveL, bck, putN, nameG, nilG, consG, tupG, negD, isLst, sizeLine_eq, isiD, isi2D, typeD, moveK_some, itemD_lst, itemD_tup]⟩
theorem m_ld_turn (v : Int) (w : Int) (hb : Bd (.turn v w)) (vs : List (List Int)) (hv : Vs vs) (ok : isOk (.turn v w) vs.length = true) : ∃ os, os.map frz = lsts (step (.turn v w) vs) ∧ S__law_done [some (.fz (.lst (lsts vs))), some (.fz (enc (.turn v w)))] = .ok (.lst os) [none, some (.fz (enc (.turn v w)))] := by
  have hz : vs.length < 16777216 := by have := hv.1; omega
  simp [isOk] at ok
  obtain ⟨⟨g1, g2⟩, g3, g4⟩ := ok
  have f3 : v < vs.length := by omega
  have f6 : w < vs.length := by omega
  have hk : v.toNat < vs.length := by omega
  have hk2 : w.toNat < vs.length := by omega
  exact ⟨(lsts (step (.turn v w) vs)).map O.fz, frz_fzs _, by simp [S__law_done, s__law_done, enc, step, atD, lsts_len, lsts_get, set_lsts, g1, g3, f3, f6, w_lose_turn, w_lose_double, w_lose_cut, w_lose_change, w_turn_lose, w_turn_double, w_turn_cut, w_turn_change, w_double_lose, w_double_turn, w_double_cut, w_double_change, w_cut_lose, w_cut_turn, w_cut_double, w_cut_change, w_change_lose, w_change_turn, w_change_double, w_change_cut, varV_c, load_c, moveE_c, seqS_c, opF_c, callE_c, fun1_c, fun1L_c, sliceF_c, setS_c, testF_c, andT_c, orT_c, notT_c, andF_c, orF_c, notF_c, ifF_c, itemV_c, noP_c, someP_c, nilA_c, consA_c, tupF_c, lstE_c, nilAr_c, valAr_c, lendAr_c, ifS_c, retS_c, retNS_c, skipS_c, bkS_c, ctS_c, asgS_c, forL_c, seqI_c, range1I_c, enumI_c, optF_c, chainF_c, setIS_c, appendS_c, raiseS_c, fzE_c, frF_c, tmV_c, cF_c, R.bind_ok, R.bind_err, seqK_nx, seqK_ret, seqK_bk, seqK_ct, seqK_err, defF_c, defK_ret, defK_nx, defK_err, opK_tt, opK_pt, ptK_some, intOp_i, intCmp_i, addD_i, tt2_t, intOp_t, divC, modC, mulC_r, ixN, callK1_some, callK2_ok, callK2_err, giveK_some, giveX_some, oneK_some, peek_tm, sliceK_tm, putK_some, opt_some, stab_tm, testK_bl, andTK_t, andTK_f, orTK_t, orTK_f, andFK_t, andFK_f, orFK_t, orFK_f, notFK_bl, ifFK_t, ifFK_f, ifSK_t, ifSK_f, itemK1_tm, itemK1, somePK_int, tupK, lstK, lendK_some, seqIK_tup, seqIK_lst, seqIK_rol, enumK_tup, enumK_lst, chainK_t, chainK_f, setIK_c0, setIK_c1, setIK_c2, setIK_c3, setIK_c4, putIK2_some, appK_0, appK2_lst, eqD_ii, eqD_ss, eqD_bb, neD_ii, neD_ss, lcE_c, lcK_ok, rangeD_len, wipeE, getS_0, getS_s, loadV_tm, loadV, stab, peek, viewD, subS, putS, sub, put, kid, setKid, addD_tt, addD_ll, shrC, ltD, gtD, isN, isND, notND, lenC_tup, lenC_lst, lenC_rol, listC_tup, listC_lst, listC_rol, tupleC_tup, tupleC_lst, tupleC_rol, intC_int, intC_bl, item, itemK, optV, kidV, takeL, giveL, bck, putN, nameG, nilG, consG, tupG, negD, isLst, sizeLine_eq, isiD, isi2D, typeD, moveK_some, itemD_lst, itemD_tup]⟩
theorem m_ld_cut (v : Int) (b : Int) (e : Int) (hb : Bd (.cut v b e)) (vs : List (List Int)) (hv : Vs vs) (ok : isOk (.cut v b e) vs.length = true) : ∃ os, os.map frz = lsts (step (.cut v b e) vs) ∧ S__law_done [some (.fz (.lst (lsts vs))), some (.fz (enc (.cut v b e)))] = .ok (.lst os) [none, some (.fz (enc (.cut v b e)))] := by
  have hz : vs.length < 16777216 := by have := hv.1; omega
  simp [isOk] at ok
  obtain ⟨⟨g1, g2⟩, g3, g4⟩ := ok
  have f3 : v < vs.length := by omega
  have hk : v.toNat < vs.length := by omega
  have fl := hv.at v.toNat
  rw [List.getD_eq_getElem?_getD, List.getElem?_eq_getElem hk, Option.getD_some] at fl
  have e2 : ∀ ys : List D, cutL ys none (some b) = ys.take b.toNat := fun ys => cut_lo _ _ g3
  have e3 : ∀ ys : List D, cutL ys (some e) none = ys.drop e.toNat := fun ys => cut_hi _ _ (by omega)
  have a1 : addD (.lst (((vs[v.toNat]).map D.int).take b.toNat)) (.lst (((vs[v.toNat]).map D.int).drop e.toNat)) = some (.lst (((vs[v.toNat]).take b.toNat ++ (vs[v.toNat]).drop e.toNat).map D.int)) := by
    rw [addD_ll (by rw [sizeLine_eq]; simp; omega)]; simp [List.map_take, List.map_drop]
  exact ⟨(lsts (step (.cut v b e) vs)).map O.fz, frz_fzs _, by simp [S__law_done, s__law_done, enc, step, sliceD, e2, e3, a1, atD, lsts_len, lsts_get, set_lsts, g1, f3, w_lose_turn, w_lose_double, w_lose_cut, w_lose_change, w_turn_lose, w_turn_double, w_turn_cut, w_turn_change, w_double_lose, w_double_turn, w_double_cut, w_double_change, w_cut_lose, w_cut_turn, w_cut_double, w_cut_change, w_change_lose, w_change_turn, w_change_double, w_change_cut, -List.map_append, varV_c, load_c, moveE_c, seqS_c, opF_c, callE_c, fun1_c, fun1L_c, sliceF_c, setS_c, testF_c, andT_c, orT_c, notT_c, andF_c, orF_c, notF_c, ifF_c, itemV_c, noP_c, someP_c, nilA_c, consA_c, tupF_c, lstE_c, nilAr_c, valAr_c, lendAr_c, ifS_c, retS_c, retNS_c, skipS_c, bkS_c, ctS_c, asgS_c, forL_c, seqI_c, range1I_c, enumI_c, optF_c, chainF_c, setIS_c, appendS_c, raiseS_c, fzE_c, frF_c, tmV_c, cF_c, R.bind_ok, R.bind_err, seqK_nx, seqK_ret, seqK_bk, seqK_ct, seqK_err, defF_c, defK_ret, defK_nx, defK_err, opK_tt, opK_pt, ptK_some, intOp_i, intCmp_i, addD_i, tt2_t, intOp_t, divC, modC, mulC_r, ixN, callK1_some, callK2_ok, callK2_err, giveK_some, giveX_some, oneK_some, peek_tm, sliceK_tm, putK_some, opt_some, stab_tm, testK_bl, andTK_t, andTK_f, orTK_t, orTK_f, andFK_t, andFK_f, orFK_t, orFK_f, notFK_bl, ifFK_t, ifFK_f, ifSK_t, ifSK_f, itemK1_tm, itemK1, somePK_int, tupK, lstK, lendK_some, seqIK_tup, seqIK_lst, seqIK_rol, enumK_tup, enumK_lst, chainK_t, chainK_f, setIK_c0, setIK_c1, setIK_c2, setIK_c3, setIK_c4, putIK2_some, appK_0, appK2_lst, eqD_ii, eqD_ss, eqD_bb, neD_ii, neD_ss, lcE_c, lcK_ok, rangeD_len, wipeE, getS_0, getS_s, loadV_tm, loadV, stab, peek, viewD, subS, putS, sub, put, kid, setKid, addD_tt, addD_ll, shrC, ltD, gtD, isN, isND, notND, lenC_tup, lenC_lst, lenC_rol, listC_tup, listC_lst, listC_rol, tupleC_tup, tupleC_lst, tupleC_rol, intC_int, intC_bl, item, itemK, optV, kidV, takeL, giveL, bck, putN, nameG, nilG, consG, tupG, negD, isLst, sizeLine_eq, isiD, isi2D, typeD, moveK_some, itemD_lst, itemD_tup]⟩
theorem m_ld_ch (v p : Int) (x : D) (n : Nat) (hn : n ≤ 5) (vs : List (List Int)) (l l' : List Int) (g1 : 0 ≤ v) (f3 : v < vs.length) (hl : atD (lsts vs) v = some (.lst (l.map .int))) (z : Option O) (hx : lenC x = some (.int n))
    (e1 : forS (nameG 5) (ifS (testF (opF ltD (tmV (opF addD (itemV (varV 1) (cF (.int 2)) true) (varV 5) true)) (tmV (fun1 lenC (varV 4))) true)) (setIS (fzE (load (itemV (itemV (varV 1) (cF (.int 3)) true) (load (varV 5)) true))) (varV 4) (opF addD (itemV (varV 1) (cF (.int 2)) true) (varV 5) true) false) (skipS)) (rangeD 0 n) [some (.lst ((lsts vs).map O.fz)), some (.fz (.tup [.str "change", .int v, .int p, x])), some (.fz (.int v)), some (.fz (.lst (l.map .int))), some (.lst (fzi l)), none] = .ok .nx [some (.lst ((lsts vs).map O.fz)), some (.fz (.tup [.str "change", .int v, .int p, x])), some (.fz (.int v)), some (.fz (.lst (l.map .int))), some (.lst (fzi l')), z]) :
    S__law_done [some (.fz (.lst (lsts vs))), some (.fz (.tup [.str "change", .int v, .int p, x]))] = .ok (.lst ((lsts (vs.set v.toNat l')).map O.fz)) [none, some (.fz (.tup [.str "change", .int v, .int p, x]))] := by
  have hr : ∀ e, range1K [.int n] e = .ok (rangeD 0 n) e := fun e => by rw [range1K_ok (by omega)]; simp
  have hk : v.toNat < vs.length := by omega
  have hl2 : (lsts vs)[v.toNat]? = some (.lst (l.map .int)) := by rw [← atD_nonneg g1 (by rw [lsts_len]; exact f3)]; exact hl
  have hl3 : (lsts vs)[v.toNat]'(by rw [lsts_len]; exact hk) = .lst (l.map .int) := by
    rw [List.getElem?_eq_getElem (by rw [lsts_len]; exact hk)] at hl2
    exact Option.some.inj hl2
  have i2 : itemD (.tup [.str "change", .int v, .int p, x]) (.int 3) = some x := rfl
  have i3 : itemD (.tup [.str "change", .int v, .int p, x]) (.int 0) = some (.str "change") := rfl
  have i4 : itemD (.tup [.str "change", .int v, .int p, x]) (.int 1) = some (.int v) := rfl
  generalize hE : D.tup [.str "change", .int v, .int p, x] = E at e1 i2 i3 i4 ⊢
  simp -implicitDefEqProofs [S__law_done, s__law_done, e1, hr, hx, hl3, i2, i3, i4, lsts_len, set_lsts, fzi_map, fzi_comp, frz_fzi, fzi_frz, g1, f3, w_lose_turn, w_lose_double, w_lose_cut, w_lose_change, w_turn_lose, w_turn_double, w_turn_cut, w_turn_change, w_double_lose, w_double_turn, w_double_cut, w_double_change, w_cut_lose, w_cut_turn, w_cut_double, w_cut_change, w_change_lose, w_change_turn, w_change_double, w_change_cut, varV_c, load_c, moveE_c, seqS_c, opF_c, callE_c, fun1_c, fun1L_c, sliceF_c, setS_c, testF_c, andT_c, orT_c, notT_c, andF_c, orF_c, notF_c, ifF_c, itemV_c, noP_c, someP_c, nilA_c, consA_c, tupF_c, lstE_c, nilAr_c, valAr_c, lendAr_c, ifS_c, retS_c, retNS_c, skipS_c, bkS_c, ctS_c, asgS_c, forL_c, seqI_c, range1I_c, enumI_c, optF_c, chainF_c, setIS_c, appendS_c, raiseS_c, fzE_c, frF_c, tmV_c, cF_c, R.bind_ok, R.bind_err, seqK_nx, seqK_ret, seqK_bk, seqK_ct, seqK_err, defF_c, defK_ret, defK_nx, defK_err, opK_tt, opK_pt, ptK_some, intOp_i, intCmp_i, addD_i, tt2_t, intOp_t, divC, modC, mulC_r, ixN, callK1_some, callK2_ok, callK2_err, giveK_some, giveX_some, oneK_some, peek_tm, sliceK_tm, putK_some, opt_some, stab_tm, testK_bl, andTK_t, andTK_f, orTK_t, orTK_f, andFK_t, andFK_f, orFK_t, orFK_f, notFK_bl, ifFK_t, ifFK_f, ifSK_t, ifSK_f, itemK1_tm, itemK1, somePK_int, tupK, lstK, lendK_some, seqIK_tup, seqIK_lst, seqIK_rol, enumK_tup, enumK_lst, chainK_t, chainK_f, setIK_c0, setIK_c1, setIK_c2, setIK_c3, setIK_c4, putIK2_some, appK_0, appK2_lst, eqD_ii, eqD_ss, eqD_bb, neD_ii, neD_ss, lcE_c, lcK_ok, rangeD_len, wipeE, getS_0, getS_s, loadV_tm, loadV, stab, peek, viewD, subS, putS, sub, put, kid, setKid, addD_tt, addD_ll, shrC, ltD, gtD, isN, isND, notND, lenC_tup, lenC_lst, lenC_rol, listC_tup, listC_lst, listC_rol, tupleC_tup, tupleC_lst, tupleC_rol, intC_int, intC_bl, item, itemK, optV, kidV, takeL, giveL, bck, putN, nameG, nilG, consG, tupG, negD, isLst, sizeLine_eq, isiD, isi2D, typeD, moveK_some, itemD_lst, itemD_tup]
theorem m_ld_change (v p : Int) (t : Bool) (xs : List Int) (hb : Bd (.change v p t xs)) (vs : List (List Int)) (hv : Vs vs) (ok : isOk (.change v p t xs) vs.length = true) : ∃ os, os.map frz = lsts (step (.change v p t xs) vs) ∧ S__law_done [some (.fz (.lst (lsts vs))), some (.fz (enc (.change v p t xs)))] = .ok (.lst os) [none, some (.fz (enc (.change v p t xs)))] := by
  simp [isOk] at ok
  obtain ⟨⟨g1, g2⟩, g3, g4⟩ := ok
  have f3 : v < vs.length := by omega
  have hk : v.toNat < vs.length := by omega
  obtain ⟨z, e1⟩ := chg_loop (.lst ((lsts vs).map O.fz)) v p g3 t xs (vs.getD v.toNat []) (hv.at _) hb.2.2.1 (.fz (.lst ((vs.getD v.toNat []).map .int)))
  refine ⟨(lsts (step (.change v p t xs) vs)).map O.fz, frz_fzs _, ?_⟩
  exact m_ld_ch v p (vd t xs) xs.length hb.2.2.1 vs _ _ g1 f3 (by rw [atD_nonneg g1 (by rw [lsts_len]; exact f3), lsts_at hk]) z (by cases t <;> simp [vd, lenC, items]) e1
theorem m_law_done (h : Harm) (hb : Bd h) (vs : List (List Int)) (hv : Vs vs) (ok : isOk h vs.length = true) : ∃ os, os.map frz = lsts (step h vs) ∧ S__law_done [some (.fz (.lst (lsts vs))), some (.fz (enc h))] = .ok (.lst os) [none, some (.fz (enc h))] := by
  cases h with
  | lose v => exact m_ld_lose v hb vs hv ok
  | double v => exact m_ld_double v hb vs hv ok
  | turn v w => exact m_ld_turn v w hb vs hv ok
  | cut v b e => exact m_ld_cut v b e hb vs hv ok
  | change v p t xs => exact m_ld_change v p t xs hb vs hv ok
end DL.GW50
end

section
set_option Elab.async false
set_option linter.all false
set_option maxRecDepth 100000
set_option maxHeartbeats 4000000
namespace DL.GW50
open PySem L2
def run : Nat → List Harm → List (List Int) → Except Nat (List (List Int))
  | _, [], vs => .ok vs
  | i, h :: hs, vs => if isOk h vs.length = true then run (i + 1) hs (step h vs) else .error i
theorem frz_comp : frz ∘ O.fz = id := by funext d; simp
theorem vf_comp : vf ∘ O.fz = O.fz := by funext d; simp
theorem step_len (h : Harm) (vs : List (List Int)) : (step h vs).length ≤ vs.length + 1 := by cases h <;> simp [step]
theorem chg_len (l : List Int) (p : Nat) (xs : List Int) : (chg l p xs).length ≤ l.length := by
  rw [← puts_chg]
  induction xs generalizing l p with
  | nil => exact Nat.le_refl _
  | cons x xs ih =>
    rw [puts]
    refine Nat.le_trans (ih _ _) ?_
    split <;> simp
theorem step_all (h : Harm) (vs : List (List Int)) (m : Int) (ok : isOk h m = true) (n : Nat) (hv : ∀ l ∈ vs, l.length ≤ n) : ∀ l ∈ step h vs, l.length ≤ n := by
  have g : ∀ k, (vs.getD k []).length ≤ n := fun k => by
    by_cases hk : k < vs.length
    · rw [List.getD_eq_getElem?_getD, List.getElem?_eq_getElem hk]; exact hv _ (List.getElem_mem hk)
    · rw [List.getD_eq_getElem?_getD, List.getElem?_eq_none (by omega)]; simp
  have st : ∀ (ws : List (List Int)) (k : Nat) (x : List Int), (∀ l ∈ ws, l.length ≤ n) → x.length ≤ n → ∀ l ∈ ws.set k x, l.length ≤ n := fun ws k x hw hx l hl => by
    rcases List.mem_or_eq_of_mem_set hl with z | z
    · exact hw l z
    · rw [z]; exact hx
  cases h with
  | lose v => exact st _ _ _ hv (by simp)
  | turn v w => exact st _ _ _ (st _ _ _ hv (g _)) (g _)
  | double v =>
    intro l hl
    rcases List.mem_append.mp hl with z | z
    · exact hv l z
    · rw [List.mem_singleton.mp z]; exact g _
  | cut v b e =>
    simp [isOk] at ok
    refine st _ _ _ hv ?_
    have := g v.toNat
    simp only [List.length_append, List.length_take, List.length_drop]
    omega
  | change v p t xs => exact st _ _ _ hv (Nat.le_trans (chg_len _ _ _) (g _))
theorem harm_loop (V Hd : Option O) : ∀ (hs : List Harm) (i : Nat) (vs : List (List Int)) (z3 z4 z5 : Option O), (∀ h ∈ hs, Bd h) → vs.length + hs.length ≤ 100 → (∀ l ∈ vs, l.length ≤ 100) →
    ∃ L y3 y4 y5, (∀ ws, run i hs vs = .ok ws → L = .lst ((tups ws).map O.fz) ∧ ws.length ≤ 100) ∧ forS (tupG 2 (consG (nameG 4) (consG (nameG 5) (nilG)))) (seqS (ifS (notT (testF (frF (callE S_is_let [none, none] (valAr (fzE (load (varV 5))) (valAr (fzE (fun1 lenC (varV 2))) (nilAr))))))) (raiseS 0 (load (varV 4))) (skipS)) (setS 2 (callE S_harm_done [none, none] (valAr (fzE (load (varV 2))) (valAr (fzE (load (varV 5))) (nilAr)))))) (hs.mapIdx fun k h => .tup [.int ((i + k : Nat) : Int), enc h]) [V, Hd, some (.lst ((tups vs).map O.fz)), z3, z4, z5] =
      match run i hs vs with
      | .ok _ => .ok .nx [V, Hd, some L, y3, y4, y5]
      | .error j => .err 0 (.int j) [V, Hd, some L, y3, y4, y5]
  | [], i, vs, z3, z4, z5, hb, h1, h2 => ⟨_, z3, z4, z5, fun ws e => by cases e; exact ⟨rfl, by simpa using h1⟩, rfl⟩
  | h :: hs, i, vs, z3, z4, z5, hb, h1, h2 => by
    have hbh := hb h (List.mem_cons_self ..)
    simp only [List.length_cons] at h1
    have e1 := m_is_let h hbh vs.length
    have hz : vs.length < 16777216 := by omega
    by_cases ok : isOk h vs.length = true
    · have e2 := m_harm_done h hbh vs ⟨by omega, h2⟩ ok
      obtain ⟨L, y3, y4, y5, h3, h4⟩ := harm_loop V Hd hs (i + 1) (step h vs) z3 (some (.fz (.int i))) (some (.fz (enc h))) (fun x hx => hb x (List.mem_cons_of_mem _ hx)) (by have := step_len h vs; omega) (step_all h vs _ ok 100 h2)
      refine ⟨L, y3, y4, y5, fun ws e => h3 ws (by rw [run, if_pos ok] at e; exact e), ?_⟩
      rw [run, if_pos ok, List.mapIdx_cons, ← h4]
      rw [ok] at e1
      have e5 : (fun (k : Nat) h => D.tup [.int ((i + (k + 1) : Nat) : Int), enc h]) = fun (k : Nat) h => D.tup [.int ((i + 1 + k : Nat) : Int), enc h] := by
        funext k h; congr 3; omega
      rw [e5]
      conv => lhs; unfold forS
      simp -implicitDefEqProofs [e1, e2, tups_len, frz_comp, vf_comp, varV_c, load_c, moveE_c, seqS_c, opF_c, callE_c, fun1_c, fun1L_c, sliceF_c, setS_c, testF_c, andT_c, orT_c, notT_c, andF_c, orF_c, notF_c, ifF_c, itemV_c, noP_c, someP_c, nilA_c, consA_c, tupF_c, lstE_c, nilAr_c, valAr_c, lendAr_c, ifS_c, retS_c, retNS_c, skipS_c, bkS_c, ctS_c, asgS_c, forL_c, seqI_c, range1I_c, enumI_c, optF_c, chainF_c, setIS_c, appendS_c, raiseS_c, fzE_c, frF_c, tmV_c, cF_c, R.bind_ok, R.bind_err, seqK_nx, seqK_ret, seqK_bk, seqK_ct, seqK_err, defF_c, defK_ret, defK_nx, defK_err, opK_tt, opK_pt, ptK_some, intOp_i, intCmp_i, addD_i, tt2_t, intOp_t, divC, modC, mulC_r, ixN, callK1_some, callK2_ok, callK2_err, giveK_some, giveX_some, oneK_some, peek_tm, sliceK_tm, putK_some, opt_some, stab_tm, testK_bl, andTK_t, andTK_f, orTK_t, orTK_f, andFK_t, andFK_f, orFK_t, orFK_f, notFK_bl, ifFK_t, ifFK_f, ifSK_t, ifSK_f, itemK1_tm, itemK1, somePK_int, tupK, lstK, lendK_some, seqIK_tup, seqIK_lst, seqIK_rol, enumK_tup, enumK_lst, chainK_t, chainK_f, setIK_c0, setIK_c1, setIK_c2, setIK_c3, setIK_c4, putIK2_some, appK_0, appK2_lst, eqD_ii, eqD_ss, eqD_bb, neD_ii, neD_ss, lcE_c, lcK_ok, rangeD_len, wipeE, getS_0, getS_s, loadV_tm, loadV, stab, peek, viewD, subS, putS, sub, put, kid, setKid, addD_tt, addD_ll, shrC, ltD, gtD, isN, isND, notND, lenC_tup, lenC_lst, lenC_rol, listC_tup, listC_lst, listC_rol, tupleC_tup, tupleC_lst, tupleC_rol, intC_int, intC_bl, item, itemK, optV, kidV, takeL, giveL, bck, putN, nameG, nilG, consG, tupG, negD, isLst, sizeLine_eq, isiD, isi2D, typeD, moveK_some, itemD_lst, itemD_tup]
    · refine ⟨.lst ((tups vs).map O.fz), z3, some (.fz (.int i)), some (.fz (enc h)), fun ws e => (by rw [run, if_neg ok] at e; cases e), ?_⟩
      rw [run, if_neg ok, List.mapIdx_cons]
      rw [show isOk h vs.length = false from by simpa using ok] at e1
      conv => lhs; unfold forS
      simp -implicitDefEqProofs [e1, tups_len, frz_comp, vf_comp, varV_c, load_c, moveE_c, seqS_c, opF_c, callE_c, fun1_c, fun1L_c, sliceF_c, setS_c, testF_c, andT_c, orT_c, notT_c, andF_c, orF_c, notF_c, ifF_c, itemV_c, noP_c, someP_c, nilA_c, consA_c, tupF_c, lstE_c, nilAr_c, valAr_c, lendAr_c, ifS_c, retS_c, retNS_c, skipS_c, bkS_c, ctS_c, asgS_c, forL_c, seqI_c, range1I_c, enumI_c, optF_c, chainF_c, setIS_c, appendS_c, raiseS_c, fzE_c, frF_c, tmV_c, cF_c, R.bind_ok, R.bind_err, seqK_nx, seqK_ret, seqK_bk, seqK_ct, seqK_err, defF_c, defK_ret, defK_nx, defK_err, opK_tt, opK_pt, ptK_some, intOp_i, intCmp_i, addD_i, tt2_t, intOp_t, divC, modC, mulC_r, ixN, callK1_some, callK2_ok, callK2_err, giveK_some, giveX_some, oneK_some, peek_tm, sliceK_tm, putK_some, opt_some, stab_tm, testK_bl, andTK_t, andTK_f, orTK_t, orTK_f, andFK_t, andFK_f, orFK_t, orFK_f, notFK_bl, ifFK_t, ifFK_f, ifSK_t, ifSK_f, itemK1_tm, itemK1, somePK_int, tupK, lstK, lendK_some, seqIK_tup, seqIK_lst, seqIK_rol, enumK_tup, enumK_lst, chainK_t, chainK_f, setIK_c0, setIK_c1, setIK_c2, setIK_c3, setIK_c4, putIK2_some, appK_0, appK2_lst, eqD_ii, eqD_ss, eqD_bb, neD_ii, neD_ss, lcE_c, lcK_ok, rangeD_len, wipeE, getS_0, getS_s, loadV_tm, loadV, stab, peek, viewD, subS, putS, sub, put, kid, setKid, addD_tt, addD_ll, shrC, ltD, gtD, isN, isND, notND, lenC_tup, lenC_lst, lenC_rol, listC_tup, listC_lst, listC_rol, tupleC_tup, tupleC_lst, tupleC_rol, intC_int, intC_bl, item, itemK, optV, kidV, takeL, giveL, bck, putN, nameG, nilG, consG, tupG, negD, isLst, sizeLine_eq, isiD, isi2D, typeD, moveK_some, itemD_lst, itemD_tup]
end DL.GW50
end

section
set_option Elab.async false
set_option linter.all false
set_option maxRecDepth 100000
set_option maxHeartbeats 4000000
namespace DL.GW50
open PySem L2
def vds (vols : List (Bool × List Int)) : List D := vols.map fun q => vd q.1 q.2
def vsOf (vols : List (Bool × List Int)) : List (List Int) := vols.map (·.2)
def sq (t : Bool) (ds : List D) : D := if t then .tup ds else .lst ds
theorem seqIK_sq {t : Bool} {ds : List D} {e : Env} : seqIK (sq t ds) e = .ok ds e := by cases t <;> rfl
theorem enumK_sq {t : Bool} {ds : List D} {e : Env} : enumK (sq t ds) e = .ok (ds.mapIdx fun i x => .tup [.int i, x]) e := by cases t <;> rfl
theorem vds_len {vols : List (Bool × List Int)} : (vds vols).length = vols.length := by simp [vds]
def endR (V Hd : Option O) : Except Nat (List (List Int)) → R O
  | .ok ws => .ok (.fz (.tup (tups ws))) [V, Hd]
  | .error j => .err 0 (.int j) [V, Hd]
def tpO : D → O
  | .tup ds => .fz (.tup ds)
  | .lst ds => .fz (.tup ds)
  | _ => .fz .non
theorem tpO_vds (vols : List (Bool × List Int)) : (vds vols).map tpO = (tups (vsOf vols)).map O.fz := by
  simp only [vds, tups, vsOf, List.map_map]
  congr 1
  funext q
  obtain ⟨t, l⟩ := q
  cases t <;> rfl
theorem m_harmed (t0 t1 : Bool) (vols : List (Bool × List Int)) (hs : List Harm) (hb : ∀ h ∈ hs, Bd h) (h1 : vols.length + hs.length ≤ 100) (h2 : ∀ q ∈ vols, q.2.length ≤ 100) :
    S_harmed [some (.fz (sq t0 (vds vols))), some (.fz (sq t1 (hs.map enc)))] = endR (some (.fz (sq t0 (vds vols)))) (some (.fz (sq t1 (hs.map enc)))) (run 0 hs (vsOf vols)) := by
  have e1 := lc_map (g := nameG 3) (vs := [3]) (m := [some (.fz (sq t0 (vds vols))), some (.fz (sq t1 (hs.map enc))), none, none, none, none]) (f := fzE (fun1 tupleC (varV 3))) (ds := vds vols) (o := tpO) (fun d hd => by
    obtain ⟨⟨t, l⟩, _, rfl⟩ := List.mem_map.mp hd
    refine ⟨_, [some (.fz (sq t0 (vds vols))), some (.fz (sq t1 (hs.map enc))), none, some (.fz (vd t l)), none, none], rfl, ?_, rfl⟩
    cases t <;> simp [vd, tpO, varV_c, load_c, moveE_c, seqS_c, opF_c, callE_c, fun1_c, fun1L_c, sliceF_c, setS_c, testF_c, andT_c, orT_c, notT_c, andF_c, orF_c, notF_c, ifF_c, itemV_c, noP_c, someP_c, nilA_c, consA_c, tupF_c, lstE_c, nilAr_c, valAr_c, lendAr_c, ifS_c, retS_c, retNS_c, skipS_c, bkS_c, ctS_c, asgS_c, forL_c, seqI_c, range1I_c, enumI_c, optF_c, chainF_c, setIS_c, appendS_c, raiseS_c, fzE_c, frF_c, tmV_c, cF_c, R.bind_ok, R.bind_err, seqK_nx, seqK_ret, seqK_bk, seqK_ct, seqK_err, defF_c, defK_ret, defK_nx, defK_err, opK_tt, opK_pt, ptK_some, intOp_i, intCmp_i, addD_i, tt2_t, intOp_t, divC, modC, mulC_r, ixN, callK1_some, callK2_ok, callK2_err, giveK_some, giveX_some, oneK_some, peek_tm, sliceK_tm, putK_some, opt_some, stab_tm, testK_bl, andTK_t, andTK_f, orTK_t, orTK_f, andFK_t, andFK_f, orFK_t, orFK_f, notFK_bl, ifFK_t, ifFK_f, ifSK_t, ifSK_f, itemK1_tm, itemK1, somePK_int, tupK, lstK, lendK_some, seqIK_tup, seqIK_lst, seqIK_rol, enumK_tup, enumK_lst, chainK_t, chainK_f, setIK_c0, setIK_c1, setIK_c2, setIK_c3, setIK_c4, putIK2_some, appK_0, appK2_lst, eqD_ii, eqD_ss, eqD_bb, neD_ii, neD_ss, lcE_c, lcK_ok, rangeD_len, wipeE, getS_0, getS_s, loadV_tm, loadV, stab, peek, viewD, subS, putS, sub, put, kid, setKid, addD_tt, addD_ll, shrC, ltD, gtD, isN, isND, notND, lenC_tup, lenC_lst, lenC_rol, listC_tup, listC_lst, listC_rol, tupleC_tup, tupleC_lst, tupleC_rol, intC_int, intC_bl, item, itemK, optV, kidV, takeL, giveL, bck, putN, nameG, nilG, consG, tupG, negD, isLst, sizeLine_eq, isiD, isi2D, typeD, moveK_some, itemD_lst, itemD_tup])
  rw [tpO_vds] at e1
  have hz : vols.length ≤ 16777216 := by omega
  obtain ⟨L, y3, y4, y5, h3, h4⟩ := harm_loop (some (.fz (sq t0 (vds vols)))) (some (.fz (sq t1 (hs.map enc)))) hs 0 (vsOf vols) none none none hb (by simp [vsOf]; exact h1) (fun l hl => by
    obtain ⟨q, hq, rfl⟩ := List.mem_map.mp hl
    exact h2 q hq)
  have e3 : (hs.map enc).mapIdx (fun i x => D.tup [.int i, x]) = hs.mapIdx fun k h => .tup [.int (k : Int), enc h] := by
    rw [List.mapIdx_eq_iff.mpr]
    intro i
    simp
    cases hs[i]? <;> rfl
  simp only [Nat.zero_add] at h4
  cases hr : run 0 hs (vsOf vols) with
  | ok ws =>
    obtain ⟨rfl, hl⟩ := h3 ws hr
    rw [hr] at h4
    try simp only at h4
    simp -implicitDefEqProofs [S_harmed, s_harmed, e1, seqIK_sq, enumK_sq, vds_len, hz, e3, h4, endR, frz_comp, vf_comp, varV_c, load_c, moveE_c, seqS_c, opF_c, callE_c, fun1_c, fun1L_c, sliceF_c, setS_c, testF_c, andT_c, orT_c, notT_c, andF_c, orF_c, notF_c, ifF_c, itemV_c, noP_c, someP_c, nilA_c, consA_c, tupF_c, lstE_c, nilAr_c, valAr_c, lendAr_c, ifS_c, retS_c, retNS_c, skipS_c, bkS_c, ctS_c, asgS_c, forL_c, seqI_c, range1I_c, enumI_c, optF_c, chainF_c, setIS_c, appendS_c, raiseS_c, fzE_c, frF_c, tmV_c, cF_c, R.bind_ok, R.bind_err, seqK_nx, seqK_ret, seqK_bk, seqK_ct, seqK_err, defF_c, defK_ret, defK_nx, defK_err, opK_tt, opK_pt, ptK_some, intOp_i, intCmp_i, addD_i, tt2_t, intOp_t, divC, modC, mulC_r, ixN, callK1_some, callK2_ok, callK2_err, giveK_some, giveX_some, oneK_some, peek_tm, sliceK_tm, putK_some, opt_some, stab_tm, testK_bl, andTK_t, andTK_f, orTK_t, orTK_f, andFK_t, andFK_f, orFK_t, orFK_f, notFK_bl, ifFK_t, ifFK_f, ifSK_t, ifSK_f, itemK1_tm, itemK1, somePK_int, tupK, lstK, lendK_some, seqIK_tup, seqIK_lst, seqIK_rol, enumK_tup, enumK_lst, chainK_t, chainK_f, setIK_c0, setIK_c1, setIK_c2, setIK_c3, setIK_c4, putIK2_some, appK_0, appK2_lst, eqD_ii, eqD_ss, eqD_bb, neD_ii, neD_ss, lcE_c, lcK_ok, rangeD_len, wipeE, getS_0, getS_s, loadV_tm, loadV, stab, peek, viewD, subS, putS, sub, put, kid, setKid, addD_tt, addD_ll, shrC, ltD, gtD, isN, isND, notND, lenC_tup, lenC_lst, lenC_rol, listC_tup, listC_lst, listC_rol, tupleC_tup, tupleC_lst, tupleC_rol, intC_int, intC_bl, item, itemK, optV, kidV, takeL, giveL, bck, putN, nameG, nilG, consG, tupG, negD, isLst, sizeLine_eq, isiD, isi2D, typeD, moveK_some, itemD_lst, itemD_tup]
  | error j =>
    rw [hr] at h4
    try simp only at h4
    simp -implicitDefEqProofs [S_harmed, s_harmed, e1, seqIK_sq, enumK_sq, vds_len, hz, e3, h4, endR, frz_comp, vf_comp, varV_c, load_c, moveE_c, seqS_c, opF_c, callE_c, fun1_c, fun1L_c, sliceF_c, setS_c, testF_c, andT_c, orT_c, notT_c, andF_c, orF_c, notF_c, ifF_c, itemV_c, noP_c, someP_c, nilA_c, consA_c, tupF_c, lstE_c, nilAr_c, valAr_c, lendAr_c, ifS_c, retS_c, retNS_c, skipS_c, bkS_c, ctS_c, asgS_c, forL_c, seqI_c, range1I_c, enumI_c, optF_c, chainF_c, setIS_c, appendS_c, raiseS_c, fzE_c, frF_c, tmV_c, cF_c, R.bind_ok, R.bind_err, seqK_nx, seqK_ret, seqK_bk, seqK_ct, seqK_err, defF_c, defK_ret, defK_nx, defK_err, opK_tt, opK_pt, ptK_some, intOp_i, intCmp_i, addD_i, tt2_t, intOp_t, divC, modC, mulC_r, ixN, callK1_some, callK2_ok, callK2_err, giveK_some, giveX_some, oneK_some, peek_tm, sliceK_tm, putK_some, opt_some, stab_tm, testK_bl, andTK_t, andTK_f, orTK_t, orTK_f, andFK_t, andFK_f, orFK_t, orFK_f, notFK_bl, ifFK_t, ifFK_f, ifSK_t, ifSK_f, itemK1_tm, itemK1, somePK_int, tupK, lstK, lendK_some, seqIK_tup, seqIK_lst, seqIK_rol, enumK_tup, enumK_lst, chainK_t, chainK_f, setIK_c0, setIK_c1, setIK_c2, setIK_c3, setIK_c4, putIK2_some, appK_0, appK2_lst, eqD_ii, eqD_ss, eqD_bb, neD_ii, neD_ss, lcE_c, lcK_ok, rangeD_len, wipeE, getS_0, getS_s, loadV_tm, loadV, stab, peek, viewD, subS, putS, sub, put, kid, setKid, addD_tt, addD_ll, shrC, ltD, gtD, isN, isND, notND, lenC_tup, lenC_lst, lenC_rol, listC_tup, listC_lst, listC_rol, tupleC_tup, tupleC_lst, tupleC_rol, intC_int, intC_bl, item, itemK, optV, kidV, takeL, giveL, bck, putN, nameG, nilG, consG, tupG, negD, isLst, sizeLine_eq, isiD, isi2D, typeD, moveK_some, itemD_lst, itemD_tup]
end DL.GW50
end

section
set_option Elab.async false
set_option linter.all false
set_option maxRecDepth 100000
set_option maxHeartbeats 4000000
namespace DL.GW50
open PySem L2
def ansD : Except Nat (List (List Int)) → D
  | .ok ws => .tup [.str "told", .tup (tups ws)]
  | .error j => .tup [.str "value", .int j]
theorem m_told (t0 t1 : Bool) (vols : List (Bool × List Int)) (hs : List Harm) (hb : ∀ h ∈ hs, Bd h) (h1 : vols.length + hs.length ≤ 100) (h2 : ∀ q ∈ vols, q.2.length ≤ 100) :
    S__law_told [some (.fz (sq t0 (vds vols))), some (.fz (sq t1 (hs.map enc)))] = .ok (.fz (ansD (run 0 hs (vsOf vols)))) [some (.fz (sq t0 (vds vols))), some (.fz (sq t1 (hs.map enc)))] := by
  have e1 := m_harmed t0 t1 vols hs hb h1 h2
  have c0 : cat_BadValue 0 = some true := rfl
  have c1 : is_VaultError 0 = some true := rfl
  have c2 : exF[0]? = some ("at" : Str) := rfl
  have cc : ∀ (i : Nat) (b : Env → R Fl) (s : Nat → D → Env → R Fl) (z : Option O) (zs : Env), tryS cat_BadValue i b s (z :: zs) = if i < (z :: zs).length then (match b (z :: zs) with
    | .err c x e => (match cat_BadValue c with
      | some true => (match s c x (e.set i none) with
        | .ok .nx e2 => .ok .nx (e2.set i none)
        | .ok .bk e2 => .ok .bk (e2.set i none)
        | .ok .ct e2 => .ok .ct (e2.set i none)
        | .ok (.ret o) e2 => .ok (.ret o) e2
        | _ => .bad)
      | some false => .err c x e
      | none => .bad)
    | r => r) else .bad := fun i b s z zs => rfl
  cases hr : run 0 hs (vsOf vols) with
  | ok ws =>
    rw [hr] at e1
    simp -implicitDefEqProofs [S__law_told, s__law_told, cc, e1, endR, ansD, varV_c, load_c, moveE_c, seqS_c, opF_c, callE_c, fun1_c, fun1L_c, sliceF_c, setS_c, testF_c, andT_c, orT_c, notT_c, andF_c, orF_c, notF_c, ifF_c, itemV_c, noP_c, someP_c, nilA_c, consA_c, tupF_c, lstE_c, nilAr_c, valAr_c, lendAr_c, ifS_c, retS_c, retNS_c, skipS_c, bkS_c, ctS_c, asgS_c, forL_c, seqI_c, range1I_c, enumI_c, optF_c, chainF_c, setIS_c, appendS_c, raiseS_c, fzE_c, frF_c, tmV_c, cF_c, R.bind_ok, R.bind_err, seqK_nx, seqK_ret, seqK_bk, seqK_ct, seqK_err, defF_c, defK_ret, defK_nx, defK_err, opK_tt, opK_pt, ptK_some, intOp_i, intCmp_i, addD_i, tt2_t, intOp_t, divC, modC, mulC_r, ixN, callK1_some, callK2_ok, callK2_err, giveK_some, giveX_some, oneK_some, peek_tm, sliceK_tm, putK_some, opt_some, stab_tm, testK_bl, andTK_t, andTK_f, orTK_t, orTK_f, andFK_t, andFK_f, orFK_t, orFK_f, notFK_bl, ifFK_t, ifFK_f, ifSK_t, ifSK_f, itemK1_tm, itemK1, somePK_int, tupK, lstK, lendK_some, seqIK_tup, seqIK_lst, seqIK_rol, enumK_tup, enumK_lst, chainK_t, chainK_f, setIK_c0, setIK_c1, setIK_c2, setIK_c3, setIK_c4, putIK2_some, appK_0, appK2_lst, eqD_ii, eqD_ss, eqD_bb, neD_ii, neD_ss, lcE_c, lcK_ok, rangeD_len, wipeE, getS_0, getS_s, loadV_tm, loadV, stab, peek, viewD, subS, putS, sub, put, kid, setKid, addD_tt, addD_ll, shrC, ltD, gtD, isN, isND, notND, lenC_tup, lenC_lst, lenC_rol, listC_tup, listC_lst, listC_rol, tupleC_tup, tupleC_lst, tupleC_rol, intC_int, intC_bl, item, itemK, optV, kidV, takeL, giveL, bck, putN, nameG, nilG, consG, tupG, negD, isLst, sizeLine_eq, isiD, isi2D, typeD, moveK_some, itemD_lst, itemD_tup]
  | error j =>
    rw [hr] at e1
    simp -implicitDefEqProofs [S__law_told, s__law_told, cc, e1, endR, ansD, c0, c1, c2, ifX, testX, isX, retX, tupX, consX, attrX, nilX, varV_c, load_c, moveE_c, seqS_c, opF_c, callE_c, fun1_c, fun1L_c, sliceF_c, setS_c, testF_c, andT_c, orT_c, notT_c, andF_c, orF_c, notF_c, ifF_c, itemV_c, noP_c, someP_c, nilA_c, consA_c, tupF_c, lstE_c, nilAr_c, valAr_c, lendAr_c, ifS_c, retS_c, retNS_c, skipS_c, bkS_c, ctS_c, asgS_c, forL_c, seqI_c, range1I_c, enumI_c, optF_c, chainF_c, setIS_c, appendS_c, raiseS_c, fzE_c, frF_c, tmV_c, cF_c, R.bind_ok, R.bind_err, seqK_nx, seqK_ret, seqK_bk, seqK_ct, seqK_err, defF_c, defK_ret, defK_nx, defK_err, opK_tt, opK_pt, ptK_some, intOp_i, intCmp_i, addD_i, tt2_t, intOp_t, divC, modC, mulC_r, ixN, callK1_some, callK2_ok, callK2_err, giveK_some, giveX_some, oneK_some, peek_tm, sliceK_tm, putK_some, opt_some, stab_tm, testK_bl, andTK_t, andTK_f, orTK_t, orTK_f, andFK_t, andFK_f, orFK_t, orFK_f, notFK_bl, ifFK_t, ifFK_f, ifSK_t, ifSK_f, itemK1_tm, itemK1, somePK_int, tupK, lstK, lendK_some, seqIK_tup, seqIK_lst, seqIK_rol, enumK_tup, enumK_lst, chainK_t, chainK_f, setIK_c0, setIK_c1, setIK_c2, setIK_c3, setIK_c4, putIK2_some, appK_0, appK2_lst, eqD_ii, eqD_ss, eqD_bb, neD_ii, neD_ss, lcE_c, lcK_ok, rangeD_len, wipeE, getS_0, getS_s, loadV_tm, loadV, stab, peek, viewD, subS, putS, sub, put, kid, setKid, addD_tt, addD_ll, shrC, ltD, gtD, isN, isND, notND, lenC_tup, lenC_lst, lenC_rol, listC_tup, listC_lst, listC_rol, tupleC_tup, tupleC_lst, tupleC_rol, intC_int, intC_bl, item, itemK, optV, kidV, takeL, giveL, bck, putN, nameG, nilG, consG, tupG, negD, isLst, sizeLine_eq, isiD, isi2D, typeD, moveK_some, itemD_lst, itemD_tup]
theorem due_loop (hs : List Harm) (z2 : Option O) : ∀ (n i : Nat) (os : List O) (vs : List (List Int)) (z3 : Option O), os.map frz = lsts vs → i + n = hs.length → (∀ h ∈ hs, Bd h) → vs.length + n ≤ 100 → (∀ l ∈ vs, l.length ≤ 100) →
    ∃ y3, match run i (hs.drop i) vs with
      | .ok ws => ∃ os', os'.map frz = lsts ws ∧ ws.length ≤ 100 ∧ forS (nameG 3) (seqS (ifS (testF (frF (callE S__law_is_wrong [none, none] (valAr (fzE (load (itemV (varV 1) (load (varV 3)) true))) (valAr (fzE (fun1 lenC (varV 0))) (nilAr)))))) (retS (fzE (tupF (consA (cF (.str "value")) (consA (load (varV 3)) (nilA)))))) (skipS)) (setS 0 (callE S__law_done [none, none] (valAr (fzE (load (varV 0))) (valAr (fzE (load (itemV (varV 1) (load (varV 3)) true))) (nilAr)))))) ((rangeD 0 hs.length).drop i) [some (.lst os), some (.fz (.lst (hs.map enc))), z2, z3] = .ok .nx [some (.lst os'), some (.fz (.lst (hs.map enc))), z2, y3]
      | .error j => ∃ e0, forS (nameG 3) (seqS (ifS (testF (frF (callE S__law_is_wrong [none, none] (valAr (fzE (load (itemV (varV 1) (load (varV 3)) true))) (valAr (fzE (fun1 lenC (varV 0))) (nilAr)))))) (retS (fzE (tupF (consA (cF (.str "value")) (consA (load (varV 3)) (nilA)))))) (skipS)) (setS 0 (callE S__law_done [none, none] (valAr (fzE (load (varV 0))) (valAr (fzE (load (itemV (varV 1) (load (varV 3)) true))) (nilAr)))))) ((rangeD 0 hs.length).drop i) [some (.lst os), some (.fz (.lst (hs.map enc))), z2, z3] = .ok (.ret (.fz (.tup [.str "value", .int j]))) [e0, some (.fz (.lst (hs.map enc))), z2, y3]
  | 0, i, os, vs, z3, ho, hi, hb, h1, h2 => by
    have e1 : hs.drop i = [] := List.drop_eq_nil_of_le (by omega)
    have e2 : (rangeD 0 hs.length).drop i = [] := List.drop_eq_nil_of_le (by rw [rangeD_len]; omega)
    rw [e1, e2]
    exact ⟨z3, os, ho, by omega, rfl⟩
  | n + 1, i, os, vs, z3, ho, hi, hb, h1, h2 => by
    have hlt : i < hs.length := by omega
    have e1 : hs.drop i = hs[i] :: hs.drop (i + 1) := List.drop_eq_getElem_cons hlt
    have e2 : (rangeD 0 hs.length).drop i = .int i :: (rangeD 0 hs.length).drop (i + 1) := rangeD_at hlt
    have hbh := hb hs[i] (List.getElem_mem hlt)
    have e3 := m_is_wrong hs[i] hbh vs.length
    have e4 : atD (hs.map enc) i = some (enc hs[i]) := by rw [atD_nonneg (by omega) (by simpa using hlt)]; simp [hlt]
    have hol : os.length = vs.length := by have := congrArg List.length ho; simpa [lsts_len] using this
    have hz : vs.length < 16777216 := by omega
    have hvf : (os.map vf).map frz = lsts vs := by rw [List.map_map, ← ho]; apply List.map_congr_left; intro o _; exact frz_vf o
    have hvf2 : List.map (frz ∘ vf) os = lsts vs := by rw [← hvf, List.map_map]
    rw [e1, e2, run]
    conv => arg 1; ext y3; unfold forS
    by_cases ok : isOk hs[i] vs.length = true
    · rw [if_pos ok]
      rw [ok] at e3
      obtain ⟨os', h3, h4⟩ := m_law_done hs[i] hbh vs ⟨by omega, h2⟩ ok
      obtain ⟨y3, h5⟩ := due_loop hs z2 n (i + 1) os' (step hs[i] vs) (some (.fz (.int i))) h3 (by omega) hb (by have := step_len hs[i] vs; omega) (step_all hs[i] vs _ ok 100 h2)
      refine ⟨y3, ?_⟩
      have st : ∀ (g : D → Env → Option Env) (f : Env → R Fl) (r : List D), nameG 3 (.int i) [some (.lst os), some (.fz (.lst (hs.map enc))), z2, z3] = some [some (.lst os), some (.fz (.lst (hs.map enc))), z2, some (.fz (.int i))] := fun _ _ _ => rfl
      cases hr : run (i + 1) (hs.drop (i + 1)) (step hs[i] vs) with
      | ok ws =>
        rw [hr] at h5
        obtain ⟨os2, h6, h7, h8⟩ := h5
        refine ⟨os2, h6, h7, ?_⟩
        rw [← h8]
        simp -implicitDefEqProofs [e3, e4, h4, ho, hol, hvf2, lsts_len, varV_c, load_c, moveE_c, seqS_c, opF_c, callE_c, fun1_c, fun1L_c, sliceF_c, setS_c, testF_c, andT_c, orT_c, notT_c, andF_c, orF_c, notF_c, ifF_c, itemV_c, noP_c, someP_c, nilA_c, consA_c, tupF_c, lstE_c, nilAr_c, valAr_c, lendAr_c, ifS_c, retS_c, retNS_c, skipS_c, bkS_c, ctS_c, asgS_c, forL_c, seqI_c, range1I_c, enumI_c, optF_c, chainF_c, setIS_c, appendS_c, raiseS_c, fzE_c, frF_c, tmV_c, cF_c, R.bind_ok, R.bind_err, seqK_nx, seqK_ret, seqK_bk, seqK_ct, seqK_err, defF_c, defK_ret, defK_nx, defK_err, opK_tt, opK_pt, ptK_some, intOp_i, intCmp_i, addD_i, tt2_t, intOp_t, divC, modC, mulC_r, ixN, callK1_some, callK2_ok, callK2_err, giveK_some, giveX_some, oneK_some, peek_tm, sliceK_tm, putK_some, opt_some, stab_tm, testK_bl, andTK_t, andTK_f, orTK_t, orTK_f, andFK_t, andFK_f, orFK_t, orFK_f, notFK_bl, ifFK_t, ifFK_f, ifSK_t, ifSK_f, itemK1_tm, itemK1, somePK_int, tupK, lstK, lendK_some, seqIK_tup, seqIK_lst, seqIK_rol, enumK_tup, enumK_lst, chainK_t, chainK_f, setIK_c0, setIK_c1, setIK_c2, setIK_c3, setIK_c4, putIK2_some, appK_0, appK2_lst, eqD_ii, eqD_ss, eqD_bb, neD_ii, neD_ss, lcE_c, lcK_ok, rangeD_len, wipeE, getS_0, getS_s, loadV_tm, loadV, stab, peek, viewD, subS, putS, sub, put, kid, setKid, addD_tt, addD_ll, shrC, ltD, gtD, isN, isND, notND, lenC_tup, lenC_lst, lenC_rol, listC_tup, listC_lst, listC_rol, tupleC_tup, tupleC_lst, tupleC_rol, intC_int, intC_bl, item, itemK, optV, kidV, takeL, giveL, bck, putN, nameG, nilG, consG, tupG, negD, isLst, sizeLine_eq, isiD, isi2D, typeD, moveK_some, itemD_lst, itemD_tup]
      | error j =>
        rw [hr] at h5
        obtain ⟨e0, h8⟩ := h5
        refine ⟨e0, ?_⟩
        rw [← h8]
        simp -implicitDefEqProofs [e3, e4, h4, ho, hol, hvf2, lsts_len, varV_c, load_c, moveE_c, seqS_c, opF_c, callE_c, fun1_c, fun1L_c, sliceF_c, setS_c, testF_c, andT_c, orT_c, notT_c, andF_c, orF_c, notF_c, ifF_c, itemV_c, noP_c, someP_c, nilA_c, consA_c, tupF_c, lstE_c, nilAr_c, valAr_c, lendAr_c, ifS_c, retS_c, retNS_c, skipS_c, bkS_c, ctS_c, asgS_c, forL_c, seqI_c, range1I_c, enumI_c, optF_c, chainF_c, setIS_c, appendS_c, raiseS_c, fzE_c, frF_c, tmV_c, cF_c, R.bind_ok, R.bind_err, seqK_nx, seqK_ret, seqK_bk, seqK_ct, seqK_err, defF_c, defK_ret, defK_nx, defK_err, opK_tt, opK_pt, ptK_some, intOp_i, intCmp_i, addD_i, tt2_t, intOp_t, divC, modC, mulC_r, ixN, callK1_some, callK2_ok, callK2_err, giveK_some, giveX_some, oneK_some, peek_tm, sliceK_tm, putK_some, opt_some, stab_tm, testK_bl, andTK_t, andTK_f, orTK_t, orTK_f, andFK_t, andFK_f, orFK_t, orFK_f, notFK_bl, ifFK_t, ifFK_f, ifSK_t, ifSK_f, itemK1_tm, itemK1, somePK_int, tupK, lstK, lendK_some, seqIK_tup, seqIK_lst, seqIK_rol, enumK_tup, enumK_lst, chainK_t, chainK_f, setIK_c0, setIK_c1, setIK_c2, setIK_c3, setIK_c4, putIK2_some, appK_0, appK2_lst, eqD_ii, eqD_ss, eqD_bb, neD_ii, neD_ss, lcE_c, lcK_ok, rangeD_len, wipeE, getS_0, getS_s, loadV_tm, loadV, stab, peek, viewD, subS, putS, sub, put, kid, setKid, addD_tt, addD_ll, shrC, ltD, gtD, isN, isND, notND, lenC_tup, lenC_lst, lenC_rol, listC_tup, listC_lst, listC_rol, tupleC_tup, tupleC_lst, tupleC_rol, intC_int, intC_bl, item, itemK, optV, kidV, takeL, giveL, bck, putN, nameG, nilG, consG, tupG, negD, isLst, sizeLine_eq, isiD, isi2D, typeD, moveK_some, itemD_lst, itemD_tup]
    · rw [if_neg ok]
      rw [show isOk hs[i] vs.length = false from by simpa using ok] at e3
      refine ⟨some (.fz (.int i)), some (.lst (os.map vf)), ?_⟩
      simp -implicitDefEqProofs [e3, e4, ho, hol, hvf2, lsts_len, varV_c, load_c, moveE_c, seqS_c, opF_c, callE_c, fun1_c, fun1L_c, sliceF_c, setS_c, testF_c, andT_c, orT_c, notT_c, andF_c, orF_c, notF_c, ifF_c, itemV_c, noP_c, someP_c, nilA_c, consA_c, tupF_c, lstE_c, nilAr_c, valAr_c, lendAr_c, ifS_c, retS_c, retNS_c, skipS_c, bkS_c, ctS_c, asgS_c, forL_c, seqI_c, range1I_c, enumI_c, optF_c, chainF_c, setIS_c, appendS_c, raiseS_c, fzE_c, frF_c, tmV_c, cF_c, R.bind_ok, R.bind_err, seqK_nx, seqK_ret, seqK_bk, seqK_ct, seqK_err, defF_c, defK_ret, defK_nx, defK_err, opK_tt, opK_pt, ptK_some, intOp_i, intCmp_i, addD_i, tt2_t, intOp_t, divC, modC, mulC_r, ixN, callK1_some, callK2_ok, callK2_err, giveK_some, giveX_some, oneK_some, peek_tm, sliceK_tm, putK_some, opt_some, stab_tm, testK_bl, andTK_t, andTK_f, orTK_t, orTK_f, andFK_t, andFK_f, orFK_t, orFK_f, notFK_bl, ifFK_t, ifFK_f, ifSK_t, ifSK_f, itemK1_tm, itemK1, somePK_int, tupK, lstK, lendK_some, seqIK_tup, seqIK_lst, seqIK_rol, enumK_tup, enumK_lst, chainK_t, chainK_f, setIK_c0, setIK_c1, setIK_c2, setIK_c3, setIK_c4, putIK2_some, appK_0, appK2_lst, eqD_ii, eqD_ss, eqD_bb, neD_ii, neD_ss, lcE_c, lcK_ok, rangeD_len, wipeE, getS_0, getS_s, loadV_tm, loadV, stab, peek, viewD, subS, putS, sub, put, kid, setKid, addD_tt, addD_ll, shrC, ltD, gtD, isN, isND, notND, lenC_tup, lenC_lst, lenC_rol, listC_tup, listC_lst, listC_rol, tupleC_tup, tupleC_lst, tupleC_rol, intC_int, intC_bl, item, itemK, optV, kidV, takeL, giveL, bck, putN, nameG, nilG, consG, tupG, negD, isLst, sizeLine_eq, isiD, isi2D, typeD, moveK_some, itemD_lst, itemD_tup]
def lsO : D → O
  | .tup ds => .lst (ds.map .fz)
  | .lst ds => .lst (ds.map .fz)
  | _ => .fz .non
theorem lsO_vds (vols : List (Bool × List Int)) : ((vds vols).map lsO).map frz = lsts (vsOf vols) := by
  simp only [vds, lsts, vsOf, List.map_map]
  congr 1
  funext q
  obtain ⟨t, l⟩ := q
  cases t <;> simp [vd, lsO, Function.comp_def]
theorem tpO_lsts (ws : List (List Int)) : (lsts ws).map tpO = (tups ws).map O.fz := by
  simp only [lsts, tups, List.map_map]
  rfl
theorem m_due (vols : List (Bool × List Int)) (hs : List Harm) (hb : ∀ h ∈ hs, Bd h) (h1 : vols.length + hs.length ≤ 100) (h2 : ∀ q ∈ vols, q.2.length ≤ 100) :
    ∃ e0, S__law_due [some (.fz (.lst (vds vols))), some (.fz (.lst (hs.map enc)))] = .ok (.fz (ansD (run 0 hs (vsOf vols)))) [e0, some (.fz (.lst (hs.map enc)))] := by
  have e1 := lc_map (g := nameG 2) (vs := [2]) (m := [some (.fz (.lst (vds vols))), some (.fz (.lst (hs.map enc))), none, none]) (f := fun1L listC (varV 2)) (ds := vds vols) (o := lsO) (fun d hd => by
    obtain ⟨⟨t, l⟩, _, rfl⟩ := List.mem_map.mp hd
    refine ⟨_, [some (.fz (.lst (vds vols))), some (.fz (.lst (hs.map enc))), some (.fz (vd t l)), none], rfl, ?_, rfl⟩
    cases t <;> simp [vd, lsO, varV_c, load_c, moveE_c, seqS_c, opF_c, callE_c, fun1_c, fun1L_c, sliceF_c, setS_c, testF_c, andT_c, orT_c, notT_c, andF_c, orF_c, notF_c, ifF_c, itemV_c, noP_c, someP_c, nilA_c, consA_c, tupF_c, lstE_c, nilAr_c, valAr_c, lendAr_c, ifS_c, retS_c, retNS_c, skipS_c, bkS_c, ctS_c, asgS_c, forL_c, seqI_c, range1I_c, enumI_c, optF_c, chainF_c, setIS_c, appendS_c, raiseS_c, fzE_c, frF_c, tmV_c, cF_c, R.bind_ok, R.bind_err, seqK_nx, seqK_ret, seqK_bk, seqK_ct, seqK_err, defF_c, defK_ret, defK_nx, defK_err, opK_tt, opK_pt, ptK_some, intOp_i, intCmp_i, addD_i, tt2_t, intOp_t, divC, modC, mulC_r, ixN, callK1_some, callK2_ok, callK2_err, giveK_some, giveX_some, oneK_some, peek_tm, sliceK_tm, putK_some, opt_some, stab_tm, testK_bl, andTK_t, andTK_f, orTK_t, orTK_f, andFK_t, andFK_f, orFK_t, orFK_f, notFK_bl, ifFK_t, ifFK_f, ifSK_t, ifSK_f, itemK1_tm, itemK1, somePK_int, tupK, lstK, lendK_some, seqIK_tup, seqIK_lst, seqIK_rol, enumK_tup, enumK_lst, chainK_t, chainK_f, setIK_c0, setIK_c1, setIK_c2, setIK_c3, setIK_c4, putIK2_some, appK_0, appK2_lst, eqD_ii, eqD_ss, eqD_bb, neD_ii, neD_ss, lcE_c, lcK_ok, rangeD_len, wipeE, getS_0, getS_s, loadV_tm, loadV, stab, peek, viewD, subS, putS, sub, put, kid, setKid, addD_tt, addD_ll, shrC, ltD, gtD, isN, isND, notND, lenC_tup, lenC_lst, lenC_rol, listC_tup, listC_lst, listC_rol, tupleC_tup, tupleC_lst, tupleC_rol, intC_int, intC_bl, item, itemK, optV, kidV, takeL, giveL, bck, putN, nameG, nilG, consG, tupG, negD, isLst, sizeLine_eq, isiD, isi2D, typeD, moveK_some, itemD_lst, itemD_tup])
  have hz : vols.length ≤ 16777216 := by omega
  have hr0 : ∀ e, range1K [.int hs.length] e = .ok (rangeD 0 hs.length) e := fun e => by rw [range1K_ok (by omega)]; simp
  obtain ⟨y3, h5⟩ := due_loop hs none hs.length 0 ((vds vols).map lsO) (vsOf vols) none (lsO_vds vols) (by omega) hb (by simp [vsOf]; exact h1) (fun l hl => by
    obtain ⟨q, hq, rfl⟩ := List.mem_map.mp hl
    exact h2 q hq)
  rw [List.drop_zero, List.drop_zero] at h5
  cases hr : run 0 hs (vsOf vols) with
  | ok ws =>
    rw [hr] at h5
    obtain ⟨os2, h6, h7, h8⟩ := h5
    have e2 := lc_map (g := nameG 2) (vs := [2]) (m := [some (.fz (.lst (lsts ws))), some (.fz (.lst (hs.map enc))), none, y3]) (f := fzE (fun1 tupleC (varV 2))) (ds := lsts ws) (o := tpO) (fun d hd => by
      obtain ⟨l, _, rfl⟩ := List.mem_map.mp hd
      exact ⟨_, [some (.fz (.lst (lsts ws))), some (.fz (.lst (hs.map enc))), some (.fz (.lst (l.map .int))), y3], rfl, by simp [tpO, varV_c, load_c, moveE_c, seqS_c, opF_c, callE_c, fun1_c, fun1L_c, sliceF_c, setS_c, testF_c, andT_c, orT_c, notT_c, andF_c, orF_c, notF_c, ifF_c, itemV_c, noP_c, someP_c, nilA_c, consA_c, tupF_c, lstE_c, nilAr_c, valAr_c, lendAr_c, ifS_c, retS_c, retNS_c, skipS_c, bkS_c, ctS_c, asgS_c, forL_c, seqI_c, range1I_c, enumI_c, optF_c, chainF_c, setIS_c, appendS_c, raiseS_c, fzE_c, frF_c, tmV_c, cF_c, R.bind_ok, R.bind_err, seqK_nx, seqK_ret, seqK_bk, seqK_ct, seqK_err, defF_c, defK_ret, defK_nx, defK_err, opK_tt, opK_pt, ptK_some, intOp_i, intCmp_i, addD_i, tt2_t, intOp_t, divC, modC, mulC_r, ixN, callK1_some, callK2_ok, callK2_err, giveK_some, giveX_some, oneK_some, peek_tm, sliceK_tm, putK_some, opt_some, stab_tm, testK_bl, andTK_t, andTK_f, orTK_t, orTK_f, andFK_t, andFK_f, orFK_t, orFK_f, notFK_bl, ifFK_t, ifFK_f, ifSK_t, ifSK_f, itemK1_tm, itemK1, somePK_int, tupK, lstK, lendK_some, seqIK_tup, seqIK_lst, seqIK_rol, enumK_tup, enumK_lst, chainK_t, chainK_f, setIK_c0, setIK_c1, setIK_c2, setIK_c3, setIK_c4, putIK2_some, appK_0, appK2_lst, eqD_ii, eqD_ss, eqD_bb, neD_ii, neD_ss, lcE_c, lcK_ok, rangeD_len, wipeE, getS_0, getS_s, loadV_tm, loadV, stab, peek, viewD, subS, putS, sub, put, kid, setKid, addD_tt, addD_ll, shrC, ltD, gtD, isN, isND, notND, lenC_tup, lenC_lst, lenC_rol, listC_tup, listC_lst, listC_rol, tupleC_tup, tupleC_lst, tupleC_rol, intC_int, intC_bl, item, itemK, optV, kidV, takeL, giveL, bck, putN, nameG, nilG, consG, tupG, negD, isLst, sizeLine_eq, isiD, isi2D, typeD, moveK_some, itemD_lst, itemD_tup], rfl⟩)
    rw [tpO_lsts] at e2
    have hz2 : ws.length ≤ 16777216 := by omega
    exact ⟨_, by simp -implicitDefEqProofs [S__law_due, s__law_due, e1, vds_len, hz, hr0, h8, h6, e2, lsts_len, hz2, ansD, frz_comp, varV_c, load_c, moveE_c, seqS_c, opF_c, callE_c, fun1_c, fun1L_c, sliceF_c, setS_c, testF_c, andT_c, orT_c, notT_c, andF_c, orF_c, notF_c, ifF_c, itemV_c, noP_c, someP_c, nilA_c, consA_c, tupF_c, lstE_c, nilAr_c, valAr_c, lendAr_c, ifS_c, retS_c, retNS_c, skipS_c, bkS_c, ctS_c, asgS_c, forL_c, seqI_c, range1I_c, enumI_c, optF_c, chainF_c, setIS_c, appendS_c, raiseS_c, fzE_c, frF_c, tmV_c, cF_c, R.bind_ok, R.bind_err, seqK_nx, seqK_ret, seqK_bk, seqK_ct, seqK_err, defF_c, defK_ret, defK_nx, defK_err, opK_tt, opK_pt, ptK_some, intOp_i, intCmp_i, addD_i, tt2_t, intOp_t, divC, modC, mulC_r, ixN, callK1_some, callK2_ok, callK2_err, giveK_some, giveX_some, oneK_some, peek_tm, sliceK_tm, putK_some, opt_some, stab_tm, testK_bl, andTK_t, andTK_f, orTK_t, orTK_f, andFK_t, andFK_f, orFK_t, orFK_f, notFK_bl, ifFK_t, ifFK_f, ifSK_t, ifSK_f, itemK1_tm, itemK1, somePK_int, tupK, lstK, lendK_some, seqIK_tup, seqIK_lst, seqIK_rol, enumK_tup, enumK_lst, chainK_t, chainK_f, setIK_c0, setIK_c1, setIK_c2, setIK_c3, setIK_c4, putIK2_some, appK_0, appK2_lst, eqD_ii, eqD_ss, eqD_bb, neD_ii, neD_ss, lcE_c, lcK_ok, rangeD_len, wipeE, getS_0, getS_s, loadV_tm, loadV, stab, peek, viewD, subS, putS, sub, put, kid, setKid, addD_tt, addD_ll, shrC, ltD, gtD, isN, isND, notND, lenC_tup, lenC_lst, lenC_rol, listC_tup, listC_lst, listC_rol, tupleC_tup, tupleC_lst, tupleC_rol, intC_int, intC_bl, item, itemK, optV, kidV, takeL, giveL, bck, putN, nameG, nilG, consG, tupG, negD, isLst, sizeLine_eq, isiD, isi2D, typeD, moveK_some, itemD_lst, itemD_tup]; rfl⟩
  | error j =>
    rw [hr] at h5
    obtain ⟨e0, h8⟩ := h5
    exact ⟨_, by simp -implicitDefEqProofs [S__law_due, s__law_due, e1, vds_len, hz, hr0, h8, ansD, varV_c, load_c, moveE_c, seqS_c, opF_c, callE_c, fun1_c, fun1L_c, sliceF_c, setS_c, testF_c, andT_c, orT_c, notT_c, andF_c, orF_c, notF_c, ifF_c, itemV_c, noP_c, someP_c, nilA_c, consA_c, tupF_c, lstE_c, nilAr_c, valAr_c, lendAr_c, ifS_c, retS_c, retNS_c, skipS_c, bkS_c, ctS_c, asgS_c, forL_c, seqI_c, range1I_c, enumI_c, optF_c, chainF_c, setIS_c, appendS_c, raiseS_c, fzE_c, frF_c, tmV_c, cF_c, R.bind_ok, R.bind_err, seqK_nx, seqK_ret, seqK_bk, seqK_ct, seqK_err, defF_c, defK_ret, defK_nx, defK_err, opK_tt, opK_pt, ptK_some, intOp_i, intCmp_i, addD_i, tt2_t, intOp_t, divC, modC, mulC_r, ixN, callK1_some, callK2_ok, callK2_err, giveK_some, giveX_some, oneK_some, peek_tm, sliceK_tm, putK_some, opt_some, stab_tm, testK_bl, andTK_t, andTK_f, orTK_t, orTK_f, andFK_t, andFK_f, orFK_t, orFK_f, notFK_bl, ifFK_t, ifFK_f, ifSK_t, ifSK_f, itemK1_tm, itemK1, somePK_int, tupK, lstK, lendK_some, seqIK_tup, seqIK_lst, seqIK_rol, enumK_tup, enumK_lst, chainK_t, chainK_f, setIK_c0, setIK_c1, setIK_c2, setIK_c3, setIK_c4, putIK2_some, appK_0, appK2_lst, eqD_ii, eqD_ss, eqD_bb, neD_ii, neD_ss, lcE_c, lcK_ok, rangeD_len, wipeE, getS_0, getS_s, loadV_tm, loadV, stab, peek, viewD, subS, putS, sub, put, kid, setKid, addD_tt, addD_ll, shrC, ltD, gtD, isN, isND, notND, lenC_tup, lenC_lst, lenC_rol, listC_tup, listC_lst, listC_rol, tupleC_tup, tupleC_lst, tupleC_rol, intC_int, intC_bl, item, itemK, optV, kidV, takeL, giveL, bck, putN, nameG, nilG, consG, tupG, negD, isLst, sizeLine_eq, isiD, isi2D, typeD, moveK_some, itemD_lst, itemD_tup]; rfl⟩
end DL.GW50
end

section
set_option Elab.async false
set_option linter.all false
set_option maxRecDepth 100000
set_option maxHeartbeats 4000000
namespace DL.GW50
open PySem L2
theorem k_tuple_tuple : kitB "tuple" "tuple" = some true := by decide +kernel
theorem k_str_tuple : kitB "str" "tuple" = some false := by decide +kernel
theorem k_str_bool : kitB "str" "bool" = some false := by decide +kernel
theorem k_str_int : kitB "str" "int" = some false := by decide +kernel
theorem k_str_list : kitB "str" "list" = some false := by decide +kernel
theorem k_str_str : kitB "str" "str" = some true := by decide +kernel
theorem k_int_tuple : kitB "int" "tuple" = some false := by decide +kernel
theorem k_int_bool : kitB "int" "bool" = some false := by decide +kernel
theorem k_int_int : kitB "int" "int" = some true := by decide +kernel
abbrev Same (n : Nat) (d : D) : Prop := S__law_same n [some (.fz d), some (.fz d)] = .ok (.fz (.bl true)) [some (.fz d), some (.fz d)]
theorem same_int (n : Nat) (i : Int) : Same (n + 1) (.int i) := by
  simp -implicitDefEqProofs [Same, S__law_same, s__law_same, k_tuple_tuple, k_str_tuple, k_str_bool, k_str_int, k_str_list, k_str_str, k_int_tuple, k_int_bool, k_int_int, varV_c, load_c, moveE_c, seqS_c, opF_c, callE_c, fun1_c, fun1L_c, sliceF_c, setS_c, testF_c, andT_c, orT_c, notT_c, andF_c, orF_c, notF_c, ifF_c, itemV_c, noP_c, someP_c, nilA_c, consA_c, tupF_c, lstE_c, nilAr_c, valAr_c, lendAr_c, ifS_c, retS_c, retNS_c, skipS_c, bkS_c, ctS_c, asgS_c, forL_c, seqI_c, range1I_c, enumI_c, optF_c, chainF_c, setIS_c, appendS_c, raiseS_c, fzE_c, frF_c, tmV_c, cF_c, R.bind_ok, R.bind_err, seqK_nx, seqK_ret, seqK_bk, seqK_ct, seqK_err, defF_c, defK_ret, defK_nx, defK_err, opK_tt, opK_pt, ptK_some, intOp_i, intCmp_i, addD_i, tt2_t, intOp_t, divC, modC, mulC_r, ixN, callK1_some, callK2_ok, callK2_err, giveK_some, giveX_some, oneK_some, peek_tm, sliceK_tm, putK_some, opt_some, stab_tm, testK_bl, andTK_t, andTK_f, orTK_t, orTK_f, andFK_t, andFK_f, orFK_t, orFK_f, notFK_bl, ifFK_t, ifFK_f, ifSK_t, ifSK_f, itemK1_tm, itemK1, somePK_int, tupK, lstK, lendK_some, seqIK_tup, seqIK_lst, seqIK_rol, enumK_tup, enumK_lst, chainK_t, chainK_f, setIK_c0, setIK_c1, setIK_c2, setIK_c3, setIK_c4, putIK2_some, appK_0, appK2_lst, eqD_ii, eqD_ss, eqD_bb, neD_ii, neD_ss, lcE_c, lcK_ok, rangeD_len, wipeE, getS_0, getS_s, loadV_tm, loadV, stab, peek, viewD, subS, putS, sub, put, kid, setKid, addD_tt, addD_ll, shrC, ltD, gtD, isN, isND, notND, lenC_tup, lenC_lst, lenC_rol, listC_tup, listC_lst, listC_rol, tupleC_tup, tupleC_lst, tupleC_rol, intC_int, intC_bl, item, itemK, optV, kidV, takeL, giveL, bck, putN, nameG, nilG, consG, tupG, negD, isLst, sizeLine_eq, isiD, isi2D, typeD, moveK_some, itemD_lst, itemD_tup]
theorem same_str (n : Nat) (s : Str) : Same (n + 1) (.str s) := by
  simp -implicitDefEqProofs [Same, S__law_same, s__law_same, k_tuple_tuple, k_str_tuple, k_str_bool, k_str_int, k_str_list, k_str_str, k_int_tuple, k_int_bool, k_int_int, varV_c, load_c, moveE_c, seqS_c, opF_c, callE_c, fun1_c, fun1L_c, sliceF_c, setS_c, testF_c, andT_c, orT_c, notT_c, andF_c, orF_c, notF_c, ifF_c, itemV_c, noP_c, someP_c, nilA_c, consA_c, tupF_c, lstE_c, nilAr_c, valAr_c, lendAr_c, ifS_c, retS_c, retNS_c, skipS_c, bkS_c, ctS_c, asgS_c, forL_c, seqI_c, range1I_c, enumI_c, optF_c, chainF_c, setIS_c, appendS_c, raiseS_c, fzE_c, frF_c, tmV_c, cF_c, R.bind_ok, R.bind_err, seqK_nx, seqK_ret, seqK_bk, seqK_ct, seqK_err, defF_c, defK_ret, defK_nx, defK_err, opK_tt, opK_pt, ptK_some, intOp_i, intCmp_i, addD_i, tt2_t, intOp_t, divC, modC, mulC_r, ixN, callK1_some, callK2_ok, callK2_err, giveK_some, giveX_some, oneK_some, peek_tm, sliceK_tm, putK_some, opt_some, stab_tm, testK_bl, andTK_t, andTK_f, orTK_t, orTK_f, andFK_t, andFK_f, orFK_t, orFK_f, notFK_bl, ifFK_t, ifFK_f, ifSK_t, ifSK_f, itemK1_tm, itemK1, somePK_int, tupK, lstK, lendK_some, seqIK_tup, seqIK_lst, seqIK_rol, enumK_tup, enumK_lst, chainK_t, chainK_f, setIK_c0, setIK_c1, setIK_c2, setIK_c3, setIK_c4, putIK2_some, appK_0, appK2_lst, eqD_ii, eqD_ss, eqD_bb, neD_ii, neD_ss, lcE_c, lcK_ok, rangeD_len, wipeE, getS_0, getS_s, loadV_tm, loadV, stab, peek, viewD, subS, putS, sub, put, kid, setKid, addD_tt, addD_ll, shrC, ltD, gtD, isN, isND, notND, lenC_tup, lenC_lst, lenC_rol, listC_tup, listC_lst, listC_rol, tupleC_tup, tupleC_lst, tupleC_rol, intC_int, intC_bl, item, itemK, optV, kidV, takeL, giveL, bck, putN, nameG, nilG, consG, tupG, negD, isLst, sizeLine_eq, isiD, isi2D, typeD, moveK_some, itemD_lst, itemD_tup]
theorem same_tup (n : Nat) (ds : List D) (hl : ds.length ≤ 1000) (h : ∀ d ∈ ds, Same n d) : Same (n + 1) (.tup ds) := by
  have hr : ∀ e, range1K [.int ds.length] e = .ok (rangeD 0 ds.length) e := fun e => by rw [range1K_ok (by omega)]; simp
  obtain ⟨e, h1, j, z, h2, rfl⟩ := forS_inv (I := fun rs env => ∃ (j : Nat) (z : Option O), rs = (rangeD 0 ds.length).drop j ∧ env = [some (.fz (.tup ds)), some (.fz (.tup ds)), z]) (g := nameG 2) (f := (ifS (notT (testF (frF (callE (S__law_same n) [none, none] (valAr (fzE (load (itemV (varV 0) (load (varV 2)) true))) (valAr (fzE (load (itemV (varV 1) (load (varV 2)) true))) (nilAr))))))) (retS (fzE (cF (.bl false)))) (skipS)))
    (ds := rangeD 0 ds.length) (env := [some (.fz (.tup ds)), some (.fz (.tup ds)), none]) (fun d rest env ⟨j, z, h1, h2⟩ => by
      have hj : j < ds.length := by
        apply Classical.byContradiction
        intro hn
        rw [List.drop_eq_nil_of_le (by rw [rangeD_len]; omega)] at h1
        cases h1
      rw [rangeD_at hj] at h1
      obtain ⟨rfl, rfl⟩ := List.cons.inj h1
      subst h2
      refine ⟨_, [some (.fz (.tup ds)), some (.fz (.tup ds)), some (.fz (.int j))], rfl, .inl ?_, j + 1, _, rfl, rfl⟩
      have e1 : atD ds (j : Int) = some ds[j] := by rw [atD_nonneg (by omega) (by omega)]; simp [hj]
      have e2 : S__law_same n [some (.fz ds[j]), some (.fz ds[j])] = .ok (.fz (.bl true)) [some (.fz ds[j]), some (.fz ds[j])] := h ds[j] (List.getElem_mem hj)
      simp -implicitDefEqProofs [e1, e2, varV_c, load_c, moveE_c, seqS_c, opF_c, callE_c, fun1_c, fun1L_c, sliceF_c, setS_c, testF_c, andT_c, orT_c, notT_c, andF_c, orF_c, notF_c, ifF_c, itemV_c, noP_c, someP_c, nilA_c, consA_c, tupF_c, lstE_c, nilAr_c, valAr_c, lendAr_c, ifS_c, retS_c, retNS_c, skipS_c, bkS_c, ctS_c, asgS_c, forL_c, seqI_c, range1I_c, enumI_c, optF_c, chainF_c, setIS_c, appendS_c, raiseS_c, fzE_c, frF_c, tmV_c, cF_c, R.bind_ok, R.bind_err, seqK_nx, seqK_ret, seqK_bk, seqK_ct, seqK_err, defF_c, defK_ret, defK_nx, defK_err, opK_tt, opK_pt, ptK_some, intOp_i, intCmp_i, addD_i, tt2_t, intOp_t, divC, modC, mulC_r, ixN, callK1_some, callK2_ok, callK2_err, giveK_some, giveX_some, oneK_some, peek_tm, sliceK_tm, putK_some, opt_some, stab_tm, testK_bl, andTK_t, andTK_f, orTK_t, orTK_f, andFK_t, andFK_f, orFK_t, orFK_f, notFK_bl, ifFK_t, ifFK_f, ifSK_t, ifSK_f, itemK1_tm, itemK1, somePK_int, tupK, lstK, lendK_some, seqIK_tup, seqIK_lst, seqIK_rol, enumK_tup, enumK_lst, chainK_t, chainK_f, setIK_c0, setIK_c1, setIK_c2, setIK_c3, setIK_c4, putIK2_some, appK_0, appK2_lst, eqD_ii, eqD_ss, eqD_bb, neD_ii, neD_ss, lcE_c, lcK_ok, rangeD_len, wipeE, getS_0, getS_s, loadV_tm, loadV, stab, peek, viewD, subS, putS, sub, put, kid, setKid, addD_tt, addD_ll, shrC, ltD, gtD, isN, isND, notND, lenC_tup, lenC_lst, lenC_rol, listC_tup, listC_lst, listC_rol, tupleC_tup, tupleC_lst, tupleC_rol, intC_int, intC_bl, item, itemK, optV, kidV, takeL, giveL, bck, putN, nameG, nilG, consG, tupG, negD, isLst, sizeLine_eq, isiD, isi2D, typeD, moveK_some, itemD_lst, itemD_tup]) ⟨0, none, rfl, rfl⟩
  simp -implicitDefEqProofs [Same, S__law_same, s__law_same, hr, h1, k_tuple_tuple, k_str_tuple, k_str_bool, k_str_int, k_str_list, k_str_str, k_int_tuple, k_int_bool, k_int_int, varV_c, load_c, moveE_c, seqS_c, opF_c, callE_c, fun1_c, fun1L_c, sliceF_c, setS_c, testF_c, andT_c, orT_c, notT_c, andF_c, orF_c, notF_c, ifF_c, itemV_c, noP_c, someP_c, nilA_c, consA_c, tupF_c, lstE_c, nilAr_c, valAr_c, lendAr_c, ifS_c, retS_c, retNS_c, skipS_c, bkS_c, ctS_c, asgS_c, forL_c, seqI_c, range1I_c, enumI_c, optF_c, chainF_c, setIS_c, appendS_c, raiseS_c, fzE_c, frF_c, tmV_c, cF_c, R.bind_ok, R.bind_err, seqK_nx, seqK_ret, seqK_bk, seqK_ct, seqK_err, defF_c, defK_ret, defK_nx, defK_err, opK_tt, opK_pt, ptK_some, intOp_i, intCmp_i, addD_i, tt2_t, intOp_t, divC, modC, mulC_r, ixN, callK1_some, callK2_ok, callK2_err, giveK_some, giveX_some, oneK_some, peek_tm, sliceK_tm, putK_some, opt_some, stab_tm, testK_bl, andTK_t, andTK_f, orTK_t, orTK_f, andFK_t, andFK_f, orFK_t, orFK_f, notFK_bl, ifFK_t, ifFK_f, ifSK_t, ifSK_f, itemK1_tm, itemK1, somePK_int, tupK, lstK, lendK_some, seqIK_tup, seqIK_lst, seqIK_rol, enumK_tup, enumK_lst, chainK_t, chainK_f, setIK_c0, setIK_c1, setIK_c2, setIK_c3, setIK_c4, putIK2_some, appK_0, appK2_lst, eqD_ii, eqD_ss, eqD_bb, neD_ii, neD_ss, lcE_c, lcK_ok, rangeD_len, wipeE, getS_0, getS_s, loadV_tm, loadV, stab, peek, viewD, subS, putS, sub, put, kid, setKid, addD_tt, addD_ll, shrC, ltD, gtD, isN, isND, notND, lenC_tup, lenC_lst, lenC_rol, listC_tup, listC_lst, listC_rol, tupleC_tup, tupleC_lst, tupleC_rol, intC_int, intC_bl, item, itemK, optV, kidV, takeL, giveL, bck, putN, nameG, nilG, consG, tupG, negD, isLst, sizeLine_eq, isiD, isi2D, typeD, moveK_some, itemD_lst, itemD_tup]
theorem same_ints (n : Nat) (l : List Int) (hl : l.length ≤ 1000) : Same (n + 2) (.tup (l.map .int)) :=
  same_tup (n + 1) _ (by simpa using hl) fun d hd => by
    obtain ⟨i, _, rfl⟩ := List.mem_map.mp hd
    exact same_int n i
theorem same_tups (n : Nat) (ws : List (List Int)) (hl : ws.length ≤ 1000) (h : ∀ l ∈ ws, l.length ≤ 1000) : Same (n + 3) (.tup (tups ws)) :=
  same_tup (n + 2) _ (by rw [tups_len]; exact hl) fun d hd => by
    obtain ⟨l, hm, rfl⟩ := List.mem_map.mp hd
    exact same_ints n l (h l hm)
theorem run_ok (i : Nat) : ∀ (hs : List Harm) (vs ws : List (List Int)), run i hs vs = .ok ws → vs.length + hs.length ≤ 100 → (∀ l ∈ vs, l.length ≤ 100) → ws.length ≤ 100 ∧ ∀ l ∈ ws, l.length ≤ 100
  | [], vs, ws, e, h1, h2 => by
    have e' : vs = ws := by simpa [run] using e
    subst e'
    exact ⟨by simpa using h1, h2⟩
  | h :: hs, vs, ws, e, h1, h2 => by
    rw [run] at e
    simp only [List.length_cons] at h1
    split at e
    · rename_i ok
      have : ∀ j k : Nat, ∀ (hs : List Harm) (vs ws : List (List Int)), run j hs vs = .ok ws → run k hs vs = .ok ws := by
        intro j k hs
        induction hs generalizing j k with
        | nil => intro vs ws e; exact e
        | cons h hs ih =>
          intro vs ws e
          rw [run] at e ⊢
          split at e
          · rename_i ok; rw [if_pos ok]; exact ih _ _ _ _ e
          · cases e
      exact run_ok i hs _ ws (this _ _ _ _ _ e) (by have := step_len h vs; omega) (step_all h vs _ ok 100 h2)
    · cases e
theorem same_ans (hs : List Harm) (vs : List (List Int)) (h1 : vs.length + hs.length ≤ 100) (h2 : ∀ l ∈ vs, l.length ≤ 100) : Same 6 (ansD (run 0 hs vs)) := by
  cases hr : run 0 hs vs with
  | ok ws =>
    obtain ⟨h3, h4⟩ := run_ok 0 hs vs ws hr h1 h2
    refine same_tup 5 _ (by simp) fun d hd => ?_
    simp only [List.mem_cons, List.not_mem_nil, or_false] at hd
    rcases hd with rfl | rfl
    · exact same_str 4 _
    · exact same_tups 2 ws (by omega) fun l hl => by have := h4 l hl; omega
  | error j =>
    refine same_tup 5 _ (by simp) fun d hd => ?_
    simp only [List.mem_cons, List.not_mem_nil, or_false] at hd
    rcases hd with rfl | rfl
    · exact same_str 4 _
    · exact same_int 4 _
def hO (t : Bool) (ds : List D) : O := if t then .fz (.tup ds) else .lst (ds.map .fz)
theorem frz_hO (t : Bool) (ds : List D) : frz (hO t ds) = sq t ds := by cases t <;> simp [hO, sq, Function.comp_def]
theorem m_handed {p : O} (hp : Pool p) (ds : List D) : ∃ t p', Pool p' ∧ S__law_handed [some p, some (.fz (.lst ds))] = .ok (hO t ds) [some p', some (.fz (.lst ds))] := by
  obtain ⟨b, p1, hp1, l1, u1, e1⟩ := draw hp 2 (by decide) (by decide)
  have h : b = 0 ∨ b = 1 := by omega
  rcases h with rfl | rfl
  · exact ⟨true, p1, hp1, by simp [S__law_handed, s__law_handed, hO, e1, varV_c, load_c, moveE_c, seqS_c, opF_c, callE_c, fun1_c, fun1L_c, sliceF_c, setS_c, testF_c, andT_c, orT_c, notT_c, andF_c, orF_c, notF_c, ifF_c, itemV_c, noP_c, someP_c, nilA_c, consA_c, tupF_c, lstE_c, nilAr_c, valAr_c, lendAr_c, ifS_c, retS_c, retNS_c, skipS_c, bkS_c, ctS_c, asgS_c, forL_c, seqI_c, range1I_c, enumI_c, optF_c, chainF_c, setIS_c, appendS_c, raiseS_c, fzE_c, frF_c, tmV_c, cF_c, R.bind_ok, R.bind_err, seqK_nx, seqK_ret, seqK_bk, seqK_ct, seqK_err, defF_c, defK_ret, defK_nx, defK_err, opK_tt, opK_pt, ptK_some, intOp_i, intCmp_i, addD_i, tt2_t, intOp_t, divC, modC, mulC_r, ixN, callK1_some, callK2_ok, callK2_err, giveK_some, giveX_some, oneK_some, peek_tm, sliceK_tm, putK_some, opt_some, stab_tm, testK_bl, andTK_t, andTK_f, orTK_t, orTK_f, andFK_t, andFK_f, orFK_t, orFK_f, notFK_bl, ifFK_t, ifFK_f, ifSK_t, ifSK_f, itemK1_tm, itemK1, somePK_int, tupK, lstK, lendK_some, seqIK_tup, seqIK_lst, seqIK_rol, enumK_tup, enumK_lst, chainK_t, chainK_f, setIK_c0, setIK_c1, setIK_c2, setIK_c3, setIK_c4, putIK2_some, appK_0, appK2_lst, eqD_ii, eqD_ss, eqD_bb, neD_ii, neD_ss, lcE_c, lcK_ok, rangeD_len, wipeE, getS_0, getS_s, loadV_tm, loadV, stab, peek, viewD, subS, putS, sub, put, kid, setKid, addD_tt, addD_ll, shrC, ltD, gtD, isN, isND, notND, lenC_tup, lenC_lst, lenC_rol, listC_tup, listC_lst, listC_rol, tupleC_tup, tupleC_lst, tupleC_rol, intC_int, intC_bl, item, itemK, optV, kidV, takeL, giveL, bck, putN, nameG, nilG, consG, tupG, negD, isLst, sizeLine_eq, isiD, isi2D, typeD, moveK_some, itemD_lst, itemD_tup]⟩
  · exact ⟨false, p1, hp1, by simp [S__law_handed, s__law_handed, hO, e1, varV_c, load_c, moveE_c, seqS_c, opF_c, callE_c, fun1_c, fun1L_c, sliceF_c, setS_c, testF_c, andT_c, orT_c, notT_c, andF_c, orF_c, notF_c, ifF_c, itemV_c, noP_c, someP_c, nilA_c, consA_c, tupF_c, lstE_c, nilAr_c, valAr_c, lendAr_c, ifS_c, retS_c, retNS_c, skipS_c, bkS_c, ctS_c, asgS_c, forL_c, seqI_c, range1I_c, enumI_c, optF_c, chainF_c, setIS_c, appendS_c, raiseS_c, fzE_c, frF_c, tmV_c, cF_c, R.bind_ok, R.bind_err, seqK_nx, seqK_ret, seqK_bk, seqK_ct, seqK_err, defF_c, defK_ret, defK_nx, defK_err, opK_tt, opK_pt, ptK_some, intOp_i, intCmp_i, addD_i, tt2_t, intOp_t, divC, modC, mulC_r, ixN, callK1_some, callK2_ok, callK2_err, giveK_some, giveX_some, oneK_some, peek_tm, sliceK_tm, putK_some, opt_some, stab_tm, testK_bl, andTK_t, andTK_f, orTK_t, orTK_f, andFK_t, andFK_f, orFK_t, orFK_f, notFK_bl, ifFK_t, ifFK_f, ifSK_t, ifSK_f, itemK1_tm, itemK1, somePK_int, tupK, lstK, lendK_some, seqIK_tup, seqIK_lst, seqIK_rol, enumK_tup, enumK_lst, chainK_t, chainK_f, setIK_c0, setIK_c1, setIK_c2, setIK_c3, setIK_c4, putIK2_some, appK_0, appK2_lst, eqD_ii, eqD_ss, eqD_bb, neD_ii, neD_ss, lcE_c, lcK_ok, rangeD_len, wipeE, getS_0, getS_s, loadV_tm, loadV, stab, peek, viewD, subS, putS, sub, put, kid, setKid, addD_tt, addD_ll, shrC, ltD, gtD, isN, isND, notND, lenC_tup, lenC_lst, lenC_rol, listC_tup, listC_lst, listC_rol, tupleC_tup, tupleC_lst, tupleC_rol, intC_int, intC_bl, item, itemK, optV, kidV, takeL, giveL, bck, putN, nameG, nilG, consG, tupG, negD, isLst, sizeLine_eq, isiD, isi2D, typeD, moveK_some, itemD_lst, itemD_tup]⟩
theorem m_handedO {p : O} (hp : Pool p) (ds : List D) : ∃ t p' o, Pool p' ∧ S__law_handed [some p, some (.lst (ds.map .fz))] = .ok (hO t ds) [some p', some o] := by
  obtain ⟨b, p1, hp1, l1, u1, e1⟩ := draw hp 2 (by decide) (by decide)
  have h : b = 0 ∨ b = 1 := by omega
  rcases h with rfl | rfl
  · exact ⟨true, p1, .lst (ds.map .fz), hp1, by simp [S__law_handed, s__law_handed, hO, e1, frz_comp, vf_comp, varV_c, load_c, moveE_c, seqS_c, opF_c, callE_c, fun1_c, fun1L_c, sliceF_c, setS_c, testF_c, andT_c, orT_c, notT_c, andF_c, orF_c, notF_c, ifF_c, itemV_c, noP_c, someP_c, nilA_c, consA_c, tupF_c, lstE_c, nilAr_c, valAr_c, lendAr_c, ifS_c, retS_c, retNS_c, skipS_c, bkS_c, ctS_c, asgS_c, forL_c, seqI_c, range1I_c, enumI_c, optF_c, chainF_c, setIS_c, appendS_c, raiseS_c, fzE_c, frF_c, tmV_c, cF_c, R.bind_ok, R.bind_err, seqK_nx, seqK_ret, seqK_bk, seqK_ct, seqK_err, defF_c, defK_ret, defK_nx, defK_err, opK_tt, opK_pt, ptK_some, intOp_i, intCmp_i, addD_i, tt2_t, intOp_t, divC, modC, mulC_r, ixN, callK1_some, callK2_ok, callK2_err, giveK_some, giveX_some, oneK_some, peek_tm, sliceK_tm, putK_some, opt_some, stab_tm, testK_bl, andTK_t, andTK_f, orTK_t, orTK_f, andFK_t, andFK_f, orFK_t, orFK_f, notFK_bl, ifFK_t, ifFK_f, ifSK_t, ifSK_f, itemK1_tm, itemK1, somePK_int, tupK, lstK, lendK_some, seqIK_tup, seqIK_lst, seqIK_rol, enumK_tup, enumK_lst, chainK_t, chainK_f, setIK_c0, setIK_c1, setIK_c2, setIK_c3, setIK_c4, putIK2_some, appK_0, appK2_lst, eqD_ii, eqD_ss, eqD_bb, neD_ii, neD_ss, lcE_c, lcK_ok, rangeD_len, wipeE, getS_0, getS_s, loadV_tm, loadV, stab, peek, viewD, subS, putS, sub, put, kid, setKid, addD_tt, addD_ll, shrC, ltD, gtD, isN, isND, notND, lenC_tup, lenC_lst, lenC_rol, listC_tup, listC_lst, listC_rol, tupleC_tup, tupleC_lst, tupleC_rol, intC_int, intC_bl, item, itemK, optV, kidV, takeL, giveL, bck, putN, nameG, nilG, consG, tupG, negD, isLst, sizeLine_eq, isiD, isi2D, typeD, moveK_some, itemD_lst, itemD_tup]⟩
  · exact ⟨false, p1, .lst (ds.map .fz), hp1, by simp [S__law_handed, s__law_handed, hO, e1, frz_comp, vf_comp, varV_c, load_c, moveE_c, seqS_c, opF_c, callE_c, fun1_c, fun1L_c, sliceF_c, setS_c, testF_c, andT_c, orT_c, notT_c, andF_c, orF_c, notF_c, ifF_c, itemV_c, noP_c, someP_c, nilA_c, consA_c, tupF_c, lstE_c, nilAr_c, valAr_c, lendAr_c, ifS_c, retS_c, retNS_c, skipS_c, bkS_c, ctS_c, asgS_c, forL_c, seqI_c, range1I_c, enumI_c, optF_c, chainF_c, setIS_c, appendS_c, raiseS_c, fzE_c, frF_c, tmV_c, cF_c, R.bind_ok, R.bind_err, seqK_nx, seqK_ret, seqK_bk, seqK_ct, seqK_err, defF_c, defK_ret, defK_nx, defK_err, opK_tt, opK_pt, ptK_some, intOp_i, intCmp_i, addD_i, tt2_t, intOp_t, divC, modC, mulC_r, ixN, callK1_some, callK2_ok, callK2_err, giveK_some, giveX_some, oneK_some, peek_tm, sliceK_tm, putK_some, opt_some, stab_tm, testK_bl, andTK_t, andTK_f, orTK_t, orTK_f, andFK_t, andFK_f, orFK_t, orFK_f, notFK_bl, ifFK_t, ifFK_f, ifSK_t, ifSK_f, itemK1_tm, itemK1, somePK_int, tupK, lstK, lendK_some, seqIK_tup, seqIK_lst, seqIK_rol, enumK_tup, enumK_lst, chainK_t, chainK_f, setIK_c0, setIK_c1, setIK_c2, setIK_c3, setIK_c4, putIK2_some, appK_0, appK2_lst, eqD_ii, eqD_ss, eqD_bb, neD_ii, neD_ss, lcE_c, lcK_ok, rangeD_len, wipeE, getS_0, getS_s, loadV_tm, loadV, stab, peek, viewD, subS, putS, sub, put, kid, setKid, addD_tt, addD_ll, shrC, ltD, gtD, isN, isND, notND, lenC_tup, lenC_lst, lenC_rol, listC_tup, listC_lst, listC_rol, tupleC_tup, tupleC_lst, tupleC_rol, intC_int, intC_bl, item, itemK, optV, kidV, takeL, giveL, bck, putN, nameG, nilG, consG, tupG, negD, isLst, sizeLine_eq, isiD, isi2D, typeD, moveK_some, itemD_lst, itemD_tup]⟩
end DL.GW50
end

section
set_option Elab.async false
set_option linter.all false
set_option maxRecDepth 100000
set_option maxHeartbeats 4000000
namespace DL.GW50
open PySem L2
def oV (q : Bool × List Int) : O := hO q.1 (q.2.map .int)
theorem frz_oV (q : Bool × List Int) : frz (oV q) = vd q.1 q.2 := by rw [oV, frz_hO]; rfl
def VB (vols : List (Bool × List Int)) : Prop := ∀ q ∈ vols, q.2.length ≤ 12 ∧ ∀ x ∈ q.2, sm x
theorem vol_loop (S0 : Option O) : ∀ (ds : List D) (p : O) (vols : List (Bool × List Int)) (z3 z4 : Option O), Pool p → VB vols → vols.length + ds.length ≤ 1000 →
    ∃ p' vols' y3 y4, Pool p' ∧ VB vols' ∧ vols'.length = vols.length + ds.length ∧ forS (nameG 3) (seqS (setS 4 (fzE (load (itemV (tmV (frF (lstE (consA (cF (.int 0)) (consA (frF (callE S__law_draw [some 1, none] (lendAr 1 (valAr (fzE (cF (.int 13))) (nilAr))))) (consA (cF (.int 12)) (nilA))))))) (frF (callE S__law_draw [some 1, none] (lendAr 1 (valAr (fzE (cF (.int 3))) (nilAr))))) false)))) (appendS (varV 2) (callE S__law_handed [some 1, none] (lendAr 1 (valAr (lcE [true, true, true, true, true, false, true, true, true, true, true, true, true, true, true] [5] (range1I (consA (load (varV 4)) (nilA))) (nameG 5) (yesT) (fzE (load (itemV (tmV (frF (lstE (consA (frF (callE S__law_draw [some 1, none] (lendAr 1 (valAr (fzE (cF (.int 129))) (nilAr))))) (consA (cF (.int 128)) (nilA)))))) (frF (callE S__law_draw [some 1, none] (lendAr 1 (valAr (fzE (cF (.int 2))) (nilAr))))) false)))) (nilAr)))))) ds [S0, some p, some (.lst (vols.map oV)), z3, z4, none, none, none, none, none, none, none, none, none, none] = .ok .nx [S0, some p', some (.lst (vols'.map oV)), y3, y4, none, none, none, none, none, none, none, none, none, none]
  | [], p, vols, z3, z4, hp, hv, hl => ⟨p, vols, z3, z4, hp, hv, rfl, rfl⟩
  | d :: ds, p, vols, z3, z4, hp, hv, hl => by
    simp only [List.length_cons] at hl
    obtain ⟨a, p1, hp1, l1, u1, e1⟩ := draw hp 13 (by decide) (by decide)
    obtain ⟨c, p2, hp2, l2, u2, e2⟩ := draw hp1 3 (by decide) (by decide)
    obtain ⟨n, hn, e3⟩ : ∃ n, (0 ≤ n ∧ n ≤ 12) ∧ atD [D.int 0, D.int a, D.int 12] c = some (.int n) := by
      have h : c = 0 ∨ c = 1 ∨ c = 2 := by omega
      rcases h with rfl | rfl | rfl
      · exact ⟨0, by omega, rfl⟩
      · exact ⟨a, by omega, rfl⟩
      · exact ⟨12, by omega, rfl⟩
    obtain ⟨xs, p3, hp3, hxl, hxs, e4⟩ := lc_ints (P := sm) (mk := fun p => [S0, some p, some (.lst (vols.map oV)), some (.fz d), some (.fz (.int n)), none, none, none, none, none, none, none, none, none, none]) (g := nameG 5) (vs := [5]) (f := fzE (load (itemV (tmV (frF (lstE (consA (frF (callE S__law_draw [some 1, none] (lendAr 1 (valAr (fzE (cF (.int 129))) (nilAr))))) (consA (cF (.int 128)) (nilA)))))) (frF (callE S__law_draw [some 1, none] (lendAr 1 (valAr (fzE (cF (.int 2))) (nilAr))))) false))) (fun d' p => ⟨_, rfl, fun hp => by
      obtain ⟨a, p1, hp1, l1, u1, e1⟩ := draw hp 129 (by decide) (by decide)
      obtain ⟨b, p2, hp2, l2, u2, e2⟩ := draw hp1 2 (by decide) (by decide)
      have h : b = 0 ∨ b = 1 := by omega
      rcases h with rfl | rfl
      · exact ⟨a, p2, hp2, by unfold sm; omega, [S0, some p2, some (.lst (vols.map oV)), some (.fz d), some (.fz (.int n)), some (.fz d'), none, none, none, none, none, none, none, none, none], by simp -implicitDefEqProofs [e1, e2, atD, varV_c, load_c, moveE_c, seqS_c, opF_c, callE_c, fun1_c, fun1L_c, sliceF_c, setS_c, testF_c, andT_c, orT_c, notT_c, andF_c, orF_c, notF_c, ifF_c, itemV_c, noP_c, someP_c, nilA_c, consA_c, tupF_c, lstE_c, nilAr_c, valAr_c, lendAr_c, ifS_c, retS_c, retNS_c, skipS_c, bkS_c, ctS_c, asgS_c, forL_c, seqI_c, range1I_c, enumI_c, optF_c, chainF_c, setIS_c, appendS_c, raiseS_c, fzE_c, frF_c, tmV_c, cF_c, R.bind_ok, R.bind_err, seqK_nx, seqK_ret, seqK_bk, seqK_ct, seqK_err, defF_c, defK_ret, defK_nx, defK_err, opK_tt, opK_pt, ptK_some, intOp_i, intCmp_i, addD_i, tt2_t, intOp_t, divC, modC, mulC_r, ixN, callK1_some, callK2_ok, callK2_err, giveK_some, giveX_some, oneK_some, peek_tm, sliceK_tm, putK_some, opt_some, stab_tm, testK_bl, andTK_t, andTK_f, orTK_t, orTK_f, andFK_t, andFK_f, orFK_t, orFK_f, notFK_bl, ifFK_t, ifFK_f, ifSK_t, ifSK_f, itemK1_tm, itemK1, somePK_int, tupK, lstK, lendK_some, seqIK_tup, seqIK_lst, seqIK_rol, enumK_tup, enumK_lst, chainK_t, chainK_f, setIK_c0, setIK_c1, setIK_c2, setIK_c3, setIK_c4, putIK2_some, appK_0, appK2_lst, eqD_ii, eqD_ss, eqD_bb, neD_ii, neD_ss, lcE_c, lcK_ok, rangeD_len, wipeE, getS_0, getS_s, loadV_tm, loadV, stab, peek, viewD, subS, putS, sub, put, kid, setKid, addD_tt, addD_ll, shrC, ltD, gtD, isN, isND, notND, lenC_tup, lenC_lst, lenC_rol, listC_tup, listC_lst, listC_rol, tupleC_tup, tupleC_lst, tupleC_rol, intC_int, intC_bl, item, itemK, optV, kidV, takeL, giveL, bck, putN, nameG, nilG, consG, tupG, negD, isLst, sizeLine_eq, isiD, isi2D, typeD, moveK_some, itemD_lst, itemD_tup], rfl⟩
      · exact ⟨128, p2, hp2, by unfold sm; omega, [S0, some p2, some (.lst (vols.map oV)), some (.fz d), some (.fz (.int n)), some (.fz d'), none, none, none, none, none, none, none, none, none], by simp -implicitDefEqProofs [e1, e2, atD, varV_c, load_c, moveE_c, seqS_c, opF_c, callE_c, fun1_c, fun1L_c, sliceF_c, setS_c, testF_c, andT_c, orT_c, notT_c, andF_c, orF_c, notF_c, ifF_c, itemV_c, noP_c, someP_c, nilA_c, consA_c, tupF_c, lstE_c, nilAr_c, valAr_c, lendAr_c, ifS_c, retS_c, retNS_c, skipS_c, bkS_c, ctS_c, asgS_c, forL_c, seqI_c, range1I_c, enumI_c, optF_c, chainF_c, setIS_c, appendS_c, raiseS_c, fzE_c, frF_c, tmV_c, cF_c, R.bind_ok, R.bind_err, seqK_nx, seqK_ret, seqK_bk, seqK_ct, seqK_err, defF_c, defK_ret, defK_nx, defK_err, opK_tt, opK_pt, ptK_some, intOp_i, intCmp_i, addD_i, tt2_t, intOp_t, divC, modC, mulC_r, ixN, callK1_some, callK2_ok, callK2_err, giveK_some, giveX_some, oneK_some, peek_tm, sliceK_tm, putK_some, opt_some, stab_tm, testK_bl, andTK_t, andTK_f, orTK_t, orTK_f, andFK_t, andFK_f, orFK_t, orFK_f, notFK_bl, ifFK_t, ifFK_f, ifSK_t, ifSK_f, itemK1_tm, itemK1, somePK_int, tupK, lstK, lendK_some, seqIK_tup, seqIK_lst, seqIK_rol, enumK_tup, enumK_lst, chainK_t, chainK_f, setIK_c0, setIK_c1, setIK_c2, setIK_c3, setIK_c4, putIK2_some, appK_0, appK2_lst, eqD_ii, eqD_ss, eqD_bb, neD_ii, neD_ss, lcE_c, lcK_ok, rangeD_len, wipeE, getS_0, getS_s, loadV_tm, loadV, stab, peek, viewD, subS, putS, sub, put, kid, setKid, addD_tt, addD_ll, shrC, ltD, gtD, isN, isND, notND, lenC_tup, lenC_lst, lenC_rol, listC_tup, listC_lst, listC_rol, tupleC_tup, tupleC_lst, tupleC_rol, intC_int, intC_bl, item, itemK, optV, kidV, takeL, giveL, bck, putN, nameG, nilG, consG, tupG, negD, isLst, sizeLine_eq, isiD, isi2D, typeD, moveK_some, itemD_lst, itemD_tup], rfl⟩⟩) (rangeD 0 n.toNat) hp2
    obtain ⟨t, p4, o4, hp4, e5⟩ := m_handedO hp3 (xs.map .int)
    have hr : ∀ e, range1K [.int n] e = .ok (rangeD 0 n.toNat) e := fun e => range1K_ok (by omega)
    have hz : n ≤ 16777216 := by omega
    have hz2 : vols.length < 16777216 := by omega
    have hlen : xs.length ≤ 12 := by rw [hxl, rangeD_len]; omega
    obtain ⟨p', vols', y3, y4, h1, h2, h3, h4⟩ := vol_loop S0 ds p4 (vols ++ [(t, xs)]) (some (.fz d)) (some (.fz (.int n))) hp4 (fun q hq => by
      rcases List.mem_append.mp hq with h | h
      · exact hv q h
      · rw [List.mem_singleton.mp h]; exact ⟨hlen, hxs⟩) (by simp; omega)
    refine ⟨p', vols', y3, y4, h1, h2, by rw [h3]; simp; omega, ?_⟩
    rw [← h4]
    conv => lhs; unfold forS
    rw [List.map_append, List.map_singleton]
    simp -implicitDefEqProofs [e1, e2, e3, e4, e5, hr, hz, hz2, oV, -List.map_map, varV_c, load_c, moveE_c, seqS_c, opF_c, callE_c, fun1_c, fun1L_c, sliceF_c, setS_c, testF_c, andT_c, orT_c, notT_c, andF_c, orF_c, notF_c, ifF_c, itemV_c, noP_c, someP_c, nilA_c, consA_c, tupF_c, lstE_c, nilAr_c, valAr_c, lendAr_c, ifS_c, retS_c, retNS_c, skipS_c, bkS_c, ctS_c, asgS_c, forL_c, seqI_c, range1I_c, enumI_c, optF_c, chainF_c, setIS_c, appendS_c, raiseS_c, fzE_c, frF_c, tmV_c, cF_c, R.bind_ok, R.bind_err, seqK_nx, seqK_ret, seqK_bk, seqK_ct, seqK_err, defF_c, defK_ret, defK_nx, defK_err, opK_tt, opK_pt, ptK_some, intOp_i, intCmp_i, addD_i, tt2_t, intOp_t, divC, modC, mulC_r, ixN, callK1_some, callK2_ok, callK2_err, giveK_some, giveX_some, oneK_some, peek_tm, sliceK_tm, putK_some, opt_some, stab_tm, testK_bl, andTK_t, andTK_f, orTK_t, orTK_f, andFK_t, andFK_f, orFK_t, orFK_f, notFK_bl, ifFK_t, ifFK_f, ifSK_t, ifSK_f, itemK1_tm, itemK1, somePK_int, tupK, lstK, lendK_some, seqIK_tup, seqIK_lst, seqIK_rol, enumK_tup, enumK_lst, chainK_t, chainK_f, setIK_c0, setIK_c1, setIK_c2, setIK_c3, setIK_c4, putIK2_some, appK_0, appK2_lst, eqD_ii, eqD_ss, eqD_bb, neD_ii, neD_ss, lcE_c, lcK_ok, rangeD_len, wipeE, getS_0, getS_s, loadV_tm, loadV, stab, peek, viewD, subS, putS, sub, put, kid, setKid, addD_tt, addD_ll, shrC, ltD, gtD, isN, isND, notND, lenC_tup, lenC_lst, lenC_rol, listC_tup, listC_lst, listC_rol, tupleC_tup, tupleC_lst, tupleC_rol, intC_int, intC_bl, item, itemK, optV, kidV, takeL, giveL, bck, putN, nameG, nilG, consG, tupG, negD, isLst, sizeLine_eq, isiD, isi2D, typeD, moveK_some, itemD_lst, itemD_tup]
def wd : Harm → Str
  | .lose _ => "lose"
  | .turn _ _ => "turn"
  | .double _ => "double"
  | .cut _ _ _ => "cut"
  | .change _ _ _ _ => "change"
theorem enc_0 (h : Harm) : itemD (enc h) (.int 0) = some (.str (wd h)) := by cases h <;> rfl
theorem flats_ints : ∀ xs : List Int, flats (xs.map D.int) = some (xs.map V.int)
  | [] => rfl
  | x :: xs => by simp [flats, flat, flats_ints xs]
theorem in_ints (j : Int) (xs : List Int) : ∃ b, inD (.int j) (.lst (xs.map .int)) = some (.bl b) := by
  simp [inD, inB, DL.inB, flat, items, flats_ints]
theorem opK_tp {g : D → D → Option D} {i : Nat} {p : List Nat} {b : D} {qb : Bool} {e : Env} : opK g (.tm b) (.pl i p) qb e = ptK (fun x y => g y x) (subS e i p) i p b e := by
  have h0 : opK g (.tm b) (.pl i p) qb e = (match (match subS e i p with | some o => some ((viewD o).1, putS e i p (viewD o).2) | none => none) with | some (d2, e4) => (match g b d2 with | some d => R.ok d e4 | none => .bad) | none => .bad) := rfl
  rw [h0]
  cases h : subS e i p with
  | none => rfl
  | some o =>
    show (match g b (viewD o).1 with | some d => R.ok d _ | none => R.bad) = opt (g b (viewD o).1) _
    cases g b (viewD o).1 <;> rfl
/-- the body of the loop that draws the harms -/
def hbody : Env → R Fl := (seqS (setS 10 (callE S__law_harm [some 1, none] (lendAr 1 (valAr (fzE (load (varV 7))) (nilAr))))) (seqS (ifS (testF (opF inD (varV 9) (varV 8) true)) (setS 10 (callE S__law_spoilt [some 1, none, none] (lendAr 1 (valAr (fzE (load (varV 10))) (valAr (fzE (load (varV 7))) (nilAr)))))) (skipS)) (seqS (appendS (varV 6) (fzE (load (varV 10)))) (setS 7 (fzE (opF addD (varV 7) (tmV (fun1 intC (tmV (andF (opF eqD (itemV (varV 10) (cF (.int 0)) true) (tmV (cF (.str "double"))) true) (notF (frF (callE S__law_is_wrong [none, none] (valAr (fzE (load (varV 10))) (valAr (fzE (load (varV 7))) (nilAr)))))))))) false))))))
/-- the frame -/
def hfr (S0 V y3 y4 y5 : Option O) (odds : List Int) (p : O) (hs : List Harm) (m : Int) (z9 z10 : Option O) : Env := [S0, some p, V, y3, y4, y5, some (.lst ((hs.map enc).map O.fz)), some (.fz (.int m)), some (.lst (fzi odds)), z9, z10, none, none, none, none]
theorem harm_key (S0 V y3 y4 y5 : Option O) (odds : List Int) (hs : List Harm) (many : Int) (z9 : Option O) (h2 : hs.length < 1000) (h : Harm) (p1 : O) (hbh : Bd h) :
    (seqS (appendS (varV 6) (fzE (load (varV 10)))) (setS 7 (fzE (opF addD (varV 7) (tmV (fun1 intC (tmV (andF (opF eqD (itemV (varV 10) (cF (.int 0)) true) (tmV (cF (.str "double"))) true) (notF (frF (callE S__law_is_wrong [none, none] (valAr (fzE (load (varV 10))) (valAr (fzE (load (varV 7))) (nilAr)))))))))) false)))) (hfr S0 V y3 y4 y5 odds p1 hs many z9 (some (.fz (enc h)))) =
        .ok .nx (hfr S0 V y3 y4 y5 odds p1 (hs ++ [h]) (many + (if wd h = "double" ∧ isOk h many = true then 1 else 0)) z9 (some (.fz (enc h)))) := by
  have e3 := m_is_wrong h hbh many
  have e4 := enc_0 h
  have hz : hs.length < 16777216 := by omega
  unfold hfr
  rw [List.map_append, List.map_append, List.map_singleton, List.map_singleton]
  by_cases hw : wd h = "double"
  · by_cases ok : isOk h many = true
    · rw [ok] at e3
      simp -implicitDefEqProofs [e3, e4, hw, ok, hz, -List.map_map, varV_c, load_c, moveE_c, seqS_c, opF_c, callE_c, fun1_c, fun1L_c, sliceF_c, setS_c, testF_c, andT_c, orT_c, notT_c, andF_c, orF_c, notF_c, ifF_c, itemV_c, noP_c, someP_c, nilA_c, consA_c, tupF_c, lstE_c, nilAr_c, valAr_c, lendAr_c, ifS_c, retS_c, retNS_c, skipS_c, bkS_c, ctS_c, asgS_c, forL_c, seqI_c, range1I_c, enumI_c, optF_c, chainF_c, setIS_c, appendS_c, raiseS_c, fzE_c, frF_c, tmV_c, cF_c, R.bind_ok, R.bind_err, seqK_nx, seqK_ret, seqK_bk, seqK_ct, seqK_err, defF_c, defK_ret, defK_nx, defK_err, opK_tt, opK_pt, ptK_some, intOp_i, intCmp_i, addD_i, tt2_t, intOp_t, divC, modC, mulC_r, ixN, callK1_some, callK2_ok, callK2_err, giveK_some, giveX_some, oneK_some, peek_tm, sliceK_tm, putK_some, opt_some, stab_tm, testK_bl, andTK_t, andTK_f, orTK_t, orTK_f, andFK_t, andFK_f, orFK_t, orFK_f, notFK_bl, ifFK_t, ifFK_f, ifSK_t, ifSK_f, itemK1_tm, itemK1, somePK_int, tupK, lstK, lendK_some, seqIK_tup, seqIK_lst, seqIK_rol, enumK_tup, enumK_lst, chainK_t, chainK_f, setIK_c0, setIK_c1, setIK_c2, setIK_c3, setIK_c4, putIK2_some, appK_0, appK2_lst, eqD_ii, eqD_ss, eqD_bb, neD_ii, neD_ss, lcE_c, lcK_ok, rangeD_len, wipeE, getS_0, getS_s, loadV_tm, loadV, stab, peek, viewD, subS, putS, sub, put, kid, setKid, addD_tt, addD_ll, shrC, ltD, gtD, isN, isND, notND, lenC_tup, lenC_lst, lenC_rol, listC_tup, listC_lst, listC_rol, tupleC_tup, tupleC_lst, tupleC_rol, intC_int, intC_bl, item, itemK, optV, kidV, takeL, giveL, bck, putN, nameG, nilG, consG, tupG, negD, isLst, sizeLine_eq, isiD, isi2D, typeD, moveK_some, itemD_lst, itemD_tup]
    · rw [show isOk h many = false from by simpa using ok] at e3
      simp -implicitDefEqProofs [e3, e4, hw, ok, hz, -List.map_map, varV_c, load_c, moveE_c, seqS_c, opF_c, callE_c, fun1_c, fun1L_c, sliceF_c, setS_c, testF_c, andT_c, orT_c, notT_c, andF_c, orF_c, notF_c, ifF_c, itemV_c, noP_c, someP_c, nilA_c, consA_c, tupF_c, lstE_c, nilAr_c, valAr_c, lendAr_c, ifS_c, retS_c, retNS_c, skipS_c, bkS_c, ctS_c, asgS_c, forL_c, seqI_c, range1I_c, enumI_c, optF_c, chainF_c, setIS_c, appendS_c, raiseS_c, fzE_c, frF_c, tmV_c, cF_c, R.bind_ok, R.bind_err, seqK_nx, seqK_ret, seqK_bk, seqK_ct, seqK_err, defF_c, defK_ret, defK_nx, defK_err, opK_tt, opK_pt, ptK_some, intOp_i, intCmp_i, addD_i, tt2_t, intOp_t, divC, modC, mulC_r, ixN, callK1_some, callK2_ok, callK2_err, giveK_some, giveX_some, oneK_some, peek_tm, sliceK_tm, putK_some, opt_some, stab_tm, testK_bl, andTK_t, andTK_f, orTK_t, orTK_f, andFK_t, andFK_f, orFK_t, orFK_f, notFK_bl, ifFK_t, ifFK_f, ifSK_t, ifSK_f, itemK1_tm, itemK1, somePK_int, tupK, lstK, lendK_some, seqIK_tup, seqIK_lst, seqIK_rol, enumK_tup, enumK_lst, chainK_t, chainK_f, setIK_c0, setIK_c1, setIK_c2, setIK_c3, setIK_c4, putIK2_some, appK_0, appK2_lst, eqD_ii, eqD_ss, eqD_bb, neD_ii, neD_ss, lcE_c, lcK_ok, rangeD_len, wipeE, getS_0, getS_s, loadV_tm, loadV, stab, peek, viewD, subS, putS, sub, put, kid, setKid, addD_tt, addD_ll, shrC, ltD, gtD, isN, isND, notND, lenC_tup, lenC_lst, lenC_rol, listC_tup, listC_lst, listC_rol, tupleC_tup, tupleC_lst, tupleC_rol, intC_int, intC_bl, item, itemK, optV, kidV, takeL, giveL, bck, putN, nameG, nilG, consG, tupG, negD, isLst, sizeLine_eq, isiD, isi2D, typeD, moveK_some, itemD_lst, itemD_tup]
  · simp -implicitDefEqProofs [e4, hw, hz, -List.map_map, varV_c, load_c, moveE_c, seqS_c, opF_c, callE_c, fun1_c, fun1L_c, sliceF_c, setS_c, testF_c, andT_c, orT_c, notT_c, andF_c, orF_c, notF_c, ifF_c, itemV_c, noP_c, someP_c, nilA_c, consA_c, tupF_c, lstE_c, nilAr_c, valAr_c, lendAr_c, ifS_c, retS_c, retNS_c, skipS_c, bkS_c, ctS_c, asgS_c, forL_c, seqI_c, range1I_c, enumI_c, optF_c, chainF_c, setIS_c, appendS_c, raiseS_c, fzE_c, frF_c, tmV_c, cF_c, R.bind_ok, R.bind_err, seqK_nx, seqK_ret, seqK_bk, seqK_ct, seqK_err, defF_c, defK_ret, defK_nx, defK_err, opK_tt, opK_pt, ptK_some, intOp_i, intCmp_i, addD_i, tt2_t, intOp_t, divC, modC, mulC_r, ixN, callK1_some, callK2_ok, callK2_err, giveK_some, giveX_some, oneK_some, peek_tm, sliceK_tm, putK_some, opt_some, stab_tm, testK_bl, andTK_t, andTK_f, orTK_t, orTK_f, andFK_t, andFK_f, orFK_t, orFK_f, notFK_bl, ifFK_t, ifFK_f, ifSK_t, ifSK_f, itemK1_tm, itemK1, somePK_int, tupK, lstK, lendK_some, seqIK_tup, seqIK_lst, seqIK_rol, enumK_tup, enumK_lst, chainK_t, chainK_f, setIK_c0, setIK_c1, setIK_c2, setIK_c3, setIK_c4, putIK2_some, appK_0, appK2_lst, eqD_ii, eqD_ss, eqD_bb, neD_ii, neD_ss, lcE_c, lcK_ok, rangeD_len, wipeE, getS_0, getS_s, loadV_tm, loadV, stab, peek, viewD, subS, putS, sub, put, kid, setKid, addD_tt, addD_ll, shrC, ltD, gtD, isN, isND, notND, lenC_tup, lenC_lst, lenC_rol, listC_tup, listC_lst, listC_rol, tupleC_tup, tupleC_lst, tupleC_rol, intC_int, intC_bl, item, itemK, optV, kidV, takeL, giveL, bck, putN, nameG, nilG, consG, tupG, negD, isLst, sizeLine_eq, isiD, isi2D, typeD, moveK_some, itemD_lst, itemD_tup]
theorem harm_one (S0 V y3 y4 y5 : Option O) (odds : List Int) (hs : List Harm) (many : Int) (z10 : Option O) (j : Int) (p : O) (hp : Pool p) (h0 : 0 ≤ many) (h1 : many ≤ 99) (h2 : hs.length < 1000) :
    ∃ (p1 : O) (h : Harm), Pool p1 ∧ Bd h ∧ hbody (hfr S0 V y3 y4 y5 odds p hs many (some (.fz (.int j))) z10) = .ok .nx (hfr S0 V y3 y4 y5 odds p1 (hs ++ [h]) (many + (if wd h = "double" ∧ isOk h many = true then 1 else 0)) (some (.fz (.int j))) (some (.fz (enc h)))) := by
  obtain ⟨h, p1, hp1, hbh, e1⟩ := m_harm hp many h0 (by omega)
  obtain ⟨b, e2⟩ := in_ints j odds
  cases b with
  | false =>
    refine ⟨p1, h, hp1, hbh, ?_⟩
    rw [← harm_key S0 V y3 y4 y5 odds hs many (some (.fz (.int j))) h2 h p1 hbh]
    unfold hbody hfr
    generalize (seqS (appendS (varV 6) (fzE (load (varV 10)))) (setS 7 (fzE (opF addD (varV 7) (tmV (fun1 intC (tmV (andF (opF eqD (itemV (varV 10) (cF (.int 0)) true) (tmV (cF (.str "double"))) true) (notF (frF (callE S__law_is_wrong [none, none] (valAr (fzE (load (varV 10))) (valAr (fzE (load (varV 7))) (nilAr)))))))))) false)))) = Q
    simp -implicitDefEqProofs [e1, e2, fzi_frz, fzi_vf, opK_tp, -List.map_map, -List.map_append, varV_c, load_c, moveE_c, seqS_c, opF_c, callE_c, fun1_c, fun1L_c, sliceF_c, setS_c, testF_c, andT_c, orT_c, notT_c, andF_c, orF_c, notF_c, ifF_c, itemV_c, noP_c, someP_c, nilA_c, consA_c, tupF_c, lstE_c, nilAr_c, valAr_c, lendAr_c, ifS_c, retS_c, retNS_c, skipS_c, bkS_c, ctS_c, asgS_c, forL_c, seqI_c, range1I_c, enumI_c, optF_c, chainF_c, setIS_c, appendS_c, raiseS_c, fzE_c, frF_c, tmV_c, cF_c, R.bind_ok, R.bind_err, seqK_nx, seqK_ret, seqK_bk, seqK_ct, seqK_err, defF_c, defK_ret, defK_nx, defK_err, opK_tt, opK_pt, ptK_some, intOp_i, intCmp_i, addD_i, tt2_t, intOp_t, divC, modC, mulC_r, ixN, callK1_some, callK2_ok, callK2_err, giveK_some, giveX_some, oneK_some, peek_tm, sliceK_tm, putK_some, opt_some, stab_tm, testK_bl, andTK_t, andTK_f, orTK_t, orTK_f, andFK_t, andFK_f, orFK_t, orFK_f, notFK_bl, ifFK_t, ifFK_f, ifSK_t, ifSK_f, itemK1_tm, itemK1, somePK_int, tupK, lstK, lendK_some, seqIK_tup, seqIK_lst, seqIK_rol, enumK_tup, enumK_lst, chainK_t, chainK_f, setIK_c0, setIK_c1, setIK_c2, setIK_c3, setIK_c4, putIK2_some, appK_0, appK2_lst, eqD_ii, eqD_ss, eqD_bb, neD_ii, neD_ss, lcE_c, lcK_ok, rangeD_len, wipeE, getS_0, getS_s, loadV_tm, loadV, stab, peek, viewD, subS, putS, sub, put, kid, setKid, addD_tt, addD_ll, shrC, ltD, gtD, isN, isND, notND, lenC_tup, lenC_lst, lenC_rol, listC_tup, listC_lst, listC_rol, tupleC_tup, tupleC_lst, tupleC_rol, intC_int, intC_bl, item, itemK, optV, kidV, takeL, giveL, bck, putN, nameG, nilG, consG, tupG, negD, isLst, sizeLine_eq, isiD, isi2D, typeD, moveK_some, itemD_lst, itemD_tup]
  | true =>
    obtain ⟨h', p2, hp2, hbh', e3⟩ := m_spoilt hp1 h hbh many h0 (by omega)
    refine ⟨p2, h', hp2, hbh', ?_⟩
    rw [← harm_key S0 V y3 y4 y5 odds hs many (some (.fz (.int j))) h2 h' p2 hbh']
    unfold hbody hfr
    generalize (seqS (appendS (varV 6) (fzE (load (varV 10)))) (setS 7 (fzE (opF addD (varV 7) (tmV (fun1 intC (tmV (andF (opF eqD (itemV (varV 10) (cF (.int 0)) true) (tmV (cF (.str "double"))) true) (notF (frF (callE S__law_is_wrong [none, none] (valAr (fzE (load (varV 10))) (valAr (fzE (load (varV 7))) (nilAr)))))))))) false)))) = Q
    simp -implicitDefEqProofs [e1, e2, e3, fzi_frz, fzi_vf, opK_tp, -List.map_map, -List.map_append, varV_c, load_c, moveE_c, seqS_c, opF_c, callE_c, fun1_c, fun1L_c, sliceF_c, setS_c, testF_c, andT_c, orT_c, notT_c, andF_c, orF_c, notF_c, ifF_c, itemV_c, noP_c, someP_c, nilA_c, consA_c, tupF_c, lstE_c, nilAr_c, valAr_c, lendAr_c, ifS_c, retS_c, retNS_c, skipS_c, bkS_c, ctS_c, asgS_c, forL_c, seqI_c, range1I_c, enumI_c, optF_c, chainF_c, setIS_c, appendS_c, raiseS_c, fzE_c, frF_c, tmV_c, cF_c, R.bind_ok, R.bind_err, seqK_nx, seqK_ret, seqK_bk, seqK_ct, seqK_err, defF_c, defK_ret, defK_nx, defK_err, opK_tt, opK_pt, ptK_some, intOp_i, intCmp_i, addD_i, tt2_t, intOp_t, divC, modC, mulC_r, ixN, callK1_some, callK2_ok, callK2_err, giveK_some, giveX_some, oneK_some, peek_tm, sliceK_tm, putK_some, opt_some, stab_tm, testK_bl, andTK_t, andTK_f, orTK_t, orTK_f, andFK_t, andFK_f, orFK_t, orFK_f, notFK_bl, ifFK_t, ifFK_f, ifSK_t, ifSK_f, itemK1_tm, itemK1, somePK_int, tupK, lstK, lendK_some, seqIK_tup, seqIK_lst, seqIK_rol, enumK_tup, enumK_lst, chainK_t, chainK_f, setIK_c0, setIK_c1, setIK_c2, setIK_c3, setIK_c4, putIK2_some, appK_0, appK2_lst, eqD_ii, eqD_ss, eqD_bb, neD_ii, neD_ss, lcE_c, lcK_ok, rangeD_len, wipeE, getS_0, getS_s, loadV_tm, loadV, stab, peek, viewD, subS, putS, sub, put, kid, setKid, addD_tt, addD_ll, shrC, ltD, gtD, isN, isND, notND, lenC_tup, lenC_lst, lenC_rol, listC_tup, listC_lst, listC_rol, tupleC_tup, tupleC_lst, tupleC_rol, intC_int, intC_bl, item, itemK, optV, kidV, takeL, giveL, bck, putN, nameG, nilG, consG, tupG, negD, isLst, sizeLine_eq, isiD, isi2D, typeD, moveK_some, itemD_lst, itemD_tup]
theorem harm_gen (S0 V y3 y4 y5 : Option O) (odds : List Int) : ∀ (ds : List D) (p : O) (hs : List Harm) (many : Int) (z9 z10 : Option O), (∀ d ∈ ds, ∃ j : Int, d = .int j) → Pool p → (∀ h ∈ hs, Bd h) → 0 ≤ many → many + ds.length ≤ 100 → hs.length + ds.length ≤ 1000 →
    ∃ (p' : O) (hs' : List Harm) (m' : Int) (w9 w10 : Option O), Pool p' ∧ (∀ h ∈ hs', Bd h) ∧ hs'.length = hs.length + ds.length ∧ forS (nameG 9) hbody ds (hfr S0 V y3 y4 y5 odds p hs many z9 z10) = .ok .nx (hfr S0 V y3 y4 y5 odds p' hs' m' w9 w10)
  | [], p, hs, many, z9, z10, hd, hp, hb, h0, h1, h2 => ⟨p, hs, many, z9, z10, hp, hb, rfl, rfl⟩
  | d :: ds, p, hs, many, z9, z10, hd, hp, hb, h0, h1, h2 => by
    obtain ⟨j, rfl⟩ := hd d (List.mem_cons_self ..)
    simp only [List.length_cons] at h1 h2
    obtain ⟨p1, h, hp1, hbh, e⟩ := harm_one S0 V y3 y4 y5 odds hs many z10 j p hp h0 (by omega) (by omega)
    obtain ⟨p', hs', m', w9, w10, g1, g2, g3, g4⟩ := harm_gen S0 V y3 y4 y5 odds ds p1 (hs ++ [h]) (many + (if wd h = "double" ∧ isOk h many = true then 1 else 0)) (some (.fz (.int j))) (some (.fz (enc h))) (fun x hx => hd x (List.mem_cons_of_mem _ hx)) hp1 (fun x hx => by
        rcases List.mem_append.mp hx with z | z
        · exact hb x z
        · rw [List.mem_singleton.mp z]; exact hbh) (by split <;> omega) (by split <;> omega) (by simp; omega)
    refine ⟨p', hs', m', w9, w10, g1, g2, by rw [g3]; simp; omega, ?_⟩
    rw [← g4]
    conv => lhs; unfold forS
    have hn : nameG 9 (.int j) (hfr S0 V y3 y4 y5 odds p hs many z9 z10) = some (hfr S0 V y3 y4 y5 odds p hs many (some (.fz (.int j))) z10) := rfl
    simp only [hn, e]
end DL.GW50
end

section
set_option Elab.async false
set_option linter.all false
set_option maxRecDepth 100000
set_option maxHeartbeats 4000000
/-! The layer D: which data have a repr. -/
namespace DL
open PySem L2
/-- a datum with a text: weight at most w, depth at most n -/
def Tx (w n : Nat) (d : D) : Prop := ∃ p, showD d = some p ∧ p.showable = true ∧ p.leavesShort 13 = true ∧ p.weight ≤ w ∧ p.depth ≤ n
theorem tx_int (n : Nat) {i : Int} (h1 : -1000000 ≤ i) (h2 : i ≤ 1000000) : Tx 21 n (.int i) := by
  have h3 : i.natAbs < 2 ^ 20 := by omega
  have h4 : i ≠ 0 → i.natAbs.log2 < 20 := fun h => (Nat.log2_lt (by omega)).mpr h3
  refine ⟨.int i, rfl, ?_, ?_, ?_, Nat.zero_le _⟩
  · simp only [PyData.showable, decide_eq_true_eq]
    by_cases h : i = 0
    · subst h; decide
    · have := h4 h; omega
  · simp only [PyData.leavesShort, decide_eq_true_eq]
    exact PyData.shown_int_le2 (by omega) (by omega)
  · simp only [PyData.weight]
    by_cases h : i = 0
    · subst h; decide
    · have := h4 h
      first | omega | (split <;> omega)
theorem tx_str (n : Nat) {s : Str} (hs : (s.cps.toList.all fun c => decide (c < 16 ^ 8)) = true) {w : Nat} (hw : s.cps.size ≤ w) : Tx w n (.str s) := ⟨.str s, rfl, rfl, hs, hw, Nat.zero_le _⟩
theorem txs {w n : Nat} : ∀ ds : List D, (∀ d ∈ ds, Tx w n d) → ∃ ps, showDs ds = some ps ∧ PyData.showableAll ps = true ∧ PyData.leavesShortAll 13 ps = true ∧ PyData.weightAll ps ≤ ds.length * (w + 1) ∧ PyData.depthAll ps ≤ n
  | [], _ => ⟨[], rfl, rfl, rfl, by simp [PyData.weightAll], Nat.zero_le _⟩
  | d :: ds, h => by
    obtain ⟨p, a1, a2, a3, a4, a5⟩ := h d (List.mem_cons_self ..)
    obtain ⟨ps, b1, b2, b3, b4, b5⟩ := txs ds fun x hx => h x (List.mem_cons_of_mem _ hx)
    refine ⟨p :: ps, by simp [showDs, a1, b1], by simp [PyData.showableAll, a2, b2], by simp [PyData.leavesShortAll, a3, b3], ?_, ?_⟩
    · simp only [PyData.weightAll, List.length_cons, Nat.succ_mul]; omega
    · simp only [PyData.depthAll]; omega
theorem tx_lst {w n : Nat} {ds : List D} (h : ∀ d ∈ ds, Tx w n d) {m : Nat} (hm : ds.length ≤ m) : Tx (m * (w + 1)) (n + 1) (.lst ds) := by
  obtain ⟨ps, b1, b2, b3, b4, b5⟩ := txs ds h
  have := Nat.mul_le_mul_right (w + 1) hm
  exact ⟨.list ps, by simp [showD, b1], by simpa [PyData.showable] using b2, by simpa [PyData.leavesShort] using b3, by simp only [PyData.weight]; omega, by simp only [PyData.depth]; omega⟩
theorem tx_tup {w n : Nat} {ds : List D} (h : ∀ d ∈ ds, Tx w n d) {m : Nat} (hm : ds.length ≤ m) : Tx (m * (w + 1)) (n + 1) (.tup ds) := by
  obtain ⟨ps, b1, b2, b3, b4, b5⟩ := txs ds h
  have := Nat.mul_le_mul_right (w + 1) hm
  exact ⟨.tuple ps, by simp [showD, b1], by simpa [PyData.showable] using b2, by simpa [PyData.leavesShort] using b3, by simp only [PyData.weight]; omega, by simp only [PyData.depth]; omega⟩
theorem Tx.le {w w' n n' : Nat} {d : D} (h : Tx w n d) (hw : w ≤ w') (hn : n ≤ n') : Tx w' n' d := by
  obtain ⟨p, a1, a2, a3, a4, a5⟩ := h
  exact ⟨p, a1, a2, a3, by omega, by omega⟩
theorem reprC_of {w n : Nat} {d : D} (h : Tx w n d) (hs : isSeq d = true) (hw : w ≤ 1000000) (hn : n ≤ 100) : ∃ r, reprC d = some (.str r) := by
  obtain ⟨p, a1, a2, a3, a4, a5⟩ := h
  have := PyData.shown_le 13 (by decide) p a3
  have h2 := PySem.sizeLine_eq
  refine ⟨p.shown, ?_⟩
  simp only [reprC, a1]
  rw [if_pos ⟨hs, a2, by omega, by omega⟩]
end DL
end

section
set_option Elab.async false
set_option linter.all false
set_option maxRecDepth 100000
set_option maxHeartbeats 4000000
namespace DL.GW50
open PySem L2
theorem tx_vd (t : Bool) (xs : List Int) {m : Nat} (hl : xs.length ≤ m) (hx : ∀ x ∈ xs, sm x) : Tx (m * 22) 1 (vd t xs) := by
  have h : ∀ d ∈ xs.map D.int, Tx 21 0 d := fun d hd => by
    obtain ⟨x, h1, rfl⟩ := List.mem_map.mp hd
    exact tx_int 0 (hx x h1).1 (hx x h1).2
  have hl' : (xs.map D.int).length ≤ m := by simpa using hl
  cases t
  · exact tx_lst h hl'
  · exact tx_tup h hl'
theorem tx_enc (h : Harm) (hb : Bd h) : Tx 444 2 (enc h) := by
  have iI : ∀ {i : Int}, sm i → Tx 110 1 (.int i) := fun h => (tx_int 1 h.1 h.2).le (by omega) (by omega)
  have gen : ∀ ds : List D, ds.length ≤ 4 → (∀ d ∈ ds, Tx 110 1 d) → Tx 444 2 (.tup ds) := fun ds h1 h2 => tx_tup h2 h1
  cases h with
  | lose v =>
    refine gen _ (by simp) fun d hd => ?_
    simp only [List.mem_cons, List.not_mem_nil, or_false] at hd
    rcases hd with rfl | rfl
    · exact tx_str _ (by decide) (by decide)
    · exact iI hb
  | double v =>
    refine gen _ (by simp) fun d hd => ?_
    simp only [List.mem_cons, List.not_mem_nil, or_false] at hd
    rcases hd with rfl | rfl
    · exact tx_str _ (by decide) (by decide)
    · exact iI hb
  | turn v w =>
    refine gen _ (by simp) fun d hd => ?_
    simp only [List.mem_cons, List.not_mem_nil, or_false] at hd
    rcases hd with rfl | rfl | rfl
    · exact tx_str _ (by decide) (by decide)
    · exact iI hb.1
    · exact iI hb.2
  | cut v b e =>
    refine gen _ (by simp) fun d hd => ?_
    simp only [List.mem_cons, List.not_mem_nil, or_false] at hd
    rcases hd with rfl | rfl | rfl | rfl
    · exact tx_str _ (by decide) (by decide)
    · exact iI hb.1
    · exact iI hb.2.1
    · exact iI hb.2.2
  | change v p t xs =>
    refine gen _ (by simp) fun d hd => ?_
    simp only [List.mem_cons, List.not_mem_nil, or_false] at hd
    rcases hd with rfl | rfl | rfl | rfl
    · exact tx_str _ (by decide) (by decide)
    · exact iI hb.1
    · exact iI hb.2.1
    · exact tx_vd t xs hb.2.2.1 hb.2.2.2
theorem repr_law (t0 t1 : Bool) (vols : List (Bool × List Int)) (hs : List Harm) (hv : VB vols) (hb : ∀ h ∈ hs, Bd h) (h1 : vols.length ≤ 5) (h2 : hs.length ≤ 7) :
    ∃ r, reprC (.tup [sq t0 (vds vols), sq t1 (hs.map enc)]) = some (.str r) := by
  have a1 : ∀ d ∈ vds vols, Tx 264 1 d := fun d hd => by
    obtain ⟨q, h, rfl⟩ := List.mem_map.mp hd
    exact tx_vd _ _ (hv q h).1 (hv q h).2
  have a2 : ∀ d ∈ hs.map enc, Tx 444 2 d := fun d hd => by
    obtain ⟨h, z, rfl⟩ := List.mem_map.mp hd
    exact tx_enc h (hb h z)
  have b1 : Tx 3115 3 (sq t0 (vds vols)) := by
    have hl : (vds vols).length ≤ 5 := by rw [vds_len]; exact h1
    cases t0
    · exact (tx_lst a1 hl).le (by omega) (by omega)
    · exact (tx_tup a1 hl).le (by omega) (by omega)
  have b2 : Tx 3115 3 (sq t1 (hs.map enc)) := by
    have hl : (hs.map enc).length ≤ 7 := by simpa using h2
    cases t1
    · exact (tx_lst a2 hl).le (by omega) (by omega)
    · exact (tx_tup a2 hl).le (by omega) (by omega)
  exact reprC_of (tx_tup (m := 2) (w := 3115) (n := 3) (fun d hd => by
    simp only [List.mem_cons, List.not_mem_nil, or_false] at hd
    rcases hd with rfl | rfl
    · exact b1
    · exact b2) (by simp)) rfl (by omega) (by omega)
/-- the end of the law -/
def lawB : Env → R Fl := seqS (setS 11 (callE S__law_handed [some 1, none] (lendAr 1 (valAr (fzE (load (varV 2))) (nilAr))))) (seqS (setS 12 (callE S__law_handed [some 1, none] (lendAr 1 (valAr (fzE (load (varV 6))) (nilAr))))) (seqS (setS 13 (fzE (optF reprC (tupF (consA (load (varV 11)) (consA (load (varV 12)) (nilA))))))) (seqS (setS 14 (callE S__law_due [none, none] (valAr (fzE (load (varV 2))) (valAr (fzE (load (varV 6))) (nilAr))))) (seqS (ifS (orT (notT (testF (frF (callE (S__law_same 6) [none, none] (valAr (callE S__law_told [none, none] (valAr (fzE (load (varV 11))) (valAr (fzE (load (varV 12))) (nilAr)))) (valAr (fzE (load (varV 14))) (nilAr))))))) (notT (testF (frF (callE (S__law_same 6) [none, none] (valAr (callE S__law_told [none, none] (valAr (fzE (load (varV 11))) (valAr (fzE (load (varV 12))) (nilAr)))) (valAr (fzE (load (varV 14))) (nilAr)))))))) (retS (fzE (cF (.bl false)))) (skipS)) (retS (fzE (opF eqD (tmV (optF reprC (tupF (consA (load (varV 11)) (consA (load (varV 12)) (nilA)))))) (varV 13) true)))))))
theorem s_law_eq : s_law = seqS (setS 1 (callE S__law_pool [none] (valAr (fzE (load (varV 0))) (nilAr)))) (seqS (setS 2 (lstE (nilA))) (seqS (forL (range1I (consA (load (itemV (tmV (frF (lstE (consA (cF (.int 0)) (consA (cF (.int 1)) (consA (cF (.int 2)) (consA (cF (.int 3)) (consA (cF (.int 4)) (consA (cF (.int 5)) (consA (cF (.int 2)) (consA (cF (.int 3)) (nilA)))))))))))) (frF (callE S__law_draw [some 1, none] (lendAr 1 (valAr (fzE (cF (.int 8))) (nilAr))))) false)) (nilA))) (nameG 3) (seqS (setS 4 (fzE (load (itemV (tmV (frF (lstE (consA (cF (.int 0)) (consA (frF (callE S__law_draw [some 1, none] (lendAr 1 (valAr (fzE (cF (.int 13))) (nilAr))))) (consA (cF (.int 12)) (nilA))))))) (frF (callE S__law_draw [some 1, none] (lendAr 1 (valAr (fzE (cF (.int 3))) (nilAr))))) false)))) (appendS (varV 2) (callE S__law_handed [some 1, none] (lendAr 1 (valAr (lcE [true, true, true, true, true, false, true, true, true, true, true, true, true, true, true] [5] (range1I (consA (load (varV 4)) (nilA))) (nameG 5) (yesT) (fzE (load (itemV (tmV (frF (lstE (consA (frF (callE S__law_draw [some 1, none] (lendAr 1 (valAr (fzE (cF (.int 129))) (nilAr))))) (consA (cF (.int 128)) (nilA)))))) (frF (callE S__law_draw [some 1, none] (lendAr 1 (valAr (fzE (cF (.int 2))) (nilAr))))) false)))) (nilAr))))))) (seqS (setS 6 (lstE (nilA))) (seqS (setS 7 (fzE (fun1 lenC (varV 2)))) (seqS (setS 8 (lstE (consA (frF (callE S__law_draw [some 1, none] (lendAr 1 (valAr (fzE (cF (.int 7))) (nilAr))))) (consA (frF (callE S__law_draw [some 1, none] (lendAr 1 (valAr (fzE (cF (.int 7))) (nilAr))))) (nilA))))) (seqS (ifS (testF (opF eqD (tmV (frF (callE S__law_draw [some 1, none] (lendAr 1 (valAr (fzE (cF (.int 2))) (nilAr)))))) (tmV (cF (.int 0))) true)) (setS 8 (lstE (nilA))) (skipS)) (seqS (forL (range1I (consA (frF (callE S__law_draw [some 1, none] (lendAr 1 (valAr (fzE (cF (.int 8))) (nilAr))))) (nilA))) (nameG 9) (seqS (setS 10 (callE S__law_harm [some 1, none] (lendAr 1 (valAr (fzE (load (varV 7))) (nilAr))))) (seqS (ifS (testF (opF inD (varV 9) (varV 8) true)) (setS 10 (callE S__law_spoilt [some 1, none, none] (lendAr 1 (valAr (fzE (load (varV 10))) (valAr (fzE (load (varV 7))) (nilAr)))))) (skipS)) (seqS (appendS (varV 6) (fzE (load (varV 10)))) (setS 7 (fzE (opF addD (varV 7) (tmV (fun1 intC (tmV (andF (opF eqD (itemV (varV 10) (cF (.int 0)) true) (tmV (cF (.str "double"))) true) (notF (frF (callE S__law_is_wrong [none, none] (valAr (fzE (load (varV 10))) (valAr (fzE (load (varV 7))) (nilAr)))))))))) false))))))) lawB))))))) := rfl
theorem tail_true {p : O} (hp : Pool p) (vols : List (Bool × List Int)) (hs : List Harm) (hv : VB vols) (hb : ∀ h ∈ hs, Bd h) (h1 : vols.length ≤ 5) (h2 : hs.length ≤ 7) (S0 y3 y4 y5 z7 z8 z9 z10 : Option O) :
    ∃ e, lawB [S0, some p, some (.lst ((vds vols).map O.fz)), y3, y4, y5, some (.lst ((hs.map enc).map O.fz)), z7, z8, z9, z10, none, none, none, none] = .ok (.ret (.fz (.bl true))) e := by
  obtain ⟨t0, p1, hp1, e1⟩ := m_handed hp (vds vols)
  obtain ⟨t1, p2, hp2, e2⟩ := m_handed hp1 (hs.map enc)
  obtain ⟨r, e3⟩ := repr_law t0 t1 vols hs hv hb h1 h2
  have h3 : ∀ q ∈ vols, q.2.length ≤ 100 := fun q hq => by have := (hv q hq).1; omega
  obtain ⟨u, e4⟩ := m_due vols hs hb (by omega) h3
  have e5 := m_told t0 t1 vols hs hb (by omega) h3
  have e6 : Same 6 (ansD (run 0 hs (vsOf vols))) := same_ans hs (vsOf vols) (by simp [vsOf]; omega) fun l hl => by
    obtain ⟨q, hq, rfl⟩ := List.mem_map.mp hl
    exact h3 q hq
  refine ⟨[S0, some p2, some (.fz (.lst (vds vols))), y3, y4, y5, some (.fz (.lst (hs.map enc))), z7, z8, z9, z10, some (.fz (sq t0 (vds vols))), some (.fz (sq t1 (hs.map enc))), some (.fz (.str r)), some (.fz (ansD (run 0 hs (vsOf vols))))], ?_⟩
  unfold Same at e6
  cases t0 <;> cases t1 <;> simp only [hO, sq, if_true, if_false, Bool.false_eq_true] at e1 e2 e3 e5 ⊢ <;>
    simp -implicitDefEqProofs [lawB, e1, e2, e3, e4, e5, e6, -List.map_map, vf_fzs, frz_fzs, varV_c, load_c, moveE_c, seqS_c, opF_c, callE_c, fun1_c, fun1L_c, sliceF_c, setS_c, testF_c, andT_c, orT_c, notT_c, andF_c, orF_c, notF_c, ifF_c, itemV_c, noP_c, someP_c, nilA_c, consA_c, tupF_c, lstE_c, nilAr_c, valAr_c, lendAr_c, ifS_c, retS_c, retNS_c, skipS_c, bkS_c, ctS_c, asgS_c, forL_c, seqI_c, range1I_c, enumI_c, optF_c, chainF_c, setIS_c, appendS_c, raiseS_c, fzE_c, frF_c, tmV_c, cF_c, R.bind_ok, R.bind_err, seqK_nx, seqK_ret, seqK_bk, seqK_ct, seqK_err, defF_c, defK_ret, defK_nx, defK_err, opK_tt, opK_pt, ptK_some, intOp_i, intCmp_i, addD_i, tt2_t, intOp_t, divC, modC, mulC_r, ixN, callK1_some, callK2_ok, callK2_err, giveK_some, giveX_some, oneK_some, peek_tm, sliceK_tm, putK_some, opt_some, stab_tm, testK_bl, andTK_t, andTK_f, orTK_t, orTK_f, andFK_t, andFK_f, orFK_t, orFK_f, notFK_bl, ifFK_t, ifFK_f, ifSK_t, ifSK_f, itemK1_tm, itemK1, somePK_int, tupK, lstK, lendK_some, seqIK_tup, seqIK_lst, seqIK_rol, enumK_tup, enumK_lst, chainK_t, chainK_f, setIK_c0, setIK_c1, setIK_c2, setIK_c3, setIK_c4, putIK2_some, appK_0, appK2_lst, eqD_ii, eqD_ss, eqD_bb, neD_ii, neD_ss, lcE_c, lcK_ok, rangeD_len, wipeE, getS_0, getS_s, loadV_tm, loadV, stab, peek, viewD, subS, putS, sub, put, kid, setKid, addD_tt, addD_ll, shrC, ltD, gtD, isN, isND, notND, lenC_tup, lenC_lst, lenC_rol, listC_tup, listC_lst, listC_rol, tupleC_tup, tupleC_lst, tupleC_rol, intC_int, intC_bl, item, itemK, optV, kidV, takeL, giveL, bck, putN, nameG, nilG, consG, tupG, negD, isLst, sizeLine_eq, isiD, isi2D, typeD, moveK_some, itemD_lst, itemD_tup]
end DL.GW50
end

section
set_option Elab.async false
set_option linter.all false
set_option maxRecDepth 100000
set_option maxHeartbeats 4000000
namespace DL.GW50
open PySem L2
theorem rangeD_ints : ∀ d ∈ rangeD 0 n, ∃ j : Int, d = .int j := by
  intro d hd
  obtain ⟨i, h⟩ := List.mem_iff_getElem?.mp hd
  simp [rangeD] at h
  obtain ⟨k, h1, rfl⟩ := h
  exact ⟨_, rfl⟩
theorem vols_vf (vols : List (Bool × List Int)) : (vols.map oV).map vf = (vds vols).map O.fz := by
  rw [List.map_map, vds, List.map_map]
  apply List.map_congr_left
  intro q _
  show vf (oV q) = _
  rw [vf, frz_oV]; rfl
theorem vols_frz (vols : List (Bool × List Int)) : (vols.map oV).map frz = vds vols := by
  rw [List.map_map, vds]
  apply List.map_congr_left
  intro q _
  exact frz_oV q
theorem law_true (ns : List Int) : ∃ e, S_law [some (.fz (.rol (ns.map .int)))] = .ok (.fz (.bl true)) e := by
  have e0 := m_pool ns
  have hp0 : Pool (pool ns 0 0 0 0) := ⟨ns, 0, 0, 0, 0, by decide, rfl⟩
  obtain ⟨a, p1, hp1, l1, u1, e1⟩ := draw hp0 8 (by decide) (by decide)
  obtain ⟨n, hn, e2⟩ : ∃ n, (0 ≤ n ∧ n ≤ 5) ∧ atD [D.int 0, D.int 1, D.int 2, D.int 3, D.int 4, D.int 5, D.int 2, D.int 3] a = some (.int n) := by
    have h : a = 0 ∨ a = 1 ∨ a = 2 ∨ a = 3 ∨ a = 4 ∨ a = 5 ∨ a = 6 ∨ a = 7 := by omega
    rcases h with rfl | rfl | rfl | rfl | rfl | rfl | rfl | rfl
    · exact ⟨0, by omega, rfl⟩
    · exact ⟨1, by omega, rfl⟩
    · exact ⟨2, by omega, rfl⟩
    · exact ⟨3, by omega, rfl⟩
    · exact ⟨4, by omega, rfl⟩
    · exact ⟨5, by omega, rfl⟩
    · exact ⟨2, by omega, rfl⟩
    · exact ⟨3, by omega, rfl⟩
  have hr : ∀ e, range1K [.int n] e = .ok (rangeD 0 n.toNat) e := fun e => range1K_ok (by omega)
  obtain ⟨p2, vols, y3, y4, hp2, hv, hvl, e3⟩ := vol_loop (some (.fz (.rol (ns.map .int)))) (rangeD 0 n.toNat) p1 [] none none hp1 (fun q hq => by cases hq) (by rw [rangeD_len]; simp; omega)
  rw [rangeD_len] at hvl
  simp only [List.length_nil] at hvl
  obtain ⟨b1, p3, hp3, l3, u3, e4⟩ := draw hp2 7 (by decide) (by decide)
  obtain ⟨b2, p4, hp4, l4, u4, e5⟩ := draw hp3 7 (by decide) (by decide)
  obtain ⟨c, p5, hp5, l5, u5, e6⟩ := draw hp4 2 (by decide) (by decide)
  obtain ⟨m, p6, hp6, l6, u6, e7⟩ := draw hp5 8 (by decide) (by decide)
  have hr2 : ∀ e, range1K [.int m] e = .ok (rangeD 0 m.toNat) e := fun e => range1K_ok (by omega)
  have hz : vols.length ≤ 5 := by omega
  have odds : ∃ odds : List Int, (if c = 0 then [] else [b1, b2]) = odds := ⟨_, rfl⟩
  obtain ⟨p7, hs, m', w9, w10, hp7, hb, hhl, e8⟩ := harm_gen (some (.fz (.rol (ns.map .int)))) (some (.lst ((vds vols).map O.fz))) y3 y4 none (if c = 0 then [] else [b1, b2]) (rangeD 0 m.toNat) p6 [] vols.length none none rangeD_ints hp6 (fun h hh => by cases hh) (by omega) (by rw [rangeD_len]; omega) (by rw [rangeD_len]; simp; omega)
  rw [rangeD_len] at hhl
  simp only [List.length_nil] at hhl
  obtain ⟨e, e9⟩ := tail_true hp7 vols hs hv hb hz (by omega) (some (.fz (.rol (ns.map .int)))) y3 y4 none (some (.fz (.int m'))) (some (.lst (fzi (if c = 0 then [] else [b1, b2])))) w9 w10
  have hc : c = 0 ∨ c = 1 := by omega
  unfold hbody hfr at e8
  have vl : (vds vols).length = vols.length := vds_len
  rcases hc with rfl | rfl
  · simp only [if_true, List.map_nil, fzi] at e3 e8 e9
    exact ⟨_, by simp -implicitDefEqProofs [S_law, s_law_eq, e0, e1, e2, hr, e3, e4, e5, e6, e7, hr2, e8, e9, vols_vf, vols_frz, vl, hz, -List.map_map, varV_c, load_c, moveE_c, seqS_c, opF_c, callE_c, fun1_c, fun1L_c, sliceF_c, setS_c, testF_c, andT_c, orT_c, notT_c, andF_c, orF_c, notF_c, ifF_c, itemV_c, noP_c, someP_c, nilA_c, consA_c, tupF_c, lstE_c, nilAr_c, valAr_c, lendAr_c, ifS_c, retS_c, retNS_c, skipS_c, bkS_c, ctS_c, asgS_c, forL_c, seqI_c, range1I_c, enumI_c, optF_c, chainF_c, setIS_c, appendS_c, raiseS_c, fzE_c, frF_c, tmV_c, cF_c, R.bind_ok, R.bind_err, seqK_nx, seqK_ret, seqK_bk, seqK_ct, seqK_err, defF_c, defK_ret, defK_nx, defK_err, opK_tt, opK_pt, ptK_some, intOp_i, intCmp_i, addD_i, tt2_t, intOp_t, divC, modC, mulC_r, ixN, callK1_some, callK2_ok, callK2_err, giveK_some, giveX_some, oneK_some, peek_tm, sliceK_tm, putK_some, opt_some, stab_tm, testK_bl, andTK_t, andTK_f, orTK_t, orTK_f, andFK_t, andFK_f, orFK_t, orFK_f, notFK_bl, ifFK_t, ifFK_f, ifSK_t, ifSK_f, itemK1_tm, itemK1, somePK_int, tupK, lstK, lendK_some, seqIK_tup, seqIK_lst, seqIK_rol, enumK_tup, enumK_lst, chainK_t, chainK_f, setIK_c0, setIK_c1, setIK_c2, setIK_c3, setIK_c4, putIK2_some, appK_0, appK2_lst, eqD_ii, eqD_ss, eqD_bb, neD_ii, neD_ss, lcE_c, lcK_ok, rangeD_len, wipeE, getS_0, getS_s, loadV_tm, loadV, stab, peek, viewD, subS, putS, sub, put, kid, setKid, addD_tt, addD_ll, shrC, ltD, gtD, isN, isND, notND, lenC_tup, lenC_lst, lenC_rol, listC_tup, listC_lst, listC_rol, tupleC_tup, tupleC_lst, tupleC_rol, intC_int, intC_bl, item, itemK, optV, kidV, takeL, giveL, bck, putN, nameG, nilG, consG, tupG, negD, isLst, sizeLine_eq, isiD, isi2D, typeD, moveK_some, itemD_lst, itemD_tup]; exact rfl⟩
  · simp only [if_neg (show ¬ (1 : Int) = 0 from by decide), List.map_cons, List.map_nil, fzi] at e3 e8 e9
    exact ⟨_, by simp -implicitDefEqProofs [S_law, s_law_eq, e0, e1, e2, hr, e3, e4, e5, e6, e7, hr2, e8, e9, vols_vf, vols_frz, vl, hz, -List.map_map, varV_c, load_c, moveE_c, seqS_c, opF_c, callE_c, fun1_c, fun1L_c, sliceF_c, setS_c, testF_c, andT_c, orT_c, notT_c, andF_c, orF_c, notF_c, ifF_c, itemV_c, noP_c, someP_c, nilA_c, consA_c, tupF_c, lstE_c, nilAr_c, valAr_c, lendAr_c, ifS_c, retS_c, retNS_c, skipS_c, bkS_c, ctS_c, asgS_c, forL_c, seqI_c, range1I_c, enumI_c, optF_c, chainF_c, setIS_c, appendS_c, raiseS_c, fzE_c, frF_c, tmV_c, cF_c, R.bind_ok, R.bind_err, seqK_nx, seqK_ret, seqK_bk, seqK_ct, seqK_err, defF_c, defK_ret, defK_nx, defK_err, opK_tt, opK_pt, ptK_some, intOp_i, intCmp_i, addD_i, tt2_t, intOp_t, divC, modC, mulC_r, ixN, callK1_some, callK2_ok, callK2_err, giveK_some, giveX_some, oneK_some, peek_tm, sliceK_tm, putK_some, opt_some, stab_tm, testK_bl, andTK_t, andTK_f, orTK_t, orTK_f, andFK_t, andFK_f, orFK_t, orFK_f, notFK_bl, ifFK_t, ifFK_f, ifSK_t, ifSK_f, itemK1_tm, itemK1, somePK_int, tupK, lstK, lendK_some, seqIK_tup, seqIK_lst, seqIK_rol, enumK_tup, enumK_lst, chainK_t, chainK_f, setIK_c0, setIK_c1, setIK_c2, setIK_c3, setIK_c4, putIK2_some, appK_0, appK2_lst, eqD_ii, eqD_ss, eqD_bb, neD_ii, neD_ss, lcE_c, lcK_ok, rangeD_len, wipeE, getS_0, getS_s, loadV_tm, loadV, stab, peek, viewD, subS, putS, sub, put, kid, setKid, addD_tt, addD_ll, shrC, ltD, gtD, isN, isND, notND, lenC_tup, lenC_lst, lenC_rol, listC_tup, listC_lst, listC_rol, tupleC_tup, tupleC_lst, tupleC_rol, intC_int, intC_bl, item, itemK, optV, kidV, takeL, giveL, bck, putN, nameG, nilG, consG, tupG, negD, isLst, sizeLine_eq, isiD, isi2D, typeD, moveK_some, itemD_lst, itemD_tup]; exact rfl⟩
end DL.GW50
end

section
set_option Elab.async false
set_option linter.all false
set_option maxRecDepth 100000
set_option maxHeartbeats 4000000
/-! The layer D: the head's facts of own error classes (ExT), read by a Hook. -/
namespace DLY
open PySem PySem.W PyProof.Rows He DLX
abbrev FnI : Type := Option (Str × Str × Arguments × FuncBody × Scope × Addr × List Str × Addr)
/-- an own error class: its name, its field, the places in the text of its __init__ -/
structure ExD where
  name : Str
  f : Str
  qual : Str
  p1 : Pos
  p2 : Pos
  a0 : Pos
  a1 : Pos
  a2 : Pos
  a3 : Pos
  a4 : Pos
  a5 : Pos
  q1 : Pos
  q2 : Pos
  q3 : Pos
  q4 : Pos
def ExD.adr (K : Frag) (d : ExD) : Addr := ga K d.name
def ExD.fn (K : Frag) (d : ExD) : Addr := ma K (d.adr K) "__init__"
def ExD.obs (K : Frag) (d : ExD) : FnI := match K.lookup (d.fn K) with
  | some ⟨_, _, .func fd, _⟩ => some (fd.name, fd.qualname, fd.params, fd.body, fd.scope, fd.globals, fd.closure.map (·.1), fd.builtins)
  | _ => none
def ExD.val (d : ExD) : FnI := some ("__init__", d.qual, iA d.f d.p1 d.p2, .stmts (iB d.f d.a0 d.a1 d.a2 d.a3 d.a4 d.a5 d.q1 d.q2 d.q3 d.q4), iS d.f, mainGlobals, ["__class__"], builtinsNs)
def noV : Value → Bool
  | .none => true
  | _ => false
def codeB (K : Frag) (file : Str) : Value → Bool
  | .ref a => (match K.lookup a with
    | some ⟨_, _, .fields vs, _⟩ => (match (show Option Value from vs[2]?) with
      | some (Value.str x _) => file == x
      | _ => false)
    | _ => false)
  | _ => false
def cellB (K : Frag) (C cc : Addr) : Bool := match K.lookup cc with
  | some ⟨_, _, .cell (some (.ref D)), _⟩ => decide (D = C)
  | _ => false
def closB (K : Frag) (C : Addr) : List (Str × Addr) → Bool
  | [(_, cc)] => cellB K C cc
  | _ => false
def clsB (K : Frag) (C : Addr) : Bool := match K.lookup C with
  | some ⟨.type t, _, .cls cd, sl⟩ => decide (t = "type") && ((match cd.mro with
    | .ref D :: bm => decide (D = C) && ownEx bm
    | _ => false) && (cd.hasDict && (!cd.hasDel && (match sl.toList with
    | [_, _, _, _, some (.builtin n), _] => decide (n = "Exception.__new__")
    | _ => false))))
  | _ => false
def ExD.ok (K : Frag) (file : Str) (d : ExD) : Bool :=
  clsB K (d.adr K) && (eqO (findIn K (.ref (d.adr K)) "__setattr__") (some (some (.builtin "object.__setattr__"))) && (eqO (findIn K (.ref (d.adr K)) "__getattribute__") (some (some (.builtin "BaseException.__getattribute__")))
    && (eqO (findIn K (.ref (d.adr K)) "__getattr__") (some none) && (eqO (findIn K (.ref (d.adr K)) d.f) (some none) && (decide (subIn K (.ref (d.adr K)) (.type "BaseException") = some true) && (decide (subIn K (.ref (d.adr K)) (.type "Exception") = some true)
    && (decide (typeIn K (.ref (d.adr K)) = some (.type "type")) && (hasDictIn K (d.adr K) && (keepIn K (.ref (d.adr K)) && (eqO (ks_superIn K (d.adr K) (d.adr K) "__init__") (some (some (.builtin "Exception.__init__"))) && (eqO (nsIn K cStatics "thirdparty.any") (some none)
    && (eqO (nsIn K mainGlobals "super") (some none) && (eqO (findIn K (.ref (d.adr K)) "__class__") (some (some (.builtin "object.__class__"))) && (eqO (specialIn K (.builtin "object.__class__") "__get__") (some (some (.builtin "getset_descriptor.__get__"))) && (decide (takesIn K (.builtin "object.__class__") = some true)
    && (decide (mroIn K (d.adr K) (.type "object") = some true) && (eqO (findIn K (.ref (d.adr K)) "__init__") (some (some (.ref (d.fn K)))) && (decide (typeIn K (.ref (d.fn K)) = some (.type "function")) && (match K.lookup (d.fn K) with
    | some ⟨_, _, .func fd, _⟩ => codeIn K fd.code d.qual && (noV fd.defaults && (noV fd.kwdefaults && (codeB K file fd.code && closB K (d.adr K) fd.closure)))
    | _ => false)))))))))))))))))))
theorem clsB_ok {K : Frag} {C : Addr} (h : clsB K C = true) : ∃ nm q N bs bm sn sub ab col dd k0 k1 k2 k3 k5, K.lookup C = some (excClassObj nm q C N bs bm true sn sub ab col dd k0 k1 k2 k3 k5 "Exception.__new__") ∧ ownEx bm = true := by
  unfold clsB at h
  split at h
  · rename_i t dd cd sl hl
    obtain ⟨h1, h⟩ := ba h
    obtain ⟨h2, h⟩ := ba h
    obtain ⟨h3, h⟩ := ba h
    obtain ⟨h4, h5⟩ := ba h
    have e1 : t = "type" := of_decide_eq_true h1
    subst e1
    split at h2
    · rename_i D bm hm
      obtain ⟨h6, h7⟩ := ba h2
      have e2 : D = C := of_decide_eq_true h6
      subst e2
      split at h5
      · rename_i k0 k1 k2 k3 n k5 hs
        have e3 : n = "Exception.__new__" := of_decide_eq_true h5
        subst e3
        obtain ⟨nm, bs, mro, ns, qn, hd, sn, sb, ab, col, del⟩ := cd
        dsimp only at hm h3 h4
        subst hm h3
        have e4 : del = false := by simpa using h4
        subst e4
        have e5 : sl = #[k0, k1, k2, k3, some (.builtin "Exception.__new__"), k5] := by rw [← Array.toArray_toList (xs := sl), hs]
        subst e5
        exact ⟨nm, qn, ns, bs, bm, sn, sb, ab, col, dd, k0, k1, k2, k3, k5, hl, h7⟩
      · cases h5
    · cases h2
  · cases h
theorem ExD.ext {P : Program} {K : Frag} {h : Heap} {mg : Str → Option Value} {d : ExD} (X : K.In h) (G : h.Ns mainGlobals mg) (e : d.obs K = d.val) (c : d.ok K (P.main.file : Str) = true) (sh : Shape d.f) (htop : (P.main.scope.names.lookup ("super" : Str)).isSome = false)
    (hf : d.f ≠ "self") (hfd : (d.f == ("__debug__" : Str)) = false) (hfc : (d.f == ("__class__" : Str)) = false) (hline : (d.a2.endLine == d.a4.line) = true) : ExT P K mg (d.adr K) d.f := by
  unfold ExD.ok at c
  obtain ⟨c1, c⟩ := ba c
  obtain ⟨c2, c⟩ := ba c
  obtain ⟨c3, c⟩ := ba c
  obtain ⟨c4, c⟩ := ba c
  obtain ⟨c5, c⟩ := ba c
  obtain ⟨c6, c⟩ := ba c
  obtain ⟨c7, c⟩ := ba c
  obtain ⟨c8, c⟩ := ba c
  obtain ⟨c9, c⟩ := ba c
  obtain ⟨c10, c⟩ := ba c
  obtain ⟨c11, c⟩ := ba c
  obtain ⟨c12, c⟩ := ba c
  obtain ⟨c13, c⟩ := ba c
  obtain ⟨c14, c⟩ := ba c
  obtain ⟨c15, c⟩ := ba c
  obtain ⟨c16, c⟩ := ba c
  obtain ⟨c17, c⟩ := ba c
  obtain ⟨c18, c⟩ := ba c
  obtain ⟨c19, c20⟩ := ba c
  refine ⟨clsB_ok c1, eqO_ok c2, eqO_ok c3, eqO_ok c4, eqO_ok c5, of_decide_eq_true c6, of_decide_eq_true c7, of_decide_eq_true c8, c9, c10, eqO_ok c11, eqO_ok c12, PySem.W.mg_none_of X G (eqO_ok c13), htop, sh, hf, hfd, hfc, ?_, eqO_ok c14, eqO_ok c15, of_decide_eq_true c16, of_decide_eq_true c17⟩
  unfold ExD.obs at e
  cases q : K.lookup (d.fn K) with
  | none => rw [q] at c20; cases c20
  | some o =>
    obtain ⟨oc, od, dt, osl⟩ := o
    rw [q] at c20 e
    cases dt with
    | func fd =>
      obtain ⟨n1, n2, n3, n4, n5, n6, n7, n8, n9, n10, n11, n12, n13, n14, n15⟩ := fd
      have e2 : (some (n1, n2, n3, n4, n5, n6, n7.map (·.1), n15) : FnI) = d.val := e
      unfold ExD.val at e2
      simp only [Option.some.injEq, Prod.mk.injEq] at e2
      obtain ⟨h1, h2, h3, h4, h5, h6, h7, h8⟩ := e2
      subst h1 h2 h3 h4 h5 h6 h8
      have c21 : (codeIn K n13 d.qual && (noV n8 && (noV n9 && (codeB K (P.main.file : Str) n13 && closB K (d.adr K) n7)))) = true := c20
      obtain ⟨k1, k⟩ := ba c21
      obtain ⟨k2, k⟩ := ba k
      obtain ⟨k3, k⟩ := ba k
      obtain ⟨k4, k5⟩ := ba k
      have z8 : n8 = .none := by cases n8 <;> first | rfl | cases k2
      have z9 : n9 = .none := by cases n9 <;> first | rfl | cases k3
      subst z8 z9
      rcases n7 with _ | ⟨⟨x, cc⟩, _ | ⟨y, r⟩⟩
      · cases k5
      · have k6 : cellB K (d.adr K) cc = true := k5
        have z7 : x = "__class__" := by simpa using h7
        subst z7
        unfold cellB at k6
        split at k6
        · rename_i cl cld D csl hcc
          have zD : D = d.adr K := of_decide_eq_true k6
          subst zD
          cases n13 with
          | ref cda =>
            have k7 : (match K.lookup cda with
              | some ⟨_, _, .fields vs, _⟩ => (match (show Option Value from vs[2]?) with
                | some (Value.str x _) => (P.main.file : Str) == x
                | _ => false)
              | _ => false) = true := k4
            split at k7
            · rename_i ccl cdd vs ccs hcd
              split at k7
              · rename_i file tf hvs
                exact ⟨d.fn K, cc, cda, oc, od, n10, n11, n12, n14, osl, d.qual, d.p1, d.p2, d.a0, d.a1, d.a2, d.a3, d.a4, d.a5, d.q1, d.q2, d.q3, d.q4, vs, file, tf, ccl, cl, cdd, cld, ccs, csl, eqO_ok c18, of_decide_eq_true c19, q, k1, hcd, hvs, k7, hcc, hline⟩
              · cases k7
            · cases k7
          | _ => cases k4
        · cases k6
      · cases k5
    | _ => cases c20
/-! ### the Hook -/
abbrev AlX : Type := AlD × (List FnI × Bool)
def obsX (fa : List Fa) (fn : List DefD) (xs : List ExD) (file : Str) (ck : Frag → Bool) (K : Frag) : AlX := (obsD fa fn K, (xs.map fun d => d.obs K), (xs.all fun d => d.ok K file) && ck K)
def valX (fn : List DefD) (xs : List ExD) : AlX := (valD fn, xs.map ExD.val, true)
def asX (n : Nat) (g : Addr → Option Obj) : List Addr := asD g n ++ [cStatics]
def obsXG (n : Nat) (fa : List Fa) (fn : List DefD) (xs : List ExD) (file : Str) (ck : Frag → Bool) (g : Addr → Option Obj) : AlX := obsX fa fn xs file ck (frG g (asX n g))
def SaysX (fa : List Fa) (fn : List DefD) (xs : List ExD) (file : Str) (ck : Frag → Bool) (K : Frag) : Prop := obsX fa fn xs file ck K = valX fn xs
def hookX (n : Nat) (fa : List Fa) (fn : List DefD) (xs : List ExD) (file : Str) (ck : Frag → Bool) : Hook where
  α := AlX
  obs := fun s => obsXG n fa fn xs file ck s.heap.get?
  val := fun _ => valX fn xs
  says := fun _ h => ∃ K : Frag, K.In h ∧ SaysX fa fn xs file ck K
  of := fun _ _ e => ⟨_, frG_in, e⟩
  keeps := fun _ _ _ ⟨K, hK, c⟩ k => ⟨K, Frag.In.keeps hK k, c⟩
theorem obsXG_eq {n : Nat} {fa : List Fa} {fn : List DefD} {xs : List ExD} {file : Str} {ck : Frag → Bool} {g : Addr → Option Obj} {s : Shared} (h : ∀ a, g a = s.heap.get? a) : obsXG n fa fn xs file ck g = (hookX n fa fn xs file ck).obs s := by
  have e : g = s.heap.get? := funext h
  rw [e] <;> rfl
section
variable {fa : List Fa} {fn : List DefD} {xs : List ExD} {file : Str} {ck : Frag → Bool} {K : Frag}
theorem SaysX.d (c : SaysX fa fn xs file ck K) : SaysD fa fn K := congrArg (fun z : AlX => z.1) c
theorem SaysX.chk (c : SaysX fa fn xs file ck K) : ck K = true := (ba (show ((xs.all fun d => d.ok K file) && ck K) = true from congrArg (fun z : AlX => z.2.2) c)).2
theorem SaysX.ex (c : SaysX fa fn xs file ck K) (i : Nat) {d : ExD} (h : xs[i]? = some d := by rfl) : d.obs K = d.val ∧ d.ok K file = true := by
  have c2 := (ba (show ((xs.all fun d => d.ok K file) && ck K) = true from congrArg (fun z : AlX => z.2.2) c)).1
  have e : (xs.map fun d => d.obs K) = xs.map ExD.val := congrArg (fun z : AlX => z.2.1) c
  have e2 : (xs.map fun d => d.obs K)[i]? = (xs.map ExD.val)[i]? := by rw [e]
  rw [List.getElem?_map, List.getElem?_map, h] at e2
  exact ⟨Option.some.inj e2, List.all_eq_true.mp c2 d (List.mem_of_getElem? h)⟩
end
end DLY
end

section
set_option Elab.async false
set_option linter.all false
set_option maxRecDepth 100000
set_option maxHeartbeats 4000000
/-! walk_ofA, with a CXT that may name the world. -/
namespace L2
open PySem PySem.Spec PyProof.Rows
theorem walk_ofW {l : PySem.W.OpenLaw} {n : Nat} {q : Program} {loose : List Str} {XP : (Str → Option Value) → Heap → Prop} {YP : World → Heap → Prop} {d : DefRec} {CX : World → CXT} {x : Str}
    (hn : l.most = some n) (hn2 : n ≤ sizeLine) (hdf : d.params.defaults = [])
    (F : ∀ (w : World) (mg : Str → Option Value) (fa : Addr) (h : Heap), YP w h → h.Ns mainGlobals mg → mg d.name = some (.ref fa) →
      ∃ (K : PySem.W.Frag) (fd : FuncData) (sp : Sp), K.In h ∧ (∀ (s : Shared) (u : Value), BindsTo s fd ⟨[u], []⟩ [(x, u)]) ∧
        (∀ (H : Hp) (a : Addr) (ns : List Int), ns.length ≤ n → Only H → SqL K H a (ns.map V.int) → sp [.ref a] H (fun v _ => v = .bl true) fun _ _ _ => False) ∧
        ∀ base : Heap, K.In base → base.Ns mainGlobals mg → RunsAt l.prog w K mg base (CX w) callerA fa fd [x] sp)
    (hCX : ∀ (w : World) (H : Hp) (s : Shared) (e : Value) (s' : Shared), CX w [] H s (fun _ _ _ => False) e s' → False) :
    PySem.W.WalkO q loose XP YP l.row.toRowW d [] (fun f vs => PySem.call f vs) := by
  refine Att.attach_call hn hdf fun w s₀ s₁ mg mb fa o pm cd doc a vs ns G Y ho hd hcd hmg hobj hints hlen hg => ?_
  obtain ⟨K, fd, sp, KX, hb, hsp, hF⟩ := F w mg fa _ Y G.T.g hmg
  exact law_callA KX G.T.g G.T.b G.T.builtins G.T.nolimit hg hobj hints (Nat.le_trans hlen hn2) hF hb (fun H hO hS => hsp H a ns hlen hO hS) fun H e s' => hCX w H s₁ e s'
end L2
end

section
set_option Elab.async false
set_option linter.all false
set_option maxRecDepth 100000
set_option maxHeartbeats 0
namespace DL.GW50
open PySem PySem.Spec PyProof.Rows L2
abbrev RR : PySem.W.OpenRow := PySem.W.OpenLaw.row PySem.Challenge.rw_mendvault_k50_harms_by_own_lists
def dBad : DLY.ExD := ⟨"BadValue", "at", "BadValue.__init__", ⟨6, 17, 6, 21⟩, ⟨6, 23, 6, 25⟩, ⟨7, 8, 7, 13⟩, ⟨7, 8, 7, 15⟩, ⟨7, 8, 7, 24⟩, ⟨7, 25, 7, 27⟩, ⟨7, 8, 7, 28⟩, ⟨7, 8, 7, 28⟩, ⟨8, 8, 8, 12⟩, ⟨8, 8, 8, 15⟩, ⟨8, 18, 8, 20⟩, ⟨8, 8, 8, 20⟩⟩
def ck50 (K : PySem.W.Frag) : Bool := (He.Fa.glo "BadValue").ok K && ((He.Fa.glo "VaultError").ok K && ((He.Fa.exm "BadValue" "BadValue" true).ok K && decide (PySem.W.kitOne K (.ref (He.ga K "BadValue")) (.ref (He.ga K "VaultError")) = some true)))
abbrev file50 : Str := (PySem.Challenge.pw_mendvault_k50_harms_by_own_lists.main.file : Str)
abbrev hk : PySem.W.Hook := DLY.hookX 5 faL fnL [dBad] file50 ck50
def ob (s : PySem.W.SharedT) : DLY.AlX := DLY.obsXG 5 faL fnL [dBad] file50 ck50 (HandSHeadRun.getT s)
theorem ob_eq (s : PySem.W.SharedT) : ob s = hk.obs s.abs := DLY.obsXG_eq (HandSHeadRun.getT_eq s)
def loose50 : List Str := ["VaultError", "BadValue", "is_integer", "is_from_to", "MOST_CHANGED", "GREATEST", "is_place", "is_change", "is_let", "changed", "harm_done", "harmed", "_law_mixed", "_law_pool", "_law_draw", "_law_same", "_law_wrong_volume", "_law_integers", "_law_harm", "_law_spoilt", "_law_is_wrong", "_law_done", "_law_due", "_law_told", "_law_handed"]
theorem run50 (w : World) : HandSHeadRun.RunEq RR (PySem.W.view RR.prog [29]) hk ob 6000 loose50 w := by
  intro os
  kernel_rfl
/-- classes by number -/
def ctx50 (K : PySem.W.Frag) : DL.Ctx := ⟨K, fun _ => dBad.adr K, fun _ => ["at"]⟩
section
variable {w : World} {K : PySem.W.Frag} {h : Heap} {mg : Str → Option Value}
abbrev PP : Program := (PySem.Challenge.rw_mendvault_k50_harms_by_own_lists).prog
theorem facts (X : K.In h) (G : h.Ns mainGlobals mg) (c : DLY.SaysX faL fnL [dBad] file50 ck50 K) {f : Addr} (hfa : mg ("law" : Str) = some (.ref f)) :
    ∃ fd : FuncData, (∀ (s : Shared) (v : Value), BindsTo s fd ⟨[v], []⟩ [("_law_script", v)]) ∧
      ∀ base : Heap, K.In base → base.Ns mainGlobals mg → RunsAt PP w K mg base (L2.CX PP w) callerA f fd ["_law_script"] (spD (ctx50 K) 1 S_law) := by
  obtain ⟨e1, e2⟩ := c.ex 0 (d := dBad) rfl
  have T : DLX.ExT PP K mg (dBad.adr K) "at" := DLY.ExD.ext (P := PP) (d := dBad) X G e1 e2 DLX.shape_at (by decide +kernel) (by decide +kernel) (by decide +kernel) (by decide +kernel) (by decide +kernel)
  obtain ⟨k1, k⟩ := He.ba c.chk
  obtain ⟨k2, k⟩ := He.ba k
  obtain ⟨k3, k4⟩ := He.ba k
  have gB : mg "BadValue" = some (.ref (dBad.adr K)) := He.glo_ok X G k1
  have gV : mg "VaultError" = some (.ref (He.ga K "VaultError")) := He.glo_ok X G k2
  have xx : DLX.ExT PP K mg ((ctx50 K).cls 0) "at" ∧ exnOf (ctx50 K) 0 = "at" := ⟨T, rfl⟩
  obtain ⟨fd, F⟩ := c.d.def_ 21 (d := d_law) rfl
  have e := hfa.symm.trans (He.glo_ok X G (c.d.fact 35 (f := .glo "law") rfl))
  cases e
  have b := FunD.bindsA (ps := ["_law_script"]) F fun _ _ _ _ _ _ us hl => match us, hl with | [_], _ => rfl
  refine ⟨fd, fun s v => b s [v] rfl, fun base hb hn => ?_⟩
  have M : Mdl faL fnL K mg base := ⟨c.d, hb, hn⟩
  have gk : (ctx50 K).K = K := rfl
  have h1 := a_is_integer (P := PP) (w := w) (Γ := ctx50 K) gk M
  have h2 := a_is_from_to (P := PP) (w := w) (Γ := ctx50 K) gk M h1
  have h3 := a_is_place (P := PP) (w := w) (Γ := ctx50 K) gk M h1
  have h4 := a_is_change (P := PP) (w := w) (Γ := ctx50 K) gk M h3 h2
  have h5 := a_is_let (P := PP) (w := w) (Γ := ctx50 K) gk M h2 h4 h3 h1
  have h6 := a_changed (P := PP) (w := w) (Γ := ctx50 K) gk M
  have h7 := a_harm_done (P := PP) (w := w) (Γ := ctx50 K) gk M h6
  have h8 := a_harmed (P := PP) (w := w) (Γ := ctx50 K) gk M xx gB h5 h7
  have h9 := a__law_mixed (P := PP) (w := w) (Γ := ctx50 K) gk M
  have h10 := a__law_pool (P := PP) (w := w) (Γ := ctx50 K) gk M
  have h11 := a__law_draw (P := PP) (w := w) (Γ := ctx50 K) gk M h9
  have h12 := a__law_same (P := PP) (w := w) (Γ := ctx50 K) gk M 6
  have h13 := a__law_wrong_volume (P := PP) (w := w) (Γ := ctx50 K) gk M h11
  have h14 := a__law_integers (P := PP) (w := w) (Γ := ctx50 K) gk M h11
  have h15 := a__law_harm (P := PP) (w := w) (Γ := ctx50 K) gk M h11 h14
  have h16 := a__law_spoilt (P := PP) (w := w) (Γ := ctx50 K) gk M h13 h11
  have h17 := a__law_is_wrong (P := PP) (w := w) (Γ := ctx50 K) gk M
  have h18 := a__law_done (P := PP) (w := w) (Γ := ctx50 K) gk M
  have h19 := a__law_due (P := PP) (w := w) (Γ := ctx50 K) gk M h17 h18
  have h20 := a__law_told (P := PP) (w := w) (Γ := ctx50 K) gk M (fun c f e => by
      rcases c with _ | c
      · have e' : ("at" : Str) = f := Option.some.inj e
        subst e'; exact xx
      · cases e) gB (fun c b e => by
      unfold cat_BadValue at e
      split at e
      · rename_i z; subst z; cases e; exact He.exm_ok k3
      · cases e) (He.ga K "VaultError") gV (fun c b e => by
      unfold is_VaultError at e
      split at e
      · rename_i z; subst z; cases e; exact ⟨⟨"at", xx⟩, of_decide_eq_true k4⟩
      · cases e) h8
  have h21 := a__law_handed (P := PP) (w := w) (Γ := ctx50 K) gk M h11
  have nd : (["_law_script", "_law_pool_here", "_law_volumes", "_law_v", "_law_size", "_law_k", "_law_harms", "_law_many", "_law_odd", "_law_turn", "_law_harm_here", "_law_handed_here", "_law_given", "_law_kept", "_law_due_here"] : List Str).Nodup := by decide +kernel
  have sc : FnScope ["_law_script", "_law_pool_here", "_law_volumes", "_law_v", "_law_size", "_law_k", "_law_harms", "_law_many", "_law_odd", "_law_turn", "_law_harm_here", "_law_handed_here", "_law_given", "_law_kept", "_law_due_here"] ["_law_script"] (defScope st_law) := ⟨rfl, rfl, rfl, nd, rfl, by decide +kernel, by decide +kernel⟩
  refine FunD.runsAt (k := 7) F sc (fun vs H Q E z => z.1) ⟨rfl, by decide, by decide⟩ fun cdv outer s H vs Q E hr hsp => ?_
  exact ⟨_, law_body (P := PP) (w := w) (Γ := ctx50 K) rfl (by decide) gk M h10 h11 h21 h15 h16 h17 h19 h12 h20 (Nat.le_refl _) hr nd, fn_body (ps := ["_law_script"]) rfl (by decide) hsp⟩
end
theorem sp_law (K : PySem.W.Frag) (H : Hp) (a : Addr) (ns : List Int) (hS : SqL K H a (ns.map V.int)) : spD (ctx50 K) 1 S_law [.ref a] H (fun v _ => v = .bl true) fun _ _ _ => False := by
  obtain ⟨e, he⟩ := law_true ns
  refine ⟨rfl, H, [some (.fz (.rol (ns.map .int)))], fun _ => False, ?_, ⟨fun _ _ z => z, fun _ z => z.elim⟩, ?_⟩
  · refine .cons (A := fun _ => False) (G := fun _ => False) (.fz (.rol hS (by simp) fun i v d h1 h2 => ?_) fun _ z => z) (.nil fun _ z => z) (fun _ z => z.elim) fun b => ⟨fun z => z.elim, fun z => z.elim id id⟩
    rw [List.getElem?_map] at h1 h2
    cases q : ns[i]? with
    | none => rw [q] at h1; cases h1
    | some x => rw [q] at h1 h2; cases h1; cases h2; exact .int x
  · rw [he]
    intro v Z H' A G o _ _ _ _
    cases o with
    | fz d _ => cases d; rfl
end DL.GW50
open PySem PySem.W PySem.Calls PyProof.Rows
theorem PySem.Challenge.cw_mendvault_k50_harms_by_own_lists_holds : PySem.Challenge.rw_mendvault_k50_harms_by_own_lists.Holds := by
  w_on; o_law
  refine HandSHeadRun.head_any (r := OpenLaw.row PySem.Challenge.rw_mendvault_k50_harms_by_own_lists) (q := view (OpenLaw.row PySem.Challenge.rw_mendvault_k50_harms_by_own_lists).prog [29]) (H := DL.GW50.hk) (ob := DL.GW50.ob) (M := 6000) (loose := DL.GW50.loose50) (d := HandSHeadRun.topDef (OpenLaw.row PySem.Challenge.rw_mendvault_k50_harms_by_own_lists).prog 29) (kwd := []) DL.GW50.ob_eq
    (by kernel_rfl) (fun s => by kernel_rfl) DL.GW50.run50 (by kernel_rfl) (by kernel_rfl) (by kernel_rfl) (by rfl) (by first | assumption | decide +kernel) (by decide +kernel) ⟨rfl, rfl, rfl, rfl, rfl, by decide +kernel⟩ ?hw ?hc
  case hw => w_witness2
  case hc =>
    refine L2.walk_ofW (l := PySem.Challenge.rw_mendvault_k50_harms_by_own_lists) (n := 63) (x := "_law_script") (CX := L2.CX DL.GW50.PP) rfl (by decide) (by kernel_rfl) ?F (fun _ _ _ _ _ z => by obtain ⟨_, _, _, _, _, _, _, _, _, _, _, _, _, _, _, _, y⟩ := z)
    intro w mg fa h Y G hmg0
    obtain ⟨K, KX, c⟩ := Y
    have hmg : mg ("law" : PySem.Str) = some (.ref fa) := by
      have e : (HandSHeadRun.topDef (OpenLaw.row PySem.Challenge.rw_mendvault_k50_harms_by_own_lists).prog 29).name = ("law" : PySem.Str) := by kernel_rfl
      rw [← e]
      exact hmg0
    obtain ⟨fd, hb, hF⟩ := DL.GW50.facts (w := w) KX G c hmg
    exact ⟨K, fd, _, KX, hb, fun H a ns _ _ hS => DL.GW50.sp_law K H a ns hS, hF⟩
end
