import PyProof.Rows.All
import Wide.All
import OpenK.AllK
import Wide.FinOn
import HandS.ForMost
import HandS.Wide
import HandS.SortInts
import HandS.SortRule
import HandS.TupAny
import HandS.Dict
import HandS.Property
import HandS.IsInst
import HandS.Codes
import HandS.Iter
import PyProof.LongRange
import KE.GoesEnum
import HandS.Defaults
import HandS.MakeKwOnly
import HandS.Conv
import HandS.Star
import HandS.SetBool
import HandS.Strs
import HandS.SetFor
import HandS.Nested
import HandS.ExcInit
import KE.KExcSuper
import HandS.ExcCtx
import HandS.ExcIs
import HandS.HotCalls
import HandS.Style
import HandS.ExcBuiltin
import HandS.ExcField
import KE.KExcIs
import HandS.Exc
import KE.KStateDown
import HandS.Head0
import HandS.Head1
import HandS.Head2
import HandS.HeadEnd
import HandS.HeadHook1
import HandS.HeadHook2
import HandS.HeadHook3
import PySem.Challenge.RW_fitsizes_k02_errors_of_lines
-- part DLa
set_option Elab.async false
set_option linter.all false
set_option maxRecDepth 100000
/-! DL, part a: plain data, how the abstract heap bears it, what a frame owns. -/
namespace DL
open PySem PySem.Spec PyProof.Rows L2

/-- kinds of nodes -/
inductive Kd where
  | lst | tup | scr | obj (c : Nat) (fl : List Str) | dic (ks : List Str)
  deriving DecidableEq
/-- plain data -/
inductive D where
  | non | bl (b : Bool) | int (i : Int) | str (x : Str) | nd (k : Kd) (ds : List D)
abbrev D.lst (ds : List D) : D := .nd .lst ds
abbrev D.tup (ds : List D) : D := .nd .tup ds

/-- what a row's world is to us: the written part, where the classes stand -/
structure Mo where
  K : PySem.W.Frag
  cl : Nat → Option Addr

def Fa2 (P : D → V → Prop) : List D → List V → Prop
  | [], vs => vs = []
  | d :: ds, vs => ∃ v vs', vs = v :: vs' ∧ P d v ∧ Fa2 P ds vs'
def Fa3 (P : D → V → List Addr → Prop) : List D → List V → List Addr → Prop
  | [], vs, fp => vs = [] ∧ fp = []
  | d :: ds, vs, fp => ∃ v vs' f1 f2, vs = v :: vs' ∧ fp = f1 ++ f2 ∧ P d v f1 ∧ Fa3 P ds vs' f2

section
variable (M : Mo)
/-- the node at a is read -/
def Rds (H : Hp) (a : Addr) : Kd → List V → Prop
  | .lst, vs => H a = some (.lst vs)
  | .tup, vs => H a = some (.tup vs)
  | .scr, vs => SqL M.K H a vs
  | .obj c fl, vs => ∃ C dx fs, M.cl c = some C ∧ H a = some (.ins C dx fs) ∧ fs.map (·.1) = fl ∧ fs.map (·.2) = vs
  | .dic ks, vs => ∃ kvs : List (Key × V), H a = some (.dK kvs) ∧ kvs.map (·.1) = ks.map Sum.inr ∧ kvs.map (·.2) = vs
/-- the node at a is one's own; ex: what else belongs to it -/
def OwA (H : Hp) (a : Addr) : Kd → List V → List Addr → Prop
  | .lst, vs, ex => H a = some (.lst vs) ∧ ex = []
  | .tup, vs, ex => H a = some (.tup vs) ∧ ex = []
  | .scr, _, _ => False
  | .obj c fl, vs, ex => ∃ C dx fs, M.cl c = some C ∧ H a = some (.ins C dx fs) ∧ H dx = some (.own a) ∧ fs.map (·.1) = fl ∧ fs.map (·.2) = vs ∧ ex = [dx]
  | .dic ks, vs, ex => ∃ kvs : List (Key × V), H a = some (.dK kvs) ∧ kvs.map (·.1) = ks.map Sum.inr ∧ kvs.map (·.2) = vs ∧ ex = []
mutual
/-- v is d, by what stands still -/
def Rep (F : Hp) : D → V → Prop
  | .non, v => v = .non
  | .bl b, v => v = .bl b
  | .int i, v => v = .int i
  | .str x, v => v = .str x
  | .nd k ds, v => ∃ a vs, v = .ref a ∧ Rds M F a k vs ∧ Reps F ds vs
def Reps (F : Hp) : List D → List V → Prop
  | [], vs => vs = []
  | d :: ds, vs => ∃ v vs', vs = v :: vs' ∧ Rep F d v ∧ Reps F ds vs'
end
/-- v is d; the upper k levels may still be written by their owner -/
def RW (F H : Hp) : Nat → D → V → Prop
  | 0, d, v => Rep M F d v
  | k + 1, d, v => match d with
    | .nd kd ds => ∃ a vs, v = .ref a ∧ Rds M H a kd vs ∧ Fa2 (RW F H k) ds vs
    | d => Rep M F d v
/-- v is d, the upper k levels are owned, at the addresses fp -/
def Own (F H : Hp) : Nat → D → V → List Addr → Prop
  | 0, d, v, fp => Rep M F d v ∧ fp = []
  | k + 1, d, v, fp => match d with
    | .nd kd ds => ∃ a vs ex fps, v = .ref a ∧ OwA M H a kd vs ex ∧ Fa3 (Own F H k) ds vs fps ∧ fp = a :: (ex ++ fps)
    | d => Rep M F d v ∧ fp = []
end

section
variable {M : Mo} {F F' H H' : Hp}
theorem Fa2.mono {P Q : D → V → Prop} : ∀ {ds : List D} {vs : List V}, (∀ d ∈ ds, ∀ v, P d v → Q d v) → Fa2 P ds vs → Fa2 Q ds vs
  | [], _, _, h => h
  | d :: ds, _, f, h => by
    obtain ⟨v, vs', rfl, a, b⟩ := h
    exact ⟨v, vs', rfl, f d (by simp) v a, b.mono fun e he => f e (by simp [he])⟩
theorem Fa3.mono {P Q : D → V → List Addr → Prop} : ∀ {ds : List D} {vs : List V} {fp : List Addr}, (∀ d ∈ ds, ∀ v f, (∀ b ∈ f, b ∈ fp) → P d v f → Q d v f) → Fa3 P ds vs fp → Fa3 Q ds vs fp
  | [], _, _, _, h => h
  | d :: ds, _, _, f, h => by
    obtain ⟨v, vs', f1, f2, rfl, rfl, a, b⟩ := h
    exact ⟨v, vs', f1, f2, rfl, rfl, f d (by simp) v f1 (fun b hb => by simp [hb]) a, b.mono fun e he v g hg => f e (by simp [he]) v g fun b hb => by simp [hg b hb]⟩
theorem Reps.fa : ∀ {ds : List D} {vs : List V}, Reps M F ds vs ↔ Fa2 (Rep M F) ds vs
  | [], _ => by simp [Reps, Fa2]
  | d :: ds, vs => by simp only [Reps, Fa2, Reps.fa (ds := ds)]
theorem Fa2.length {P : D → V → Prop} : ∀ {ds : List D} {vs : List V}, Fa2 P ds vs → vs.length = ds.length
  | [], _, h => by rw [show _ = [] from h]; rfl
  | d :: ds, _, h => by
    obtain ⟨v, vs', rfl, a, b⟩ := h
    simp [b.length]
theorem Fa3.length {P : D → V → List Addr → Prop} : ∀ {ds : List D} {vs : List V} {fp : List Addr}, Fa3 P ds vs fp → vs.length = ds.length
  | [], _, _, h => by rw [h.1]; rfl
  | d :: ds, _, _, h => by
    obtain ⟨v, vs', _, _, rfl, _, a, b⟩ := h
    simp [b.length]
theorem Fa2.get {P : D → V → Prop} : ∀ {ds : List D} {vs : List V} {i : Nat} {d : D}, Fa2 P ds vs → ds[i]? = some d → ∃ v, vs[i]? = some v ∧ P d v
  | [], _, _, _, _, e => by simp at e
  | d :: ds, _, 0, x, h, e => by
    obtain ⟨v, vs', rfl, a, b⟩ := h
    simp at e
    subst e
    exact ⟨v, rfl, a⟩
  | d :: ds, _, i + 1, x, h, e => by
    obtain ⟨v, vs', rfl, a, b⟩ := h
    obtain ⟨w, e1, e2⟩ := b.get (i := i) (by simpa using e)
    exact ⟨w, by simpa using e1, e2⟩
theorem Fa2.append {P : D → V → Prop} : ∀ {ds es : List D} {vs ws : List V}, Fa2 P ds vs → Fa2 P es ws → Fa2 P (ds ++ es) (vs ++ ws)
  | [], _, _, _, h, k => by rw [show _ = [] from h]; exact k
  | d :: ds, _, _, _, h, k => by
    obtain ⟨v, vs', rfl, a, b⟩ := h
    exact ⟨v, vs' ++ _, rfl, a, b.append k⟩
theorem Fa3.append {P : D → V → List Addr → Prop} : ∀ {ds es : List D} {vs ws : List V} {f g : List Addr}, Fa3 P ds vs f → Fa3 P es ws g → Fa3 P (ds ++ es) (vs ++ ws) (f ++ g)
  | [], _, _, _, _, _, h, k => by obtain ⟨rfl, rfl⟩ := h; exact k
  | d :: ds, _, _, _, _, _, h, k => by
    obtain ⟨v, vs', f1, f2, rfl, rfl, a, b⟩ := h
    exact ⟨v, vs' ++ _, f1, f2 ++ _, rfl, by simp, a, b.append k⟩
theorem Fa2.set {P : D → V → Prop} {d : D} {v : V} (hp : P d v) : ∀ {ds : List D} {vs : List V} (i : Nat), Fa2 P ds vs → Fa2 P (ds.set i d) (vs.set i v)
  | [], _, _, h => by rw [show _ = [] from h]; exact rfl
  | e :: ds, _, 0, h => by
    obtain ⟨w, vs', rfl, a, b⟩ := h
    exact ⟨v, vs', rfl, hp, b⟩
  | e :: ds, _, i + 1, h => by
    obtain ⟨w, vs', rfl, a, b⟩ := h
    exact ⟨w, vs'.set i v, rfl, a, b.set hp i⟩
theorem Fa2.drop {P : D → V → Prop} : ∀ {ds : List D} {vs : List V} (i : Nat), Fa2 P ds vs → Fa2 P (ds.drop i) (vs.drop i)
  | _, _, 0, h => by simpa using h
  | [], _, i + 1, h => by rw [show _ = [] from h]; exact rfl
  | e :: ds, _, i + 1, h => by
    obtain ⟨w, vs', rfl, a, b⟩ := h
    simpa using b.drop i
theorem Fa2.take {P : D → V → Prop} : ∀ {ds : List D} {vs : List V} (i : Nat), Fa2 P ds vs → Fa2 P (ds.take i) (vs.take i)
  | _, _, 0, h => by simp [Fa2]
  | [], _, i + 1, h => by rw [show _ = [] from h]; exact rfl
  | e :: ds, _, i + 1, h => by
    obtain ⟨w, vs', rfl, a, b⟩ := h
    exact ⟨w, vs'.take i, by simp, a, b.take i⟩
theorem Rds.mono {a : Addr} {vs : List V} (s : Same F F') : ∀ {k : Kd}, Rds M F a k vs → Rds M F' a k vs
  | .lst, h => s _ _ h
  | .tup, h => s _ _ h
  | .scr, h => s.seq h
  | .obj c fl, ⟨C, dx, fs, h1, h2, h3⟩ => ⟨C, dx, fs, h1, s _ _ h2, h3⟩
  | .dic ks, ⟨kvs, h1, h2⟩ => ⟨kvs, s _ _ h1, h2⟩
mutual
theorem Rep.mono (s : Same F F') : ∀ {d : D} {v : V}, Rep M F d v → Rep M F' d v
  | .non, _, h => by simpa [Rep] using h
  | .bl _, _, h => by simpa [Rep] using h
  | .int _, _, h => by simpa [Rep] using h
  | .str _, _, h => by simpa [Rep] using h
  | .nd k ds, _, h => by
    simp only [Rep] at h ⊢
    obtain ⟨a, vs, e, r, q⟩ := h
    exact ⟨a, vs, e, r.mono s, Reps.mono s q⟩
theorem Reps.mono (s : Same F F') : ∀ {ds : List D} {vs : List V}, Reps M F ds vs → Reps M F' ds vs
  | [], _, h => by simpa [Reps] using h
  | d :: ds, _, h => by
    simp only [Reps] at h ⊢
    obtain ⟨v, vs', e, r, q⟩ := h
    exact ⟨v, vs', e, Rep.mono s r, Reps.mono s q⟩
end
theorem Rep.nd_iff {k : Kd} {ds : List D} {v : V} : Rep M F (.nd k ds) v ↔ ∃ a vs, v = .ref a ∧ Rds M F a k vs ∧ Fa2 (Rep M F) ds vs := by
  simp only [Rep, Reps.fa]
theorem RW.mono (s : Same F F') (t : Same H H') : ∀ {k : Nat} {d : D} {v : V}, RW M F H k d v → RW M F' H' k d v
  | 0, _, _, h => Rep.mono s h
  | k + 1, d, v, h => by
    cases d with
    | nd kd ds =>
      obtain ⟨a, vs, e, r, q⟩ := h
      exact ⟨a, vs, e, r.mono t, q.mono fun d _ v x => RW.mono s t x⟩
    | _ => exact Rep.mono s h
/-- what stands still is read so -/
theorem RW.of (s : Same F H) : ∀ {k : Nat} {d : D} {v : V}, Rep M F d v → RW M F H k d v
  | 0, _, _, h => h
  | k + 1, d, v, h => by
    cases d with
    | nd kd ds =>
      obtain ⟨a, vs, e, r, q⟩ := Rep.nd_iff.mp h
      exact ⟨a, vs, e, r.mono s, q.mono fun d _ v x => RW.of s x⟩
    | _ => exact h
/-- a node that is read, by its parts -/
theorem RW.node (s : Same F H) {k : Nat} {kd : Kd} {ds : List D} {v : V} (h : RW M F H k (.nd kd ds) v) : ∃ a vs, v = .ref a ∧ Rds M H a kd vs ∧ Fa2 (RW M F H (k - 1)) ds vs := by
  cases k with
  | zero =>
    obtain ⟨a, vs, e, r, q⟩ := Rep.nd_iff.mp h
    exact ⟨a, vs, e, r.mono s, q⟩
  | succ k => exact h
theorem RW.scalar {k : Nat} {d : D} {v : V} (h : RW M F H k d v) (n : ∀ kd ds, d ≠ .nd kd ds) : Rep M F d v := by
  cases k with
  | zero => exact h
  | succ k =>
    cases d with
    | nd kd ds => exact absurd rfl (n kd ds)
    | _ => exact h
theorem RW.int {k : Nat} {i : Int} {v : V} (h : RW M F H k (.int i) v) : v = .int i := by
  simpa [Rep] using h.scalar (by simp)
theorem RW.bl {k : Nat} {b : Bool} {v : V} (h : RW M F H k (.bl b) v) : v = .bl b := by
  simpa [Rep] using h.scalar (by simp)
theorem RW.str {k : Nat} {x : Str} {v : V} (h : RW M F H k (.str x) v) : v = .str x := by
  simpa [Rep] using h.scalar (by simp)
theorem RW.non {k : Nat} {v : V} (h : RW M F H k .non v) : v = .non := by
  simpa [Rep] using h.scalar (by simp)
theorem OwA.rds {a : Addr} {vs : List V} {ex : List Addr} : ∀ {k : Kd}, OwA M H a k vs ex → Rds M H a k vs
  | .lst, h => h.1
  | .tup, h => h.1
  | .scr, h => h.elim
  | .obj c fl, ⟨C, dx, fs, h1, h2, _, h4, h5, _⟩ => ⟨C, dx, fs, h1, h2, h4, h5⟩
  | .dic ks, ⟨kvs, h1, h2, h3, _⟩ => ⟨kvs, h1, h2, h3⟩
theorem OwA.mono {a : Addr} {vs : List V} {ex : List Addr} (s : ∀ b ∈ a :: ex, H' b = H b) : ∀ {k : Kd}, OwA M H a k vs ex → OwA M H' a k vs ex
  | .lst, h => ⟨by rw [s a (by simp)]; exact h.1, h.2⟩
  | .tup, h => ⟨by rw [s a (by simp)]; exact h.1, h.2⟩
  | .scr, h => h.elim
  | .obj c fl, ⟨C, dx, fs, h1, h2, h3, h4, h5, h6⟩ => ⟨C, dx, fs, h1, by rw [s a (by simp)]; exact h2, by rw [s dx (by simp [h6])]; exact h3, h4, h5, h6⟩
  | .dic ks, ⟨kvs, h1, h2⟩ => ⟨kvs, by rw [s a (by simp)]; exact h1, h2⟩
theorem OwA.there {a : Addr} {vs : List V} {ex : List Addr} {k : Kd} (h : OwA M H a k vs ex) : ∀ b ∈ a :: ex, H b ≠ none := by
  intro b hb
  cases k with
  | lst =>
    obtain ⟨h, e⟩ := h
    subst e
    simp at hb; subst hb; rw [h]; simp
  | tup =>
    obtain ⟨h, e⟩ := h
    subst e
    simp at hb; subst hb; rw [h]; simp
  | scr => exact h.elim
  | obj c fl =>
    obtain ⟨C, dx, fs, h1, h2, h3, h4, h5, e⟩ := h
    subst e
    simp at hb
    rcases hb with rfl | rfl
    · rw [h2]; simp
    · rw [h3]; simp
  | dic ks =>
    obtain ⟨kvs, h1, h2, h3, e⟩ := h
    subst e
    simp at hb; subst hb; rw [h1]; simp
theorem Fa3.fa2 {P : D → V → List Addr → Prop} {Q : D → V → Prop} : ∀ {ds : List D} {vs : List V} {fp : List Addr}, (∀ d ∈ ds, ∀ v f, P d v f → Q d v) → Fa3 P ds vs fp → Fa2 Q ds vs
  | [], _, _, _, h => h.1
  | d :: ds, _, _, f, h => by
    obtain ⟨v, vs', f1, f2, rfl, rfl, a, b⟩ := h
    exact ⟨v, vs', rfl, f d (by simp) v f1 a, b.fa2 fun e he => f e (by simp [he])⟩
theorem Own.rw : ∀ {k : Nat} {d : D} {v : V} {fp : List Addr}, Own M F H k d v fp → RW M F H k d v
  | 0, _, _, _, h => h.1
  | k + 1, d, v, fp, h => by
    cases d with
    | nd kd ds =>
      obtain ⟨a, vs, ex, fps, e, o, q, _⟩ := h
      exact ⟨a, vs, e, o.rds, q.fa2 fun d _ v f x => Own.rw x⟩
    | _ => exact h.1
theorem Own.mono (s : Same F F') : ∀ {k : Nat} {d : D} {v : V} {fp : List Addr}, (∀ b ∈ fp, H' b = H b) → Own M F H k d v fp → Own M F' H' k d v fp
  | 0, _, _, _, _, h => ⟨h.1.mono s, h.2⟩
  | k + 1, d, v, fp, t, h => by
    cases d with
    | nd kd ds =>
      obtain ⟨a, vs, ex, fps, e, o, q, e2⟩ := h
      refine ⟨a, vs, ex, fps, e, o.mono fun b hb => t b ?_, q.mono fun d _ v f hf x => Own.mono s (fun b hb => t b ?_) x, e2⟩
      · rw [e2, ← List.cons_append]; exact List.mem_append_left _ hb
      · rw [e2, ← List.cons_append]; exact List.mem_append_right _ (hf b hb)
    | _ => exact ⟨h.1.mono s, h.2⟩
theorem Own.there : ∀ {k : Nat} {d : D} {v : V} {fp : List Addr}, Own M F H k d v fp → ∀ b ∈ fp, H b ≠ none
  | 0, _, _, _, h, b, hb => by rw [h.2] at hb; simp at hb
  | k + 1, d, v, fp, h, b, hb => by
    cases d with
    | nd kd ds =>
      obtain ⟨a, vs, ex, fps, e, o, q, e2⟩ := h
      rw [e2, ← List.cons_append, List.mem_append] at hb
      rcases hb with hb | hb
      · exact o.there b hb
      · clear o e e2
        induction ds generalizing vs fps with
        | nil => rw [q.2] at hb; simp at hb
        | cons d ds ih =>
          obtain ⟨v, vs', f1, f2, rfl, rfl, a1, b1⟩ := q
          rcases List.mem_append.mp hb with hb | hb
          · exact Own.there a1 b hb
          · exact ih _ _ b1 hb
    | _ => rw [h.2] at hb; simp at hb
/-- what was owned stands still from now on -/
theorem Own.freeze (s : Same F F') : ∀ {k : Nat} {d : D} {v : V} {fp : List Addr}, (∀ b ∈ fp, F' b = H b) → Own M F H k d v fp → Rep M F' d v
  | 0, _, _, _, _, h => h.1.mono s
  | k + 1, d, v, fp, t, h => by
    cases d with
    | nd kd ds =>
      obtain ⟨a, vs, ex, fps, e, o, q, e2⟩ := h
      refine Rep.nd_iff.mpr ⟨a, vs, e, (o.mono fun b hb => t b ?_).rds, ?_⟩
      · rw [e2, ← List.cons_append]; exact List.mem_append_left _ hb
      · have t2 : ∀ b ∈ fps, F' b = H b := fun b hb => t b (by rw [e2, ← List.cons_append]; exact List.mem_append_right _ hb)
        clear o e e2 t
        induction ds generalizing vs fps with
        | nil => exact q.1
        | cons d ds ih =>
          obtain ⟨v, vs', f1, f2, rfl, rfl, a1, b1⟩ := q
          exact ⟨v, vs', rfl, Own.freeze s (fun b hb => t2 b (by simp [hb])) a1, ih _ _ b1 fun b hb => t2 b (by simp [hb])⟩
    | _ => exact h.1.mono s
end

/-! ### from one state to a later one; P: what is one's own -/
structure Step (F H : Hp) (P : Addr → Prop) (F' H' : Hp) (P' : Addr → Prop) : Prop where
  ff : Same F F'
  fr : ∀ b o, H b = some o → ¬ P b → H' b = some o
  nw : ∀ b, F' b ≠ none → F b ≠ none ∨ H b = none ∨ P b
  own : ∀ b, P' b → P b ∨ H b = none
section
variable {F F' F1 F2 H H' H1 H2 : Hp} {P P' P1 P2 G : Addr → Prop}
theorem Step.refl : Step F H P F H P := ⟨Same.refl F, fun _ _ h _ => h, fun _ h => .inl h, fun _ h => .inl h⟩
theorem Step.trans (a : Step F H P F1 H1 P1) (b : Step F1 H1 P1 F2 H2 P2) : Step F H P F2 H2 P2 := by
  have back : ∀ x, H1 x = none → H x = none ∨ P x := fun x hx => by
    by_cases hf : P x
    · exact .inr hf
    · cases e : H x with
      | none => exact .inl rfl
      | some o => rw [a.fr x o e hf] at hx; cases hx
  refine ⟨a.ff.trans b.ff, fun x o e hf => ?_, fun x hx => ?_, fun x hx => ?_⟩
  · refine b.fr x o (a.fr x o e hf) fun h => ?_
    rcases a.own x h with h | h
    · exact hf h
    · rw [e] at h; cases h
  · rcases b.nw x hx with h | h | h
    · exact a.nw x h
    · exact .inr (back x h)
    · rcases a.own x h with h | h
      · exact .inr (.inr h)
      · exact .inr (.inl h)
  · rcases b.own x hx with h | h
    · exact a.own x h
    · exact (back x h).symm
theorem Step.mono (a : Step F H P F1 H1 P1) (hs : ∀ b, P b → G b) {G1 : Addr → Prop} (hg : ∀ b, G1 b → P1 b ∨ G b ∨ H b = none) : Step F H G F1 H1 G1 :=
  ⟨a.ff, fun b o e h => a.fr b o e fun z => h (hs b z), fun b h => (a.nw b h).imp id (·.imp id (hs b)), fun b h => (hg b h).elim (fun z => (a.own b z).imp (hs b) id) id⟩
theorem Step.less (a : Step F H P F1 H1 P1) (hs : ∀ b, P2 b → P1 b) : Step F H P F1 H1 P2 := ⟨a.ff, a.fr, a.nw, fun b h => a.own b (hs b h)⟩
theorem Step.same (a : Step F H P F1 H1 P1) (h : ∀ b, ¬ P b) : Same H H1 := fun b o e => a.fr b o e (h b)
end
/-- what was owned at g stands still -/
def frz (F H : Hp) (g : List Addr) : Hp := fun b => if b ∈ g then H b else F b
section
variable {F H : Hp} {g : List Addr}
theorem frz_in {b : Addr} (h : b ∈ g) : frz F H g b = H b := if_pos h
theorem frz_out {b : Addr} (h : b ∉ g) : frz F H g b = F b := if_neg h
theorem frz_same (s : Same F H) : Same F (frz F H g) := fun b o e => by
  unfold frz
  split
  · exact s b o e
  · exact e
theorem frz_sub (s : Same F H) : Same (frz F H g) H := fun b o e => by
  unfold frz at e
  split at e
  · exact e
  · exact s b o e
end
end DL

-- part DLb
set_option Elab.async false
set_option linter.all false
set_option maxRecDepth 100000
/-! DL, part b: a frame's slots. -/
namespace DL
open PySem PySem.Spec PyProof.Rows L2

/-- a slot: empty, a value that stands still, a value of the frame's own, a value of the caller's own (lent) -/
inductive Sl where
  | un | val (d : D) | own (k : Nat) (d : D) | io (k : Nat) (d : D)
abbrev Env := List Sl
abbrev St := L2.St
section
variable (M : Mo) (F H : Hp)
def SlR : Sl → Option V → List Addr → Prop
  | .un, _, fp => fp = []
  | .val d, x, fp => ∃ v, x = some v ∧ Rep M F d v ∧ fp = []
  | .own k d, x, fp => ∃ v, x = some v ∧ Own M F H k d v fp
  | .io k d, x, fp => ∃ v, x = some v ∧ Own M F H k d v fp
/-- what the slots own -/
abbrev Ft := Nat → List Addr
def Ft.at (fs : Ft) (b : Addr) : Prop := ∃ i, b ∈ fs i
def Ft.set (fs : Ft) (i : Nat) (f : List Addr) : Ft := fun j => if j = i then f else fs j
/-- the state of a frame -/
structure GS (io : List (Nat × V)) (env : Env) (σ : St) (fs : Ft) : Prop where
  len : σ.length = env.length
  sl : ∀ i s, env[i]? = some s → ∃ x, σ[i]? = some x ∧ SlR M F H s x (fs i)
  nd : ∀ i, (fs i).Nodup
  dj : ∀ i j b, i ≠ j → b ∈ fs i → b ∉ fs j
  fn : ∀ i b, b ∈ fs i → F b = none
  out : ∀ i, env[i]? = none → fs i = []
  fh : Same F H
  io : ∀ p ∈ io, σ[p.1]? = some (some p.2) ∧ ∃ k d, env[p.1]? = some (.io k d)
end
section
variable {M : Mo} {F F' H H' : Hp} {io : List (Nat × V)} {env env' : Env} {σ σ' : St} {fs fs' : Ft}
theorem Ft.set_same {i : Nat} {f : List Addr} : (fs.set i f) i = f := if_pos rfl
theorem Ft.set_ne {i j : Nat} {f : List Addr} (h : j ≠ i) : (fs.set i f) j = fs j := if_neg h
theorem SlR.mono (s : Same F F') {sl : Sl} {x : Option V} {f : List Addr} (t : ∀ b ∈ f, H' b = H b) (h : SlR M F H sl x f) : SlR M F' H' sl x f := by
  cases sl with
  | un => exact h
  | val d => obtain ⟨v, e, r, q⟩ := h; exact ⟨v, e, r.mono s, q⟩
  | own k d => obtain ⟨v, e, o⟩ := h; exact ⟨v, e, o.mono s t⟩
  | io k d => obtain ⟨v, e, o⟩ := h; exact ⟨v, e, o.mono s t⟩
theorem SlR.there {sl : Sl} {x : Option V} {f : List Addr} (h : SlR M F H sl x f) : ∀ b ∈ f, H b ≠ none := by
  cases sl with
  | un => intro b hb; rw [show f = [] from h] at hb; simp at hb
  | val d => obtain ⟨v, e, r, q⟩ := h; intro b hb; rw [q] at hb; simp at hb
  | own k d => obtain ⟨v, e, o⟩ := h; exact o.there
  | io k d => obtain ⟨v, e, o⟩ := h; exact o.there
theorem set_self {α : Type} : ∀ {l : List α} {i : Nat} {x : α}, l[i]? = some x → l.set i x = l
  | [], _, _, h => by simp at h
  | a :: l, 0, x, h => by simp at h; simp [h]
  | a :: l, i + 1, x, h => by simp [set_self (l := l) (i := i) (x := x) (by simpa using h)]
theorem get_set {α : Type} {l : List α} {i j : Nat} {x : α} : (l.set i x)[j]? = if i = j ∧ i < l.length then some x else l[j]? := by
  rw [List.getElem?_set]
  by_cases h : i = j
  · subst h
    by_cases h2 : i < l.length
    · simp [h2]
    · simp [h2]
  · simp [h]
theorem GS.hd (g : GS M F H io env σ fs) {i : Nat} {b : Addr} (hb : b ∈ fs i) : H b ≠ none := by
  cases e : env[i]? with
  | none => rw [g.out i e] at hb; simp at hb
  | some s =>
    obtain ⟨x, _, r⟩ := g.sl i s e
    exact r.there b hb
/-- nothing of ours was touched -/
theorem GS.keep (g : GS M F H io env σ fs) (s : Same F F') (t : ∀ i b, b ∈ fs i → H' b = H b) (fh : Same F' H') (fn : ∀ i b, b ∈ fs i → F' b = none) : GS M F' H' io env σ fs :=
  ⟨g.len, fun i sl e => let ⟨x, h1, h2⟩ := g.sl i sl e; ⟨x, h1, h2.mono s fun b hb => t i b hb⟩, g.nd, g.dj, fn, g.out, fh, g.io⟩
theorem GS.same (g : GS M F H io env σ fs) (t : Same H H') : ∀ i b, b ∈ fs i → H' b = H b := fun i b hb => by
  cases e : H b with
  | none => exact absurd e (g.hd hb)
  | some o => exact t b o e
/-- a value that stands still is read off a slot -/
theorem GS.val (g : GS M F H io env σ fs) {i : Nat} {d : D} (e : env[i]? = some (.val d)) : ∃ v, σ[i]? = some (some v) ∧ Rep M F d v := by
  obtain ⟨x, h1, ⟨v, rfl, h3, _⟩⟩ := g.sl i _ e
  exact ⟨v, h1, h3⟩
def ownAt (env : Env) (i k : Nat) (d : D) : Prop := env[i]? = some (.own k d) ∨ env[i]? = some (.io k d)
theorem GS.own (g : GS M F H io env σ fs) {i k : Nat} {d : D} (e : ownAt env i k d) : ∃ v, σ[i]? = some (some v) ∧ Own M F H k d v (fs i) := by
  rcases e with e | e
  · obtain ⟨x, h1, ⟨v, rfl, h3⟩⟩ := g.sl i _ e
    exact ⟨v, h1, h3⟩
  · obtain ⟨x, h1, ⟨v, rfl, h3⟩⟩ := g.sl i _ e
    exact ⟨v, h1, h3⟩
theorem lt_of_get {α : Type} {l : List α} {i : Nat} {x : α} (h : l[i]? = some x) : i < l.length := (List.getElem?_eq_some_iff.mp h).1
/-- one slot changes, in what it holds or owns; elsewhere all is as it was -/
theorem GS.slot (g : GS M F H io env σ fs) {i : Nat} {s' : Sl} {x' : Option V} {f : List Addr} (hi : i < env.length) (ff : Same F F') (fh : Same F' H') (t : ∀ j b, j ≠ i → b ∈ fs j → H' b = H b) (fn : ∀ j b, j ≠ i → b ∈ fs j → F' b = none)
    (r : SlR M F' H' s' x' f) (nd : f.Nodup) (fnf : ∀ b ∈ f, F' b = none) (dj : ∀ j b, j ≠ i → b ∈ fs j → b ∉ f) (hio : ∀ p ∈ io, p.1 = i → x' = some p.2 ∧ ∃ k d, s' = .io k d) :
    GS M F' H' io (env.set i s') (σ.set i x') (fs.set i f) := by
  refine ⟨by simp [g.len], fun j s e => ?_, fun j => ?_, fun a c b hne hb hb2 => ?_, fun j b hb => ?_, fun j e => ?_, fh, fun p hp => ?_⟩
  · by_cases z : j = i
    · subst z
      rw [List.getElem?_set_self hi] at e
      cases e
      refine ⟨x', by rw [List.getElem?_set_self (by rw [g.len]; exact hi)], ?_⟩
      rw [Ft.set_same]; exact r
    · rw [List.getElem?_set_ne (Ne.symm z)] at e
      obtain ⟨x, h1, h2⟩ := g.sl j s e
      refine ⟨x, by rw [List.getElem?_set_ne (Ne.symm z)]; exact h1, ?_⟩
      rw [Ft.set_ne z]
      exact h2.mono ff fun b hb => t j b z hb
  · by_cases z : j = i
    · subst z; rw [Ft.set_same]; exact nd
    · rw [Ft.set_ne z]; exact g.nd j
  · by_cases z : a = i
    · subst z
      rw [Ft.set_same] at hb
      rw [Ft.set_ne (Ne.symm hne)] at hb2
      exact dj c b (Ne.symm hne) hb2 hb
    · rw [Ft.set_ne z] at hb
      by_cases z2 : c = i
      · subst z2
        rw [Ft.set_same] at hb2
        exact dj a b z hb hb2
      · rw [Ft.set_ne z2] at hb2
        exact g.dj a c b hne hb hb2
  · by_cases z : j = i
    · subst z; rw [Ft.set_same] at hb; exact fnf b hb
    · rw [Ft.set_ne z] at hb; exact fn j b z hb
  · by_cases z : j = i
    · subst z; rw [List.getElem?_set_self hi] at e; cases e
    · rw [List.getElem?_set_ne (Ne.symm z)] at e
      rw [Ft.set_ne z]; exact g.out j e
  · obtain ⟨q1, k, d, q2⟩ := g.io p hp
    by_cases z : p.1 = i
    · obtain ⟨rfl, k, d, rfl⟩ := hio p hp z
      rw [z, List.getElem?_set_self (by rw [g.len]; exact hi), List.getElem?_set_self hi]
      exact ⟨rfl, k, d, rfl⟩
    · rw [List.getElem?_set_ne (Ne.symm z), List.getElem?_set_ne (Ne.symm z)]
      exact ⟨q1, k, d, q2⟩
theorem GS.notIo (g : GS M F H io env σ fs) {i : Nat} {s : Sl} (e : env[i]? = some s) (ni : ∀ k d, s ≠ .io k d) : ∀ p ∈ io, p.1 ≠ i := fun p hp z => by
  obtain ⟨_, k, d, q⟩ := g.io p hp
  rw [z, e] at q
  cases q
  exact ni k d rfl
/-- a slot is stored; f: what the new thing owns -/
theorem GS.set (g : GS M F H io env σ fs) {i : Nat} {s s' : Sl} {v : V} {f : List Addr} (e : env[i]? = some s) (ni : ∀ k d, s ≠ .io k d) (r : SlR M F H s' (some v) f) (nd : f.Nodup) (fn : ∀ b ∈ f, F b = none) (dj : ∀ j b, b ∈ fs j → b ∉ f) :
    GS M F H io (env.set i s') (σ.set i (some v)) (fs.set i f) :=
  g.slot (lt_of_get e) (Same.refl F) g.fh (fun _ _ _ _ => rfl) (fun j b _ hb => g.fn j b hb) r nd fn (fun j b _ hb => dj j b hb) fun p hp z => absurd z (g.notIo e ni p hp)
/-- what a slot owns is changed in its place -/
theorem GS.change (g : GS M F H io env σ fs) {i k : Nat} {d : D} (e : ownAt env i k d) {v : V} (ev : σ[i]? = some (some v)) {H' : Hp} {k' : Nat} {d' : D} {f : List Addr} (fh : Same F H') (fr : ∀ b o, H b = some o → b ∉ fs i → H' b = some o)
    (o : Own M F H' k' d' v f) (nd : f.Nodup) (nw : ∀ b ∈ f, b ∈ fs i ∨ H b = none) :
    GS M F H' io (env.set i (match env[i]? with | some (.io _ _) => .io k' d' | _ => .own k' d')) σ (fs.set i f) ∧ Step F H fs.at F H' (fs.set i f).at := by
  have hi : i < env.length := by rcases e with e | e <;> exact lt_of_get e
  have q := g.slot (F' := F) (H' := H') (i := i) (s' := match env[i]? with | some (.io _ _) => .io k' d' | _ => .own k' d') (x' := some v) (f := f) hi (Same.refl F) fh (fun j b z hb => ?_) (fun j b _ hb => g.fn j b hb) ?_ nd (fun b hb => ?_) (fun j b z hb hb2 => ?_) (fun p hp z => ?_)
  · rw [set_self ev] at q
    refine ⟨q, Same.refl F, fun b o h n => fr b o h fun z => n ⟨i, z⟩, fun b h => .inl h, fun b ⟨j, hb⟩ => ?_⟩
    by_cases z : j = i
    · subst z
      rw [Ft.set_same] at hb
      exact (nw b hb).imp (fun x => ⟨j, x⟩) id
    · rw [Ft.set_ne z] at hb
      exact .inl ⟨j, hb⟩
  · cases q : H b with
    | none => exact absurd q (g.hd hb)
    | some u => exact fr b u q fun w => g.dj j i b z hb w
  · rcases e with e | e
    · rw [e]; exact ⟨v, rfl, o⟩
    · rw [e]; exact ⟨v, rfl, o⟩
  · rcases nw b hb with w | w
    · exact g.fn i b w
    · cases q : F b with
      | none => rfl
      | some u => rw [g.fh b u q] at w; cases w
  · rcases nw b hb2 with w | w
    · exact g.dj j i b z hb w
    · exact g.hd hb w
  · obtain ⟨q1, k2, d2, q2⟩ := g.io p hp
    rw [z] at q1 q2
    rw [ev] at q1
    refine ⟨by cases q1; rfl, k', d', ?_⟩
    rw [q2]
end
end DL

-- part DLc
set_option Elab.async false
set_option linter.all false
set_option maxRecDepth 100000
/-! DL, part c: the small language and what it computes, over plain data alone. -/
namespace DL
open PySem L2

inductive Res (α : Type) where
  | ok (a : α) | exn (c : Nat) (d : D) | stuck
def Res.bind {α β : Type} (x : Res α) (f : α → Res β) : Res β := match x with
  | .ok a => f a
  | .exn c d => .exn c d
  | .stuck => .stuck
instance : Monad Res where
  pure := .ok
  bind := Res.bind
def ofO {α : Type} : Option α → Res α
  | some a => .ok a
  | none => .stuck
@[simp] theorem Res.bind_ok {α β : Type} {a : α} {f : α → Res β} : Res.bind (.ok a) f = f a := rfl
@[simp] theorem Res.bind_exn {α β : Type} {c : Nat} {d : D} {f : α → Res β} : Res.bind (.exn c d) f = .exn c d := rfl
@[simp] theorem Res.bind_stuck {α β : Type} {f : α → Res β} : Res.bind .stuck f = .stuck := rfl
@[simp] theorem ofO_some {α : Type} {a : α} : ofO (some a) = .ok a := rfl
@[simp] theorem ofO_none {α : Type} : (ofO none : Res α) = .stuck := rfl

/-! ### operations on data -/
mutual
def toPy : D → PyData
  | .non => .none
  | .bl b => .bool b
  | .int i => .int i
  | .str x => .str x
  | .nd .lst ds => .list (toPys ds)
  | .nd .tup ds => .tuple (toPys ds)
  | .nd .scr ds => .list (toPys ds)
  | .nd _ _ => .none
def toPys : List D → List PyData
  | [] => []
  | d :: ds => toPy d :: toPys ds
end
mutual
def plain : D → Bool
  | .nd .lst ds => plains ds
  | .nd .tup ds => plains ds
  | .nd .scr ds => plains ds
  | .nd _ _ => false
  | _ => true
def plains : List D → Bool
  | [] => true
  | d :: ds => plain d && plains ds
end
mutual
/-- nothing in it may ever be written -/
def noLst : D → Bool
  | .nd .tup ds => noLsts ds
  | .nd _ _ => false
  | _ => true
def noLsts : List D → Bool
  | [] => true
  | d :: ds => noLst d && noLsts ds
end
/-- .. below so many levels -/
def noLstK : Nat → D → Bool
  | 0, d => noLst d
  | k + 1, .nd _ ds => ds.all (noLstK k)
  | _, _ => true
def noOuts : List Nat → List D → Bool
  | 0 :: ms, ds => noOuts ms ds
  | (k + 1) :: ms, d :: ds => noLstK (k + 1) d && noOuts ms ds
  | _, _ => true
def lim : Nat := 100000
def okPy (d : D) : Bool := plain d && SeqAt.shaped (toPy d)
/-- a list of whatever, against an empty one -/
def dEqN : D → D → Res Bool
  | .nd .lst ds, .nd .lst [] => .ok ds.isEmpty
  | _, _ => .stuck
def dEq (d e : D) : Res Bool := if okPy d && okPy e then .ok (PyData.eqv (toPy d) (toPy e)) else dEqN d e
theorem dEq_nil {ds : List D} : dEq (.nd .lst ds) (.nd .lst []) = .ok ds.isEmpty := by
  unfold dEq
  split
  · cases ds with
    | nil => rfl
    | cons d ds => rfl
  · rfl

abbrev Wk := Nat × D
inductive Bop | add | sub | mul | fdiv | mod | pow
  deriving DecidableEq
inductive Cop | eq | ne | lt | le | gt | ge | inn | nin | isn | nisn
  deriving DecidableEq
def MulOk (i j : Int) : Bool := decide (i.natAbs < 2 ^ 64) || decide (j.natAbs < 2 ^ 64) || decide (i.natAbs.log2 + j.natAbs.log2 < 1000000)
def DivOk (j : Int) : Bool := decide (j ≠ 0) && decide (j.natAbs.log2 < 9000)
def PowOk (i j : Int) : Bool := decide (0 ≤ j) && decide ((i.natAbs.log2 + 1 : Int) * j ≤ 2 ^ 27)
/-- a op b: the first number: how many levels of it may still be written -/
def dBin : Bop → Wk → Wk → Res D
  | .add, (_, .int i), (_, .int j) => .ok (.int (i + j))
  | .add, (_, .str x), (_, .str y) => if x.length + y.length ≤ lim then .ok (.str (x ++ y)) else .stuck
  | .add, (j, .nd .lst xs), (k, .nd .lst ys) => if j ≤ 1 ∧ k ≤ 1 ∧ xs.length + ys.length ≤ lim then .ok (.lst (xs ++ ys)) else .stuck
  | .add, (0, .nd .tup xs), (0, .nd .tup ys) => if xs.length + ys.length ≤ lim then .ok (.tup (xs ++ ys)) else .stuck
  | .sub, (_, .int i), (_, .int j) => .ok (.int (i - j))
  | .mul, (_, .int i), (_, .int j) => if MulOk i j then .ok (.int (i * j)) else .stuck
  | .mul, (j, .nd .lst xs), (_, .int n) => if j ≤ 1 ∧ -1000000 ≤ n ∧ n ≤ 1000000 ∧ xs.length * n.toNat ≤ lim then .ok (.lst (List.replicate n.toNat xs).flatten) else .stuck
  | .fdiv, (_, .int i), (_, .int j) => if DivOk j then .ok (.int (i.fdiv j)) else .stuck
  | .mod, (_, .int i), (_, .int j) => if j ≠ 0 then .ok (.int (i.fmod j)) else .stuck
  | .pow, (_, .int i), (_, .int j) => if PowOk i j then .ok (.int (i ^ j.toNat)) else .stuck
  | _, _, _ => .stuck
def flat : D → Bool
  | .nd _ _ => false
  | _ => true
def anyEq (d : D) (ds : List D) : Bool := ds.any fun e => PyData.eqv (toPy e) (toPy d)
def dIn (d : D) (x : Wk) : Res Bool := match d, x with
  | .str x, (_, .str y) => .ok (!(Builtin.Str.occurrences y x 0 y.length 1).isEmpty)
  | d, (_, .nd .lst ds) => if flat d ∧ ds.all flat = true then .ok (anyEq d ds) else .stuck
  | d, (_, .nd .tup ds) => if flat d ∧ ds.all flat = true then .ok (anyEq d ds) else .stuck
  | _, _ => .stuck
def dCmp : Cop → Wk → Wk → Res Bool
  | .eq, (_, d), (_, e) => dEq d e
  | .ne, (_, d), (_, e) => (dEq d e).bind fun b => .ok (!b)
  | .lt, (_, .int i), (_, .int j) => .ok (decide (i < j))
  | .le, (_, .int i), (_, .int j) => .ok (decide (i ≤ j))
  | .gt, (_, .int i), (_, .int j) => .ok (decide (j < i))
  | .ge, (_, .int i), (_, .int j) => .ok (decide (j ≤ i))
  | .inn, (0, d), x => dIn d x
  | .nin, (0, d), x => (dIn d x).bind fun b => .ok (!b)
  | .isn, (_, d), (_, .non) => .ok (match d with | .non => true | _ => false)
  | .nisn, (_, d), (_, .non) => .ok (match d with | .non => false | _ => true)
  | _, _, _ => .stuck
/-- an entry of a dict with texts as keys -/
def dicAt : List Str → List D → Str → Option D
  | k :: ks, d :: ds, s => if k = s then some d else dicAt ks ds s
  | _, _, _ => none
/-- an entry that is there, anew -/
def dicPut : List Str → List D → Str → D → Option (List D)
  | k :: ks, d :: ds, s, x => if k = s then (if flat d = true then some (x :: ds) else none) else (dicPut ks ds s x).map (d :: ·)
  | _, _, _, _ => none
/-- another thing in an entry's place -/
def dicRep : List Str → List D → Str → D → List D
  | k :: ks, d :: ds, s, x => if k = s then x :: ds else d :: dicRep ks ds s x
  | _, ds, _, _ => ds
/-- d[s] = d[s2].pop(0) -/
def popD (ks : List Str) (ds : List D) (s s2 : Str) : Option (List D) := match dicAt ks ds s2 with
  | some (.nd .lst (x :: xs)) => if flat x = true then dicPut ks (dicRep ks ds s2 (.lst xs)) s x else none
  | _ => none
def dIdx : Wk → D → Res Wk
  | (k, .nd .lst ds), .int i => match atI ds i with | some d => .ok (k - 1, d) | none => .stuck
  | (k, .nd .tup ds), .int i => match atI ds i with | some d => .ok (k - 1, d) | none => .stuck
  | (k, .nd .scr ds), .int i => match atI ds i with | some d => .ok (k - 1, d) | none => .stuck
  | (k, .nd (.dic ks) ds), .str s => match dicAt ks ds s with | some d => .ok (if flat d = true then 0 else k - 1, d) | none => .stuck
  | (_, .str x), .int i => if x.length ≤ lim then (match atI x.cps.toList i with | some c => .ok (0, .str ⟨#[c]⟩) | none => .stuck) else .stuck
  | _, _ => .stuck
def cutL {α : Type} (xs : List α) (lo hi : Option Int) : List α := (xs.drop (HT.sIx xs.length 0 lo)).take (HT.sIx xs.length xs.length hi - HT.sIx xs.length 0 lo)
def dPart : Option D → Option (Option Int)
  | none => some none
  | some (.int i) => some (some i)
  | some _ => none
def dSlc (x : Wk) (lo hi : Option Int) : Res D := match x with
  | (k, .nd .lst ds) => if k ≤ 1 then .ok (.lst (cutL ds lo hi)) else .stuck
  | (k, .nd .scr ds) => if k ≤ 1 then .ok (.lst (cutL ds lo hi)) else .stuck
  | (0, .nd .tup ds) => .ok (.tup (cutL ds lo hi))
  | _ => .stuck

/-! ### the language -/
/-- a def: for each parameter how many levels of it are lent (0: it stands still), what it computes: the result and the lent things behind it -/
structure FnD where
  name : Str
  ms : List Nat
  rk : Nat
  den : List D → Res (D × List D)
/-- classes by their numbers and names -/
abbrev Cls2 := List (Nat × Str)
/-- a def that tells a caught exception: by its class and value -/
structure HnD where
  name : Str
  den : Nat → D → Option D
/-- an except suite -/
inductive Xh where
  | four (j : Nat) (cs1 cs2 : Cls2) (p0 : Nat × Str) (l : Bool)
  | call (g : HnD)
def oddA (cs1 cs2 : Cls2) (c0 c : Nat) : Bool := cs1.any (fun p => decide (c = p.1)) || (cs2.any (fun p => decide (c = p.1)) || !decide (c = c0))
def xrun : Xh → Nat → D → Option D
  | .four _ cs1 cs2 p0 l, c, d => some (if oddA cs1 cs2 p0.1 c = true then .str "odd" else if l = true then .lst [d] else d)
  | .call g, c, d => g.den c d
inductive Blt | len | abs | min2 | max2 | min1 | max1 | sum | all | any | sorted | list | tuple | int | str
  deriving DecidableEq
/-- where a value is stored: a slot, a field of the instance in a slot -/
inductive Ti | sl (i : Nat) | at (c i : Nat) (f : Str) | it (i : Nat) (j : Int)
  deriving DecidableEq
inductive Tg | one (t : Ti) | tup (ts : List Ti)
  deriving DecidableEq
inductive E where
  | nil | cons (a b : E)
  | name (i : Nat) | lit (d : D)
  | bin (op : Bop) (a b : E) | neg (a : E)
  | cmp (op : Cop) (a b : E) | chn (op op' : Cop) (a b c : E)
  | andv (a b : E) | orv (a b : E) | notv (a : E) | ife (t a b : E)
  | tup (es : E) | lst (es : E)
  | idx (a b : E) | slc (a lo hi : E)
  | app (f : FnD) (es : E) | ioa (i : Nat) | wka (i : Nat)
  | blt (b : Blt) (es : E)
  | fld (c : Nat) (f : Str) (a : E)
  | prp (c : Nat) (f : FnD) (a : E)
  | mth (c : Nat) (f : FnD) (o es : E)
  | lno (c : Nat) (f : FnD) (a : E)
  | addo (c : Nat) (f : FnD) (a b : E)
  | eqo (c : Nat) (f : FnD) (a b : E)
  | mk (c : Nat) (f : FnD) (es : E)
  | isi (c : Nat) (nm : Str) (a : E) | lrg (a b : E)
  | star (a : E) | apps (f : FnD) (a : E) | dget (nm : Str) (kvs : List (Str × Int)) (a : E) | glc (nm : Str) (d : D)
  | appk (f : FnD) (ks : List Str) (pm : List Nat) (es : E)
  | mthk (c : Nat) (f : FnD) (ks : List Str) (pm : List Nat) (o es : E)
  | mkk (c : Nat) (f : FnD) (ks : List Str) (pm : List Nat) (es : E)
  | comp (tg : List Nat) (it t e : E) | ssc (tg : List Nat) (it t e : E) | sst (e : E) | froz (is : List Nat) (e : E)
  | ilst (e : E) | iscr (e : E) | itup (e : E) | irg1 (a : E) | irg2 (a b : E) | irg3 (a b c : E) | ienum (e : E) | ienumT (e : E) | izip (a b : E)
inductive S where
  | nil | cons (s ss : S)
  | pass | set (tg : Tg) (e : E) | seto (k i : Nat) (e : E) | aug (op : Bop) (i : Nat) (e : E)
  | par (is : List Nat) (es : E) | paro (is : List Nat) (os : List Bool) (es : E) | setm (is : List Nat) (e : E) | rett (es : E)
  | ife (t : E) (a b : S) | for_ (tg : List Nat) (it : E) (b : S) | whl (t : E) (b : S)
  | ret (e : E) | reto (e : E) | retm (i : Nat) | retn | drop (e : E) | appd (o e : E)
  | app (i : Nat) (path : E) (e : E) | ext (i : Nat) (path : E) (e : E) | sub (i : Nat) (j : E) (e : E)
  | frz (i : Nat) | brk | cnt | never
  | setd (i : Nat) (e : E) | pard (i j : Nat) (ks : List Str) (ns : List Int) | retd (ks : List Str) (es : E)
  | dset (i : Nat) (s : Str) (e : E) | daug (i : Nat) (s : Str) (op : Bop) (n : Int) | dpop (i : Nat) (s s2 : Str)
  | rse (c : Nat) (nm : Str) (e : E) | tryc (b : S) (cls : Nat) (nm : Str) (i : Nat) (h : Xh)

/-- no list is lent for reading -/
def E.noW : E → Bool
  | .cons (.wka _) _ => false
  | .cons _ es => es.noW
  | _ => true
/-- nothing that is lent is touched -/
def E.pure : E → Bool
  | .nil => true
  | .cons a b => a.pure && b.pure
  | .name _ => true
  | .lit _ => true
  | .bin _ a b => a.pure && b.pure
  | .neg a => a.pure
  | .cmp _ a b => a.pure && b.pure
  | .chn _ _ a b c => a.pure && b.pure && c.pure
  | .andv a b => a.pure && b.pure
  | .orv a b => a.pure && b.pure
  | .notv a => a.pure
  | .ife t a b => t.pure && a.pure && b.pure
  | .tup es => es.pure
  | .lst es => es.pure
  | .idx a b => a.pure && b.pure
  | .slc a lo hi => a.pure && lo.pure && hi.pure
  | .app f es => f.ms.all (· == 0) && es.pure
  | .ioa _ => false
  | .wka _ => true
  | .blt _ es => es.pure
  | .fld _ _ a => a.pure
  | .prp _ f a => f.ms.all (· == 0) && a.pure
  | .mth _ f o es => f.ms.all (· == 0) && o.pure && es.pure
  | .lno _ f a => f.ms.all (· == 0) && a.pure
  | .addo _ f a b => f.ms.all (· == 0) && a.pure && b.pure
  | .eqo _ f a b => f.ms.all (· == 0) && a.pure && b.pure
  | .mk _ _ es => es.pure && es.noW
  | .isi _ _ a => a.pure
  | .lrg a b => a.pure && b.pure
  | .star a => a.pure
  | .apps f a => f.ms.all (· == 0) && a.pure
  | .dget _ _ a => a.pure
  | .glc _ _ => true
  | .appk f _ _ es => f.ms.all (· == 0) && es.pure
  | .mthk _ f _ _ o es => f.ms.all (· == 0) && o.pure && es.pure
  | .mkk _ _ _ _ es => es.pure
  | .comp _ it t e => it.pure && t.pure && e.pure
  | .ssc _ it t e => it.pure && t.pure && e.pure
  | .sst e => e.pure
  | .froz _ e => e.pure
  | .ilst e => e.pure
  | .iscr e => e.pure
  | .itup e => e.pure
  | .irg1 a => a.pure
  | .irg2 a b => a.pure && b.pure
  | .irg3 a b c => a.pure && b.pure && c.pure
  | .ienum e => e.pure
  | .ienumT e => e.pure
  | .izip a b => a.pure && b.pure

/-- an argument: a value; a slot whose thing is lent; a slot whose list is lent for reading -/
inductive Ar where
  | d (k : Nat) (d : D) | io (i : Nat) | wk (i : Nat)
def lent (env : Env) (i k : Nat) : Option D := match env[i]? with
  | some (.own j d) => if j = k then some d else none
  | some (.io j d) => if j = k then some d else none
  | _ => none
/-- the arguments' data -/
def argsOf (env : Env) : List Nat → List Ar → Option (List D)
  | [], [] => some []
  | 0 :: ms, .d 0 d :: ars => (argsOf env ms ars).map (d :: ·)
  | 0 :: ms, .wk i :: ars => match lent env i 1 with
    | some (.nd .lst ds) => (argsOf env ms ars).map (D.lst ds :: ·)
    | _ => none
  | (k + 1) :: ms, .io i :: ars => match lent env i (k + 1) with
    | some d => (argsOf env ms ars).map (d :: ·)
    | none => none
  | _, _ => none
def iosOf : List Ar → List Nat
  | [] => []
  | .io i :: r => i :: iosOf r
  | _ :: r => iosOf r
def wksOf : List Ar → List Nat
  | [] => []
  | .wk i :: r => i :: wksOf r
  | _ :: r => wksOf r
/-- behind a call the lent things are what the callee made of them -/
def putBack (env : Env) : List Nat → List D → Option Env
  | [], [] => some env
  | i :: is, d :: ds => match env[i]? with
    | some (.own k _) => putBack (env.set i (.own k d)) is ds
    | some (.io k _) => putBack (env.set i (.io k d)) is ds
    | _ => none
  | _, _ => none
def strong : List Ar → Option (List D)
  | [] => some []
  | .d 0 d :: r => (strong r).map (d :: ·)
  | _ => none
def weaks : List Ar → Option (List Wk)
  | [] => some []
  | .d k d :: r => (weaks r).map ((k, d) :: ·)
  | _ => none
def intsOf : List D → Option (List Int)
  | [] => some []
  | .int i :: r => (intsOf r).map (i :: ·)
  | _ => none
def boolsOf : List D → Option (List Bool)
  | [] => some []
  | .bl i :: r => (boolsOf r).map (i :: ·)
  | _ => none
def seqOf : D → Option (List D)
  | .nd .lst ds => some ds
  | .nd .tup ds => some ds
  | .nd .scr ds => some ds
  | _ => none
def lstOf : D → Option (List D)
  | .nd .lst ds => some ds
  | _ => none
def minL : List Int → Option Int
  | [] => none
  | x :: xs => some (xs.foldl min x)
def maxL : List Int → Option Int
  | [] => none
  | x :: xs => some (xs.foldl max x)
def insI (x : Int) : List Int → List Int
  | [] => [x]
  | y :: ys => if x ≤ y then x :: y :: ys else y :: insI x ys
def sortI : List Int → List Int
  | [] => []
  | x :: xs => insI x (sortI xs)
/-- (a, b) <= (c, d) as Python compares tuples -/
def leP (a b : Int × Int) : Bool := decide (a.1 < b.1) || (decide (a.1 = b.1) && decide (a.2 ≤ b.2))
def insP (x : Int × Int) : List (Int × Int) → List (Int × Int)
  | [] => [x]
  | y :: ys => if leP x y then x :: y :: ys else y :: insP x ys
def sortP : List (Int × Int) → List (Int × Int)
  | [] => []
  | x :: xs => insP x (sortP xs)
def pairsOf : List D → Option (List (Int × Int))
  | [] => some []
  | .nd .tup [.int a, .int b] :: r => (pairsOf r).map ((a, b) :: ·)
  | _ => none
def dSorted (ds : List D) : Res D := match intsOf ds with
  | some is => if ds.length ≤ lim then .ok (.lst ((sortI is).map .int)) else .stuck
  | none => match pairsOf ds with
    | some ps => if ds.length ≤ lim then .ok (.lst ((sortP ps).map fun p => .tup [.int p.1, .int p.2])) else .stuck
    | none => .stuck
def dBlt : Blt → List Wk → Res D
  | .len, [(_, .str x)] => if x.length ≤ lim then .ok (.int x.length) else .stuck
  | .len, [(_, d)] => match seqOf d with | some ds => .ok (.int ds.length) | none => .stuck
  | .abs, [(_, .int i)] => .ok (.int (if i < 0 then -i else i))
  | .min2, [(_, .int i), (_, .int j)] => .ok (.int (if j < i then j else i))
  | .max2, [(_, .int i), (_, .int j)] => .ok (.int (if j > i then j else i))
  | .min1, [(_, d)] => match (lstOf d).bind intsOf with | some is => (match minL is with | some m => .ok (.int m) | none => .stuck) | none => .stuck
  | .max1, [(_, d)] => match (lstOf d).bind intsOf with | some is => (match maxL is with | some m => .ok (.int m) | none => .stuck) | none => .stuck
  | .sum, [(_, d)] => match (lstOf d).bind intsOf with | some is => .ok (.int is.sum) | none => .stuck
  | .all, [(_, d)] => match (lstOf d).bind boolsOf with | some bs => .ok (.bl (bs.all id)) | none => .stuck
  | .any, [(_, d)] => match (lstOf d).bind boolsOf with | some bs => .ok (.bl (bs.any id)) | none => .stuck
  | .int, [(_, .int i)] => .ok (.int i)
  | .int, [(_, .bl b)] => .ok (.int (if b then 1 else 0))
  | .str, [(_, .int i)] => if i.natAbs.log2 < 1920 then .ok (.str (toString i)) else .stuck
  | .sorted, [(k, d)] => if k ≤ 1 then (match lstOf d with | some ds => dSorted ds | none => .stuck) else .stuck
  | .list, [(k, d)] => if k ≤ 1 then (match seqOf d with | some ds => .ok (.lst ds) | none => .stuck) else .stuck
  | .tuple, [(k, d)] => if k ≤ 1 then (match lstOf d with | some ds => .ok (.tup ds) | none => .stuck) else .stuck
  | _, _ => .stuck
def fieldOf (c : Nat) (f : Str) : Wk → Res Wk
  | (k, .nd (.obj c' fl) ds) => if c = c' then (match (fl.zip ds).lookup f with | some d => .ok (k - 1, d) | none => .stuck) else .stuck
  | _ => .stuck
def isObj (c : Nat) : D → Bool
  | .nd (.obj c' _) _ => c == c'
  | _ => false
/-- isinstance(d, the class c), where it is known -/
def isiD (c : Nat) : D → Option Bool
  | .nd (.obj c' _) _ => if c = c' then some true else none
  | .nd .lst _ => some false
  | .nd .tup _ => some false
  | .nd _ _ => none
  | _ => some false
/-- the names of the fields that an instance has are none of m -/
def notFl (m : Str) : D → Bool
  | .nd (.obj _ fl) _ => !fl.contains m
  | _ => false
def setSl (env : Env) (i : Nat) (s : Sl) : Res Env := match env[i]? with
  | some (.io _ _) => .stuck
  | some _ => .ok (env.set i s)
  | none => .stuck
def putFl (f : Str) (d : D) : List Str → List D → List Str × List D
  | g :: fl, e :: ds => if g = f then (g :: fl, d :: ds) else let r := putFl f d fl ds; (g :: r.1, e :: r.2)
  | fl, ds => (fl ++ [f], ds ++ [d])
def subAt (env : Env) (i : Nat) (ix : Int) (d : D) : Res Env := match env[i]? with
  | some (.own 1 (.nd .lst ds)) => match ixN ds.length ix with | some j => .ok (env.set i (.own 1 (.lst (ds.set j d)))) | none => .stuck
  | some (.io 1 (.nd .lst ds)) => match ixN ds.length ix with | some j => .ok (env.set i (.io 1 (.lst (ds.set j d)))) | none => .stuck
  | _ => .stuck
def setTi (env : Env) : Ti → D → Res Env
  | .sl i, d => setSl env i (.val d)
  | .at c0 i f, d => match env[i]? with
    | some (.io 1 (.nd (.obj c fl) ds)) => if c0 = c ∧ fl.length < 100 then .ok (env.set i (.io 1 (.nd (.obj c (putFl f d fl ds).1) (putFl f d fl ds).2))) else .stuck
    | _ => .stuck
  | .it i j, d => subAt env i j d
def setTis : Env → List Ti → List D → Res Env
  | env, [], [] => .ok env
  | env, t :: ts, d :: ds => (setTi env t d).bind fun env => setTis env ts ds
  | _, _, _ => .stuck
def setTg (env : Env) : Tg → D → Res Env
  | .one t, d => setTi env t d
  | .tup ts, .nd .tup ds => setTis env ts ds
  | _, _ => .stuck
/-- a loop's or comprehension's names -/
def setIs (env : Env) : List Nat → D → Res Env
  | [i], d => setSl env i (.val d)
  | is, .nd .tup ds => setTis env (is.map .sl) ds
  | _, _ => .stuck
/-- behind a comprehension its names are what they were -/
def back (old : Env) : List Nat → Env → Env
  | [], env => env
  | i :: is, env => match old[i]? with
    | some s => (back old is env).set i s
    | none => back old is env
def freeSl (env : Env) (tg : List Nat) : Bool := tg.all fun i => match env[i]? with | some .un => true | some (.val _) => true | _ => false
def blank (env : Env) : List Nat → Env
  | [] => env
  | i :: is => (blank env is).set i .un
def compL (tg : List Nat) (t : Env → Res (Bool × Env)) (e : Env → Res (D × Env)) : List D → Env → Res (List D × Env)
  | [], env => .ok ([], env)
  | x :: xs, env => (setIs env tg x).bind fun env1 => (t env1).bind fun (b, env2) =>
    if b then (e env2).bind fun (d, env3) => if freeSl env3 tg = true then (compL tg t e xs (blank env3 tg)).bind fun (ds, env4) => .ok (d :: ds, env4) else .stuck
    else if freeSl env2 tg = true then compL tg t e xs (blank env2 tg) else .stuck
def rangeL (lo : Int) (n : Nat) : List D := (List.range n).map fun (i : Nat) => D.int (lo + i)
/-- lo, lo - 1, .. -/
def rangeD (lo : Int) (n : Nat) : List D := (List.range n).map fun (i : Nat) => D.int (lo + (i : Nat) * (-1))
def rangeS (lo k : Int) (n : Nat) : List D := (List.range n).map fun (i : Nat) => D.int (lo + (i : Nat) * k)
def rng3 (i j k : Int) (env : Env) : Res (List D × Env) :=
  if (k = -1 ∧ -(2 ^ 62) ≤ i ∧ i < 2 ^ 62) ∧ (-(2 ^ 62) ≤ j ∧ j < 2 ^ 62) then .ok (rangeD i (i - j).toNat, env)
  else if (k ≠ 0 ∧ k.natAbs < 1073741824) ∧ PySem.Builtin.Range.small i j k = true ∧ 0 ≤ PySem.Builtin.Range.rangeSize i j k then .ok (rangeS i k (PySem.Builtin.Range.rangeSize i j k).toNat, env) else .stuck
def enumL : Nat → List D → List D
  | _, [] => []
  | i, d :: ds => .tup [.int (i : Nat), d] :: enumL (i + 1) ds
def zipL : List D → List D → List D
  | x :: xs, y :: ys => .tup [x, y] :: zipL xs ys
  | _, _ => []
def str1 (x : Wk) : Res D := match x with
  | (0, d) => .ok d
  | _ => .stuck
def asB (d : D) : Res Bool := match d with
  | .bl b => .ok b
  | _ => .stuck
def asI (d : D) : Res Int := match d with
  | .int b => .ok b
  | _ => .stuck
/-- a call -/
def callD (f : FnD) (ars : List Ar) (env : Env) : Res (D × Env) := match argsOf env f.ms ars with
  | none => .stuck
  | some ds => if (iosOf ars).Nodup ∧ ∀ i ∈ wksOf ars, i ∉ iosOf ars then (f.den ds).bind fun (r, outs) => match putBack env (iosOf ars) outs with
      | some env' => if wksOf ars = [] ∨ (noLst r = true ∧ f.rk = 0 ∧ noOuts f.ms outs = true) then .ok (r, env') else .stuck
      | none => .stuck
    else .stuck
def held (env : Env) (i : Nat) : Bool := match env[i]? with
  | some (.own _ _) => true
  | some (.io _ _) => true
  | _ => false
/-- a test that may be wanting; an element; a bound that may be wanting -/
def tstOf (t : E) (r : Env → Res (Wk × Env)) : Env → Res (Bool × Env) := match t with
  | .nil => fun env => .ok (true, env)
  | _ => fun env => (r env).bind fun (x, env) => (asB x.2).bind fun k => .ok (k, env)
def eltOf (r : Env → Res (Wk × Env)) : Env → Res (D × Env) := fun env => (r env).bind fun (x, env) => (str1 x).bind fun d => .ok (d, env)
def prtOf (e : E) (r : Env → Res (Wk × Env)) : Env → Res (Option Int × Env) := match e with
  | .nil => fun env => .ok (none, env)
  | _ => fun env => (r env).bind fun (x, env) => (asI x.2).bind fun i => .ok (some i, env)
/-- some of a list, in an order -/
def permO {α : Type} : List Nat → List α → Option (List α)
  | [], _ => some []
  | i :: is, l => match l[i]?, permO is l with
    | some x, some r => some (x :: r)
    | _, _ => none
def kwO {α : Type} (ks : List Str) (pm : List Nat) (l : List α) : Option (List α) := if l.length = ks.length then permO pm l else none
/-- what stands in a list or tuple that stands still, as arguments -/
def seqArs : Wk → Option (List Ar)
  | (0, .nd .lst ds) => some (ds.map (Ar.d 0))
  | (0, .nd .tup ds) => some (ds.map (Ar.d 0))
  | _ => none
/-- d.get(x) of a written dict from texts to numbers -/
def dgetD (kvs : List (Str × Int)) : D → Option D
  | .str x => some (match kvs.lookup x with | some i => .int i | none => .non)
  | _ => none
/-- each once -/
def dd : List Int → List Int
  | [] => []
  | x :: l => if x ∈ l then dd l else x :: dd l
/-- a new instance -/
def mkS (c : Nat) (f : FnD) (ds : List D) (env : Env) : Res (Wk × Env) := if f.ms = 1 :: List.replicate ds.length 0 ∧ f.rk = 0 then (f.den (.nd (.obj c []) [] :: ds)).bind fun (r, outs) => match r, outs with
    | .non, [o] => .ok ((0, o), env)
    | _, _ => .stuck
    else .stuck
/-- .. of lists that are lent for reading -/
def mkW (c : Nat) (f : FnD) (ars : List Ar) (env : Env) : Res (Wk × Env) := match argsOf env (List.replicate ars.length 0) ars with
  | none => .stuck
  | some ds => if (f.ms = 1 :: List.replicate ars.length 0 ∧ f.rk = 0) ∧ iosOf ars = [] then (f.den (.nd (.obj c []) [] :: ds)).bind fun (r, outs) => match r, outs with
    | .non, [o] => if noLstK 1 o = true then .ok ((0, o), env) else .stuck
    | _, _ => .stuck
    else .stuck
def mkD (c : Nat) (f : FnD) (nw : Bool) (ars : List Ar) (env : Env) : Res (Wk × Env) := match strong ars with
  | some ds => mkS c f ds env
  | none => if nw = true then .stuck else mkW c f ars env
/-- lists of one's own that stand still for a while -/
def frzE : Env → List Nat → Option Env
  | env, [] => some env
  | env, i :: is => match env[i]? with
    | some (.own 1 (.nd .lst ds)) => frzE (env.set i (.val (.lst ds))) is
    | _ => none
def fzO (env : Env) (r : Res (Wk × Env)) : Res (Wk × Env) := match r with
  | .ok ((0, d), _) => if flat d = true then .ok ((0, d), env) else .stuck
  | _ => .stuck
mutual
def ev : E → Env → Res (Wk × Env)
  | .name i, env => match env[i]? with
    | some (.val d) => .ok ((0, d), env)
    | some (.own k d) => .ok ((k, d), env)
    | some (.io k d) => .ok ((k, d), env)
    | _ => .stuck
  | .lit d, env => .ok ((0, d), env)
  | .bin op a b, env => (ev a env).bind fun (x, env) => if x.1 = 0 ∨ b.pure = true then (ev b env).bind fun (y, env) => (dBin op x y).bind fun d => .ok ((0, d), env) else .stuck
  | .neg a, env => (ev a env).bind fun (x, env) => (asI x.2).bind fun i => .ok ((0, .int (-i)), env)
  | .cmp op a b, env => (ev a env).bind fun (x, env) => if x.1 = 0 ∨ b.pure = true then (ev b env).bind fun (y, env) => (dCmp op x y).bind fun c => .ok ((0, .bl c), env) else .stuck
  | .chn op op' a b c, env => (ev a env).bind fun (x, env) => if x.1 = 0 then (ev b env).bind fun (y, env) => if y.1 = 0 then (dCmp op x y).bind fun k =>
      if k then (ev c env).bind fun (z, env) => (dCmp op' y z).bind fun k' => .ok ((0, .bl k'), env) else .ok ((0, .bl false), env) else .stuck else .stuck
  | .andv a b, env => (ev a env).bind fun (x, env) => (asB x.2).bind fun k => if k then (ev b env).bind fun (y, env) => (asB y.2).bind fun k' => .ok ((0, .bl k'), env) else .ok ((0, .bl false), env)
  | .orv a b, env => (ev a env).bind fun (x, env) => (asB x.2).bind fun k => if k then .ok ((0, .bl true), env) else (ev b env).bind fun (y, env) => (asB y.2).bind fun k' => .ok ((0, .bl k'), env)
  | .notv a, env => (ev a env).bind fun (x, env) => (asB x.2).bind fun k => .ok ((0, .bl (!k)), env)
  | .ife t a b, env => (ev t env).bind fun (x, env) => (asB x.2).bind fun k => if k then ev a env else ev b env
  | .tup es, env => (evs es env).bind fun (ars, env) => (ofO (strong ars)).bind fun ds => if ds.length ≤ lim then .ok ((0, .tup ds), env) else .stuck
  | .lst es, env => (evs es env).bind fun (ars, env) => (ofO (strong ars)).bind fun ds => if ds.length ≤ lim then .ok ((0, .lst ds), env) else .stuck
  | .idx a b, env => (ev a env).bind fun (x, env) => if x.1 = 0 ∨ b.pure = true then (ev b env).bind fun (y, env) => (dIdx x y.2).bind fun w => .ok (w, env) else .stuck
  | .slc a lo hi, env => (ev a env).bind fun (x, env) => if x.1 = 0 ∨ (lo.pure && hi.pure) = true then (prtOf lo (ev lo) env).bind fun (l, env) => (prtOf hi (ev hi) env).bind fun (h, env) => (dSlc x l h).bind fun d => .ok ((0, d), env) else .stuck
  | .app f es, env => (evs es env).bind fun (ars, env) => (callD f ars env).bind fun (d, env) => .ok ((0, d), env)
  | .blt b es, env => (evs es env).bind fun (ars, env) => (ofO (weaks ars)).bind fun ws => (dBlt b ws).bind fun d => .ok ((0, d), env)
  | .fld c f a, env => (ev a env).bind fun (x, env) => (fieldOf c f x).bind fun w => .ok (w, env)
  | .prp c f a, env => (ev a env).bind fun (x, env) => if isObj c x.2 = true ∧ x.1 = 0 then (match callD f [.d x.1 x.2] env with | .ok (d, env) => .ok ((0, d), env) | _ => .stuck) else .stuck
  | .mth c f o es, env => (ev o env).bind fun (x, env) => if (isObj c x.2 = true ∧ x.1 = 0) ∧ notFl f.name x.2 = true then (evs es env).bind fun (ars, env) => (callD f (.d x.1 x.2 :: ars) env).bind fun (d, env) => .ok ((0, d), env) else .stuck
  | .lno c f a, env => (ev a env).bind fun (x, env) => if isObj c x.2 = true ∧ x.1 = 0 then (callD f [.d x.1 x.2] env).bind fun (d, env) => (asI d).bind fun n => if 0 ≤ n ∧ n < 2 ^ 63 then .ok ((0, .int n), env) else .stuck else .stuck
  | .addo c f a b, env => (ev a env).bind fun (x, env) => if isObj c x.2 = true ∧ x.1 = 0 then (ev b env).bind fun (y, env) => if isObj c y.2 = true ∧ y.1 = 0 then (callD f [.d x.1 x.2, .d y.1 y.2] env).bind fun (d, env) => .ok ((0, d), env) else .stuck else .stuck
  | .eqo c f a b, env => (ev a env).bind fun (x, env) => if isObj c x.2 = true ∧ x.1 = 0 then (ev b env).bind fun (y, env) => if (isiD c y.2).isSome = true ∧ y.1 = 0 then (callD f [.d x.1 x.2, .d y.1 y.2] env).bind fun (d, env) => (asB d).bind fun k => .ok ((0, .bl k), env) else .stuck else .stuck
  | .mk c f es, env => (evs es env).bind fun (ars, env) => mkD c f es.noW ars env
  | .isi c nm a, env => (ev a env).bind fun (x, env) => (ofO (isiD c x.2)).bind fun k => .ok ((0, .bl k), env)
  | .lrg a b, env => (ev a env).bind fun (x, env) => (asI x.2).bind fun i => (ev b env).bind fun (y, env) => (asI y.2).bind fun j => if (-(2 ^ 62) ≤ i ∧ i < 2 ^ 62) ∧ (-(2 ^ 62) ≤ j ∧ j < 2 ^ 62) ∧ (j - i).toNat ≤ lim then .ok ((0, .lst (rangeL i (j - i).toNat)), env) else .stuck
  | .apps f a, env => (ev a env).bind fun (x, env) => (ofO (seqArs x)).bind fun ars => (callD f ars env).bind fun (d, env) => .ok ((0, d), env)
  | .dget _ kvs a, env => (ev a env).bind fun (x, env) => (ofO (dgetD kvs x.2)).bind fun d => .ok ((0, d), env)
  | .glc _ d, env => .ok ((0, d), env)
  | .star a, env => ev a env
  | .appk f ks pm es, env => (evs es env).bind fun (ars, env) => (ofO (kwO ks pm ars)).bind fun ars => (callD f ars env).bind fun (d, env) => .ok ((0, d), env)
  | .mthk c f ks pm o es, env => (ev o env).bind fun (x, env) => if (isObj c x.2 = true ∧ x.1 = 0) ∧ notFl f.name x.2 = true then (evs es env).bind fun (ars, env) => (ofO (kwO ks pm ars)).bind fun ars => (callD f (.d x.1 x.2 :: ars) env).bind fun (d, env) => .ok ((0, d), env) else .stuck
  | .mkk c f ks pm es, env => (evs es env).bind fun (ars, env) => (ofO (kwO ks pm ars)).bind fun ars => (ofO (strong ars)).bind fun ds => if f.ms = 1 :: List.replicate ds.length 0 ∧ f.rk = 0 then (f.den (.nd (.obj c []) [] :: ds)).bind fun (r, outs) => match r, outs with
    | .non, [o] => .ok ((0, o), env)
    | _, _ => .stuck
    else .stuck
  | .ssc tg it t e, env => (evi it env).bind fun (xs, env) => if freeSl env tg = true ∧ xs.length < 64 then match compL tg (tstOf t (ev t)) (eltOf (ev e)) xs (blank env tg) with
    | .ok (ds, env') => (match intsOf ds with
      | some is => .ok ((0, .lst ((sortI (dd is)).map .int)), back env tg env')
      | none => .stuck)
    | _ => .stuck
    else .stuck
  | .sst e, env => (ev e env).bind fun (x, env) => match (lstOf x.2).bind intsOf with
    | some is => if is.length ≤ 4000 then .ok ((0, .lst ((sortI (dd is)).map .int)), env) else .stuck
    | none => .stuck
  | .froz is e, env => match frzE env is with
    | some env1 => if e.pure = true then fzO env (ev e env1) else .stuck
    | none => .stuck
  | .comp tg it t e, env => (evi it env).bind fun (xs, env) => if freeSl env tg = true ∧ xs.length ≤ lim then match compL tg (tstOf t (ev t)) (eltOf (ev e)) xs (blank env tg) with
      | .ok (ds, env') => .ok ((0, .lst ds), back env tg env')
      | _ => .stuck
    else .stuck
  | _, _ => .stuck
def evs : E → Env → Res (List Ar × Env)
  | .nil, env => .ok ([], env)
  | .cons (.ioa i) es, env => if held env i = true then (evs es env).bind fun (r, env) => .ok (.io i :: r, env) else .stuck
  | .cons (.wka i) es, env => if held env i = true then (evs es env).bind fun (r, env) => .ok (.wk i :: r, env) else .stuck
  | .cons (.star a) es, env => (ev a env).bind fun (x, env) => (ofO (seqArs x)).bind fun ars => (evs es env).bind fun (r, env) => .ok (ars ++ r, env)
  | .cons a es, env => (ev a env).bind fun (x, env) => if x.1 = 0 ∨ es.pure = true then (evs es env).bind fun (r, env) => .ok (.d x.1 x.2 :: r, env) else .stuck
  | _, _ => .stuck
def evi : E → Env → Res (List D × Env)
  | .ilst e, env => (ev e env).bind fun (x, env) => match x with | (0, .nd .lst ds) => .ok (ds, env) | _ => .stuck
  | .iscr e, env => (ev e env).bind fun (x, env) => match x with | (0, .nd .scr ds) => .ok (ds, env) | _ => .stuck
  | .itup e, env => (ev e env).bind fun (x, env) => match x with | (0, .nd .tup ds) => .ok (ds, env) | _ => .stuck
  | .irg1 a, env => (ev a env).bind fun (x, env) => (asI x.2).bind fun j => if -(2 ^ 62) ≤ j ∧ j < 2 ^ 62 then .ok (rangeL 0 j.toNat, env) else .stuck
  | .irg2 a b, env => (ev a env).bind fun (x, env) => (asI x.2).bind fun i => (ev b env).bind fun (y, env) => (asI y.2).bind fun j => .ok (rangeL i (j - i).toNat, env)
  | .irg3 a b c, env => (ev a env).bind fun (x, env) => (asI x.2).bind fun i => (ev b env).bind fun (y, env) => (asI y.2).bind fun j => (ev c env).bind fun (z, env) => (asI z.2).bind fun k => rng3 i j k env
  | .ienum e, env => (ev e env).bind fun (x, env) => match x with | (0, .nd .lst ds) => .ok (enumL 0 ds, env) | _ => .stuck
  | .ienumT e, env => (ev e env).bind fun (x, env) => match x with | (0, .nd .tup ds) => .ok (enumL 0 ds, env) | _ => .stuck
  | .izip a b, env => (ev a env).bind fun (x, env) => (ev b env).bind fun (y, env) => match x, y with | (0, .nd .lst xs), (0, .nd .lst ys) => .ok (zipL xs ys, env) | _, _ => .stuck
  | _, _ => .stuck
end
end DL

namespace DL
open PySem L2
/-! ### statements -/
inductive Out where
  | nx (env : Env) | ret (d : D) (env : Env) | brk (env : Env) | cnt (env : Env)
def seqR (r : Res Out) (f : Env → Res Out) : Res Out := r.bind fun o => match o with
  | .nx env => f env
  | o => .ok o
def forL (tg : List Nat) (b : Env → Res Out) : List D → Env → Res Out
  | [], env => .ok (.nx env)
  | x :: xs, env => (setIs env tg x).bind fun env => (b env).bind fun o => match o with
    | .nx env => forL tg b xs env
    | .cnt env => forL tg b xs env
    | .brk env => .ok (.nx env)
    | .ret d env => .ok (.ret d env)
/-- a while loop, so many turns at most -/
def whlF (t : Env → Res (Wk × Env)) (b : Env → Res Out) : Nat → Env → Res Out
  | 0, _ => .stuck
  | n + 1, env => (t env).bind fun (x, env) => (asB x.2).bind fun k => if k then (b env).bind fun o => match o with
    | .nx env => whlF t b n env
    | .cnt env => whlF t b n env
    | .brk env => .ok (.nx env)
    | .ret d env => .ok (.ret d env)
    else .ok (.nx env)
open Classical in
noncomputable def whl (t : Env → Res (Wk × Env)) (b : Env → Res Out) (env : Env) : Res Out :=
  if h : ∃ n, whlF t b n env ≠ .stuck then whlF t b h.choose env else .stuck
theorem whlF_mono {t : Env → Res (Wk × Env)} {b : Env → Res Out} : ∀ {n : Nat} {env : Env} {m : Nat}, whlF t b n env ≠ .stuck → n ≤ m → whlF t b m env = whlF t b n env
  | 0, _, _, h, _ => absurd rfl h
  | n + 1, env, 0, _, l => absurd l (by omega)
  | n + 1, env, m + 1, h, l => by
    unfold whlF at h ⊢
    cases e1 : t env with
    | exn c d => rfl
    | stuck => rfl
    | ok p =>
      obtain ⟨x, env1⟩ := p
      simp only [e1, Res.bind_ok] at h ⊢
      cases e2 : asB x.2 with
      | exn c d => rfl
      | stuck => rfl
      | ok k =>
        simp only [e2, Res.bind_ok] at h ⊢
        cases k with
        | false => rfl
        | true =>
          simp only [if_true] at h ⊢
          cases q : b env1 with
          | exn c d => rfl
          | stuck => rfl
          | ok o =>
            simp only [q, Res.bind_ok] at h ⊢
            cases o with
            | nx env => exact whlF_mono h (by omega)
            | cnt env => exact whlF_mono h (by omega)
            | brk env => rfl
            | ret d env => rfl
theorem whl_eq {t : Env → Res (Wk × Env)} {b : Env → Res Out} {env : Env} {n : Nat} {r : Res Out} (h : whlF t b n env = r) (hr : r ≠ .stuck) : whl t b env = r := by
  have hn : whlF t b n env ≠ .stuck := by rw [h]; exact hr
  have ex : ∃ n, whlF t b n env ≠ .stuck := ⟨n, hn⟩
  unfold whl
  rw [dif_pos ex, ← h]
  rcases Nat.le_total n ex.choose with l | l
  · exact whlF_mono hn l
  · exact (whlF_mono ex.choose_spec l).symm
/-- the thing at the end of a path into what a slot owns: found[i] -/
def pathIx (d : D) (k : Nat) : Option Int → Option (Nat × List D × Nat)
  | none => none
  | some i => match d with
    | .nd .lst ds => match ixN ds.length i with
      | some j => some (k, ds, j)
      | none => none
    | _ => none
/-- x.append(e) for the slot i, or x[j].append(e): more is what comes behind -/
def growAt (env : Env) (i : Nat) (ix : Option Int) (more : List D) : Res Env := match env[i]? with
  | some (.own (k + 1) d) => (grow (k + 1) d).bind fun d' => .ok (env.set i (.own (k + 1) d'))
  | some (.io (k + 1) d) => (grow (k + 1) d).bind fun d' => .ok (env.set i (.io (k + 1) d'))
  | _ => .stuck
where
  grow (k : Nat) (d : D) : Res D := match ix, k, d with
    | none, 1, .nd .lst ds => if ds.length + more.length ≤ lim then .ok (.lst (ds ++ more)) else .stuck
    | some i, 2, .nd .lst ds => match ixN ds.length i with
      | some j => match ds[j]? with
        | some (.nd .lst es) => if es.length + more.length ≤ lim then .ok (.lst (ds.set j (.lst (es ++ more)))) else .stuck
        | _ => .stuck
      | none => .stuck
    | _, _, _ => .stuck
def okKs (ks : List Str) : Bool := decide ks.Nodup && decide (ks.length ≤ 15)
/-- a dict in its slot, with other entries -/
def dicSet (env : Env) (i : Nat) (ks : List Str) (r : Option (List D)) (k : Nat) (b : Bool) : Res Env := if okKs ks = true then (match r with
  | some ds => .ok (env.set i (if b = true then .own (k + 1) (.nd (.dic ks) ds) else .io (k + 1) (.nd (.dic ks) ds)))
  | none => .stuck) else .stuck
def putAt (env : Env) (i : Nat) (s : Str) (x : D) : Res Env := if flat x = true then (match env[i]? with
  | some (.own (k + 1) (.nd (.dic ks) ds)) => dicSet env i ks (dicPut ks ds s x) k true
  | some (.io (k + 1) (.nd (.dic ks) ds)) => dicSet env i ks (dicPut ks ds s x) k false
  | _ => .stuck) else .stuck
def popAt (env : Env) (i : Nat) (s s2 : Str) : Res Env := match env[i]? with
  | some (.own 2 (.nd (.dic ks) ds)) => dicSet env i ks (popD ks ds s s2) 1 true
  | some (.io 2 (.nd (.dic ks) ds)) => dicSet env i ks (popD ks ds s s2) 1 false
  | _ => .stuck
def dicGet (env : Env) (i : Nat) (s : Str) : Option D := match env[i]? with
  | some (.own _ (.nd (.dic ks) ds)) => dicAt ks ds s
  | some (.io _ (.nd (.dic ks) ds)) => dicAt ks ds s
  | _ => none
def isL (env : Env) (i : Nat) : Bool := match env[i]? with
  | some (.own _ (.nd .lst _)) => true
  | some (.io _ (.nd .lst _)) => true
  | _ => false
def ownL : E → Bool
  | .lst _ => true
  | .comp _ _ _ _ => true
  | .ssc _ _ _ _ => true
  | .sst _ => true
  | .lrg _ _ => true
  | .blt .list _ => true
  | .blt .sorted _ => true
  | .bin .add _ _ => true
  | .slc _ _ _ => true
  | .app f _ => f.rk == 1
  | .prp _ f _ => f.rk == 1
  | _ => false
def plainA : E → Bool
  | .ioa _ => false
  | .wka _ => false
  | .star _ => false
  | _ => true
/-- which values of a row are new lists of one's own -/
def okOs : List Bool → E → Bool
  | [], .nil => true
  | true :: os, .cons a es => ownL a && okOs os es
  | false :: os, .cons a es => plainA a && okOs os es
  | _, _ => false
/-- such a row -/
def evsO : List Bool → E → Env → Res (List D × Env)
  | [], .nil, env => .ok ([], env)
  | true :: os, .cons a es, env => if ownL a = true then (ev a env).bind fun (x, env) => match x with
    | (0, .nd .lst ds) => (evsO os es env).bind fun (r, env) => .ok (D.lst ds :: r, env)
    | _ => .stuck
    else .stuck
  | false :: os, .cons a es, env => if plainA a = true then (ev a env).bind fun (x, env) => (str1 x).bind fun d => (evsO os es env).bind fun (r, env) => .ok (d :: r, env) else .stuck
  | _, _, _ => .stuck
def setOwns (env : Env) : List Nat → List Bool → List D → Res Env
  | [], [], [] => .ok env
  | i :: is, true :: os, .nd .lst ds :: r => (setSl env i (.own 1 (.lst ds))).bind fun env => setOwns env is os r
  | i :: is, false :: os, d :: r => (setSl env i (.val d)).bind fun env => setOwns env is os r
  | _, _, _ => .stuck
def isLst : D → Bool
  | .nd .lst _ => true
  | _ => false
/-- a call that gives a tuple whose lists are one's own -/
def ownT : E → Bool
  | .app f _ => f.rk == 2
  | _ => false
/-- what a def gives away: its own lists, numbers, texts -/
def takeAll : List Ar → Env → Res (List D × Env)
  | [], env => .ok ([], env)
  | .d 0 d :: r, env => if flat d = true then (takeAll r env).bind fun (ds, env) => .ok (d :: ds, env) else .stuck
  | .wk i :: r, env => match env[i]? with
    | some (.own 1 (.nd .lst ds)) => (takeAll r (env.set i .un)).bind fun (es, env) => .ok (.lst ds :: es, env)
    | _ => .stuck
  | _, _ => .stuck
def notIo : Sl → Bool
  | .io _ _ => false
  | _ => true
/-- behind the body of a try -/
def tryR (cls : Nat) (h : Xh) (env : Env) (r : Res Out) : Res Out := if env.all notIo = true then (match r with
  | .exn c d => if 20 ≤ c then (if cls = 20 ∨ cls = c then (match xrun h c d with
      | some r => .ok (.ret r (List.replicate env.length .un))
      | none => .stuck) else .exn c d) else .stuck
  | r => r) else .stuck
noncomputable def ex : S → Env → Res Out
  | .nil, env => .ok (.nx env)
  | .cons s ss, env => seqR (ex s env) (ex ss)
  | .pass, env => .ok (.nx env)
  | .set tg e, env => (ev e env).bind fun (x, env) => (str1 x).bind fun d => (setTg env tg d).bind fun env => .ok (.nx env)
  | .seto k i e, env => if ownL e = true ∧ k = 1 then (ev e env).bind fun (x, env) => (str1 x).bind fun d => match d with
      | .nd .lst ds => (setSl env i (.own 1 (.lst ds))).bind fun env => .ok (.nx env)
      | _ => .stuck
    else .stuck
  | .aug op i e, env => match env[i]? with
    | some (.val x) => (ev e env).bind fun (y, env) => (dBin op (0, x) y).bind fun d => match x with
      | .int _ => (setSl env i (.val d)).bind fun env => .ok (.nx env)
      | _ => .stuck
    | _ => .stuck
  | .par is es, env => (evs es env).bind fun (ars, env) => (ofO (strong ars)).bind fun ds => (setTis env (is.map .sl) ds).bind fun env => .ok (.nx env)
  | .paro is os es, env => (evsO os es env).bind fun (ds, env) => (setOwns env is os ds).bind fun env => .ok (.nx env)
  | .setm is e, env => if ownT e = true then (ev e env).bind fun (x, env) => match x with
    | (0, .nd .tup ds) => if (ds.all fun d => isLst d || flat d) = true then (setOwns env is (ds.map isLst) ds).bind fun env => .ok (.nx env) else .stuck
    | _ => .stuck
    else .stuck
  | .rett es, env => (evs es env).bind fun (ars, env) => (takeAll ars env).bind fun (ds, env) => if ds.length ≤ lim then .ok (.ret (.tup ds) env) else .stuck
  | .ife t a b, env => (ev t env).bind fun (x, env) => (asB x.2).bind fun k => if k then ex a env else ex b env
  | .for_ tg it b, env => (evi it env).bind fun (xs, env) => forL tg (ex b) xs env
  | .whl t b, env => whl (ev t) (ex b) env
  | .ret e, env => (ev e env).bind fun (x, env) => (str1 x).bind fun d => .ok (.ret d env)
  | .reto e, env => if ownL e = true then (ev e env).bind fun (x, env) => (str1 x).bind fun d => match d with
      | .nd .lst ds => .ok (.ret (.lst ds) env)
      | _ => .stuck
    else .stuck
  | .retm i, env => match env[i]? with
    | some (.own 1 (.nd .lst ds)) => .ok (.ret (.lst ds) (env.set i .un))
    | _ => .stuck
  | .retn, env => .ok (.ret .non env)
  | .drop e, env => (ev e env).bind fun (_, env) => .ok (.nx env)
  | .appd o e, env => if ownL o = true then (ev o env).bind fun (x, env) => match x with
    | (0, .nd .lst ds) => if ds.length + 1 ≤ lim then (ev e env).bind fun (y, env) => (str1 y).bind fun _ => .ok (.nx env) else .stuck
    | _ => .stuck
    else .stuck
  | .app i p e, env => if isL env i = true then (prtOf p (ev p) env).bind fun (ix, env) => (ev e env).bind fun (x, env) => (str1 x).bind fun d => (growAt env i ix [d]).bind fun env => .ok (.nx env) else .stuck
  | .ext i p e, env => if isL env i = true then (prtOf p (ev p) env).bind fun (ix, env) => (ev e env).bind fun (x, env) => (str1 x).bind fun d => match d with
    | .nd .lst ds => (growAt env i ix ds).bind fun env => .ok (.nx env)
    | _ => .stuck
    else .stuck
  | .sub i j e, env => if isL env i = true then (ev e env).bind fun (x, env) => (str1 x).bind fun d => (ev j env).bind fun (y, env) => (asI y.2).bind fun ix => (subAt env i ix d).bind fun env => .ok (.nx env) else .stuck
  | .frz i, env => match env[i]? with
    | some (.own _ d) => .ok (.nx (env.set i (.val d)))
    | _ => .stuck
  | .brk, env => .ok (.brk env)
  | .cnt, env => .ok (.cnt env)
  | .never, _ => .stuck
  | .setd i e, env => if ownT e = true then (ev e env).bind fun (x, env) => match x with
    | (0, .nd (.dic ks) ds) => (setSl env i (.own 2 (.nd (.dic ks) ds))).bind fun env => .ok (.nx env)
    | _ => .stuck
    else .stuck
  | .pard i j ks ns, env => if okKs ks = true ∧ ks.length = ns.length then (setSl env i (.own 1 (.nd (.dic ks) (ns.map .int)))).bind fun env => (setSl env j (.own 1 (.lst []))).bind fun env => .ok (.nx env) else .stuck
  | .retd ks es, env => (evs es env).bind fun (ars, env) => (takeAll ars env).bind fun (ds, env) => if okKs ks = true ∧ ks.length = ds.length then .ok (.ret (.nd (.dic ks) ds) env) else .stuck
  | .dset i s e, env => (ev e env).bind fun (x, env) => (str1 x).bind fun d => (putAt env i s d).bind fun env => .ok (.nx env)
  | .daug i s op n, env => match dicGet env i s with
    | some (.int x) => (dBin op (0, .int x) (0, .int n)).bind fun d => (putAt env i s d).bind fun env => .ok (.nx env)
    | _ => .stuck
  | .dpop i s s2, env => (popAt env i s s2).bind fun env => .ok (.nx env)
  | .rse c _ e, env => (ev e env).bind fun (x, env) => (str1 x).bind fun d => .exn c d
  | .tryc b cls _ i h, env => tryR cls h env (ex b env)

/-! ### defs -/
def initS : List Nat → List D → List Sl
  | 0 :: ms, d :: ds => .val d :: initS ms ds
  | (k + 1) :: ms, d :: ds => .io (k + 1) d :: initS ms ds
  | _, _ => []
def outsOf : List Nat → Env → List D
  | 0 :: ms, _ :: env => outsOf ms env
  | (k + 1) :: ms, .io _ d :: env => d :: outsOf ms env
  | _, _ => []
def okOuts : List Nat → Env → Bool
  | [], _ => true
  | 0 :: ms, _ :: env => okOuts ms env
  | (k + 1) :: ms, .io j _ :: env => decide (j = k + 1) && okOuts ms env
  | _, _ => false
def endR (ms : List Nat) : Out → Res (D × List D)
  | .nx env => if okOuts ms env = true then .ok (.non, outsOf ms env) else .stuck
  | .ret d env => if okOuts ms env = true then .ok (d, outsOf ms env) else .stuck
  | _ => .stuck
/-- n: how many names the def has -/
noncomputable def run (ms : List Nat) (n : Nat) (body : S) (ds : List D) : Res (D × List D) :=
  if ds.length = ms.length then (ex body (initS ms ds ++ List.replicate (n - ms.length) .un)).bind (endR ms) else .stuck
example (d : D) (env : Env) : ev (.lit d) env = .ok ((0, d), env) := rfl
example (d : D) (env : Env) : ev (.neg (.lit (.int 4))) env = .ok ((0, .int (-4)), env) := rfl
end DL

-- part DLd
set_option Elab.async false
set_option linter.all false
set_option maxRecDepth 100000
/-! DL, part d: readings by data; operations. -/
namespace DL
open PySem PySem.Spec PyProof.Rows L2

/-- an exception's object -/
def ExR (M : Mo) (F H : Hp) (c : Nat) (d : D) (cls : Value) (dx : Addr) : Prop := ∃ C v, M.cl c = some C ∧ cls = .ref C ∧ H dx = some (.xd [("value", v)]) ∧ Rep M F d v
def XP (M : Mo) (E : XK) (c : Nat) (d : D) (F H : Hp) (P : Addr → Prop) : Prop := ∀ cls dx F' H' P', Step F H P F' H' P' → Same F' H' → ExR M F' H' c d cls dx → E cls (some dx) H'
/-- what the frame is about: the world, the lent slots, what is wanted of an exception -/
structure Fr where
  M : Mo
  io : List (Nat × V)
  E : XK
/-- behind what gives r; p: nothing that is lent was touched -/
def Pst (G : Fr) (p : Bool) (σ : St) (F H : Hp) (fs : Ft) {α : Type} (r : Res (α × Env)) (k : α → Env → Hp → Hp → Ft → Prop) : Prop := match r with
  | .ok (x, env') => ∀ F' H' fs', GS G.M F' H' G.io env' σ fs' → Step F H fs.at F' H' fs'.at → (p = true → Same H H') → k x env' F' H' fs'
  | .exn c d => XP G.M G.E c d F H fs.at
  | .stuck => False
/-- readings -/
def tE (G : Fr) (p : Bool) (r : Env → Res (Wk × Env)) : TE := fun σ H Q => ∃ env F fs, GS G.M F H G.io env σ fs ∧ Pst G p σ F H fs (r env) fun x _ F' H' _ => ∀ v, RW G.M F' H' x.1 x.2 v → Q v H'
def ArR (M : Mo) (F H : Hp) (σ : St) : List Ar → List V → Prop
  | [], vs => vs = []
  | .d k d :: r, vs => ∃ v vs', vs = v :: vs' ∧ RW M F H k d v ∧ ArR M F H σ r vs'
  | .io i :: r, vs => ∃ v vs', vs = v :: vs' ∧ σ[i]? = some (some v) ∧ ArR M F H σ r vs'
  | .wk i :: r, vs => ∃ v vs', vs = v :: vs' ∧ σ[i]? = some (some v) ∧ ArR M F H σ r vs'
def tA (G : Fr) (p : Bool) (r : Env → Res (List Ar × Env)) : TA := fun σ H Q => ∃ env F fs, GS G.M F H G.io env σ fs ∧ Pst G p σ F H fs (r env) fun x _ F' H' _ => ∀ vs, ArR G.M F' H' σ x vs → Q vs H'
def tT (G : Fr) (p : Bool) (r : Env → Res (Bool × Env)) : TT := fun σ H Q => ∃ env F fs, GS G.M F H G.io env σ fs ∧ Pst G p σ F H fs (r env) fun x _ F' H' _ => Q x H'
def tO (G : Fr) (p : Bool) (r : Env → Res (Option Int × Env)) : TO := fun σ H Q => ∃ env F fs, GS G.M F H G.io env σ fs ∧ Pst G p σ F H fs (r env) fun x _ F' H' _ => Q x H'
/-- a new value, as a list that is no one's yet -/
def Nw (M : Mo) (F H : Hp) (z : D) (Q : VK) : Prop := match z with
  | .nd .lst ds => ∀ p vs, H p = none → Fa2 (Rep M F) ds vs → Q (.ref p) (upd H p (.lst vs))
  | z => ∀ v F' H', Same F F' → Same H H' → Same F' H' → (∀ b, F' b ≠ none → F b ≠ none ∨ H b = none) → Rep M F' z v → Q v H'
def tN (G : Fr) (p : Bool) (r : Env → Res (Wk × Env)) : TE := fun σ H Q => ∃ env F fs, GS G.M F H G.io env σ fs ∧ Pst G p σ F H fs (r env) fun x _ F' H' _ => x.1 = 0 → Nw G.M F' H' x.2 Q
/-- the thing of a slot, of so many levels: what is owned at f, apart from the slots -/
def Apart (fs : Ft) (f : List Addr) : Prop := ∀ i b, b ∈ fs i → b ∉ f
def atW (fs : Ft) (f : List Addr) (b : Addr) : Prop := fs.at b ∨ b ∈ f
/-- a new list of one's own -/
def tL (G : Fr) (p : Bool) (r : Env → Res (Wk × Env)) : TE := fun σ H Q => ∃ env F fs, GS G.M F H G.io env σ fs ∧ match r env with
  | .ok (x, env') => ∃ ds, x = (0, D.lst ds) ∧ ∀ F' H' fs' v f, GS G.M F' H' G.io env' σ fs' → Step F H fs.at F' H' (atW fs' f) → (p = true → Same H H') → Own G.M F' H' 1 (.lst ds) v f → f.Nodup → Apart fs' f → (∀ b ∈ f, F' b = none) → Q v H'
  | .exn c d => XP G.M G.E c d F H fs.at
  | .stuck => False

section
variable {G : Fr} {p p1 p2 : Bool} {σ : St} {F H F1 H1 : Hp} {fs fs1 : Ft}
theorem XP.step {M : Mo} {E : XK} {c : Nat} {d : D} {P P1 : Addr → Prop} (h : XP M E c d F H P) (s : Step F H P F1 H1 P1) : XP M E c d F1 H1 P1 := fun cls dx F' H' fp' a b x => h cls dx F' H' fp' (s.trans a) b x
/-- two in a row -/
theorem Pst.bind {α β : Type} {r : Res (α × Env)} {f : α × Env → Res (β × Env)} {k : β → Env → Hp → Hp → Ft → Prop} {k1 : α → Env → Hp → Hp → Ft → Prop} (h : Pst G p σ F H fs (r.bind f) k)
    (hp : p = true → p1 = true ∧ p2 = true)
    (next : ∀ x env1 F1 H1 fs1, r = .ok (x, env1) → GS G.M F1 H1 G.io env1 σ fs1 → Step F H fs.at F1 H1 fs1.at → (p1 = true → Same H H1) → Pst G p2 σ F1 H1 fs1 (f (x, env1)) k → k1 x env1 F1 H1 fs1) : Pst G p1 σ F H fs r k1 := by
  cases r with
  | stuck => exact h
  | exn c d => exact h
  | ok q =>
    obtain ⟨x, env1⟩ := q
    intro F1 H1 fs1 g s t
    refine next x env1 F1 H1 fs1 rfl g s t ?_
    have h : Pst G p σ F H fs (f (x, env1)) k := h
    cases e : f (x, env1) with
    | stuck => rw [e] at h; exact h
    | exn c d => rw [e] at h; exact h.step s
    | ok q =>
      obtain ⟨y, env2⟩ := q
      rw [e] at h
      intro F2 H2 fs2 g2 s2 t2
      exact h F2 H2 fs2 g2 (s.trans s2) fun z => (t (hp z).1).trans (t2 (hp z).2)
theorem Pst.weak {α : Type} {r : Res (α × Env)} {k k1 : α → Env → Hp → Hp → Ft → Prop} (h : Pst G p σ F H fs r k) (hp : p = true → p1 = true)
    (next : ∀ x env1 F1 H1 fs1, r = .ok (x, env1) → GS G.M F1 H1 G.io env1 σ fs1 → Step F H fs.at F1 H1 fs1.at → (p1 = true → Same H H1) → k x env1 F1 H1 fs1 → k1 x env1 F1 H1 fs1) : Pst G p1 σ F H fs r k1 := by
  cases r with
  | stuck => exact h
  | exn c d => exact h
  | ok q =>
    obtain ⟨x, env1⟩ := q
    intro F1 H1 fs1 g s t
    exact next x env1 F1 H1 fs1 rfl g s t (h F1 H1 fs1 g s fun z => t (hp z))
/-- nothing happens any more -/
theorem Pst.done {α : Type} {x : α} {env : Env} {k : α → Env → Hp → Hp → Ft → Prop} (h : Pst G p σ F H fs (.ok (x, env)) k) (g : GS G.M F H G.io env σ fs) : k x env F H fs :=
  h F H fs g Step.refl fun _ => Same.refl H
/-- a state with more that stands still -/
theorem GS.more {env : Env} (g : GS G.M F H G.io env σ fs) (a : Same F F1) (b : Same H H1) (c : Same F1 H1) (n : ∀ x, F1 x ≠ none → F x ≠ none ∨ H x = none) : GS G.M F1 H1 G.io env σ fs ∧ Step F H fs.at F1 H1 fs.at := by
  refine ⟨g.keep a (g.same b) c fun i x hx => ?_, a, fun x o e _ => b x o e, fun x h => (n x h).imp id .inl, fun x h => .inl h⟩
  cases e : F1 x with
  | none => rfl
  | some o =>
    rcases n x (by rw [e]; simp) with z | z
    · exact absurd (g.fn i x hx) z
    · exact absurd z (g.hd hx)
/-- a new thing is made -/
theorem new_same {p' : Addr} (h : H p' = none) {o : HO} : Same H (upd H p' o) := fun b u e => by rw [upd_ne (ne_of_none e h)]; exact e
/-- .. that is the frame's -/
theorem GS.newO {env : Env} (g : GS G.M F H G.io env σ fs) {q : Addr} {o : HO} (h : H q = none) : GS G.M F (upd H q o) G.io env σ fs ∧ Step F H fs.at F (upd H q o) (atW fs [q]) ∧ Apart fs [q] ∧ F q = none := by
  have hF : F q = none := by
    cases e : F q with
    | none => rfl
    | some u => rw [g.fh q u e] at h; cases h
  refine ⟨g.keep (Same.refl F) (g.same (new_same h)) (g.fh.trans (new_same h)) g.fn, ⟨Same.refl F, fun b u e _ => new_same h b u e, fun b hb => .inl hb, fun b hb => ?_⟩, fun i b hb z => ?_, hF⟩
  · rcases hb with hb | hb
    · exact .inl hb
    · rw [List.mem_singleton] at hb; subst hb; exact .inr h
  · rw [List.mem_singleton] at z; subst z; exact g.hd hb h
theorem Nw.scal {M : Mo} {z : D} {Q : VK} {v : V} (h : Nw M F H z Q) (hs : Same F H) (r : Rep M F z v) (n : ∀ ds, z ≠ .nd .lst ds) : Q v H := by
  unfold Nw at h
  split at h
  · exact absurd rfl (n _)
  · exact h v F H (Same.refl F) (Same.refl H) hs (fun b x => .inl x) r
/-- what stands still: by Nw -/
theorem Nw.of {M : Mo} {z : D} {Q : VK} (hs : Same F H) (h : ∀ v F' H', Same F F' → Same H H' → Same F' H' → (∀ b, F' b ≠ none → F b ≠ none ∨ H b = none) → Rep M F' z v → Q v H') : Nw M F H z Q := by
  unfold Nw
  split
  · intro p vs hp hv
    have hF : F p = none := by
      cases e : F p with
      | none => rfl
      | some u => rw [hs p u e] at hp; cases hp
    refine h (.ref p) (upd F p (.lst vs)) (upd H p (.lst vs)) (new_same hF) (new_same hp) (fun b u e => ?_) (fun x hx => ?_) (Rep.nd_iff.mpr ⟨p, vs, rfl, upd_same, hv.mono fun d _ v r => r.mono (new_same hF)⟩)
    · by_cases z : b = p
      · subst z; rw [upd_same] at e ⊢; exact e
      · rw [upd_ne z] at e ⊢; exact hs b u e
    · by_cases z : x = p
      · subst z; exact .inr hp
      · rw [upd_ne z] at hx; exact .inl hx
  · exact h
theorem tE_N {r : Env → Res (Wk × Env)} {Q : VK} (h : tE G p r σ H Q) : tN G p r σ H Q := by
  obtain ⟨env, F, fs, g, q⟩ := h
  refine ⟨env, F, fs, g, ?_⟩
  cases e : r env with
  | stuck => rw [e] at q; exact q
  | exn c d => rw [e] at q; exact q
  | ok y =>
    obtain ⟨x, env'⟩ := y
    rw [e] at q
    intro F' H' fs' g' s t hx
    refine Nw.of g'.fh fun v F2 H2 a b c n rv => ?_
    obtain ⟨g2, s2⟩ := g'.more a b c n
    refine q F2 H2 fs' g2 (s.trans s2) (fun z => (t z).trans b) v ?_
    rw [hx]
    exact rv
theorem own_strong {M : Mo} : ∀ {ds : List D} {vs : List V}, Fa2 (Rep M F) ds vs → Fa3 (Own M F H 0) ds vs []
  | [], _, h => ⟨h, rfl⟩
  | d :: ds, _, h => by
    obtain ⟨v, vs', rfl, a, b⟩ := h
    exact ⟨v, vs', [], [], rfl, rfl, ⟨a, rfl⟩, own_strong b⟩
theorem tL_N {r : Env → Res (Wk × Env)} {Q : VK} (h : tL G p r σ H Q) : tN G p r σ H Q := by
  obtain ⟨env, F, fs, g, q⟩ := h
  refine ⟨env, F, fs, g, ?_⟩
  cases e : r env with
  | stuck => rw [e] at q; exact q
  | exn c d => rw [e] at q; exact q
  | ok y =>
    obtain ⟨x, env'⟩ := y
    rw [e] at q
    obtain ⟨ds, rfl, q⟩ := q
    intro F' H' fs' g' s t _ l vs hl hv
    obtain ⟨g2, s2, ap, hF⟩ := g'.newO (o := .lst vs) hl
    exact q F' (upd H' l (.lst vs)) fs' (.ref l) [l] g2 (s.trans s2) (fun z => (t z).trans (new_same hl)) ⟨l, vs, [], [], rfl, ⟨upd_same, rfl⟩, own_strong hv, rfl⟩ (by simp) ap (by simpa using hF)
end

/-! ### operations on values -/
section
variable {X : Cx} {M : Mo} {F H : Hp}
theorem Rep.int {i : Int} : Rep M F (.int i) (.int i) := by simp [Rep]
theorem Rep.str {i : Str} : Rep M F (.str i) (.str i) := by simp [Rep]
theorem Rep.bl {i : Bool} : Rep M F (.bl i) (.bl i) := by simp [Rep]
theorem Rep.non : Rep M F .non .non := by simp [Rep]
theorem Nw.int {i : Int} {Q : VK} (h : Nw M F H (.int i) Q) (hs : Same F H) : Q (.int i) H := h.scal hs Rep.int (by simp)
theorem Nw.str {i : Str} {Q : VK} (h : Nw M F H (.str i) Q) (hs : Same F H) : Q (.str i) H := h.scal hs Rep.str (by simp)
theorem Nw.bl {i : Bool} {Q : VK} (h : Nw M F H (.bl i) Q) (hs : Same F H) : Q (.bl i) H := h.scal hs Rep.bl (by simp)
theorem lim_ok {n : Nat} (h : n ≤ lim) : n ≤ sizeLine := Nat.le_trans h (by decide)
theorem lim_lt {n : Nat} (h : n ≤ lim) : n < sizeLine := Nat.lt_of_le_of_lt h (by decide)
theorem fa_pred {k : Nat} (hk : k ≤ 1) {ds : List D} {vs : List V} (h : Fa2 (RW M F H (k - 1)) ds vs) : Fa2 (Rep M F) ds vs := by
  have e : k - 1 = 0 := by omega
  rw [e] at h
  exact h
/-- a op b, by data -/
def rBin (M : Mo) (op : Bop) : R2 := fun x y H Q => ∃ F j d k e z, Same F H ∧ RW M F H j d x ∧ RW M F H k e y ∧ dBin op (j, d) (k, e) = .ok z ∧ Nw M F H z Q
def Bop.py : Bop → Operator
  | .add => .Add | .sub => .Sub | .mul => .Mult | .fdiv => .FloorDiv | .mod => .Mod | .pow => .Pow
/-- a new tuple -/
theorem Nw.tup {M : Mo} {ds : List D} {Q : VK} (h : Nw M F H (.tup ds) Q) (hs : Same F H) {p : Addr} {vs : List V} (hp : H p = none) (hv : Fa2 (Rep M F) ds vs) : Q (.ref p) (upd H p (.tup vs)) := by
  have hF : F p = none := by
    cases e : F p with
    | none => rfl
    | some u => rw [hs p u e] at hp; cases hp
  refine h (.ref p) (upd F p (.tup vs)) (upd H p (.tup vs)) (new_same hF) (new_same hp) (fun b u e => ?_) (fun x hx => ?_) (Rep.nd_iff.mpr ⟨p, vs, rfl, upd_same, hv.mono fun d _ v r => r.mono (new_same hF)⟩)
  · by_cases z : b = p
    · subst z; rw [upd_same] at e ⊢; exact e
    · rw [upd_ne z] at e ⊢; exact hs b u e
  · by_cases z : x = p
    · subst z; exact .inr hp
    · rw [upd_ne z] at hx; exact .inl hx
theorem Fa2.nil {P : D → V → Prop} {vs : List V} (h : Fa2 P [] vs) : vs = [] := h
theorem Fa2.vnil {P : D → V → Prop} {ds : List D} (h : Fa2 P ds []) : ds = [] := by
  cases ds with
  | nil => rfl
  | cons d ds => obtain ⟨v, vs', e, _⟩ := h; cases e
theorem Fa2.flatten {P : D → V → Prop} {ds : List D} {vs : List V} (h : Fa2 P ds vs) : ∀ n : Nat, Fa2 P (List.replicate n ds).flatten (List.replicate n vs).flatten
  | 0 => rfl
  | n + 1 => by
    simp only [List.replicate_succ, List.flatten_cons]
    exact h.append (h.flatten n)
theorem ite_ok {α : Type} {c : Prop} [Decidable c] {a b : α} (h : (if c then Res.ok a else Res.stuck) = Res.ok b) : c ∧ a = b := by
  by_cases z : c
  · rw [if_pos z] at h; cases h; exact ⟨z, rfl⟩
  · rw [if_neg z] at h; cases h
theorem op_fdivG : OpR X (binaryOp .FloorDiv) (rI (fun _ j => DivOk j = true) fun i j => .int (i.fdiv j)) := opI fun i j t u tk Q E hc q => by
  have h := Bool.and_eq_true_iff.mp hc
  exact floordiv_int (of_decide_eq_true h.1) q (.inl (PyProof.noPylong_of_log2 (of_decide_eq_true h.2)))
theorem op_mulG : OpR X (binaryOp .Mult) (rI (fun i j => MulOk i j = true) fun i j => .int (i * j)) := opI fun i j t u tk Q E hc q => by
  unfold MulOk at hc
  simp only [Bool.or_eq_true, decide_eq_true_eq] at hc
  refine mul_int q ?_
  rcases hc with (hc | hc) | hc
  · exact CMul.ok (.inl (by omega))
  · exact CMul.ok (.inr (by omega))
  · exact CMulW.ok hc
theorem op_powG : OpR X (binaryOp .Pow) (rI (fun i j => PowOk i j = true) fun i j => .int (i ^ j.toNat)) := opI fun i j t u tk Q E hc q => by
  have h := Bool.and_eq_true_iff.mp hc
  have h1 := of_decide_eq_true h.1
  have h2 := of_decide_eq_true h.2
  refine pow_int h1 (Int.le_trans (Int.mul_le_mul_of_nonneg_right ?_ h1) h2) q
  unfold Builtin.Int.intBits
  split <;> omega
theorem op_bin (hK : X.K = M.K) (op : Bop) : OpR X (binaryOp op.py) (rBin M op) := by
  intro pins s σ H x y v u Q I rx ry h
  obtain ⟨F, j, d, k, e, z, hs, hx, hy, he, q⟩ := h
  cases op with
  | add =>
    cases d <;> cases e <;> try (simp [dBin] at he; done)
    · have he := Res.ok.inj he; subst he
      rw [hx.int] at rx; rw [hy.int] at ry
      exact op_add pins s σ H _ _ v u Q I rx ry ⟨_, _, rfl, rfl, q.int hs⟩
    · obtain ⟨hl, he⟩ := ite_ok he; subst he
      rw [hx.str] at rx; rw [hy.str] at ry
      exact op_add_str pins s σ H _ _ v u Q I rx ry ⟨_, _, rfl, rfl, lim_ok hl, q.str hs⟩
    · rename_i k1 xs k2 ys
      cases k1 <;> cases k2 <;> try (simp [dBin] at he; done)
      · obtain ⟨⟨h1, h2, h3⟩, he⟩ := ite_ok he; subst he
        obtain ⟨a, vs, rfl, r1, f1⟩ := hx.node hs
        obtain ⟨b, ws, rfl, r2, f2⟩ := hy.node hs
        refine op_cat pins s σ H _ _ v u Q I rx ry ⟨a, b, vs, ws, rfl, rfl, r1, r2, ?_, fun p hp => ?_⟩
        · rw [f1.length, f2.length]; exact lim_ok h3
        · exact q p (vs ++ ws) hp ((fa_pred h1 f1).append (fa_pred h2 f2))
      · cases j <;> cases k <;> try (simp [dBin] at he; done)
        obtain ⟨h3, he⟩ := ite_ok he; subst he
        obtain ⟨a, vs, rfl, r1, f1⟩ := hx.node hs
        obtain ⟨b, ws, rfl, r2, f2⟩ := hy.node hs
        refine op_catA pins s σ H _ _ v u Q I rx ry ⟨a, b, vs, ws, rfl, rfl, SqT.of r1, SqT.of r2, ?_, fun e => ?_, fun _ e => ?_, fun _ _ p hp => ?_⟩
        · rw [f1.length, f2.length]; exact lim_ok h3
        · subst e
          rw [f1.vnil] at q
          exact q.scal hs hy (by simp)
        · subst e
          rw [f2.vnil, List.append_nil] at q
          exact q.scal hs hx (by simp)
        · exact q.tup hs hp (f1.append f2)
  | sub =>
    cases d <;> cases e <;> try (simp [dBin] at he; done)
    have he := Res.ok.inj he; subst he
    rw [hx.int] at rx; rw [hy.int] at ry
    exact op_sub pins s σ H _ _ v u Q I rx ry ⟨_, _, rfl, rfl, q.int hs⟩
  | mul =>
    cases d <;> cases e <;> try (simp [dBin] at he; done)
    · obtain ⟨hl, he⟩ := ite_ok he; subst he
      rw [hx.int] at rx; rw [hy.int] at ry
      exact op_mulG pins s σ H _ _ v u Q I rx ry ⟨_, _, rfl, rfl, hl, q.int hs⟩
    · rename_i k1 xs n
      cases k1 <;> try (simp [dBin] at he; done)
      obtain ⟨⟨h1, h2, h3, h4⟩, he⟩ := ite_ok he; subst he
      obtain ⟨a, vs, rfl, r1, f1⟩ := hx.node hs
      rw [hy.int] at ry
      refine op_rep pins s σ H _ _ v u Q I rx ry ⟨a, _, vs, rfl, rfl, r1, by omega, by omega, ?_, fun p hp => ?_⟩
      · rw [f1.length]; exact lim_ok h4
      · exact q p _ hp ((fa_pred h1 f1).flatten _)
  | fdiv =>
    cases d <;> cases e <;> try (simp [dBin] at he; done)
    obtain ⟨hl, he⟩ := ite_ok he; subst he
    rw [hx.int] at rx; rw [hy.int] at ry
    exact op_fdivG pins s σ H _ _ v u Q I rx ry ⟨_, _, rfl, rfl, hl, q.int hs⟩
  | mod =>
    cases d <;> cases e <;> try (simp [dBin] at he; done)
    obtain ⟨hl, he⟩ := ite_ok he; subst he
    rw [hx.int] at rx; rw [hy.int] at ry
    exact op_modN pins s σ H _ _ v u Q I rx ry ⟨_, _, rfl, rfl, hl, q.int hs⟩
  | pow =>
    cases d <;> cases e <;> try (simp [dBin] at he; done)
    obtain ⟨hl, he⟩ := ite_ok he; subst he
    rw [hx.int] at rx; rw [hy.int] at ry
    exact op_powG pins s σ H _ _ v u Q I rx ry ⟨_, _, rfl, rfl, hl, q.int hs⟩
/-! ### comparisons -/
def rCmp (M : Mo) (op : Cop) : R2 := fun x y H Q => ∃ F j d k e b, Same F H ∧ RW M F H j d x ∧ RW M F H k e y ∧ dCmp op (j, d) (k, e) = .ok b ∧ Q (.bl b) H
def Cop.py : Cop → CmpOp
  | .eq => .Eq | .ne => .NotEq | .lt => .Lt | .le => .LtE | .gt => .Gt | .ge => .GtE | .inn => .In | .nin => .NotIn | .isn => .Is | .nisn => .IsNot
mutual
theorem RW.dp (hs : Same F H) : ∀ (d : D) (k : Nat) (v : V), RW M F H k d v → plain d = true → Dp M.K H v (toPy d)
  | .non, k, v, h, _ => by rw [h.non]; exact .non
  | .bl b, k, v, h, _ => by rw [h.bl]; exact .bl b
  | .int b, k, v, h, _ => by rw [h.int]; exact .int b
  | .str b, k, v, h, _ => by rw [h.str]; exact .str b
  | .nd .lst ds, k, v, h, p => by
    obtain ⟨a, vs, rfl, r, f⟩ := h.node hs
    exact .lst (SqL.of r) (RW.dps hs ds (k - 1) vs f (by simpa [plain] using p))
  | .nd .tup ds, k, v, h, p => by
    obtain ⟨a, vs, rfl, r, f⟩ := h.node hs
    exact .tup (SqT.of r) (RW.dps hs ds (k - 1) vs f (by simpa [plain] using p))
  | .nd .scr ds, k, v, h, p => by
    obtain ⟨a, vs, rfl, r, f⟩ := h.node hs
    exact .lst r (RW.dps hs ds (k - 1) vs f (by simpa [plain] using p))
  | .nd (.obj _ _) ds, k, v, h, p => by simp [plain] at p
  | .nd (.dic _) ds, k, v, h, p => by simp [plain] at p
theorem RW.dps (hs : Same F H) : ∀ (ds : List D) (k : Nat) (vs : List V), Fa2 (RW M F H k) ds vs → plains ds = true → DpAll M.K H vs (toPys ds)
  | [], k, vs, h, _ => by rw [show vs = [] from h]; exact .nil
  | d :: ds, k, vs, h, p => by
    obtain ⟨v, vs', rfl, a, b⟩ := h
    have p := Bool.and_eq_true_iff.mp (show (plain d && plains ds) = true from p)
    exact .cons (RW.dp hs d k v a p.1) (RW.dps hs ds k vs' b p.2)
end
theorem dEq_ok {d e : D} {b : Bool} (h : dEq d e = .ok b) : (plain d = true ∧ plain e = true ∧ SeqAt.shaped (toPy d) = true ∧ SeqAt.shaped (toPy e) = true ∧ b = PyData.eqv (toPy d) (toPy e)) ∨ ∃ ds, d = .lst ds ∧ e = .lst [] ∧ b = ds.isEmpty := by
  unfold dEq at h
  split at h
  · rename_i h1
    simp only [okPy, Bool.and_eq_true] at h1
    exact .inl ⟨h1.1.1, h1.2.1, h1.1.2, h1.2.2, (Res.ok.inj h).symm⟩
  · unfold dEqN at h
    split at h
    · exact .inr ⟨_, rfl, rfl, (Res.ok.inj h).symm⟩
    · cases h
/-- a list of whatever, against an empty one -/
theorem cmp_nil (hu : X.A.units + 64 < cLine) (neg : Bool) (hs : Same F H) {pins : List (Addr × Obj)} {s : Shared} {σ : L2.St} {Q : VK} {x y : V} {v u : Value} {ds : List D} {j k : Nat} (I : Inv X pins σ H s) (rx : RelV x v) (ry : RelV y u)
    (hx : RW M F H j (.lst ds) x) (hy : RW M F H k (.lst []) y) (q : Q (.bl (if neg then !ds.isEmpty else ds.isEmpty)) H) :
    wpAny (model X.prog X.w) X.A (compareOp (if neg then .NotEq else .Eq) v u) (EP X pins σ Q) X.xe s := by
  obtain ⟨a, vs, rfl, r1, f1⟩ := hx.node hs
  obtain ⟨b, ws, rfl, r2, f2⟩ := hy.node hs
  cases rx
  cases ry
  obtain ⟨its, rv, ⟨o, n, ho, hc, _, hd⟩, _⟩ := I.list (SqL.of r1)
  obtain ⟨its2, rv2, ⟨o2, n2, ho2, hc2, _, hd2⟩, _⟩ := I.list (SqL.of r2)
  have l1 : its.length = ds.length := by rw [← f1.length, rv.length]
  have l2 : its2.length = 0 := by rw [← Vals.length rv2, f2.length]; rfl
  have hl : s.heap.IsList a its.toArray := ⟨_, ho, hc, _, hd⟩
  have hl2 : s.heap.IsList b its2.toArray := ⟨_, ho2, hc2, _, hd2⟩
  have hu' : X.A.units < cLine := by omega
  cases ds with
  | nil =>
    have e1 : its.toArray.size = its2.toArray.size := by simp at l1; simp [l1, l2]
    have e0 : its.toArray.size = 0 := by simpa using l1
    have hN : ∀ jj (h1 : jj < its.toArray.size) (h2 : jj < its2.toArray.size), SeqAt.EqAt X.A.in1 s its.toArray[jj] its2.toArray[jj] ((fun _ => true) jj) := fun jj h1 => absurd h1 (by omega)
    cases neg with
    | false =>
      refine SeqAt.RcAt.lists hl hl2 e1 hu' hN _ _ _ _ ⟨.bl _, H, I, rfl, ?_⟩
      rw [e0]
      exact q
    | true =>
      refine SeqAt.RcNeAt.lists hl hl2 e1 hu' hN _ _ _ _ ⟨.bl _, H, I, rfl, ?_⟩
      rw [e0]
      exact q
  | cons d ds =>
    have e1 : (its.toArray.size != its2.toArray.size) = true := by simp at l1; simp [l1, l2]
    cases neg with
    | false => exact SeqAt.RcAt.lists_lengths hl hl2 e1 hu' _ _ _ _ ⟨.bl _, H, I, rfl, q⟩
    | true => exact SeqAt.RcNeAt.lists_lengths hl hl2 e1 hu' _ _ _ _ ⟨.bl _, H, I, rfl, q⟩
theorem flat_V {k : Nat} {d : D} {v : V} (h : RW M F H k d v) (f : flat d = true) : flatV v = true := by
  cases d with
  | non => rw [h.non]; rfl
  | bl b => rw [h.bl]; rfl
  | int b => rw [h.int]; rfl
  | str b => rw [h.str]; rfl
  | nd k ds => simp [flat] at f
theorem eqv_V {j k : Nat} {d e : D} {v w : V} (h : RW M F H j d v) (h2 : RW M F H k e w) (f : flat d = true) (f2 : flat e = true) : eqV v w = PyData.eqv (toPy d) (toPy e) := by
  cases d <;> cases e <;> (try (simp [flat] at f f2; done)) <;> (first | rw [h.non] | rw [h.bl] | rw [h.int] | rw [h.str]) <;> (first | rw [h2.non] | rw [h2.bl] | rw [h2.int] | rw [h2.str]) <;> simp [eqV, toPy, PyData.eqv]
theorem in_V {j k : Nat} {d : D} {v : V} (h : RW M F H j d v) (f : flat d = true) : ∀ {ds : List D} {vs : List V}, Fa2 (RW M F H k) ds vs → ds.all flat = true → vs.all flatV = true ∧ inV v vs = anyEq d ds
  | [], vs, hv, _ => by rw [show vs = [] from hv]; exact ⟨rfl, rfl⟩
  | e :: ds, vs, hv, fa => by
    obtain ⟨w, vs', rfl, a, b⟩ := hv
    have fa := Bool.and_eq_true_iff.mp (show (flat e && ds.all flat) = true from fa)
    obtain ⟨i1, i2⟩ := in_V h f b fa.2
    refine ⟨by rw [List.all_cons, flat_V a fa.1, i1]; rfl, ?_⟩
    unfold inV anyEq at i2 ⊢
    rw [List.any_cons, List.any_cons, i2, eqv_V a h fa.1 f]
theorem dIn_ok (hK : X.K = M.K) (neg : Bool) {pins : List (Addr × Obj)} {s : Shared} {σ : L2.St} {x y : V} {v u : Value} {Q : VK} {k : Nat} {d e : D} {b : Bool} (hs : Same F H) (I : Inv X pins σ H s) (rx : RelV x v) (ry : RelV y u) (hx : RW M F H 0 d x) (hy : RW M F H k e y)
    (h : dIn d (k, e) = .ok b) (q : Q (.bl (if neg then !b else b)) H) : wpAny (model X.prog X.w) X.A (compareOp (if neg then .NotIn else .In) v u) (EP X pins σ Q) X.xe s := by
  have seq : ∀ (a : Addr) (ds : List D) (vs : List V), y = .ref a → (SqL X.K H a vs ∨ SqT X.K H a vs) → Fa2 (RW M F H (k - 1)) ds vs → flat d = true → ds.all flat = true → b = anyEq d ds → wpAny (model X.prog X.w) X.A (compareOp (if neg then .NotIn else .In) v u) (EP X pins σ Q) X.xe s := by
    intro a ds vs ey hsq hf f1 f2 eb
    subst ey
    obtain ⟨i1, i2⟩ := in_V hx f1 hf f2
    cases neg with
    | false =>
      refine op_in_seq pins s σ H x _ v u Q I rx ry ⟨a, vs, rfl, hsq, flat_V hx f1, i1, ?_⟩
      simp only [Bool.false_eq_true, if_false] at q ⊢
      rw [i2, ← eb]; exact q
    | true =>
      refine op_notIn_seq pins s σ H x _ v u Q I rx ry ⟨a, vs, rfl, hsq, flat_V hx f1, i1, ?_⟩
      simp only [if_true] at q ⊢
      rw [i2, ← eb]; exact q
  have node : ∀ (kd : Kd) (ds : List D), e = .nd kd ds → (kd = .lst ∨ kd = .tup) → flat d = true → ds.all flat = true → b = anyEq d ds → wpAny (model X.prog X.w) X.A (compareOp (if neg then .NotIn else .In) v u) (EP X pins σ Q) X.xe s := by
    intro kd ds ee hk f1 f2 eb
    subst ee
    obtain ⟨a, vs, ey, r, hf⟩ := hy.node hs
    rcases hk with rfl | rfl
    · exact seq a ds vs ey (.inl (SqL.of r)) hf f1 f2 eb
    · exact seq a ds vs ey (.inr (SqT.of r)) hf f1 f2 eb
  cases e with
  | str z =>
    cases d <;> try (simp [dIn] at h; done)
    have h := Res.ok.inj h; subst h
    rw [hx.str] at rx; rw [hy.str] at ry
    cases neg with
    | false => exact op_in_str pins s σ H _ _ v u Q I rx ry ⟨_, _, rfl, rfl, q⟩
    | true => exact op_notin_str pins s σ H _ _ v u Q I rx ry ⟨_, _, rfl, rfl, q⟩
  | nd kd ds =>
    cases kd with
    | lst =>
      have h : (if flat d = true ∧ ds.all flat = true then Res.ok (anyEq d ds) else Res.stuck) = Res.ok b := by
        cases d <;> exact h
      obtain ⟨⟨f1, f2⟩, eb⟩ := ite_ok h
      exact node .lst ds rfl (.inl rfl) f1 f2 eb.symm
    | tup =>
      have h : (if flat d = true ∧ ds.all flat = true then Res.ok (anyEq d ds) else Res.stuck) = Res.ok b := by
        cases d <;> exact h
      obtain ⟨⟨f1, f2⟩, eb⟩ := ite_ok h
      exact node .tup ds rfl (.inr rfl) f1 f2 eb.symm
    | _ => cases d <;> simp [dIn] at h
  | _ => cases d <;> simp [dIn] at h
theorem op_cmp (hK : X.K = M.K) (hu : X.A.units + 64 < cLine) (op : Cop) : OpR X (compareOp op.py) (rCmp M op) := by
  intro pins s σ H x y v u Q I rx ry h
  obtain ⟨F, j, d, k, e, b, hs, hx, hy, he, q⟩ := h
  cases op with
  | eq =>
    rcases dEq_ok he with ⟨p1, p2, s1, s2, rfl⟩ | ⟨ds, rfl, rfl, rfl⟩
    case inr => exact cmp_nil (M := M) (F := F) hu false hs I rx ry hx hy q
    exact op_eqD hu pins s σ H x y v u Q I rx ry ⟨_, _, hK ▸ RW.dp hs d j x hx p1, hK ▸ RW.dp hs e k y hy p2, s1, s2, q⟩
  | ne =>
    have he : (dEq d e).bind (fun b => Res.ok (!b)) = Res.ok b := he
    cases e3 : dEq d e with
    | stuck => rw [e3] at he; cases he
    | exn c d => rw [e3] at he; cases he
    | ok b' =>
      rw [e3] at he
      have he := Res.ok.inj he; subst he
      rcases dEq_ok e3 with ⟨p1, p2, s1, s2, rfl⟩ | ⟨ds, rfl, rfl, rfl⟩
      case inr => exact cmp_nil (M := M) (F := F) hu true hs I rx ry hx hy q
      exact op_neD hu pins s σ H x y v u Q I rx ry ⟨_, _, hK ▸ RW.dp hs d j x hx p1, hK ▸ RW.dp hs e k y hy p2, s1, s2, q⟩
  | lt =>
    cases d <;> cases e <;> try (simp [dCmp] at he; done)
    have he := Res.ok.inj he; subst he
    rw [hx.int] at rx; rw [hy.int] at ry
    exact op_lt pins s σ H _ _ v u Q I rx ry ⟨_, _, rfl, rfl, q⟩
  | le =>
    cases d <;> cases e <;> try (simp [dCmp] at he; done)
    have he := Res.ok.inj he; subst he
    rw [hx.int] at rx; rw [hy.int] at ry
    exact op_le pins s σ H _ _ v u Q I rx ry ⟨_, _, rfl, rfl, q⟩
  | gt =>
    cases d <;> cases e <;> try (simp [dCmp] at he; done)
    have he := Res.ok.inj he; subst he
    rw [hx.int] at rx; rw [hy.int] at ry
    exact op_gt pins s σ H _ _ v u Q I rx ry ⟨_, _, rfl, rfl, q⟩
  | ge =>
    cases d <;> cases e <;> try (simp [dCmp] at he; done)
    have he := Res.ok.inj he; subst he
    rw [hx.int] at rx; rw [hy.int] at ry
    exact op_ge pins s σ H _ _ v u Q I rx ry ⟨_, _, rfl, rfl, q⟩
  | inn =>
    cases j with
    | succ j => cases d <;> simp [dCmp] at he
    | zero => exact dIn_ok hK false hs I rx ry hx hy he q
  | nin =>
    cases j with
    | succ j => cases d <;> simp [dCmp] at he
    | zero =>
      have he : (dIn d (k, e)).bind (fun b => Res.ok (!b)) = Res.ok b := he
      cases e3 : dIn d (k, e) with
      | stuck => rw [e3] at he; cases he
      | exn c d => rw [e3] at he; cases he
      | ok b' =>
        rw [e3] at he
        have he := Res.ok.inj he; subst he
        exact dIn_ok hK true hs I rx ry hx hy e3 q
  | isn =>
    cases e <;> try (cases d <;> simp [dCmp] at he; done)
    rw [hy.non] at ry
    refine op_isN pins s σ H _ _ v u Q I rx ry ⟨rfl, ?_⟩
    cases d with
    | nd kd ds =>
      obtain ⟨a, vs, rfl, _⟩ := hx.node hs
      have he := Res.ok.inj he; subst he
      exact q
    | non => have he := Res.ok.inj he; subst he; rw [hx.non]; exact q
    | bl b => have he := Res.ok.inj he; subst he; rw [hx.bl]; exact q
    | int b => have he := Res.ok.inj he; subst he; rw [hx.int]; exact q
    | str b => have he := Res.ok.inj he; subst he; rw [hx.str]; exact q
  | nisn =>
    cases e <;> try (cases d <;> simp [dCmp] at he; done)
    rw [hy.non] at ry
    refine op_notN pins s σ H _ _ v u Q I rx ry ⟨rfl, ?_⟩
    cases d with
    | nd kd ds =>
      obtain ⟨a, vs, rfl, _⟩ := hx.node hs
      have he := Res.ok.inj he; subst he
      exact q
    | non => have he := Res.ok.inj he; subst he; rw [hx.non]; exact q
    | bl b => have he := Res.ok.inj he; subst he; rw [hx.bl]; exact q
    | int b => have he := Res.ok.inj he; subst he; rw [hx.int]; exact q
    | str b => have he := Res.ok.inj he; subst he; rw [hx.str]; exact q

/-! ### subscripts, slices, built-ins -/
theorem Fa2.atI {P : D → V → Prop} {ds : List D} {vs : List V} {i : Int} {d : D} (h : Fa2 P ds vs) (e : L2.atI ds i = some d) : ∃ v, L2.atI vs i = some v ∧ P d v := by
  unfold L2.atI at e ⊢
  rw [h.length]
  cases q : ixN ds.length i with
  | none => rw [q] at e; cases e
  | some j =>
    rw [q] at e
    exact h.get (i := j) e
def rIdx (M : Mo) : R2 := fun x y H Q => ∃ F j d k e w, Same F H ∧ RW M F H j d x ∧ RW M F H k e y ∧ dIdx (j, d) e = .ok w ∧ ∀ v, RW M F H w.1 w.2 v → Q v H
/-- d['k'] -/
theorem ix_dict (hu : X.A.units + 1 < cLine) : IxR X fun x y H Q => ∃ a k v, x = .ref a ∧ DGet H a y (some v) ∧ y = kV k ∧ Q v H := by
  intro value slice pins s σ H x y v u Q I rx ry h hsub
  obtain ⟨a, k, z, rfl, g, _, q⟩ := h
  obtain rfl : v = Value.ref a := rx
  have hT := dict_typeIs I g
  unfold subscriptTail
  refine wpAny_bind ?_
  rw [getitemInPython_of_ne hT.not_modules]
  refine wpAny_bind (wpAny_specialOf hT PySem.F.slot_dict_getitem.lookup ?_)
  have fin : wpAny (model X.prog X.w) X.A (subscripted slice false (.ref a) u) (fun r s₃ => wpAny (model X.prog X.w) X.A (letTemporaryGo value (.ref a) r >>= fun _ => pure r) (EP X pins σ Q) X.xe s₃) X.xe s := by
    rw [hsub]
    exact wpAny_operating (wpAny_mono (d_getItem hu I g ry fun w' s' I' rw' => show EP X pins σ Q w' s' from ⟨z, H, I', rw', q⟩) (fun r s₃ h₃ => wpAny_bind (wpAny_letTemporaryGo (wpAny_pure h₃))) fun _ _ x => x)
  first
    | exact wpAny_pure (wpAny_bind fin)
    | exact wpAny_bind (wpAny_pure (wpAny_bind fin))
    | exact wpAny_bind fin
theorem dicAt_val {P : D → V → Prop} {s : Str} {d : D} : ∀ {ks : List Str} {ds : List D} {kvs : List (Key × V)}, kvs.map (·.1) = ks.map Sum.inr → Fa2 P ds (kvs.map (·.2)) → dicAt ks ds s = some d → ∃ v, valV kvs (Sum.inr s : Key) = some v ∧ P d v
  | [], _, _, _, _, e => by simp [dicAt] at e
  | k :: ks, [], _, _, _, e => by simp [dicAt] at e
  | k :: ks, d' :: ds, [], h, _, _ => by simp at h
  | k :: ks, d' :: ds, kv :: kvs, h, f, e => by
    simp only [List.map_cons, List.cons.injEq] at h
    obtain ⟨v, vs', e1, p1, p2⟩ := f
    simp only [List.map_cons, List.cons.injEq] at e1
    unfold dicAt at e
    by_cases c : k = s
    · rw [if_pos c] at e
      cases e
      refine ⟨v, ?_, p1⟩
      unfold valV
      rw [List.find?_cons_of_pos (by rw [h.1, c]; simp), ← e1.1]
      rfl
    · rw [if_neg c] at e
      obtain ⟨w, h1, h2⟩ := dicAt_val (kvs := kvs) h.2 (e1.2 ▸ p2) e
      refine ⟨w, ?_, h2⟩
      unfold valV at *
      rw [List.find?_cons_of_neg (by rw [h.1]; simpa using c)]
      exact h1
theorem ix_idx (hu : X.A.units + 64 < cLine) (hK : X.K = M.K) : IxR X (rIdx M) := by
  intro value slice pins s σ H x y v u Q I rx ry h hsub
  obtain ⟨F, j, d, k, e, w, hs, hx, hy, he, q⟩ := h
  cases e with
  | int i =>
    rw [hy.int] at ry
    cases d with
    | str z =>
      obtain ⟨hl, he⟩ : z.length ≤ lim ∧ (match L2.atI z.cps.toList i with | some c => Res.ok ((0 : Nat), D.str ⟨#[c]⟩) | none => .stuck) = .ok w := by
        have he : (if z.length ≤ lim then (match L2.atI z.cps.toList i with | some c => Res.ok ((0 : Nat), D.str ⟨#[c]⟩) | none => .stuck) else .stuck) = Res.ok w := he
        by_cases c : z.length ≤ lim
        · rw [if_pos c] at he; exact ⟨c, he⟩
        · rw [if_neg c] at he; cases he
      cases e3 : L2.atI z.cps.toList i with
      | none => rw [e3] at he; cases he
      | some c =>
        rw [e3] at he
        have he := Res.ok.inj he; subst he
        rw [hx.str] at rx
        exact ix_str value slice pins s σ H _ _ v u Q I rx ry ⟨z, i, c, rfl, rfl, lim_ok hl, e3, q _ Rep.str⟩ hsub
    | nd kd ds =>
      have fin : (kd = .lst ∨ kd = .tup ∨ kd = .scr) ∧ ∃ d', L2.atI ds i = some d' ∧ w = (j - 1, d') := by
        cases kd with
        | lst =>
          refine ⟨.inl rfl, ?_⟩
          have he : (match L2.atI ds i with | some d => Res.ok (j - 1, d) | none => .stuck) = .ok w := he
          cases e3 : L2.atI ds i with
          | none => rw [e3] at he; cases he
          | some c => rw [e3] at he; exact ⟨c, rfl, (Res.ok.inj he).symm⟩
        | tup =>
          refine ⟨.inr (.inl rfl), ?_⟩
          have he : (match L2.atI ds i with | some d => Res.ok (j - 1, d) | none => .stuck) = .ok w := he
          cases e3 : L2.atI ds i with
          | none => rw [e3] at he; cases he
          | some c => rw [e3] at he; exact ⟨c, rfl, (Res.ok.inj he).symm⟩
        | scr =>
          refine ⟨.inr (.inr rfl), ?_⟩
          have he : (match L2.atI ds i with | some d => Res.ok (j - 1, d) | none => .stuck) = .ok w := he
          cases e3 : L2.atI ds i with
          | none => rw [e3] at he; cases he
          | some c => rw [e3] at he; exact ⟨c, rfl, (Res.ok.inj he).symm⟩
        | obj c fl => simp [dIdx] at he
        | dic ks => simp [dIdx] at he
      obtain ⟨hk, d', e3, rfl⟩ := fin
      obtain ⟨a, vs, rfl, r1, f1⟩ := hx.node hs
      obtain ⟨z, e4, rz⟩ := f1.atI e3
      rcases hk with rfl | rfl | rfl
      · exact ix_list value slice pins s σ H _ _ v u Q I rx ry ⟨a, vs, i, z, rfl, rfl, SqL.of r1, e4, q z rz⟩ hsub
      · exact ix_tup value slice pins s σ H _ _ v u Q I rx ry ⟨a, vs, i, z, rfl, rfl, SqT.of r1, e4, q z rz⟩ hsub
      · exact ix_list value slice pins s σ H _ _ v u Q I rx ry ⟨a, vs, i, z, rfl, rfl, hK ▸ r1, e4, q z rz⟩ hsub
    | _ => simp [dIdx] at he
  | str z =>
    cases d with
    | nd kd ds =>
      cases kd with
      | dic ks =>
        have he : (match dicAt ks ds z with | some d => Res.ok (if flat d = true then 0 else j - 1, d) | none => .stuck) = .ok w := he
        cases e3 : dicAt ks ds z with
        | none => rw [e3] at he; cases he
        | some c =>
          rw [e3] at he
          have he := Res.ok.inj he; subst he
          obtain ⟨a, vs, rfl, ⟨kvs, r1, r2, r3⟩, f1⟩ := hx.node hs
          rw [← r3] at f1
          obtain ⟨w', h1, h2⟩ := dicAt_val r2 f1 e3
          have hy := hy.str
          subst hy
          have h3 : RW M F H (if flat c = true then 0 else j - 1) c w' := by
            split
            · rename_i hf
              exact h2.scalar fun kd ds e => by subst e; simp [flat] at hf
            · exact h2
          exact ix_dict (by omega) value slice pins s σ H _ _ v u Q I rx ry ⟨a, Sum.inr z, w', rfl, h1 ▸ DGet.k (k := Sum.inr z) r1, rfl, q w' h3⟩ hsub
      | _ => simp [dIdx] at he
    | _ => simp [dIdx] at he
  | _ => cases d <;> (try (rename_i kd ds; cases kd)) <;> simp [dIdx] at he
theorem Fa2.cut {P : D → V → Prop} {ds : List D} {vs : List V} (lo hi : Option Int) (h : Fa2 P ds vs) : Fa2 P (cutL ds lo hi) (cutV vs lo hi) := by
  unfold cutL cutV
  rw [h.length]
  exact (h.drop _).take _
def rSlc (M : Mo) : V → Option Int → Option Int → Hp → VK → Prop := fun x lo hi H Q => ∃ F j d z, Same F H ∧ RW M F H j d x ∧ dSlc (j, d) lo hi = .ok z ∧ Nw M F H z Q
theorem sl_slc (hK : X.K = M.K) : L2.SlR X (rSlc M) := by
  intro pins s σ H x v vl vu lo hi sl Q I rx hsl pl pu h
  obtain ⟨F, j, d, z, hs, hx, he, q⟩ := h
  cases d with
  | nd kd ds =>
    obtain ⟨a, vs, rfl, r1, f1⟩ := hx.node hs
    cases kd with
    | lst =>
      obtain ⟨hj, he⟩ := ite_ok he; subst he
      exact sl_list pins s σ H _ v vl vu lo hi sl Q I rx hsl pl pu ⟨a, vs, rfl, SqL.of r1, fun p hp => q p _ hp ((fa_pred hj f1).cut lo hi)⟩
    | scr =>
      obtain ⟨hj, he⟩ := ite_ok he; subst he
      exact sl_list pins s σ H _ v vl vu lo hi sl Q I rx hsl pl pu ⟨a, vs, rfl, hK ▸ r1, fun p hp => q p _ hp ((fa_pred hj f1).cut lo hi)⟩
    | tup =>
      cases j with
      | succ j => simp [dSlc] at he
      | zero =>
        have he := Res.ok.inj he; subst he
        refine sl_tupA pins s σ H _ v vl vu lo hi sl Q I rx hsl pl pu ⟨a, vs, rfl, SqT.of r1, fun w => ?_, fun w p hp => ?_⟩
        · have e : cutL ds lo hi = ds := by
            rw [f1.length] at w
            unfold cutL
            rw [w.1, w.2]
            simp
          rw [e] at q
          exact q.scal hs hx (by simp)
        · exact q.tup hs hp (f1.cut lo hi)
    | obj c fl => simp [dSlc] at he
    | dic ks => simp [dSlc] at he
  | _ => simp [dSlc] at he
def WkR (M : Mo) (F H : Hp) : List Wk → List V → Prop
  | [], vs => vs = []
  | w :: ws, vs => ∃ v vs', vs = v :: vs' ∧ RW M F H w.1 w.2 v ∧ WkR M F H ws vs'
def rBlt (M : Mo) (b : Blt) : List V → Hp → VK → Prop := fun vs H Q => ∃ F ws z, Same F H ∧ WkR M F H ws vs ∧ dBlt b ws = .ok z ∧ Nw M F H z Q
theorem seqOf_node {k : Nat} {d : D} {ds : List D} {x : V} (hs : Same F H) (hx : RW M F H k d x) (e : seqOf d = some ds) : ∃ a vs, x = .ref a ∧ (SqL M.K H a vs ∨ SqT M.K H a vs) ∧ Fa2 (RW M F H (k - 1)) ds vs := by
  cases d with
  | nd kd es =>
    obtain ⟨a, vs, rfl, r1, f1⟩ := hx.node hs
    cases kd <;> simp [seqOf] at e <;> subst e
    · exact ⟨a, vs, rfl, .inl (SqL.of r1), f1⟩
    · exact ⟨a, vs, rfl, .inr (SqT.of r1), f1⟩
    · exact ⟨a, vs, rfl, .inl r1, f1⟩
  | _ => simp [seqOf] at e
theorem lstOf_node {k : Nat} {d : D} {ds : List D} {x : V} (hs : Same F H) (hx : RW M F H k d x) (e : lstOf d = some ds) : ∃ a vs, x = .ref a ∧ H a = some (.lst vs) ∧ Fa2 (RW M F H (k - 1)) ds vs := by
  cases d with
  | nd kd es =>
    obtain ⟨a, vs, rfl, r1, f1⟩ := hx.node hs
    cases kd <;> simp [lstOf] at e
    subst e
    exact ⟨a, vs, rfl, r1, f1⟩
  | _ => simp [lstOf] at e
theorem ints_vals {k : Nat} : ∀ {ds : List D} {is : List Int} {vs : List V}, intsOf ds = some is → Fa2 (RW M F H k) ds vs → vs = is.map V.int
  | [], is, vs, e, h => by
    simp [intsOf] at e
    rw [e, show vs = [] from h]; rfl
  | d :: ds, is, vs, e, h => by
    obtain ⟨v, vs', rfl, a, b⟩ := h
    cases d <;> simp [intsOf] at e
    obtain ⟨r, e1, rfl⟩ := e
    rw [a.int, ints_vals e1 b]; rfl
theorem bools_vals {k : Nat} : ∀ {ds : List D} {is : List Bool} {vs : List V}, boolsOf ds = some is → Fa2 (RW M F H k) ds vs → vs = is.map V.bl
  | [], is, vs, e, h => by
    simp [boolsOf] at e
    rw [e, show vs = [] from h]; rfl
  | d :: ds, is, vs, e, h => by
    obtain ⟨v, vs', rfl, a, b⟩ := h
    cases d <;> simp [boolsOf] at e
    obtain ⟨r, e1, rfl⟩ := e
    rw [a.bl, bools_vals e1 b]; rfl
theorem Fa2.ints : ∀ is : List Int, Fa2 (Rep M F) (is.map D.int) (is.map V.int)
  | [] => rfl
  | i :: is => ⟨_, _, rfl, Rep.int, Fa2.ints is⟩

theorem minL_ok {is : List Int} {m : Int} (e : minL is = some m) : 0 < is.length ∧ ∀ z, z ∈ is → (∀ y, y ∈ is → z ≤ y) → z = m := by
  cases is with
  | nil => cases e
  | cons x xs =>
    have e : xs.foldl min x = m := Option.some.inj e
    have key : ∀ (xs : List Int) (x : Int), (xs.foldl min x = x ∨ xs.foldl min x ∈ xs) ∧ xs.foldl min x ≤ x ∧ ∀ y ∈ xs, xs.foldl min x ≤ y := by
      intro xs
      induction xs with
      | nil => intro x; simp
      | cons y ys ih =>
        intro x
        obtain ⟨i1, i2, i3⟩ := ih (min x y)
        rw [List.foldl_cons]
        refine ⟨?_, by omega, fun z hz => ?_⟩
        · rcases i1 with h | h
          · rw [h]
            by_cases c : x ≤ y
            · rw [Int.min_eq_left c]; exact .inl rfl
            · rw [Int.min_eq_right (by omega)]; exact .inr (by simp)
          · exact .inr (by simp [h])
        · rcases List.mem_cons.mp hz with rfl | hz
          · omega
          · exact i3 z hz
    obtain ⟨k1, k2, k3⟩ := key xs x
    rw [e] at k1 k2 k3
    refine ⟨by simp, fun z hz hy => ?_⟩
    have a : z ≤ m := hy m (by rcases k1 with rfl | h <;> simp_all)
    have b : m ≤ z := by
      rcases List.mem_cons.mp hz with rfl | hz
      · exact k2
      · exact k3 z hz
    omega
theorem maxL_ok {is : List Int} {m : Int} (e : maxL is = some m) : 0 < is.length ∧ ∀ z, z ∈ is → (∀ y, y ∈ is → y ≤ z) → z = m := by
  cases is with
  | nil => cases e
  | cons x xs =>
    have e : xs.foldl max x = m := Option.some.inj e
    have key : ∀ (xs : List Int) (x : Int), (xs.foldl max x = x ∨ xs.foldl max x ∈ xs) ∧ x ≤ xs.foldl max x ∧ ∀ y ∈ xs, y ≤ xs.foldl max x := by
      intro xs
      induction xs with
      | nil => intro x; simp
      | cons y ys ih =>
        intro x
        obtain ⟨i1, i2, i3⟩ := ih (max x y)
        rw [List.foldl_cons]
        refine ⟨?_, by omega, fun z hz => ?_⟩
        · rcases i1 with h | h
          · rw [h]
            by_cases c : x ≤ y
            · rw [Int.max_eq_right c]; exact .inr (by simp)
            · rw [Int.max_eq_left (by omega)]; exact .inl rfl
          · exact .inr (by simp [h])
        · rcases List.mem_cons.mp hz with rfl | hz
          · omega
          · exact i3 z hz
    obtain ⟨k1, k2, k3⟩ := key xs x
    rw [e] at k1 k2 k3
    refine ⟨by simp, fun z hz hy => ?_⟩
    have a : m ≤ z := hy m (by rcases k1 with rfl | h <;> simp_all)
    have b : z ≤ m := by
      rcases List.mem_cons.mp hz with rfl | hz
      · exact k2
      · exact k3 z hz
    omega
theorem insI_perm (x : Int) : ∀ xs, (insI x xs).Perm (x :: xs)
  | [] => List.Perm.refl _
  | y :: ys => by
    unfold insI
    split
    · exact List.Perm.refl _
    · exact (List.Perm.cons y (insI_perm x ys)).trans (List.Perm.swap x y ys)
theorem insI_sorted (x : Int) : ∀ xs : List Int, xs.Pairwise (· ≤ ·) → (insI x xs).Pairwise (· ≤ ·)
  | [], _ => by simp [insI]
  | y :: ys, h => by
    unfold insI
    obtain ⟨h1, h2⟩ := List.pairwise_cons.mp h
    split
    · rename_i c
      refine List.pairwise_cons.mpr ⟨fun z hz => ?_, h⟩
      rcases List.mem_cons.mp hz with rfl | hz
      · exact c
      · exact Int.le_trans c (h1 z hz)
    · rename_i c
      refine List.pairwise_cons.mpr ⟨fun z hz => ?_, insI_sorted x ys h2⟩
      rcases List.mem_cons.mp ((insI_perm x ys).mem_iff.mp hz) with rfl | hz
      · omega
      · exact h1 z hz
theorem sortI_perm : ∀ xs, (sortI xs).Perm xs
  | [] => List.Perm.refl _
  | x :: xs => (insI_perm x _).trans (List.Perm.cons x (sortI_perm xs))
theorem sortI_sorted : ∀ xs, (sortI xs).Pairwise (· ≤ ·)
  | [] => List.Pairwise.nil
  | x :: xs => insI_sorted x _ (sortI_sorted xs)
theorem sortI_uniq {ns xs : List Int} (p : ns.Perm xs) (s : ns.Pairwise (· ≤ ·)) : ns = sortI xs :=
  List.Perm.eq_of_pairwise (fun a b _ _ h1 h2 => Int.le_antisymm h1 h2) s (sortI_sorted xs) (p.trans (sortI_perm xs).symm)
theorem leP_iff {a b : Int × Int} : leP a b = true ↔ a.1 < b.1 ∨ (a.1 = b.1 ∧ a.2 ≤ b.2) := by
  unfold leP
  simp
theorem insP_perm (x : Int × Int) : ∀ xs, (insP x xs).Perm (x :: xs)
  | [] => List.Perm.refl _
  | y :: ys => by
    unfold insP
    split
    · exact List.Perm.refl _
    · exact (List.Perm.cons y (insP_perm x ys)).trans (List.Perm.swap x y ys)
theorem insP_sorted (x : Int × Int) : ∀ xs : List (Int × Int), xs.Pairwise (fun a b => leP a b = true) → (insP x xs).Pairwise (fun a b => leP a b = true)
  | [], _ => by simp [insP]
  | y :: ys, h => by
    unfold insP
    obtain ⟨h1, h2⟩ := List.pairwise_cons.mp h
    split
    · rename_i c
      refine List.pairwise_cons.mpr ⟨fun z hz => ?_, h⟩
      rcases List.mem_cons.mp hz with rfl | hz
      · exact c
      · have := h1 z hz
        rw [leP_iff] at *
        omega
    · rename_i c
      refine List.pairwise_cons.mpr ⟨fun z hz => ?_, insP_sorted x ys h2⟩
      rcases List.mem_cons.mp ((insP_perm x ys).mem_iff.mp hz) with rfl | hz
      · rw [leP_iff] at *
        omega
      · exact h1 z hz
theorem sortP_perm : ∀ xs, (sortP xs).Perm xs
  | [] => List.Perm.refl _
  | x :: xs => (insP_perm x _).trans (List.Perm.cons x (sortP_perm xs))
theorem sortP_sorted : ∀ xs, (sortP xs).Pairwise (fun a b => leP a b = true)
  | [] => List.Pairwise.nil
  | x :: xs => insP_sorted x _ (sortP_sorted xs)
theorem sortP_uniq {ns xs : List (Int × Int)} (p : ns.Perm xs) (s : ns.Pairwise (fun a b => leP a b = true)) : ns = sortP xs := by
  refine List.Perm.eq_of_pairwise (fun a b _ _ h1 h2 => ?_) s (sortP_sorted xs) (p.trans (sortP_perm xs).symm)
  rw [leP_iff] at h1 h2
  exact Prod.ext (by omega) (by omega)
theorem ints_len {ds : List D} : ∀ {is : List Int}, intsOf ds = some is → is.length = ds.length := by
  induction ds with
  | nil => intro is e; simp [intsOf] at e; rw [e]; rfl
  | cons d ds ih =>
    intro is e
    cases d <;> simp [intsOf] at e
    obtain ⟨r, e1, rfl⟩ := e
    simp [ih e1]
/-- the pair that stands at a place -/
def kP (F : Hp) : V → Int × Int
  | .ref t => match F t with
    | some (.tup [.int a, .int b]) => (a, b)
    | _ => (0, 0)
  | _ => (0, 0)
theorem pairs_vals : ∀ {ds : List D} {ps : List (Int × Int)} {vs : List V}, pairsOf ds = some ps → Fa2 (Rep M F) ds vs →
    ps = vs.map (kP F) ∧ ∀ v ∈ vs, ∃ t, v = V.ref t ∧ F t = some (.tup [.int (kP F v).1, .int (kP F v).2])
  | [], ps, vs, e, h => by
    simp [pairsOf] at e
    rw [e, show vs = [] from h]; exact ⟨rfl, by simp⟩
  | d :: ds, ps, vs, e, h => by
    obtain ⟨v, vs', rfl, a, b⟩ := h
    unfold pairsOf at e
    split at e
    · rename_i h1; cases h1
    · rename_i x y r h1
      cases h1
      cases e1 : pairsOf ds with
      | none => rw [e1] at e; cases e
      | some qs =>
        rw [e1] at e
        have e := Option.some.inj e; subst e
        obtain ⟨i1, i2⟩ := pairs_vals e1 b
        obtain ⟨t, ws, rfl, r1, f1⟩ := Rep.nd_iff.mp a
        obtain ⟨w1, ws1, rfl, g1, f2⟩ := f1
        obtain ⟨w2, ws2, rfl, g2, f3⟩ := f2
        rw [show ws2 = [] from f3] at r1
        rw [show w1 = .int x by simpa [Rep] using g1, show w2 = .int y by simpa [Rep] using g2] at r1
        have r1 : F t = some (.tup [.int x, .int y]) := r1
        have ek : kP F (.ref t) = (x, y) := by simp [kP, r1]
        refine ⟨by rw [List.map_cons, ek, ← i1], fun v hv => ?_⟩
        rcases List.mem_cons.mp hv with rfl | hv
        · exact ⟨t, rfl, by rw [ek]; exact r1⟩
        · exact i2 v hv
    · cases e
theorem pairs_rep : ∀ (vs : List V), (∀ v ∈ vs, ∃ t, v = V.ref t ∧ F t = some (.tup [.int (kP F v).1, .int (kP F v).2])) → Fa2 (Rep M F) ((vs.map (kP F)).map fun p => D.tup [.int p.1, .int p.2]) vs
  | [], _ => rfl
  | v :: vs, h => by
    obtain ⟨t, e, ht⟩ := h v (by simp)
    refine ⟨v, vs, rfl, Rep.nd_iff.mpr ⟨t, _, e, ht, _, _, rfl, Rep.int, _, _, rfl, Rep.int, rfl⟩, pairs_rep vs fun w hw => h w (by simp [hw])⟩
def Blt.nm : Blt → String
  | .len => "len" | .abs => "abs" | .min2 => "min" | .max2 => "max" | .min1 => "min" | .max1 => "max" | .sum => "sum" | .all => "all" | .any => "any" | .sorted => "sorted" | .list => "list" | .tuple => "tuple" | .int => "int" | .str => "str"
def Blt.ty : Blt → Bool
  | .list => true | .tuple => true | .int => true | .str => true | _ => false
def Blt.val (b : Blt) : Value := if b.ty then .type b.nm else .builtin b.nm
theorem wk1 {w : Wk} {vs : List V} (h : WkR M F H [w] vs) : ∃ v, vs = [v] ∧ RW M F H w.1 w.2 v := by
  obtain ⟨v, vs', rfl, a, b⟩ := h
  rw [show vs' = [] from b]
  exact ⟨v, rfl, a⟩
theorem wk2 {w w2 : Wk} {vs : List V} (h : WkR M F H [w, w2] vs) : ∃ v v2, vs = [v, v2] ∧ RW M F H w.1 w.2 v ∧ RW M F H w2.1 w2.2 v2 := by
  obtain ⟨v, vs', rfl, a, b⟩ := h
  obtain ⟨v2, rfl, c⟩ := wk1 b
  exact ⟨v, v2, rfl, a, c⟩
theorem blt_one (b : Blt) {ws : List Wk} {z : D} (h : dBlt b ws = .ok z) (hb : b ≠ .min2 ∧ b ≠ .max2) : ∃ k d, ws = [(k, d)] := by
  unfold dBlt at h
  split at h <;> first
    | exact ⟨_, _, rfl⟩
    | (simp at hb; done)
    | cases h
theorem ints_of_bind {d : D} {is : List Int} (h : (lstOf d).bind intsOf = some is) : ∃ ds, lstOf d = some ds ∧ intsOf ds = some is := by
  cases e : lstOf d with
  | none => rw [e] at h; cases h
  | some ds => rw [e] at h; exact ⟨ds, rfl, h⟩
theorem bools_of_bind {d : D} {is : List Bool} (h : (lstOf d).bind boolsOf = some is) : ∃ ds, lstOf d = some ds ∧ boolsOf ds = some is := by
  cases e : lstOf d with
  | none => rw [e] at h; cases h
  | some ds => rw [e] at h; exact ⟨ds, rfl, h⟩
theorem cr_blt (hK : X.K = M.K) (hc : X.calm = true) (b : Blt) : CallR X b.val (rBlt M b) := by
  intro pins s σ H vs us Q I rv h
  obtain ⟨F, ws, z, hs, hw, he, q⟩ := h
  by_cases hb : b ≠ .min2 ∧ b ≠ .max2
  · obtain ⟨k, d, rfl⟩ := blt_one b he hb
    obtain ⟨x, rfl, hx⟩ := wk1 hw
    have hx : RW M F H k d x := hx
    cases b with
    | min2 => exact absurd rfl hb.1
    | max2 => exact absurd rfl hb.2
    | len =>
      cases d with
      | str y =>
        obtain ⟨hl, he⟩ := ite_ok he; subst he
        rw [hx.str] at rv
        exact call_len_str pins s σ H _ us Q I rv ⟨y, rfl, lim_ok hl, q.int hs⟩
      | nd kd es =>
        have he : (match seqOf (.nd kd es) with | some ds => Res.ok (D.int ds.length) | none => .stuck) = .ok z := he
        cases e1 : seqOf (.nd kd es) with
        | none => rw [e1] at he; cases he
        | some ds =>
          rw [e1] at he
          have he := Res.ok.inj he; subst he
          obtain ⟨a, vs, rfl, r1, f1⟩ := seqOf_node hs hx e1
          rw [← hK] at r1
          refine call_len_seq pins s σ H _ us Q I rv ⟨a, vs, rfl, r1, ?_⟩
          rw [f1.length]; exact q.int hs
      | _ => simp [dBlt, seqOf] at he
    | abs =>
      cases d <;> try (simp [dBlt] at he; done)
      have he := Res.ok.inj he; subst he
      rw [hx.int] at rv
      exact call_abs pins s σ H _ us Q I rv ⟨_, rfl, q.int hs⟩
    | min1 =>
      have he : (match (lstOf d).bind intsOf with | some is => (match minL is with | some m => Res.ok (D.int m) | none => .stuck) | none => .stuck) = .ok z := he
      cases e1 : (lstOf d).bind intsOf with
      | none => rw [e1] at he; cases he
      | some is =>
        rw [e1] at he
        cases e2 : minL is with
        | none => simp [e2] at he
        | some m =>
          simp only [e2] at he
          have he := Res.ok.inj he; subst he
          obtain ⟨ds, e3, e4⟩ := ints_of_bind e1
          obtain ⟨a, vs, rfl, r1, f1⟩ := lstOf_node hs hx e3
          rw [ints_vals e4 f1] at r1
          obtain ⟨h1, h2⟩ := minL_ok e2
          exact cr_min hc pins s σ H _ us Q I rv ⟨a, is, rfl, SqL.of r1, h1, fun m' hm hy => by rw [h2 m' hm hy]; exact q.int hs⟩
    | max1 =>
      have he : (match (lstOf d).bind intsOf with | some is => (match maxL is with | some m => Res.ok (D.int m) | none => .stuck) | none => .stuck) = .ok z := he
      cases e1 : (lstOf d).bind intsOf with
      | none => rw [e1] at he; cases he
      | some is =>
        rw [e1] at he
        cases e2 : maxL is with
        | none => simp [e2] at he
        | some m =>
          simp only [e2] at he
          have he := Res.ok.inj he; subst he
          obtain ⟨ds, e3, e4⟩ := ints_of_bind e1
          obtain ⟨a, vs, rfl, r1, f1⟩ := lstOf_node hs hx e3
          rw [ints_vals e4 f1] at r1
          obtain ⟨h1, h2⟩ := maxL_ok e2
          exact cr_max hc pins s σ H _ us Q I rv ⟨a, is, rfl, SqL.of r1, h1, fun m' hm hy => by rw [h2 m' hm hy]; exact q.int hs⟩
    | sum =>
      have he : (match (lstOf d).bind intsOf with | some is => Res.ok (D.int is.sum) | none => .stuck) = .ok z := he
      cases e1 : (lstOf d).bind intsOf with
      | none => rw [e1] at he; cases he
      | some is =>
        rw [e1] at he
        have he := Res.ok.inj he; subst he
        obtain ⟨ds, e3, e4⟩ := ints_of_bind e1
        obtain ⟨a, vs, rfl, r1, f1⟩ := lstOf_node hs hx e3
        rw [ints_vals e4 f1] at r1
        exact cr_sum hc pins s σ H _ us Q I rv ⟨a, is, rfl, SqL.of r1, q.int hs⟩
    | all =>
      have he : (match (lstOf d).bind boolsOf with | some bs => Res.ok (D.bl (bs.all id)) | none => .stuck) = .ok z := he
      cases e1 : (lstOf d).bind boolsOf with
      | none => rw [e1] at he; cases he
      | some is =>
        rw [e1] at he
        have he := Res.ok.inj he; subst he
        obtain ⟨ds, e3, e4⟩ := bools_of_bind e1
        obtain ⟨a, vs, rfl, r1, f1⟩ := lstOf_node hs hx e3
        rw [bools_vals e4 f1] at r1
        exact cr_all hc pins s σ H _ us Q I rv ⟨a, is, rfl, SqL.of r1, q.bl hs⟩
    | any =>
      have he : (match (lstOf d).bind boolsOf with | some bs => Res.ok (D.bl (bs.any id)) | none => .stuck) = .ok z := he
      cases e1 : (lstOf d).bind boolsOf with
      | none => rw [e1] at he; cases he
      | some is =>
        rw [e1] at he
        have he := Res.ok.inj he; subst he
        obtain ⟨ds, e3, e4⟩ := bools_of_bind e1
        obtain ⟨a, vs, rfl, r1, f1⟩ := lstOf_node hs hx e3
        rw [bools_vals e4 f1] at r1
        exact cr_any hc pins s σ H _ us Q I rv ⟨a, is, rfl, SqL.of r1, q.bl hs⟩
    | int =>
      cases d <;> try (simp [dBlt] at he; done)
      · have he := Res.ok.inj he; subst he
        rw [hx.bl] at rv
        exact call_int1 pins s σ H _ us Q I rv (.inr ⟨_, rfl, q.int hs⟩)
      · have he := Res.ok.inj he; subst he
        rw [hx.int] at rv
        exact call_int1 pins s σ H _ us Q I rv (.inl ⟨_, rfl, q.int hs⟩)
    | str =>
      cases d <;> try (simp [dBlt] at he; done)
      obtain ⟨hl, he⟩ := ite_ok he; subst he
      rw [hx.int] at rv
      exact call_str_int pins s σ H _ us Q I rv ⟨_, rfl, hl, q.str hs⟩
    | sorted =>
      have he : (if k ≤ 1 then (match lstOf d with | some ds => dSorted ds | none => .stuck) else .stuck) = Res.ok z := he
      by_cases hk : k ≤ 1
      · rw [if_pos hk] at he
        cases e1 : lstOf d with
        | none => rw [e1] at he; cases he
        | some ds =>
          rw [e1] at he
          obtain ⟨a, vs, rfl, r1, f1⟩ := lstOf_node hs hx e1
          have f1 := fa_pred hk f1
          have he : dSorted ds = .ok z := he
          unfold dSorted at he
          cases e2 : intsOf ds with
          | some is =>
            simp only [e2] at he
            obtain ⟨hl, he⟩ := ite_ok he; subst he
            rw [ints_vals (k := 0) (H := H) e2 f1] at r1
            refine cr_sortedI pins s σ H _ us Q I rv ⟨a, is, rfl, SqL.of r1, fun ns p hp1 hp2 hp => ?_⟩
            rw [sortI_uniq hp1 hp2]
            exact q p _ hp (Fa2.ints _)
          | none =>
            simp only [e2] at he
            cases e3 : pairsOf ds with
            | none => rw [e3] at he; cases he
            | some ps =>
              simp only [e3] at he
              obtain ⟨hl, he⟩ := ite_ok he; subst he
              obtain ⟨i1, i2⟩ := pairs_vals e3 f1
              refine cr_sortedPO pins s σ H _ us Q I rv ⟨a, vs, kP F, rfl, SqL.of r1, fun v hv => ?_, fun ys p h1 h2 hp => ?_⟩
              · obtain ⟨t, e4, e5⟩ := i2 v hv
                exact ⟨t, e4, hs _ _ e5⟩
              · have hm : ys.map (kP F) = sortP ps := by
                  refine sortP_uniq ?_ ?_
                  · rw [i1]; exact h2.perm.map _
                  · rw [List.pairwise_map]
                    refine List.Pairwise.imp (fun {x y} hxy => ?_) h1
                    have := SrtO.lexB_no.mp hxy
                    rw [leP_iff]; omega
                rw [← hm] at q
                exact q p ys hp (pairs_rep ys fun v hv => i2 v (h2.perm.mem_iff.mp hv))
      · rw [if_neg hk] at he; cases he
    | list =>
      have he : (if k ≤ 1 then (match seqOf d with | some ds => Res.ok (D.lst ds) | none => .stuck) else .stuck) = Res.ok z := he
      by_cases hk : k ≤ 1
      · rw [if_pos hk] at he
        cases e1 : seqOf d with
        | none => rw [e1] at he; cases he
        | some ds =>
          rw [e1] at he
          have he := Res.ok.inj he; subst he
          obtain ⟨a, vs, rfl, r1, f1⟩ := seqOf_node hs hx e1
          rw [← hK] at r1
          exact call_list_of pins s σ H _ us Q I rv ⟨a, vs, rfl, r1, fun l hl => q l vs hl (fa_pred hk f1)⟩
      · rw [if_neg hk] at he; cases he
    | tuple =>
      have he : (if k ≤ 1 then (match lstOf d with | some ds => Res.ok (D.tup ds) | none => .stuck) else .stuck) = Res.ok z := he
      by_cases hk : k ≤ 1
      · rw [if_pos hk] at he
        cases e1 : lstOf d with
        | none => rw [e1] at he; cases he
        | some ds =>
          rw [e1] at he
          have he := Res.ok.inj he; subst he
          obtain ⟨a, vs, rfl, r1, f1⟩ := lstOf_node hs hx e1
          exact call_tuple_of pins s σ H _ us Q I rv ⟨a, vs, rfl, .inl ⟨SqL.of r1, fun l hl => q.tup hs hl (fa_pred hk f1)⟩⟩
      · rw [if_neg hk] at he; cases he
  · have hb : b = .min2 ∨ b = .max2 := by
      cases b <;> simp at hb ⊢
    rcases hb with rfl | rfl
    · unfold dBlt at he
      split at he <;> first
        | (rename_i h; cases h; done)
        | skip
      all_goals first
        | (cases he; done)
        | skip
      rename_i i j _
      obtain ⟨x, y, rfl, hx, hy⟩ := wk2 hw
      have he := Res.ok.inj he; subst he
      rw [RW.int hx, RW.int hy] at rv
      exact call_min2 hc pins s σ H _ us Q I rv ⟨_, _, rfl, q.int hs⟩
    · unfold dBlt at he
      split at he <;> first
        | (rename_i h; cases h; done)
        | skip
      all_goals first
        | (cases he; done)
        | skip
      rename_i i j _
      obtain ⟨x, y, rfl, hx, hy⟩ := wk2 hw
      have he := Res.ok.inj he; subst he
      rw [RW.int hx, RW.int hy] at rv
      exact call_max2 hc pins s σ H _ us Q I rv ⟨_, _, rfl, q.int hs⟩
end
end DL

-- part DLe
set_option Elab.async false
set_option linter.all false
set_option maxRecDepth 100000
/-! DL, part e: what a def promises; a call. -/
namespace DL
open PySem PySem.Spec PyProof.Rows L2

def ArgsR (M : Mo) (F H : Hp) : List Nat → List D → List V → List (List Addr) → Prop
  | [], ds, vs, fo => ds = [] ∧ vs = [] ∧ fo = []
  | 0 :: ms, ds, vs, fo => ∃ d ds' v vs', ds = d :: ds' ∧ vs = v :: vs' ∧ Rep M F d v ∧ ArgsR M F H ms ds' vs' fo
  | (k + 1) :: ms, ds, vs, fo => ∃ d ds' v vs' f fo', ds = d :: ds' ∧ vs = v :: vs' ∧ fo = f :: fo' ∧ Own M F H (k + 1) d v f ∧ ArgsR M F H ms ds' vs' fo'
def OutsR (M : Mo) (F H : Hp) : List Nat → List V → List D → List (List Addr) → Prop
  | [], vs, ds, fo => vs = [] ∧ ds = [] ∧ fo = []
  | 0 :: ms, vs, ds, fo => ∃ v vs', vs = v :: vs' ∧ OutsR M F H ms vs' ds fo
  | (k + 1) :: ms, vs, ds, fo => ∃ d ds' v vs' f fo', ds = d :: ds' ∧ vs = v :: vs' ∧ fo = f :: fo' ∧ Own M F H (k + 1) d v f ∧ OutsR M F H ms vs' ds' fo'
def inL (fo : List (List Addr)) (b : Addr) : Prop := b ∈ fo.flatten
/-- what a def promises -/
def Spec (M : Mo) (f : FnD) : Sp := fun vs H Q E => ∃ ds F fo, ArgsR M F H f.ms ds vs fo ∧ fo.flatten.Nodup ∧ (∀ b ∈ fo.flatten, F b = none) ∧ Same F H ∧ match f.den ds with
  | .ok (r, outs) => ∀ v F' H' fo' fr, Step F H (inL fo) F' H' (fun b => b ∈ fo'.flatten ∨ b ∈ fr) → Same F' H' → OutsR M F' H' f.ms vs outs fo' → Own M F' H' f.rk r v fr → (fo'.flatten ++ fr).Nodup → (∀ b ∈ fo'.flatten ++ fr, F' b = none) → Q v H'
  | .exn c d => XP M E c d F H (inL fo)
  | .stuck => False
theorem ArgsR.len {M : Mo} {F H : Hp} : ∀ {ms : List Nat} {ds : List D} {vs : List V} {fo : List (List Addr)}, ArgsR M F H ms ds vs fo → vs.length = ms.length ∧ ds.length = ms.length
  | [], _, _, _, h => by obtain ⟨rfl, rfl, _⟩ := h; exact ⟨rfl, rfl⟩
  | 0 :: ms, _, _, _, h => by
    obtain ⟨d, ds', v, vs', rfl, rfl, _, h⟩ := h
    simp [h.len]
  | (k + 1) :: ms, _, _, _, h => by
    obtain ⟨d, ds', v, vs', f, fo', rfl, rfl, rfl, _, h⟩ := h
    simp [h.len]

section
variable {M : Mo} {F H F' H' : Hp} {io : List (Nat × V)} {env env' : Env} {σ : St} {fs : Ft}
theorem lent_own {i k : Nat} {d : D} (h : lent env i k = some d) : ownAt env i k d := by
  unfold lent at h
  split at h
  · rename_i j d' e
    by_cases z : j = k
    · rw [if_pos z] at h; cases h; subst z; exact .inl e
    · rw [if_neg z] at h; cases h
  · rename_i j d' e
    by_cases z : j = k
    · rw [if_pos z] at h; cases h; subst z; exact .inr e
    · rw [if_neg z] at h; cases h
  · cases h
/-- the arguments of a call as the callee sees them -/
theorem args_ok (g : GS M F H io env σ fs) {F1 : Hp} (hF : Same F F1) : ∀ {ms : List Nat} {ars : List Ar} {vs : List V} {ds : List D}, argsOf env ms ars = some ds → ArR M F H σ ars vs →
    (∀ i ∈ wksOf ars, ∀ b ∈ fs i, F1 b = H b) → ArgsR M F1 H ms ds vs ((iosOf ars).map fs)
  | [], [], vs, ds, e, h, _ => by
    simp [argsOf] at e
    rw [e, show vs = [] from h]
    exact ⟨rfl, rfl, rfl⟩
  | [], a :: ars, vs, ds, e, h, _ => by cases a <;> simp [argsOf] at e
  | m :: ms, [], vs, ds, e, h, _ => by cases m <;> simp [argsOf] at e
  | 0 :: ms, .d k d :: ars, vs, ds, e, h, w => by
    obtain ⟨v, vs', rfl, r, q⟩ := h
    cases k with
    | succ k => simp [argsOf] at e
    | zero =>
      have e : (argsOf env ms ars).map (d :: ·) = some ds := e
      cases e1 : argsOf env ms ars with
      | none => rw [e1] at e; cases e
      | some es =>
        rw [e1] at e
        have e := Option.some.inj e; subst e
        exact ⟨d, es, v, vs', rfl, rfl, Rep.mono hF r, args_ok (ars := ars) g hF e1 q w⟩
  | 0 :: ms, .wk i :: ars, vs, ds, e, h, w => by
    obtain ⟨v, vs', rfl, r, q⟩ := h
    have e : (match lent env i 1 with | some (.nd .lst ds) => (argsOf env ms ars).map (D.lst ds :: ·) | _ => none) = some ds := e
    split at e
    · rename_i es e2
      cases e1 : argsOf env ms ars with
      | none => rw [e1] at e; cases e
      | some es' =>
        rw [e1] at e
        have e := Option.some.inj e; subst e
        obtain ⟨v', e3, o⟩ := g.own (lent_own e2)
        rw [r] at e3; cases e3
        exact ⟨_, es', v, vs', rfl, rfl, o.freeze hF fun b hb => w i (by simp [wksOf]) b hb, args_ok (ars := ars) g hF e1 q fun j hj => w j (by simp [wksOf, hj])⟩
    · cases e
  | 0 :: ms, .io i :: ars, vs, ds, e, h, w => by simp [argsOf] at e
  | (k + 1) :: ms, .io i :: ars, vs, ds, e, h, w => by
    obtain ⟨v, vs', rfl, r, q⟩ := h
    have e : (match lent env i (k + 1) with | some d => (argsOf env ms ars).map (d :: ·) | none => none) = some ds := e
    cases e2 : lent env i (k + 1) with
    | none => rw [e2] at e; cases e
    | some d =>
      simp only [e2] at e
      cases e1 : argsOf env ms ars with
      | none => rw [e1] at e; cases e
      | some es' =>
        rw [e1] at e
        have e := Option.some.inj e; subst e
        obtain ⟨v', e3, o⟩ := g.own (lent_own e2)
        rw [r] at e3; cases e3
        exact ⟨d, es', v, vs', fs i, _, rfl, rfl, rfl, o.mono hF fun _ _ => rfl, args_ok (ars := ars) g hF e1 q w⟩
  | (k + 1) :: ms, .d _ _ :: ars, vs, ds, e, h, w => by simp [argsOf] at e
  | (k + 1) :: ms, .wk _ :: ars, vs, ds, e, h, w => by simp [argsOf] at e
/-- .. and what they are behind it -/
theorem outs_ok : ∀ {ms : List Nat} {ars : List Ar} {vs : List V} {ds outs : List D} {fo : List (List Addr)}, argsOf env ms ars = some ds → ArR M F H σ ars vs → OutsR M F' H' ms vs outs fo →
    (iosOf ars).length = outs.length ∧ outs.length = fo.length ∧ ∀ (n i : Nat), (iosOf ars)[n]? = some i → ∃ (k : Nat) (d0 d : D) (v : V) (f : List Addr), ownAt env i k d0 ∧ σ[i]? = some (some v) ∧ outs[n]? = some d ∧ fo[n]? = some f ∧ Own M F' H' k d v f
  | [], [], vs, ds, outs, fo, e, h, q => by
    obtain ⟨_, rfl, rfl⟩ := q
    exact ⟨rfl, rfl, fun n i e => by simp [iosOf] at e⟩
  | [], a :: ars, vs, ds, _, _, e, h, _ => by cases a <;> simp [argsOf] at e
  | m :: ms, [], vs, ds, _, _, e, h, _ => by cases m <;> simp [argsOf] at e
  | 0 :: ms, .d k d :: ars, vs, ds, outs, fo, e, h, q => by
    obtain ⟨v, vs', rfl, r, h⟩ := h
    obtain ⟨v, vs', e2, q⟩ := q
    cases e2
    cases k with
    | succ k => simp [argsOf] at e
    | zero =>
      have e : (argsOf env ms ars).map (d :: ·) = some ds := e
      cases e1 : argsOf env ms ars with
      | none => rw [e1] at e; cases e
      | some es => exact outs_ok (ars := ars) e1 h q
  | 0 :: ms, .wk i :: ars, vs, ds, outs, fo, e, h, q => by
    obtain ⟨v, vs', rfl, r, h⟩ := h
    obtain ⟨v, vs', e2, q⟩ := q
    cases e2
    have e : (match lent env i 1 with | some (.nd .lst ds) => (argsOf env ms ars).map (D.lst ds :: ·) | _ => none) = some ds := e
    split at e
    · cases e1 : argsOf env ms ars with
      | none => rw [e1] at e; cases e
      | some es => exact outs_ok (ars := ars) e1 h q
    · cases e
  | 0 :: ms, .io i :: ars, vs, ds, _, _, e, h, _ => by simp [argsOf] at e
  | (k + 1) :: ms, .io i :: ars, vs, ds, outs, fo, e, h, q => by
    obtain ⟨v, vs', rfl, r, h⟩ := h
    obtain ⟨d, ds', v, vs', f, fo', rfl, e2, rfl, o, q⟩ := q
    cases e2
    have e : (match lent env i (k + 1) with | some d => (argsOf env ms ars).map (d :: ·) | none => none) = some ds := e
    cases e3 : lent env i (k + 1) with
    | none => rw [e3] at e; cases e
    | some d0 =>
      simp only [e3] at e
      cases e1 : argsOf env ms ars with
      | none => rw [e1] at e; cases e
      | some es' =>
        obtain ⟨i1, i2, i3⟩ := outs_ok (ars := ars) e1 h q
        refine ⟨by simp [iosOf, i1], by simp [i2], fun n j hj => ?_⟩
        cases n with
        | zero =>
          simp [iosOf] at hj
          subst hj
          exact ⟨k + 1, d0, d, v, f, lent_own e3, r, rfl, rfl, o⟩
        | succ n => simpa using i3 n j (by simpa [iosOf] using hj)
  | (k + 1) :: ms, .d _ _ :: ars, vs, ds, _, _, e, h, _ => by simp [argsOf] at e
  | (k + 1) :: ms, .wk _ :: ars, vs, ds, _, _, e, h, _ => by simp [argsOf] at e
theorem putBack_ok : ∀ {is : List Nat} {outs : List D} {env env' : Env}, putBack env is outs = some env' → is.Nodup → env'.length = env.length ∧ (∀ j, j ∉ is → env'[j]? = env[j]?) ∧
    ∀ (n i : Nat) (d : D), is[n]? = some i → outs[n]? = some d → ∀ (k : Nat) (d0 : D), (env[i]? = some (Sl.own k d0) → env'[i]? = some (Sl.own k d)) ∧ (env[i]? = some (Sl.io k d0) → env'[i]? = some (Sl.io k d))
  | [], [], env, env', h, _ => by
    cases h
    exact ⟨rfl, fun _ _ => rfl, fun n i d e => by simp at e⟩
  | [], _ :: _, env, env', h, _ => by cases h
  | _ :: _, [], env, env', h, _ => by cases h
  | i :: is, d :: outs, env, env', h, nd => by
    obtain ⟨n1, n2⟩ := List.nodup_cons.mp nd
    unfold putBack at h
    split at h
    · rename_i k d0 e
      obtain ⟨i1, i2, i3⟩ := putBack_ok h n2
      refine ⟨by rw [i1, List.length_set], fun j hj => ?_, fun n j d' hj hd k' d0' => ?_⟩
      · rw [i2 j fun z => hj (by simp [z]), List.getElem?_set_ne fun z => hj (by simp [z])]
      · cases n with
        | zero =>
          simp at hj hd
          subst hj; subst hd
          rw [i2 i n1, List.getElem?_set_self (lt_of_get e), e]
          exact ⟨(fun z => by cases z; rfl), fun z => by cases z⟩
        | succ n =>
          have hj : is[n]? = some j := by simpa using hj
          have ne : i ≠ j := fun z => n1 (z ▸ List.mem_of_getElem? hj)
          have := i3 n j d' hj (by simpa using hd) k' d0'
          rw [List.getElem?_set_ne ne] at this
          exact this
    · rename_i k d0 e
      obtain ⟨i1, i2, i3⟩ := putBack_ok h n2
      refine ⟨by rw [i1, List.length_set], fun j hj => ?_, fun n j d' hj hd k' d0' => ?_⟩
      · rw [i2 j fun z => hj (by simp [z]), List.getElem?_set_ne fun z => hj (by simp [z])]
      · cases n with
        | zero =>
          simp at hj hd
          subst hj; subst hd
          rw [i2 i n1, List.getElem?_set_self (lt_of_get e), e]
          exact ⟨(fun z => by cases z), fun z => by cases z; rfl⟩
        | succ n =>
          have hj : is[n]? = some j := by simpa using hj
          have ne : i ≠ j := fun z => n1 (z ▸ List.mem_of_getElem? hj)
          have := i3 n j d' hj (by simpa using hd) k' d0'
          rw [List.getElem?_set_ne ne] at this
          exact this
    · cases h
/-- what the slots own behind a call -/
def putF (fs : Ft) (is : List Nat) (fo : List (List Addr)) : Ft := fun i => if i ∈ is then (fo[is.idxOf i]?).getD [] else fs i
theorem putF_in {is : List Nat} {fo : List (List Addr)} (nd : is.Nodup) {n i : Nat} {f : List Addr} (h : is[n]? = some i) (hf : fo[n]? = some f) : putF fs is fo i = f := by
  unfold putF
  have hm := List.mem_of_getElem? h
  rw [if_pos hm]
  have e : is.idxOf i = n := by
    obtain ⟨h1, h2⟩ := List.getElem?_eq_some_iff.mp h
    rw [← h2]
    exact List.Nodup.idxOf_getElem nd n h1
  rw [e, hf]; rfl
theorem putF_out {is : List Nat} {fo : List (List Addr)} {i : Nat} (h : i ∉ is) : putF fs is fo i = fs i := if_neg h
/-- nothing in data without lists stands at a list's place -/
theorem noLst_out {F1 : Hp} (hF : ∀ b o, F b = some o → (∀ xs, o ≠ .lst xs) → F1 b = some o) : ∀ {d : D} {v : V}, noLst d = true → Rep M F d v → Rep M F1 d v := by
  intro d
  induction d using D.rec (motive_2 := fun ds => ∀ vs, noLsts ds = true → Reps M F ds vs → Reps M F1 ds vs) with
  | non => intro v _ h; simpa [Rep] using h
  | bl b => intro v _ h; simpa [Rep] using h
  | int i => intro v _ h; simpa [Rep] using h
  | str x => intro v _ h; simpa [Rep] using h
  | nd k ds ih =>
    intro v n h
    simp only [Rep] at h ⊢
    obtain ⟨a, vs, e, r, q⟩ := h
    cases k with
    | tup => exact ⟨a, vs, e, hF a _ r (by simp), ih vs (by simpa [noLst] using n) q⟩
    | _ => simp [noLst] at n
  | nil => rename_i vs _ h; simpa [Reps] using h
  | cons d ds ih1 ih2 =>
    rename_i vs n h
    have n := Bool.and_eq_true_iff.mp (show (noLst d && noLsts ds) = true from n)
    simp only [Reps] at h ⊢
    obtain ⟨v, vs', e, r, q⟩ := h
    exact ⟨v, vs', e, ih1 n.1 r, ih2 vs' n.2 q⟩

theorem own_noLst {F1 : Hp} (hF : ∀ b o, F b = some o → (∀ xs, o ≠ .lst xs) → F1 b = some o) : ∀ {k : Nat} {d : D} {v : V} {f : List Addr}, noLstK k d = true → Own M F H k d v f → Own M F1 H k d v f
  | 0, _, _, _, n, h => ⟨noLst_out hF n h.1, h.2⟩
  | k + 1, d, v, f, n, h => by
    cases d with
    | nd kd ds =>
      obtain ⟨a, vs, ex, fps, e, o, q, e2⟩ := h
      have n : ds.all (noLstK k) = true := n
      exact ⟨a, vs, ex, fps, e, o, q.mono fun d hd v f _ x => own_noLst hF (List.all_eq_true.mp n d hd) x, e2⟩
    | non => exact ⟨noLst_out hF rfl h.1, h.2⟩
    | bl b => exact ⟨noLst_out hF rfl h.1, h.2⟩
    | int b => exact ⟨noLst_out hF rfl h.1, h.2⟩
    | str b => exact ⟨noLst_out hF rfl h.1, h.2⟩
theorem outsR_noLst {F1 : Hp} (hF : ∀ b o, F b = some o → (∀ xs, o ≠ .lst xs) → F1 b = some o) : ∀ {ms : List Nat} {vs : List V} {ds : List D} {fo : List (List Addr)}, noOuts ms ds = true → OutsR M F H ms vs ds fo → OutsR M F1 H ms vs ds fo
  | [], _, _, _, _, h => h
  | 0 :: ms, _, _, _, n, h => by
    obtain ⟨v, vs', rfl, h⟩ := h
    exact ⟨v, vs', rfl, outsR_noLst hF n h⟩
  | (k + 1) :: ms, _, _, _, n, h => by
    obtain ⟨d, ds', v, vs', f, fo', rfl, rfl, rfl, o, h⟩ := h
    have n := Bool.and_eq_true_iff.mp (show (noLstK (k + 1) d && noOuts ms ds') = true from n)
    exact ⟨d, ds', v, vs', f, fo', rfl, rfl, rfl, own_noLst hF n.1 o, outsR_noLst hF n.2 h⟩
theorem mem_ios {G : GS M F H io env σ fs} {is : List Nat} {b : Addr} (h : b ∈ (is.map fs).flatten) : ∃ i ∈ is, b ∈ fs i := by
  obtain ⟨l, hl, hb⟩ := List.mem_flatten.mp h
  obtain ⟨i, hi, rfl⟩ := List.mem_map.mp hl
  exact ⟨i, hi, hb⟩
theorem nodup_ios (g : GS M F H io env σ fs) : ∀ {is : List Nat}, is.Nodup → (is.map fs).flatten.Nodup
  | [], _ => by simp
  | i :: is, h => by
    obtain ⟨h1, h2⟩ := List.nodup_cons.mp h
    rw [List.map_cons, List.flatten_cons, List.nodup_append]
    refine ⟨g.nd i, nodup_ios g h2, fun a ha b hb z => ?_⟩
    obtain ⟨j, hj, hb⟩ := mem_ios (G := g) hb
    subst z
    exact g.dj i j a (fun z => h1 (z ▸ hj)) ha hb
theorem flat_get {fo : List (List Addr)} {n : Nat} {f : List Addr} (h : fo[n]? = some f) {b : Addr} (hb : b ∈ f) : b ∈ fo.flatten := List.mem_flatten.mpr ⟨f, List.mem_of_getElem? h, hb⟩
theorem nodup_two {fo : List (List Addr)} : fo.flatten.Nodup → ∀ {m n : Nat} {f g : List Addr}, m ≠ n → fo[m]? = some f → fo[n]? = some g → ∀ b, b ∈ f → b ∉ g := by
  induction fo with
  | nil => intro _ m n f g _ h; simp at h
  | cons x fo ih =>
    intro nd m n f g ne h1 h2 b hb hb2
    rw [List.flatten_cons, List.nodup_append] at nd
    obtain ⟨n1, n2, n3⟩ := nd
    cases m with
    | zero =>
      cases n with
      | zero => exact ne rfl
      | succ n =>
        simp at h1 h2
        subst h1
        exact n3 b hb b (flat_get h2 hb2) rfl
    | succ m =>
      cases n with
      | zero =>
        simp at h1 h2
        subst h2
        exact n3 b hb2 b (flat_get h1 hb) rfl
      | succ n =>
        simp at h1 h2
        exact ih n2 (by omega) h1 h2 b hb hb2
theorem nodup_part {fo : List (List Addr)} (h : fo.flatten.Nodup) {n : Nat} {f : List Addr} (hf : fo[n]? = some f) : f.Nodup := by
  induction fo generalizing n with
  | nil => simp at hf
  | cons x fo ih =>
    rw [List.flatten_cons, List.nodup_append] at h
    cases n with
    | zero => simp at hf; subst hf; exact h.1
    | succ n => exact ih h.2.1 (by simpa using hf)
/-- THE CALL, by data -/
theorem call_spec {G : Fr} {f : FnD} {ars : List Ar} {vs : List V} {Q : VK} {r0 : Res (D × Env)} {k : D → Env → Hp → Hp → Ft → Prop} {p : Bool} (g : GS G.M F H G.io env σ fs) (ha : ArR G.M F H σ ars vs)
    (h : match callD f ars env with
      | .ok (r, env') => ∀ F' H' fs' v fr, GS G.M F' H' G.io env' σ fs' → Step F H fs.at F' H' (atW fs' fr) → (f.ms.all (· == 0) = true → Same H H') → Own G.M F' H' f.rk r v fr → fr.Nodup → Apart fs' fr → (∀ b ∈ fr, F' b = none) → Q v H'
      | .exn c d => XP G.M G.E c d F H fs.at
      | .stuck => False) : Spec G.M f vs H Q G.E := by
  unfold callD at h
  cases e : argsOf env f.ms ars with
  | none => rw [e] at h; exact h.elim
  | some ds =>
    simp only [e] at h
    by_cases hn : (iosOf ars).Nodup ∧ ∀ i ∈ wksOf ars, i ∉ iosOf ars
    · rw [if_pos hn] at h
      obtain ⟨nd, hw⟩ := hn
      -- what is lent for reading stands still for the while
      let wk : List Addr := ((wksOf ars).map fs).flatten
      have hF1 : Same F (frz F H wk) := frz_same g.fh
      have inwk : ∀ b ∈ wk, ∃ i ∈ wksOf ars, b ∈ fs i := fun b hb => mem_ios (G := g) hb
      have ofwk : ∀ i ∈ wksOf ars, ∀ b ∈ fs i, b ∈ wk := fun i hi b hb => List.mem_flatten.mpr ⟨fs i, List.mem_map.mpr ⟨i, hi, rfl⟩, hb⟩
      have iosat : ∀ b ∈ ((iosOf ars).map fs).flatten, fs.at b ∧ b ∉ wk := fun b hb => by
        obtain ⟨i, hi, hb⟩ := mem_ios (G := g) hb
        refine ⟨⟨i, hb⟩, fun z => ?_⟩
        obtain ⟨j, hj, hb2⟩ := inwk b z
        exact g.dj i j b (fun z => hw j hj (z ▸ hi)) hb hb2
      refine ⟨ds, frz F H wk, (iosOf ars).map fs, args_ok g hF1 e ha fun i hi b hb => frz_in (ofwk i hi b hb), nodup_ios g nd, fun b hb => ?_, frz_sub g.fh, ?_⟩
      · rw [frz_out (iosat b hb).2]
        obtain ⟨i, hi, hb⟩ := mem_ios (G := g) hb
        exact g.fn i b hb
      · cases ed : f.den ds with
        | stuck => rw [ed] at h; exact h
        | exn c d =>
          rw [ed] at h
          intro cls dx F' H' P' st s2 ex
          have h : XP G.M G.E c d F H fs.at := h
          refine h cls dx F' H' fs.at ⟨hF1.trans st.ff, fun b o q n => st.fr b o q fun z => n (iosat b z).1, fun b hb => ?_, fun b hb => .inl hb⟩ s2 ex
          rcases st.nw b hb with z | z | z
          · by_cases w : b ∈ wk
            · obtain ⟨i, _, hi⟩ := inwk b w
              exact .inr (.inr ⟨i, hi⟩)
            · rw [frz_out w] at z; exact .inl z
          · exact .inr (.inl z)
          · exact .inr (.inr (iosat b z).1)
        | ok ro =>
          obtain ⟨r, outs⟩ := ro
          simp only [ed, Res.bind_ok] at h
          intro v F' H' fo' fr st s2 ho own ndo fno
          cases ep : putBack env (iosOf ars) outs with
          | none => rw [ep] at h; exact h.elim
          | some env' =>
            simp only [ep] at h
            by_cases hl : wksOf ars = [] ∨ (noLst r = true ∧ f.rk = 0 ∧ noOuts f.ms outs = true)
            · rw [if_pos hl] at h
              obtain ⟨l1, l2, l3⟩ := outs_ok e ha ho
              obtain ⟨p1, p2, p3⟩ := putBack_ok ep nd
              obtain ⟨ndo1, ndo2, ndo3⟩ := List.nodup_append.mp ndo
              -- the slots' things behind it
              have hdiff : ∀ i b, i ∉ iosOf ars → b ∈ fs i → b ∉ ((iosOf ars).map fs).flatten := fun i b hi hb z => by
                obtain ⟨j, hj, hb2⟩ := mem_ios (G := g) z
                exact g.dj i j b (fun z => hi (z ▸ hj)) hb hb2
              have hkeep : ∀ i b, i ∉ iosOf ars → b ∈ fs i → H' b = H b := fun i b hi hb => by
                cases q : H b with
                | none => exact absurd q (g.hd hb)
                | some o => exact st.fr b o q (hdiff i b hi hb)
              have hnew : ∀ b, b ∈ fo'.flatten ∨ b ∈ fr → ∀ i, i ∉ iosOf ars → b ∉ fs i := fun b hb i hi hb2 => by
                rcases st.own b hb with z | z
                · exact hdiff i b hi hb2 z
                · exact g.hd hb2 z
              let F2 : Hp := fun b => if b ∈ wk then none else F' b
              have f2o : ∀ b, b ∉ wk → F2 b = F' b := fun b hb => if_neg hb
              have f2i : ∀ b, b ∈ wk → F2 b = none := fun b hb => if_pos hb
              have hFF2 : Same F F2 := fun b o q => by
                have nb : b ∉ wk := fun z => by
                  obtain ⟨i, _, hi⟩ := inwk b z
                  rw [g.fn i b hi] at q; cases q
                rw [f2o b nb]
                exact st.ff b o (hF1 b o q)
              have hF2H : Same F2 H' := fun b o q => by
                by_cases nb : b ∈ wk
                · rw [f2i b nb] at q; cases q
                · rw [f2o b nb] at q; exact s2 b o q
              have fnone : ∀ i b, i ∉ iosOf ars → b ∈ fs i → F2 b = none := fun i b hi hb => by
                by_cases nb : b ∈ wk
                · exact f2i b nb
                · rw [f2o b nb]
                  cases q : F' b with
                  | none => rfl
                  | some o =>
                    exfalso
                    rcases st.nw b (by rw [q]; simp) with z | z | z
                    · rw [frz_out nb, g.fn i b hb] at z; exact z rfl
                    · exact g.hd hb z
                    · exact hdiff i b hi hb z
              have both : Own G.M F2 H' f.rk r v fr ∧ OutsR G.M F2 H' f.ms vs outs fo' := by
                rcases hl with hl | hl
                · have ew : wk = [] := by show ((wksOf ars).map fs).flatten = []; rw [hl]; rfl
                  have ef : F2 = F' := funext fun b => f2o b (by rw [ew]; simp)
                  rw [ef]; exact ⟨own, ho⟩
                · have hx : ∀ b o, F' b = some o → (∀ xs, o ≠ .lst xs) → F2 b = some o := fun b o q nl => by
                    by_cases nb : b ∈ wk
                    · exfalso
                      obtain ⟨i, hi, hb⟩ := inwk b nb
                      -- a list stands there
                      have key : ∃ xs, H b = some (.lst xs) := by
                        have : ∀ {ms : List Nat} {ars : List Ar} {ds : List D}, argsOf env ms ars = some ds → i ∈ wksOf ars → ∃ es, ownAt env i 1 (.lst es) := by
                          intro ms ars
                          induction ars generalizing ms with
                          | nil => intro ds _ hi; simp [wksOf] at hi
                          | cons a ars ih =>
                            intro ds e hi
                            cases ms with
                            | nil => cases a <;> simp [argsOf] at e
                            | cons m ms =>
                              cases a with
                              | d k d =>
                                cases m with
                                | succ m => simp [argsOf] at e
                                | zero =>
                                  cases k with
                                  | succ k => simp [argsOf] at e
                                  | zero =>
                                    have e : (argsOf env ms ars).map (d :: ·) = some ds := e
                                    cases e1 : argsOf env ms ars with
                                    | none => rw [e1] at e; cases e
                                    | some es => exact ih e1 (by simpa [wksOf] using hi)
                              | io j =>
                                cases m with
                                | zero => simp [argsOf] at e
                                | succ m =>
                                  have e : (match lent env j (m + 1) with | some d => (argsOf env ms ars).map (d :: ·) | none => none) = some ds := e
                                  cases e3 : lent env j (m + 1) with
                                  | none => rw [e3] at e; cases e
                                  | some d0 =>
                                    simp only [e3] at e
                                    cases e1 : argsOf env ms ars with
                                    | none => rw [e1] at e; cases e
                                    | some es => exact ih e1 (by simpa [wksOf] using hi)
                              | wk j =>
                                cases m with
                                | succ m => simp [argsOf] at e
                                | zero =>
                                  have e : (match lent env j 1 with | some (.nd .lst ds) => (argsOf env ms ars).map (D.lst ds :: ·) | _ => none) = some ds := e
                                  split at e
                                  · rename_i es e2
                                    rcases List.mem_cons.mp (show i ∈ j :: wksOf ars from hi) with z | z
                                    · subst z; exact ⟨es, lent_own e2⟩
                                    · cases e1 : argsOf env ms ars with
                                      | none => rw [e1] at e; cases e
                                      | some es' => exact ih e1 z
                                  · cases e
                        obtain ⟨es, oa⟩ := this e hi
                        obtain ⟨v', _, a, vs', ex, fps, _, oA, fa, ef⟩ := g.own oa
                        obtain ⟨h1, rfl⟩ := oA
                        have fpn : ∀ {ds : List D} {vs : List V} {fp : List Addr}, Fa3 (Own G.M F H 0) ds vs fp → fp = [] := by
                          intro ds
                          induction ds with
                          | nil => intro vs fp h; exact h.2
                          | cons d ds ih =>
                            intro vs fp h
                            obtain ⟨v, vs', f1, f2, rfl, rfl, a1, b1⟩ := h
                            rw [a1.2, ih b1]; rfl
                        rw [ef, fpn fa] at hb
                        simp at hb
                        subst hb
                        exact ⟨vs', h1⟩
                      obtain ⟨xs, hx⟩ := key
                      have h3 := hkeep i b (hw i hi) hb
                      rw [hx, s2 b o q] at h3
                      cases h3
                      exact nl xs rfl
                    · rw [f2o b nb]; exact q
                  rw [hl.2.1] at own ⊢
                  exact ⟨⟨noLst_out hx hl.1 own.1, own.2⟩, outsR_noLst hx hl.2.2 ho⟩
              obtain ⟨own2, ho2⟩ := both
              obtain ⟨_, _, l3⟩ := outs_ok e ha ho2
              -- a lent slot, its place among them
              have pos : ∀ i, i ∈ iosOf ars → ∃ (n k : Nat) (d0 d : D) (w : V) (f1 : List Addr), (iosOf ars)[n]? = some i ∧ fo'[n]? = some f1 ∧ putF fs (iosOf ars) fo' i = f1 ∧ ownAt env i k d0 ∧ σ[i]? = some (some w) ∧ outs[n]? = some d ∧ Own G.M F2 H' k d w f1 := fun i hi => by
                obtain ⟨n, hn⟩ := List.getElem?_of_mem hi
                obtain ⟨k, d0, d, w, f1, a1, a2, a3, a4, a5⟩ := l3 n i hn
                exact ⟨n, k, d0, d, w, f1, hn, a4, putF_in nd hn a4, a1, a2, a3, a5⟩
              have inF : ∀ i, i ∈ iosOf ars → ∀ b ∈ putF fs (iosOf ars) fo' i, b ∈ fo'.flatten := fun i hi b hb => by
                obtain ⟨n, k, d0, d, w, f1, a1, a2, a3, _⟩ := pos i hi
                rw [a3] at hb
                exact flat_get a2 hb
              have fF2 : ∀ b, b ∈ fo'.flatten ∨ b ∈ fr → F2 b = none := fun b hb => by
                by_cases nb : b ∈ wk
                · exact f2i b nb
                · rw [f2o b nb]; exact fno b (List.mem_append.mpr hb)
              refine h F2 H' (putF fs (iosOf ars) fo') v fr ⟨by rw [p1]; exact g.len, fun i s es => ?_, fun i => ?_, fun i j b ne hb hb2 => ?_, fun i b hb => ?_, fun i es => ?_, hF2H, fun q hq => ?_⟩ ⟨hFF2, fun b o q n => ?_, fun b hb => ?_, fun b hb => ?_⟩ (fun hz => ?_) own2 ndo2 (fun i b hb => ?_) (fun b hb => fF2 b (.inr hb))
              · by_cases hi : i ∈ iosOf ars
                · obtain ⟨n, k, d0, d, w, f1, a1, a2, a3, a4, a5, a6, a7⟩ := pos i hi
                  refine ⟨some w, a5, ?_⟩
                  rw [a3]
                  have q := p3 n i d a1 a6 k d0
                  rcases a4 with a4 | a4
                  · rw [q.1 a4] at es; cases es; exact ⟨w, rfl, a7⟩
                  · rw [q.2 a4] at es; cases es; exact ⟨w, rfl, a7⟩
                · rw [p2 i hi] at es
                  obtain ⟨x, e1, e2⟩ := g.sl i s es
                  refine ⟨x, e1, ?_⟩
                  rw [putF_out hi]
                  exact e2.mono hFF2 fun b hb => hkeep i b hi hb
              · by_cases hi : i ∈ iosOf ars
                · obtain ⟨n, k, d0, d, w, f1, a1, a2, a3, _⟩ := pos i hi
                  rw [a3]; exact nodup_part ndo1 a2
                · rw [putF_out hi]; exact g.nd i
              · by_cases hi : i ∈ iosOf ars
                · by_cases hj : j ∈ iosOf ars
                  · obtain ⟨n, k, d0, d, w, f1, a1, a2, a3, _⟩ := pos i hi
                    obtain ⟨m, _, _, _, _, f3, c1, c2, c3, _⟩ := pos j hj
                    rw [a3] at hb; rw [c3] at hb2
                    exact nodup_two ndo1 (fun z => ne (by rw [z] at a1; rw [a1] at c1; exact Option.some.inj c1)) a2 c2 b hb hb2
                  · rw [putF_out hj] at hb2
                    exact hnew b (.inl (inF i hi b hb)) j hj hb2
                · rw [putF_out hi] at hb
                  by_cases hj : j ∈ iosOf ars
                  · exact hnew b (.inl (inF j hj b hb2)) i hi hb
                  · rw [putF_out hj] at hb2
                    exact g.dj i j b ne hb hb2
              · by_cases hi : i ∈ iosOf ars
                · exact fF2 b (.inl (inF i hi b hb))
                · rw [putF_out hi] at hb; exact fnone i b hi hb
              · have hi : i ∉ iosOf ars := fun hi => by
                  obtain ⟨n, k, d0, d, w, f1, a1, a2, a3, a4, _⟩ := pos i hi
                  have l : i < env.length := by rcases a4 with a4 | a4 <;> exact lt_of_get a4
                  rw [List.getElem?_eq_none_iff, p1] at es
                  omega
                rw [putF_out hi]
                rw [p2 i hi] at es
                exact g.out i es
              · obtain ⟨q1, k, d, q2⟩ := g.io q hq
                refine ⟨q1, ?_⟩
                by_cases hi : q.1 ∈ iosOf ars
                · obtain ⟨n, k2, d0, d2, w, f1, a1, a2, a3, a4, a5, a6, a7⟩ := pos _ hi
                  exact ⟨k, d2, (p3 n q.1 d2 a1 a6 k d).2 q2⟩
                · exact ⟨k, d, by rw [p2 _ hi]; exact q2⟩
              · refine st.fr b o q fun z => n ?_
                obtain ⟨i, _, hb⟩ := mem_ios (G := g) z
                exact ⟨i, hb⟩
              · by_cases nb : b ∈ wk
                · exact absurd (f2i b nb) hb
                · rw [f2o b nb] at hb
                  rcases st.nw b hb with z | z | z
                  · rw [frz_out nb] at z; exact .inl z
                  · exact .inr (.inl z)
                  · obtain ⟨i, _, hb⟩ := mem_ios (G := g) z
                    exact .inr (.inr ⟨i, hb⟩)
              · have key : b ∈ fo'.flatten ∨ b ∈ fr → fs.at b ∨ H b = none := fun hb => by
                  rcases st.own b hb with z | z
                  · obtain ⟨i, _, hb⟩ := mem_ios (G := g) z
                    exact .inl ⟨i, hb⟩
                  · exact .inr z
                rcases hb with ⟨i, hb⟩ | hb
                · by_cases hi : i ∈ iosOf ars
                  · exact key (.inl (inF i hi b hb))
                  · rw [putF_out hi] at hb; exact .inl ⟨i, hb⟩
                · exact key (.inr hb)
              · have ei : iosOf ars = [] := by
                  have : ∀ {ms : List Nat} {ars : List Ar} {ds : List D}, argsOf env ms ars = some ds → ms.all (· == 0) = true → iosOf ars = [] := by
                    intro ms ars
                    induction ars generalizing ms with
                    | nil => intro ds _ _; rfl
                    | cons a ars ih =>
                      intro ds e hz
                      cases ms with
                      | nil => cases a <;> simp [argsOf] at e
                      | cons m ms =>
                        simp only [List.all_cons, Bool.and_eq_true] at hz
                        obtain ⟨hz1, hz2⟩ := hz
                        have hz1 : m = 0 := by simpa using hz1
                        subst hz1
                        cases a with
                        | io j => simp [argsOf] at e
                        | d k d =>
                          cases k with
                          | succ k => simp [argsOf] at e
                          | zero =>
                            have e : (argsOf env ms ars).map (d :: ·) = some ds := e
                            cases e1 : argsOf env ms ars with
                            | none => rw [e1] at e; cases e
                            | some es => exact ih e1 hz2
                        | wk j =>
                          have e : (match lent env j 1 with | some (.nd .lst ds) => (argsOf env ms ars).map (D.lst ds :: ·) | _ => none) = some ds := e
                          split at e
                          · cases e1 : argsOf env ms ars with
                            | none => rw [e1] at e; cases e
                            | some es' => exact ih e1 hz2
                          · cases e
                  exact this e hz
                exact fun b o q => st.fr b o q (by rw [ei]; simp [inL])
              · intro hb2
                by_cases hi : i ∈ iosOf ars
                · exact ndo3 b (inF i hi b hb) b hb2 rfl
                · rw [putF_out hi] at hb
                  exact hnew b (.inr hb2) i hi hb
            · rw [if_neg hl] at h; exact h.elim
    · rw [if_neg hn] at h; exact h.elim
end
end DL

-- part DLf
set_option Elab.async false
set_option linter.all false
set_option maxRecDepth 100000
/-! DL, part f: expressions. -/
namespace DL
open PySem PySem.Spec PyProof.Rows L2

/-- the context of a frame -/
structure CO (CXv : CXT) (X : Cx) (G : Fr) (N : List Str) (sc : Scope) (lv : Nat) : Prop where
  K : X.K = G.M.K
  calm : X.calm = true
  hN : X.N = N
  sc : X.env.scope = sc
  nd : N.Nodup
  room : Room lv X.A
  nb : ∀ b : Blt, X.mg b.nm = none
  nr : X.mg "range" = none
  ne : X.mg "enumerate" = none
  nz : X.mg "zip" = none
  pass : Passes CXv X G.E
  pass0 : ∀ X', Passes CXv X' E0
theorem CO.hu {CXv : CXT} {X : Cx} {G : Fr} {N : List Str} {sc : Scope} {lv : Nat} (c : CO CXv X G N sc lv) : X.A.units + 64 < cLine := c.room.units

section
variable {X : Cx} {G : Fr} {σ : St} {H F : Hp} {p pa pb : Bool}
theorem pe_imp {x : Expr} {t t' : TE} (h : PE X x t) (i : ∀ σ H Q, t' σ H Q → t σ H Q) : PE X x t' := ⟨fun pins s σ H Q I q => h.run pins s σ H Q I (i σ H Q q)⟩
theorem pt_imp {x : Expr} {t t' : TT} (h : PT X x t) (i : ∀ σ H Q, t' σ H Q → t σ H Q) : PT X x t' := ⟨fun pins s σ H Q I q => h.run pins s σ H Q I (i σ H Q q)⟩
theorem pa_imp {x : List Expr} {t t' : TA} (h : PA X x t) (i : ∀ σ H Q, t' σ H Q → t σ H Q) : PA X x t' := ⟨fun pos pins s σ H Q I q => h.run pos pins s σ H Q I (i σ H Q q)⟩
theorem po_imp {x : Option Expr} {t t' : TO} (h : PO X x t) (i : ∀ σ H Q, t' σ H Q → t σ H Q) : PO X x t' := ⟨fun pins s σ H Q I q => h.run pins s σ H Q I (i σ H Q q)⟩
/-- an operation on two values, its answer new -/
theorem two {ra rb : Env → Res (Wk × Env)} {f : Wk → Wk → Res D} {Q : VK} {R : V → V → Hp → Prop}
    (h : tN G (pa && pb) (fun env => (ra env).bind fun (x, env) => if x.1 = 0 ∨ pb = true then (rb env).bind fun (y, env) => (f x y).bind fun d => .ok ((0, d), env) else .stuck) σ H Q)
    (hf : ∀ x y v w F H, Same F H → RW G.M F H x.1 x.2 v → RW G.M F H y.1 y.2 w → (∃ d, f x y = .ok d ∧ Nw G.M F H d Q) → R v w H)
    (fx : ∀ x y c d, f x y ≠ .exn c d) : tE G pa ra σ H fun v H1 => tE G pb rb σ H1 fun w H2 => R v w H2 := by
  obtain ⟨env, F, fs, g, q⟩ := h
  refine ⟨env, F, fs, g, q.bind (p2 := pb) (fun z => Bool.and_eq_true_iff.mp z) fun x env1 F1 H1 fs1 _ g1 s1 t1 q1 v rv => ?_⟩
  by_cases hc : x.1 = 0 ∨ pb = true
  · simp only [if_pos hc] at q1
    refine ⟨env1, F1, fs1, g1, q1.bind (p2 := true) (fun z => ⟨z, rfl⟩) fun y env2 F2 H2 fs2 _ g2 s2 t2 q2 w rw => ?_⟩
    have rv2 : RW G.M F2 H2 x.1 x.2 v := by
      rcases hc with hc | hc
      · rw [hc] at rv ⊢; exact Rep.mono s2.ff rv
      · exact rv.mono s2.ff (t2 hc)
    refine hf x y v w F2 H2 g2.fh rv2 rw ?_
    cases e : f x y with
    | stuck => rw [e] at q2; exact q2.elim
    | exn c d => exact absurd e (fx x y c d)
    | ok d =>
      rw [e] at q2
      exact ⟨d, rfl, q2.done g2 rfl⟩
  · simp only [if_neg hc] at q1
    exact q1.elim
theorem dBin_fx (op : Bop) (x y : Wk) (c : Nat) (d : D) : dBin op x y ≠ .exn c d := by
  intro h
  obtain ⟨i, x⟩ := x
  obtain ⟨j, y⟩ := y
  unfold dBin at h
  split at h <;> (try cases h) <;> (split at h <;> cases h)
theorem n_bin (hK : X.K = G.M.K) {a b : E} {x y : Expr} {op : Bop} {pos : Pos} (ha : PE X x (tE G a.pure (ev a))) (hb : PE X y (tE G b.pure (ev b))) : PE X (.BinOp x op.py y pos) (tN G (E.bin op a b).pure (ev (.bin op a b))) :=
  pe_imp (pe_op (op_bin hK op) ha hb) fun σ H Q h => two h (fun x y v w F H hs rv rw ⟨d, e, n⟩ => ⟨F, x.1, x.2, y.1, y.2, d, hs, rv, rw, e, n⟩) (dBin_fx op)
theorem s_bin (hK : X.K = G.M.K) {a b : E} {x y : Expr} {op : Bop} {pos : Pos} (ha : PE X x (tE G a.pure (ev a))) (hb : PE X y (tE G b.pure (ev b))) : PE X (.BinOp x op.py y pos) (tE G (E.bin op a b).pure (ev (.bin op a b))) :=
  pe_imp (pe_op (op_bin hK op) ha hb) fun σ H Q h => two (tE_N h) (fun x y v w F H hs rv rw ⟨d, e, n⟩ => ⟨F, x.1, x.2, y.1, y.2, d, hs, rv, rw, e, n⟩) (dBin_fx op)

theorem dIdx_fx (x : Wk) (y : D) (c : Nat) (d : D) : dIdx x y ≠ .exn c d := by
  intro h
  obtain ⟨i, x⟩ := x
  unfold dIdx at h
  split at h <;> (try cases h)
  all_goals
    split at h <;> (try cases h)
  all_goals
    split at h <;> cases h
theorem dEq_fx (x y : D) (c : Nat) (d : D) : dEq x y ≠ .exn c d := by
  intro h
  unfold dEq at h
  split at h
  · cases h
  · unfold dEqN at h
    split at h <;> cases h
theorem dIn_fx (x : D) (y : Wk) (c : Nat) (d : D) : dIn x y ≠ .exn c d := by
  intro h
  unfold dIn at h
  split at h <;> (try cases h)
  all_goals
    split at h <;> cases h
theorem dCmp_fx (op : Cop) (x y : Wk) (c : Nat) (d : D) : dCmp op x y ≠ .exn c d := by
  intro h
  obtain ⟨i, x⟩ := x
  obtain ⟨j, y⟩ := y
  unfold dCmp at h
  split at h <;> (try cases h)
  · exact dEq_fx _ _ _ _ h
  · rename_i _ d' _ e' _ _
    cases e : dEq d' e' with
    | ok b => rw [e] at h; cases h
    | stuck => rw [e] at h; cases h
    | exn c d => exact dEq_fx _ _ _ _ e
  · exact dIn_fx _ _ _ _ h
  · rename_i d' x'
    cases e : dIn d' (j, y) with
    | ok b => rw [e] at h; cases h
    | stuck => rw [e] at h; cases h
    | exn c d => exact dIn_fx _ _ _ _ e
/-- an operation on two values, its answer of any kind -/
theorem two' {α : Type} {ra rb : Env → Res (Wk × Env)} {f : Wk → Wk → Res α} {g' : α → Wk} {Q : VK} {R : V → V → Hp → Prop}
    (h : ∃ env F fs, GS G.M F H G.io env σ fs ∧ Pst G (pa && pb) σ F H fs ((ra env).bind fun (x, env) => if x.1 = 0 ∨ pb = true then (rb env).bind fun (y, env) => (f x y).bind fun d => Res.ok (g' d, env) else .stuck) fun x _ F' H' _ => ∀ v, RW G.M F' H' x.1 x.2 v → Q v H')
    (hf : ∀ x y v w F H, Same F H → RW G.M F H x.1 x.2 v → RW G.M F H y.1 y.2 w → (∃ d, f x y = .ok d ∧ ∀ v, RW G.M F H (g' d).1 (g' d).2 v → Q v H) → R v w H)
    (fx : ∀ x y c d, f x y ≠ .exn c d) : tE G pa ra σ H fun v H1 => tE G pb rb σ H1 fun w H2 => R v w H2 := by
  obtain ⟨env, F, fs, g, q⟩ := h
  refine ⟨env, F, fs, g, q.bind (p2 := pb) (fun z => Bool.and_eq_true_iff.mp z) fun x env1 F1 H1 fs1 _ g1 s1 t1 q1 v rv => ?_⟩
  by_cases hc : x.1 = 0 ∨ pb = true
  · simp only [if_pos hc] at q1
    refine ⟨env1, F1, fs1, g1, q1.bind (p2 := true) (fun z => ⟨z, rfl⟩) fun y env2 F2 H2 fs2 _ g2 s2 t2 q2 w rw => ?_⟩
    have rv2 : RW G.M F2 H2 x.1 x.2 v := by
      rcases hc with hc | hc
      · rw [hc] at rv ⊢; exact Rep.mono s2.ff rv
      · exact rv.mono s2.ff (t2 hc)
    refine hf x y v w F2 H2 g2.fh rv2 rw ?_
    cases e : f x y with
    | stuck => rw [e] at q2; exact q2.elim
    | exn c d => exact absurd e (fx x y c d)
    | ok d =>
      rw [e] at q2
      exact ⟨d, rfl, q2.done g2⟩
  · simp only [if_neg hc] at q1
    exact q1.elim
theorem nomark_of {op : CmpOp} {y : Expr} (h : behindInMarks op y = false) : behindInMarks op y = false := h
theorem s_cmp (hK : X.K = G.M.K) (hu : X.A.units + 64 < cLine) {a b : E} {x y : Expr} {op : Cop} {pos : Pos} (hm : behindInMarks op.py y = false) (ha : PE X x (tE G a.pure (ev a))) (hb : PE X y (tE G b.pure (ev b))) :
    PE X (.Compare x [op.py] [y] pos) (tE G (E.cmp op a b).pure (ev (.cmp op a b))) :=
  pe_imp (pe_cmpR (op_cmp hK hu op) ha hb hm) fun σ H Q h => two' (g' := fun k => (0, .bl k)) (f := dCmp op) h (fun x y v w F H hs rv rw ⟨d, e, n⟩ => ⟨F, x.1, x.2, y.1, y.2, d, hs, rv, rw, e, n _ Rep.bl⟩) (dCmp_fx op)
/-- a value's truth, as the language has it -/
def evT (e : E) (env : Env) : Res (Bool × Env) := (ev e env).bind fun (x, env) => (asB x.2).bind fun k => .ok (k, env)
theorem tT_of {a : E} {Q : Bool → Hp → Prop} (h : tT G p (evT a) σ H Q) : tE G p (ev a) σ H fun v H1 => ∃ k, v = .bl k ∧ Q k H1 := by
  obtain ⟨env, F, fs, g, q⟩ := h
  refine ⟨env, F, fs, g, q.bind (p2 := true) (fun z => ⟨z, rfl⟩) fun x env1 F1 H1 fs1 _ g1 s1 t1 q1 v rv => ?_⟩
  obtain ⟨k, d⟩ := x
  cases d <;> try exact q1.elim
  exact ⟨_, RW.bl rv, q1.done g1⟩
theorem s_cmpT (hK : X.K = G.M.K) (hu : X.A.units + 64 < cLine) {a b : E} {x y : Expr} {op : Cop} {pos : Pos} (hm : behindInMarks op.py y = false) (ha : PE X x (tE G a.pure (ev a))) (hb : PE X y (tE G b.pure (ev b))) :
    PT X (.Compare x [op.py] [y] pos) (tT G (E.cmp op a b).pure (evT (.cmp op a b))) :=
  pt_imp (pt_cmpR (op_cmp hK hu op) ha hb hm) fun σ H Q h => two' (g' := fun k => (0, .bl k)) (f := dCmp op) (tT_of h) (fun x y v w F H hs rv rw ⟨d, e, n⟩ => ⟨F, x.1, x.2, y.1, y.2, d, hs, rv, rw, e, n _ Rep.bl⟩) (dCmp_fx op)
theorem s_idx (hu : X.A.units + 64 < cLine) (hK : X.K = G.M.K) {a b : E} {x y : Expr} {pos : Pos} (hs : PlainIx y) (ha : PE X x (tE G a.pure (ev a))) (hb : PE X y (tE G b.pure (ev b))) : PE X (.Subscript x y pos) (tE G (E.idx a b).pure (ev (.idx a b))) :=
  pe_imp (pe_ix (ix_idx hu hK) ha hb hs) fun σ H Q h => two' (g' := fun k => k) (f := fun x y => dIdx x y.2) h (fun x y v w F H hs rv rw ⟨d, e, n⟩ => ⟨F, x.1, x.2, y.1, y.2, d, hs, rv, rw, e, n⟩) (fun x y => dIdx_fx x y.2)
theorem s_neg {a : E} {x : Expr} {pos : Pos} (ha : PE X x (tE G a.pure (ev a))) : PE X (.UnaryOp .USub x pos) (tE G (E.neg a).pure (ev (.neg a))) :=
  pe_imp (pe_un un_neg ha) fun σ H Q ⟨env, F, fs, g, q⟩ => ⟨env, F, fs, g, q.bind (p2 := true) (fun z => ⟨z, rfl⟩) fun x env1 F1 H1 fs1 _ g1 s1 t1 q1 v rv => by
    obtain ⟨k, d⟩ := x
    cases d <;> try exact q1.elim
    exact ⟨_, RW.int rv, q1.done g1 _ Rep.int⟩⟩
theorem s_name {i : Nat} {x : Str} {pos : Pos} (hN : X.N[i]? = some x) (hv : Vis X.env.scope x) (hd : (x == ("__debug__" : Str)) = false) (hcd : (x == ("__classdict__" : Str)) = false) : PE X (.Name x pos) (tE G (E.name i).pure (ev (.name i))) :=
  pe_imp (pe_var hN hv hd hcd) fun σ H Q ⟨env, F, fs, g, q⟩ => by
    cases e : env[i]? with
    | none => simp [ev, e] at q; exact q.elim
    | some s =>
      simp only [ev, e] at q
      cases s with
      | un => exact q.elim
      | val d =>
        obtain ⟨v, e1, r⟩ := g.val e
        exact ⟨v, e1, q.done g v r⟩
      | own k d =>
        obtain ⟨v, e1, r⟩ := g.own (.inl e)
        exact ⟨v, e1, q.done g v r.rw⟩
      | io k d =>
        obtain ⟨v, e1, r⟩ := g.own (.inr e)
        exact ⟨v, e1, q.done g v r.rw⟩
def litB : D → Const → Bool
  | .non, .none => true
  | .bl b, .bool c => b == c
  | .int i, .int j => decide (i = j)
  | .str x, .str y => decide (x = y)
  | _, _ => false
theorem s_lit {d : D} {c : Const} {k : Nat} {pos : Pos} (h : litB d c = true) : PE X (.Constant c k pos) (tE G (E.lit d).pure (ev (.lit d))) := by
  have key : ∀ v : V, PE X (.Constant c k pos) (tC v) → (∀ F, Rep G.M F d v) → PE X (.Constant c k pos) (tE G (E.lit d).pure (ev (.lit d))) := fun v h r => pe_imp h fun σ H Q ⟨env, F, fs, g, q⟩ => by
    refine q.done g v ?_
    cases d with
    | nd kd ds => cases c <;> simp [litB] at *
    | _ => exact r _
  unfold litB at h
  split at h
  · exact key _ pe_non fun _ => Rep.non
  · have h := beq_iff_eq.mp h; subst h; exact key _ pe_bl fun _ => Rep.bl
  · have h := of_decide_eq_true h; subst h; exact key _ pe_int fun _ => Rep.int
  · have h := of_decide_eq_true h; subst h; exact key _ pe_str fun _ => Rep.str
  · cases h
theorem s_not {a : E} {x : Expr} {pos : Pos} (ha : PE X x (tE G a.pure (ev a))) : PE X (.UnaryOp .Not x pos) (tE G (E.notv a).pure (ev (.notv a))) :=
  pe_imp (pe_not ha) fun σ H Q ⟨env, F, fs, g, q⟩ => ⟨env, F, fs, g, q.bind (p2 := true) (fun z => ⟨z, rfl⟩) fun x env1 F1 H1 fs1 _ g1 s1 t1 q1 v rv => by
    obtain ⟨k, d⟩ := x
    cases d <;> try exact q1.elim
    exact ⟨_, RW.bl rv, q1.done g1 _ Rep.bl⟩⟩
theorem s_and {a b : E} {x y : Expr} {rest : List Expr} {pos : Pos} (ha : PE X x (tE G a.pure (ev a))) (hb : PE X (.BoolOp .And (y :: rest) pos) (tE G b.pure (ev b))) : PE X (.BoolOp .And (x :: y :: rest) pos) (tE G (E.andv a b).pure (ev (.andv a b))) :=
  pe_imp (pe_and ha hb) fun σ H Q ⟨env, F, fs, g, q⟩ => ⟨env, F, fs, g, q.bind (p2 := b.pure) (fun z => Bool.and_eq_true_iff.mp z) fun x env1 F1 H1 fs1 _ g1 s1 t1 q1 v rv => by
    obtain ⟨k, d⟩ := x
    cases d with
    | non => exact q1.elim
    | int i => exact q1.elim
    | str i => exact q1.elim
    | nd i j => exact q1.elim
    | bl c =>
    refine ⟨c, RW.bl rv, ?_⟩
    cases c with
    | false => exact q1.weak (fun z => z) (fun _ _ _ _ _ _ _ _ _ z => z) |>.done g1 _ Rep.bl
    | true =>
      refine ⟨env1, F1, fs1, g1, Pst.bind (p2 := true) (f := fun (y, env) => (asB y.2).bind fun k' => Res.ok ((0, D.bl k'), env)) q1 (fun z => ⟨z, rfl⟩) fun y env2 F2 H2 fs2 _ g2 s2 t2 q2 w rw => ?_⟩
      obtain ⟨k, d⟩ := y
      cases d <;> try exact q2.elim
      rw [RW.bl rw]
      exact q2.done g2 _ Rep.bl⟩
theorem s_or {a b : E} {x y : Expr} {rest : List Expr} {pos : Pos} (ha : PE X x (tE G a.pure (ev a))) (hb : PE X (.BoolOp .Or (y :: rest) pos) (tE G b.pure (ev b))) : PE X (.BoolOp .Or (x :: y :: rest) pos) (tE G (E.orv a b).pure (ev (.orv a b))) :=
  pe_imp (pe_or ha hb) fun σ H Q ⟨env, F, fs, g, q⟩ => ⟨env, F, fs, g, q.bind (p2 := b.pure) (fun z => Bool.and_eq_true_iff.mp z) fun x env1 F1 H1 fs1 _ g1 s1 t1 q1 v rv => by
    obtain ⟨k, d⟩ := x
    cases d with
    | non => exact q1.elim
    | int i => exact q1.elim
    | str i => exact q1.elim
    | nd i j => exact q1.elim
    | bl c =>
    refine ⟨c, RW.bl rv, ?_⟩
    cases c with
    | true => exact q1.weak (fun z => z) (fun _ _ _ _ _ _ _ _ _ z => z) |>.done g1 _ Rep.bl
    | false =>
      refine ⟨env1, F1, fs1, g1, Pst.bind (p2 := true) (f := fun (y, env) => (asB y.2).bind fun k' => Res.ok ((0, D.bl k'), env)) q1 (fun z => ⟨z, rfl⟩) fun y env2 F2 H2 fs2 _ g2 s2 t2 q2 w rw => ?_⟩
      obtain ⟨k, d⟩ := y
      cases d <;> try exact q2.elim
      rw [RW.bl rw]
      exact q2.done g2 _ Rep.bl⟩

theorem bl_inv {k : Nat} {d : D} {α : Type} {f : Bool → Res α} {r : Res α} (h : (asB d).bind f = r) (n : r ≠ .stuck) : ∃ b, d = .bl b ∧ f b = r := by
  cases d with
  | bl b => exact ⟨b, rfl, h⟩
  | _ => exact absurd h.symm n
theorem s_ife {t a b : E} {c x y : Expr} {pos : Pos} (ht : PT X c (tT G t.pure (evT t))) (ha : PE X x (tE G a.pure (ev a))) (hb : PE X y (tE G b.pure (ev b))) : PE X (.IfExp c x y pos) (tE G (E.ife t a b).pure (ev (.ife t a b))) :=
  pe_imp (pe_ifExp ht ha hb) fun σ H Q ⟨env, F, fs, g, q⟩ => by
    refine ⟨env, F, fs, g, ?_⟩
    have q2 : Pst G (t.pure && a.pure && b.pure) σ F H fs ((evT t env).bind fun (k, env) => if k then ev a env else ev b env) fun x _ F' H' _ => ∀ v, RW G.M F' H' x.1 x.2 v → Q v H' := by
      have e : (evT t env).bind (fun (k, env) => if k then ev a env else ev b env) = ev (.ife t a b) env := by
        show ((ev t env).bind fun (x, env) => (asB x.2).bind fun k => Res.ok (k, env)).bind _ = (ev t env).bind fun (x, env) => (asB x.2).bind fun k => if k then ev a env else ev b env
        cases ev t env with
        | stuck => rfl
        | exn c d => rfl
        | ok p =>
          obtain ⟨x, env1⟩ := p
          show ((asB x.2).bind fun k => Res.ok (k, env1)).bind _ = (asB x.2).bind fun k => if k then ev a env1 else ev b env1
          cases asB x.2 <;> rfl
      rw [e]; exact q
    refine q2.bind (p2 := a.pure && b.pure) (fun z => by simpa [Bool.and_assoc] using z) fun k env1 F1 H1 fs1 _ g1 s1 t1 q1 => ?_
    cases k with
    | true => exact ⟨env1, F1, fs1, g1, Pst.weak (show Pst G (a.pure && b.pure) σ F1 H1 fs1 (ev a env1) _ from q1) (fun z => (Bool.and_eq_true_iff.mp z).1) fun _ _ _ _ _ _ _ _ _ z => z⟩
    | false => exact ⟨env1, F1, fs1, g1, Pst.weak (show Pst G (a.pure && b.pure) σ F1 H1 fs1 (ev b env1) _ from q1) (fun z => (Bool.and_eq_true_iff.mp z).2) fun _ _ _ _ _ _ _ _ _ z => z⟩
/-! ### arguments -/
def isStar : Expr → Bool
  | .Starred _ _ => true
  | _ => false
theorem star_cons {e : Expr} {es : List Expr} {env : PySem.Env} (h : isStar e = false) : starEach (e :: es) env = (false, eval e env) :: starEach es env := by
  cases e <;> first | rfl | (simp [isStar] at h)
theorem star_none {pos : Pos} {env : PySem.Env} : ∀ {es : List Expr}, es.all (fun e => !isStar e) = true → (backTo pos (starEach es env)).any (·.1) = false
  | [], _ => rfl
  | e :: es, h => by
    have h := Bool.and_eq_true_iff.mp (show ((!isStar e) && es.all fun e => !isStar e) = true from h)
    rw [star_cons (by simpa using h.1)]
    show (false || (backTo pos (starEach es env)).any (·.1)) = false
    rw [star_none h.2]; rfl
theorem s_anil : PA X [] (tA G E.nil.pure (evs .nil)) := pa_imp pa_nil fun σ H Q ⟨env, F, fs, g, q⟩ => q.done g [] rfl
theorem ArR.mono {M : Mo} {F F' H H' : Hp} {σ : St} (a : Same F F') (b : Same H H') : ∀ {ars : List Ar} {vs : List V}, ArR M F H σ ars vs → ArR M F' H' σ ars vs
  | [], _, h => h
  | .d k d :: r, _, ⟨v, vs', e, x, y⟩ => ⟨v, vs', e, x.mono a b, y.mono a b⟩
  | .io i :: r, _, ⟨v, vs', e, x, y⟩ => ⟨v, vs', e, x, y.mono a b⟩
  | .wk i :: r, _, ⟨v, vs', e, x, y⟩ => ⟨v, vs', e, x, y.mono a b⟩
theorem acons_imp {a es : E} (hi : ∀ i, a ≠ .ioa i ∧ a ≠ .wka i) (hst : ∀ b, a ≠ .star b) (σ : L2.St) (H : Hp) (Q : List V → Hp → Prop) (h : tA G (E.cons a es).pure (evs (.cons a es)) σ H Q) : tCons (tE G a.pure (ev a)) (tA G es.pure (evs es)) σ H Q := by
    obtain ⟨env, F, fs, g, q⟩ := h
    have e : evs (.cons a es) env = (ev a env).bind fun (x, env) => if x.1 = 0 ∨ es.pure = true then (evs es env).bind fun (r, env) => .ok (.d x.1 x.2 :: r, env) else .stuck := by
      cases a <;> first | rfl | exact absurd rfl (hi _).1 | exact absurd rfl (hi _).2 | exact absurd rfl (hst _)
    rw [e] at q
    refine ⟨env, F, fs, g, q.bind (p2 := es.pure) (fun z => Bool.and_eq_true_iff.mp z) fun x env1 F1 H1 fs1 _ g1 s1 t1 q1 v rv => ?_⟩
    by_cases hc : x.1 = 0 ∨ es.pure = true
    · simp only [if_pos hc] at q1
      refine ⟨env1, F1, fs1, g1, q1.bind (p2 := true) (fun z => ⟨z, rfl⟩) fun ars env2 F2 H2 fs2 _ g2 s2 t2 q2 vs rw => ?_⟩
      refine q2.done g2 (v :: vs) ⟨v, vs, rfl, ?_, rw⟩
      rcases hc with hc | hc
      · rw [hc] at rv ⊢; exact Rep.mono s2.ff rv
      · exact rv.mono s2.ff (t2 hc)
    · simp only [if_neg hc] at q1
      exact q1.elim
theorem s_acons {a es : E} {x : Expr} {xs : List Expr} (hi : ∀ i, a ≠ .ioa i ∧ a ≠ .wka i) (hst : ∀ b, a ≠ .star b) (hx : isStar x = false) (ha : PE X x (tE G a.pure (ev a))) (hb : PA X xs (tA G es.pure (evs es))) : PA X (x :: xs) (tA G (E.cons a es).pure (evs (.cons a es))) :=
  pa_imp (pa_cons ha hb (star_cons hx)) (acons_imp hi hst)
/-- a slot is handed on: its value is whatever stands there -/
theorem held_there {env : Env} {fs : Ft} {io : List (Nat × V)} {M : Mo} (g : GS M F H io env σ fs) {i : Nat} (h : held env i = true) : ∃ v, σ[i]? = some (some v) := by
  unfold held at h
  split at h
  · rename_i k d e
    obtain ⟨v, e1, _⟩ := g.own (.inl e)
    exact ⟨v, e1⟩
  · rename_i k d e
    obtain ⟨v, e1, _⟩ := g.own (.inr e)
    exact ⟨v, e1⟩
  · cases h
theorem aio_imp {i : Nat} {es : E} (σ : L2.St) (H : Hp) (Q : List V → Hp → Prop) (h : tA G (E.cons (.ioa i) es).pure (evs (.cons (.ioa i) es)) σ H Q) : tCons (tVar i) (tA G es.pure (evs es)) σ H Q := by
    obtain ⟨env, F, fs, g, q⟩ := h
    have q : Pst G (E.cons (.ioa i) es).pure σ F H fs (if held env i = true then (evs es env).bind fun (r, env) => .ok (.io i :: r, env) else .stuck) _ := q
    by_cases hh : held env i = true
    · rw [if_pos hh] at q
      obtain ⟨v, ev1⟩ := held_there g hh
      refine ⟨v, ev1, env, F, fs, g, q.bind (p2 := true) (fun z => ⟨(Bool.and_eq_true_iff.mp z).2, rfl⟩) fun ars env2 F2 H2 fs2 _ g2 s2 t2 q2 vs rw => ?_⟩
      exact q2.done g2 (v :: vs) ⟨v, vs, rfl, ev1, rw⟩
    · rw [if_neg hh] at q; exact q.elim
theorem s_aio {i : Nat} {es : E} {x : Str} {pos : Pos} {xs : List Expr} (hN : X.N[i]? = some x) (hv : Vis X.env.scope x) (hd : (x == ("__debug__" : Str)) = false) (hcd : (x == ("__classdict__" : Str)) = false)
    (hb : PA X xs (tA G es.pure (evs es))) : PA X (.Name x pos :: xs) (tA G (E.cons (.ioa i) es).pure (evs (.cons (.ioa i) es))) :=
  pa_imp (pa_cons (pe_var hN hv hd hcd) hb (star_cons rfl)) (aio_imp)
theorem awk_imp {i : Nat} {es : E} (σ : L2.St) (H : Hp) (Q : List V → Hp → Prop) (h : tA G (E.cons (.wka i) es).pure (evs (.cons (.wka i) es)) σ H Q) : tCons (tVar i) (tA G es.pure (evs es)) σ H Q := by
    obtain ⟨env, F, fs, g, q⟩ := h
    have q : Pst G (E.cons (.wka i) es).pure σ F H fs (if held env i = true then (evs es env).bind fun (r, env) => .ok (.wk i :: r, env) else .stuck) _ := q
    by_cases hh : held env i = true
    · rw [if_pos hh] at q
      obtain ⟨v, ev1⟩ := held_there g hh
      refine ⟨v, ev1, env, F, fs, g, q.bind (p2 := true) (fun z => ⟨(Bool.and_eq_true_iff.mp z).2, rfl⟩) fun ars env2 F2 H2 fs2 _ g2 s2 t2 q2 vs rw => ?_⟩
      exact q2.done g2 (v :: vs) ⟨v, vs, rfl, ev1, rw⟩
    · rw [if_neg hh] at q; exact q.elim
theorem s_awk {i : Nat} {es : E} {x : Str} {pos : Pos} {xs : List Expr} (hN : X.N[i]? = some x) (hv : Vis X.env.scope x) (hd : (x == ("__debug__" : Str)) = false) (hcd : (x == ("__classdict__" : Str)) = false)
    (hb : PA X xs (tA G es.pure (evs es))) : PA X (.Name x pos :: xs) (tA G (E.cons (.wka i) es).pure (evs (.cons (.wka i) es))) :=
  pa_imp (pa_cons (pe_var hN hv hd hcd) hb (star_cons rfl)) (awk_imp)
theorem strong_vs {M : Mo} {F H : Hp} {σ : St} : ∀ {ars : List Ar} {ds : List D} {vs : List V}, strong ars = some ds → ArR M F H σ ars vs → Fa2 (Rep M F) ds vs
  | [], ds, vs, e, h => by simp [strong] at e; rw [e, show vs = [] from h]; rfl
  | .d k d :: r, ds, vs, e, h => by
    obtain ⟨v, vs', rfl, x, y⟩ := h
    cases k with
    | succ k => simp [strong] at e
    | zero =>
      have e : (strong r).map (d :: ·) = some ds := e
      cases e1 : strong r with
      | none => rw [e1] at e; cases e
      | some es =>
        rw [e1] at e
        have e := Option.some.inj e; subst e
        exact ⟨v, vs', rfl, x, strong_vs e1 y⟩
  | .io i :: r, ds, vs, e, h => by simp [strong] at e
  | .wk i :: r, ds, vs, e, h => by simp [strong] at e
theorem weaks_vs {M : Mo} {F H : Hp} {σ : St} : ∀ {ars : List Ar} {ds : List Wk} {vs : List V}, weaks ars = some ds → ArR M F H σ ars vs → WkR M F H ds vs
  | [], ds, vs, e, h => by simp [weaks] at e; rw [e, show vs = [] from h]; rfl
  | .d k d :: r, ds, vs, e, h => by
    obtain ⟨v, vs', rfl, x, y⟩ := h
    have e : (weaks r).map ((k, d) :: ·) = some ds := e
    cases e1 : weaks r with
    | none => rw [e1] at e; cases e
    | some es =>
      rw [e1] at e
      have e := Option.some.inj e; subst e
      exact ⟨v, vs', rfl, x, weaks_vs e1 y⟩
  | .io i :: r, ds, vs, e, h => by simp [weaks] at e
  | .wk i :: r, ds, vs, e, h => by simp [weaks] at e
theorem ofO_inv {α β : Type} {o : Option α} {f : α → Res (β × Env)} {k : β → Env → Hp → Hp → Ft → Prop} {fs : Ft} (h : Pst G p σ F H fs ((ofO o).bind f) k) : ∃ a, o = some a ∧ Pst G p σ F H fs (f a) k := by
  cases o with
  | none => exact h.elim
  | some a => exact ⟨a, rfl, h⟩
theorem ite_inv {β : Type} {c : Prop} [Decidable c] {r : Res (β × Env)} {k : β → Env → Hp → Hp → Ft → Prop} {fs : Ft} (h : Pst G p σ F H fs (if c then r else .stuck) k) : c ∧ Pst G p σ F H fs r k := by
  by_cases z : c
  · rw [if_pos z] at h; exact ⟨z, h⟩
  · rw [if_neg z] at h; exact h.elim
theorem s_tup {es : E} {xs : List Expr} {pos : Pos} {j} (hb : PA X xs (tA G es.pure (evs es))) : PE X (.Tuple xs j pos) (tE G (E.tup es).pure (ev (.tup es))) :=
  pe_imp (pe_tup hb) fun σ H Q h => by
    obtain ⟨env, F, fs, g, q⟩ := tE_N h
    refine ⟨env, F, fs, g, q.bind (p2 := true) (fun z => ⟨z, rfl⟩) fun ars env1 F1 H1 fs1 _ g1 s1 t1 q1 vs rv => ?_⟩
    obtain ⟨ds, e, q1⟩ := ofO_inv q1
    obtain ⟨hl, q1⟩ := ite_inv q1
    have f := strong_vs e rv
    exact ⟨by rw [f.length]; exact lim_ok hl, fun p hp => (q1.done g1 rfl).tup g1.fh hp f⟩
/-- a new list, as no one's -/
theorem n_lst {es : E} {xs : List Expr} {pos : Pos} (hb : PA X xs (tA G es.pure (evs es))) : PE X (.List xs pos) (tN G (E.lst es).pure (ev (.lst es))) :=
  pe_imp (pe_lst hb) fun σ H Q ⟨env, F, fs, g, q⟩ => by
    refine ⟨env, F, fs, g, q.bind (p2 := true) (fun z => ⟨z, rfl⟩) fun ars env1 F1 H1 fs1 _ g1 s1 t1 q1 vs rv => ?_⟩
    obtain ⟨ds, e, q1⟩ := ofO_inv q1
    obtain ⟨hl, q1⟩ := ite_inv q1
    have f := strong_vs e rv
    exact ⟨by rw [f.length]; exact lim_ok hl, fun p hp => (q1.done g1 rfl) p vs hp f⟩
theorem dBlt_fx (b : Blt) (ws : List Wk) (c : Nat) (d : D) : dBlt b ws ≠ .exn c d := by
  intro h
  unfold dBlt at h
  have ds : ∀ l, dSorted l ≠ .exn c d := fun l h => by
    unfold dSorted at h
    split at h
    · split at h <;> cases h
    · split at h
      · split at h <;> cases h
      · cases h
  split at h <;> (try cases h) <;> (split at h <;> (try cases h)) <;> (try (split at h <;> (try cases h)))
  all_goals exact ds _ h
theorem boot_b : ∀ b : Blt, bootBuiltins b.nm = some b.val := by
  intro b
  cases b <;> decide +kernel
theorem blt_ne : ∀ b : Blt, ((b.nm : Str) ≠ "__name__") ∧ (((b.nm : Str) == ("__debug__" : Str)) = false) := by
  intro b
  cases b <;> exact ⟨by decide, by decide⟩
theorem n_blt (hK : X.K = G.M.K) (hc : X.calm = true) {b : Blt} {es : E} {x : Expr} {xs : List Expr} {pp pos : Pos} (hg : Gl X b.nm) (hm : X.mg b.nm = none) (hs : (x :: xs).all (fun e => !isStar e) = true) (hb : PA X (x :: xs) (tA G es.pure (evs es))) :
    PE X (.Call (.Name b.nm pp) (x :: xs) [] pos) (tN G (E.blt b es).pure (ev (.blt b es))) := by
  have hs := Bool.and_eq_true_iff.mp (show ((!isStar x) && xs.all fun e => !isStar e) = true from hs)
  have i : ∀ σ H Q, tN G (E.blt b es).pure (ev (.blt b es)) σ H Q → tCB (rBlt G.M b) (tA G es.pure (evs es)) σ H Q := fun σ H Q ⟨env, F, fs, g, q⟩ => by
    refine ⟨env, F, fs, g, q.bind (p2 := true) (fun z => ⟨z, rfl⟩) fun ars env1 F1 H1 fs1 _ g1 s1 t1 q1 vs rv => ?_⟩
    obtain ⟨ws, e, q1⟩ := ofO_inv q1
    cases e2 : dBlt b ws with
    | stuck => rw [e2] at q1; exact q1.elim
    | exn c d => exact absurd e2 (dBlt_fx b ws c d)
    | ok d =>
      rw [e2] at q1
      exact ⟨F1, ws, d, g1.fh, weaks_vs e rv, e2, q1.done g1 rfl⟩
  have hv := boot_b b
  have cr := cr_blt hK hc b
  unfold Blt.val at hv cr
  by_cases ht : b.ty = true
  · rw [if_pos ht] at hv cr
    exact pe_imp (pe_callTy cr hg hm hv hb (blt_ne b).1 (blt_ne b).2 (star_cons (by simpa using hs.1)) (star_none hs.2)) i
  · rw [if_neg ht] at hv cr
    exact pe_imp (pe_callB cr hg hm hv hb (blt_ne b).1 (blt_ne b).2 (star_cons (by simpa using hs.1)) (star_none hs.2)) i
theorem tO_prt {e : E} {x : Expr} (hn : e ≠ .nil) (h : PE X x (tE G e.pure (ev e))) : PO X (some x) (tO G e.pure (prtOf e (ev e))) :=
  po_imp (po_some h) fun σ H Q ⟨env, F, fs, g, q⟩ => by
    have eq : prtOf e (ev e) env = (ev e env).bind fun (x, env) => (asI x.2).bind fun i => .ok (some i, env) := by
      cases e <;> first | rfl | exact absurd rfl hn
    rw [eq] at q
    refine ⟨env, F, fs, g, q.bind (p2 := true) (fun z => ⟨z, rfl⟩) fun x env1 F1 H1 fs1 _ g1 s1 t1 q1 v rv => ?_⟩
    obtain ⟨k, d⟩ := x
    cases d <;> try exact q1.elim
    exact ⟨_, RW.int rv, q1.done g1⟩
theorem tO_nil : PO X none (tO G E.nil.pure (prtOf .nil (ev .nil))) := po_imp po_none fun σ H Q ⟨env, F, fs, g, q⟩ => q.done g
theorem dSlc_fx (x : Wk) (lo hi : Option Int) (c : Nat) (d : D) : dSlc x lo hi ≠ .exn c d := by
  intro h
  obtain ⟨k, x⟩ := x
  unfold dSlc at h
  split at h <;> (try cases h) <;> (split at h <;> cases h)
theorem n_slc (hK : X.K = G.M.K) {a lo hi : E} {x : Expr} {l h : Option Expr} {p2 pos : Pos} (ha : PE X x (tE G a.pure (ev a))) (hl : PO X l (tO G lo.pure (prtOf lo (ev lo)))) (hh : PO X h (tO G hi.pure (prtOf hi (ev hi)))) :
    PE X (.Subscript x (.Slice l h none p2) pos) (tN G (E.slc a lo hi).pure (ev (.slc a lo hi))) :=
  pe_imp (pe_slice (sl_slc hK) ha hl hh) fun σ H Q ⟨env, F, fs, g, q⟩ => by
    refine ⟨env, F, fs, g, q.bind (p2 := lo.pure && hi.pure) (fun z => by simpa [E.pure, Bool.and_assoc] using z) fun x env1 F1 H1 fs1 _ g1 s1 t1 q1 v rv => ?_⟩
    obtain ⟨hc, q1⟩ := ite_inv q1
    refine ⟨env1, F1, fs1, g1, q1.bind (p2 := hi.pure) (fun z => Bool.and_eq_true_iff.mp z) fun i env2 F2 H2 fs2 _ g2 s2 t2 q2 => ?_⟩
    refine ⟨env2, F2, fs2, g2, q2.bind (p2 := true) (fun z => ⟨z, rfl⟩) fun j env3 F3 H3 fs3 _ g3 s3 t3 q3 => ?_⟩
    have rv3 : RW G.M F3 H3 x.1 x.2 v := by
      rcases hc with hc | hc
      · rw [hc] at rv ⊢; exact Rep.mono (s2.trans s3).ff rv
      · have hc := Bool.and_eq_true_iff.mp hc
        exact rv.mono (s2.trans s3).ff ((t2 hc.1).trans (t3 hc.2))
    dsimp only at q3
    cases e2 : dSlc x i j with
    | stuck => rw [e2] at q3; exact q3.elim
    | exn c d => exact absurd e2 (dSlc_fx x i j c d)
    | ok d =>
      rw [e2] at q3
      exact ⟨F3, x.1, x.2, d, g3.fh, rv3, e2, q3.done g3 rfl⟩

/-! ### calls -/
/-- what is owned apart stands still from now on -/
theorem frz_state {M : Mo} {F H : Hp} {io : List (Nat × V)} {env : Env} {σ : St} {fs : Ft} {k : Nat} {d : D} {v : V} {f : List Addr} (g : GS M F H io env σ fs) (ap : Apart fs f) (o : Own M F H k d v f) (fn : ∀ b ∈ f, F b = none) :
    GS M (frz F H f) H io env σ fs ∧ Step F H (atW fs f) (frz F H f) H fs.at ∧ Rep M (frz F H f) d v := by
  refine ⟨g.keep (frz_same g.fh) (fun _ _ _ => rfl) (frz_sub g.fh) fun i b hb => ?_, ⟨frz_same g.fh, fun _ _ e _ => e, fun b hb => ?_, fun b hb => .inl (.inl hb)⟩, o.freeze (frz_same g.fh) fun b hb => frz_in hb⟩
  · rw [frz_out (ap i b hb)]; exact g.fn i b hb
  · by_cases z : b ∈ f
    · exact .inr (.inr (.inr z))
    · rw [frz_out z] at hb; exact .inl hb
def FnF (CXv : CXT) (X : Cx) (M : Mo) (lv : Nat) (f : FnD) (fa : Addr) : Prop := ∃ k fd ps, FnOk X.prog X.w X.K X.mg X.base CXv k fa fd ps (Spec M f) ∧ k + 2 ≤ lv ∧ Binds X.K fd ps []
/-- from what is wanted of a call's value to the callee's promise -/
theorem call_of {f : FnD} {ars : List Ar} {vs : List V} {Q : VK} {env : Env} {fs : Ft} (g : GS G.M F H G.io env σ fs) (ha : ArR G.M F H σ ars vs) (hp : p = true → f.ms.all (· == 0) = true)
    (q : Pst G p σ F H fs ((callD f ars env).bind fun (d, env) => .ok ((0, d), env)) fun x _ F' H' _ => ∀ v, RW G.M F' H' x.1 x.2 v → Q v H') : Spec G.M f vs H Q G.E := by
  refine call_spec (r0 := .stuck) (k := fun _ _ _ _ _ => True) (p := true) g ha ?_
  cases e : callD f ars env with
  | stuck => rw [e] at q; exact q
  | exn c d => rw [e] at q; exact q
  | ok ro =>
    obtain ⟨r, env'⟩ := ro
    rw [e] at q
    intro F' H' fs' v fr g' st t own nd ap fn
    obtain ⟨g2, s2, r2⟩ := frz_state g' ap own fn
    exact q _ _ fs' g2 (st.trans s2) (fun z => t (hp z)) v r2
theorem callL_of {f : FnD} {ars : List Ar} {vs : List V} {Q : VK} {env : Env} {fs : Ft} (g : GS G.M F H G.io env σ fs) (ha : ArR G.M F H σ ars vs) (hp : p = true → f.ms.all (· == 0) = true) (h1 : f.rk = 1)
    (q : match (callD f ars env).bind (fun (d, env) => Res.ok (((0 : Nat), d), env)) with
      | .ok (x, env') => ∃ ds, x = (0, D.lst ds) ∧ ∀ F' H' fs' v f, GS G.M F' H' G.io env' σ fs' → Step F H fs.at F' H' (atW fs' f) → (p = true → Same H H') → Own G.M F' H' 1 (.lst ds) v f → f.Nodup → Apart fs' f → (∀ b ∈ f, F' b = none) → Q v H'
      | .exn c d => XP G.M G.E c d F H fs.at
      | .stuck => False) : Spec G.M f vs H Q G.E := by
  refine call_spec (r0 := .stuck) (k := fun _ _ _ _ _ => True) (p := true) g ha ?_
  cases e : callD f ars env with
  | stuck => rw [e] at q; exact q
  | exn c d => rw [e] at q; exact q
  | ok ro =>
    obtain ⟨r, env'⟩ := ro
    rw [e] at q
    obtain ⟨ds, er, q⟩ := q
    intro F' H' fs' v fr g' st t own nd ap fn
    rw [h1] at own
    cases er
    exact q F' H' fs' v fr g' st (fun z => t (hp z)) own nd ap fn
theorem s_app {CXv : CXT} {lv : Nat} {f : FnD} {fa : Addr} (D : FnF CXv X G.M lv f fa) (hm : X.mg f.name = some (.ref fa)) (hk : PySem.W.keepIn X.K (.ref fa) = true) (hr : Room lv X.A) (hx : Passes CXv X G.E) (hg : Gl X f.name) (hd : (f.name == ("__debug__" : Str)) = false)
    {es : E} {x : Expr} {xs : List Expr} {pp pos : Pos} (hs : (x :: xs).all (fun e => !isStar e) = true) (hb : PA X (x :: xs) (tA G es.pure (evs es))) :
    PE X (.Call (.Name f.name pp) (x :: xs) [] pos) (tE G (E.app f es).pure (ev (.app f es))) := by
  obtain ⟨k, fd, ps, F1, hk1, hb1⟩ := D
  have hs := Bool.and_eq_true_iff.mp (show ((!isStar x) && xs.all fun e => !isStar e) = true from hs)
  refine pe_imp (pe_call F1 (hr.mono (by omega)) hg hm hk hb1 .nil hx hb hd (star_cons (by simpa using hs.1)) (star_none hs.2)) fun σ H Q ⟨env, F, fs, g, q⟩ => ?_
  refine ⟨env, F, fs, g, q.bind (p2 := f.ms.all (· == 0)) (fun z => (Bool.and_eq_true_iff.mp z).symm) fun ars env1 F1 H1 fs1 _ g1 s1 t1 q1 vs rv => ?_⟩
  show Spec G.M f (vs ++ []) H1 Q G.E
  rw [List.append_nil]
  exact call_of g1 rv (fun z => z) q1
theorem l_app {CXv : CXT} {lv : Nat} {f : FnD} {fa : Addr} (D : FnF CXv X G.M lv f fa) (h1 : f.rk = 1) (hm : X.mg f.name = some (.ref fa)) (hk : PySem.W.keepIn X.K (.ref fa) = true) (hr : Room lv X.A) (hx : Passes CXv X G.E) (hg : Gl X f.name) (hd : (f.name == ("__debug__" : Str)) = false)
    {es : E} {x : Expr} {xs : List Expr} {pp pos : Pos} (hs : (x :: xs).all (fun e => !isStar e) = true) (hb : PA X (x :: xs) (tA G es.pure (evs es))) :
    PE X (.Call (.Name f.name pp) (x :: xs) [] pos) (tL G (E.app f es).pure (ev (.app f es))) := by
  obtain ⟨k, fd, ps, F1, hk1, hb1⟩ := D
  have hs := Bool.and_eq_true_iff.mp (show ((!isStar x) && xs.all fun e => !isStar e) = true from hs)
  refine pe_imp (pe_call F1 (hr.mono (by omega)) hg hm hk hb1 .nil hx hb hd (star_cons (by simpa using hs.1)) (star_none hs.2)) fun σ H Q ⟨env, F, fs, g, q⟩ => ?_
  have e0 : ev (.app f es) env = (evs es env).bind fun (ars, env) => (callD f ars env).bind fun (d, env) => .ok ((0, d), env) := rfl
  rw [e0] at q
  refine ⟨env, F, fs, g, ?_⟩
  cases e : evs es env with
  | stuck => rw [e] at q; exact q
  | exn c d => rw [e] at q; exact q
  | ok ro =>
    obtain ⟨ars, env1⟩ := ro
    rw [e] at q
    intro F1 H1 fs1 g1 s1 t1 vs rv
    show Spec G.M f (vs ++ []) H1 Q G.E
    rw [List.append_nil]
    refine callL_of (p := f.ms.all (· == 0)) g1 rv (fun z => z) h1 ?_
    have q : (match (callD f ars env1).bind (fun (d, env) => Res.ok (((0 : Nat), d), env)) with
      | .ok (x, env') => ∃ ds, x = (0, D.lst ds) ∧ ∀ F' H' fs' v f', GS G.M F' H' G.io env' σ fs' → Step F H fs.at F' H' (atW fs' f') → ((E.app f es).pure = true → Same H H') → Own G.M F' H' 1 (.lst ds) v f' → f'.Nodup → Apart fs' f' → (∀ b ∈ f', F' b = none) → Q v H'
      | .exn c d => XP G.M G.E c d F H fs.at
      | .stuck => False) := q
    cases e2 : (callD f ars env1).bind (fun (d, env) => Res.ok (((0 : Nat), d), env)) with
    | stuck => rw [e2] at q; exact q
    | exn c d => rw [e2] at q; exact q.step s1
    | ok ro =>
      obtain ⟨x, env'⟩ := ro
      rw [e2] at q
      obtain ⟨ds, ex, q⟩ := q
      refine ⟨ds, ex, fun F' H' fs' v f' g' st t => q F' H' fs' v f' g' (s1.trans st) fun z => ?_⟩
      have z := Bool.and_eq_true_iff.mp z
      exact (t1 z.2).trans (t z.1)
/-! ### instances -/
theorem isObj_inv {c : Nat} {d : D} (h : isObj c d = true) : ∃ fl ds, d = .nd (.obj c fl) ds := by
  cases d with
  | nd k ds =>
    cases k with
    | obj c' fl =>
      have e : c = c' := by simpa [isObj] using h
      subst e
      exact ⟨fl, ds, rfl⟩
    | _ => simp [isObj] at h
  | _ => simp [isObj] at h
theorem obj_there' {M : Mo} {F H : Hp} {k c : Nat} {fl : List Str} {ds : List D} {v : V} (hs : Same F H) (h : RW M F H k (.nd (.obj c fl) ds) v) :
    ∃ a C dx fs, v = .ref a ∧ M.cl c = some C ∧ H a = some (.ins C dx fs) ∧ fs.map (·.1) = fl ∧ Fa2 (RW M F H (k - 1)) ds (fs.map (·.2)) := by
  obtain ⟨a, vs, e, ⟨C, dx, fs, h1, h2, h3, h4⟩, q⟩ := h.node hs
  subst h4
  exact ⟨a, C, dx, fs, e, h1, h2, h3, q⟩
theorem lookup_zip {P : D → V → Prop} {f : Str} : ∀ {fs : List (Str × V)} {ds : List D} {d : D}, Fa2 P ds (fs.map (·.2)) → ((fs.map (·.1)).zip ds).lookup f = some d → ∃ v, fs.lookup f = some v ∧ P d v
  | [], ds, d, _, h => by simp at h
  | (g, w) :: fs, [], d, h, e => by simp at e
  | (g, w) :: fs, d' :: ds, d, h, e => by
    obtain ⟨v, vs', e1, a, b⟩ := h
    simp at e1
    obtain ⟨rfl, rfl⟩ := e1
    rw [List.map_cons, List.zip_cons_cons, List.lookup_cons] at e
    rw [List.lookup_cons]
    by_cases z : (f == g) = true
    · simp only [z] at e ⊢
      cases e
      exact ⟨w, rfl, a⟩
    · simp only [Bool.not_eq_true] at z
      simp only [z] at e ⊢
      exact lookup_zip b e
def FdF (X : Cx) (M : Mo) (c : Nat) (f : Str) : Prop := ∃ C, M.cl c = some C ∧ Cls X.K C ∧ NoAttr X.K C f
theorem s_fld {c : Nat} {f : Str} (D : FdF X G.M c f) {a : E} {x : Expr} {pos : Pos} (hab : attributeBase x f X.env (eval x X.env) = eval x X.env) (ha : PE X x (tE G a.pure (ev a))) : PE X (.Attribute x f pos) (tE G (E.fld c f a).pure (ev (.fld c f a))) :=
  pe_imp (pe_fld ha hab) fun σ H Q ⟨env, F, fs, g, q⟩ => by
    obtain ⟨C, d1, d2, d3⟩ := D
    refine ⟨env, F, fs, g, q.bind (p2 := true) (fun z => ⟨z, rfl⟩) fun x env1 F1 H1 fs1 _ g1 s1 t1 q1 v rv => ?_⟩
    obtain ⟨k, d⟩ := x
    have q2 : Pst G true σ F1 H1 fs1 ((fieldOf c f (k, d)).bind fun w => .ok (w, env1)) _ := q1
    have key : ∃ fl ds d', d = .nd (.obj c fl) ds ∧ (fl.zip ds).lookup f = some d' ∧ fieldOf c f (k, d) = .ok (k - 1, d') := by
      cases e : fieldOf c f (k, d) with
      | stuck => rw [e] at q2; exact q2.elim
      | exn c' d' =>
        unfold fieldOf at e
        split at e
        · split at e
          · split at e <;> cases e
          · cases e
        · cases e
      | ok w =>
        have e0 := e
        unfold fieldOf at e
        split at e
        · rename_i k' c' fl ds hd
          cases hd
          split at e
          · rename_i hc
            subst hc
            split at e
            · rename_i d' hl
              cases e
              exact ⟨fl, ds, d', rfl, hl, rfl⟩
            · cases e
          · cases e
        · cases e
    obtain ⟨fl, ds, d', rfl, e, e2⟩ := key
    rw [e2] at q2
    obtain ⟨a, C', dx, fs', rfl, h1, h2, rfl, h4⟩ := obj_there' g1.fh rv
    rw [d1] at h1; cases h1
    obtain ⟨w, l, rw⟩ := lookup_zip h4 e
    exact ⟨a, C, dx, fs', w, rfl, h2, d2, d3, l, q2.done g1 w rw⟩
theorem form_ok {env : PySem.Env} {pos : Pos} {es : List Expr} (hs : es.all (fun e => !isStar e) = true) (hl : es.length < 30) : methodCallForm es.length (backTo pos (starEach es env)) [] = true := by
  have key : ∀ es : List Expr, es.all (fun e => !isStar e) = true → (backTo pos (starEach es env)).all (fun x => !x.1) = true := by
    intro es
    induction es with
    | nil => intro _; rfl
    | cons e es ih =>
      intro h
      have h := Bool.and_eq_true_iff.mp (show ((!isStar e) && es.all fun e => !isStar e) = true from h)
      rw [star_cons (by simpa using h.1)]
      show (true && (backTo pos (starEach es env)).all (fun x => !x.1)) = true
      rw [ih h.2]; rfl
  unfold methodCallForm
  rw [key es hs]
  simp [hl]
def noCall : Expr → Bool
  | .Call _ [] [] _ => false
  | _ => true
theorem ab_ok {o : Expr} (h : noCall o = true) (m : Str) (env : PySem.Env) : attributeBase o m env (eval o env) = eval o env := by
  cases o with
  | Call f as ks p =>
    cases as with
    | cons a as => cases f <;> rfl
    | nil =>
      cases ks with
      | cons k ks => cases f <;> rfl
      | nil => simp [noCall] at h
  | _ => rfl
theorem meth_ht (o : Expr) (m : Str) (apos pos : Pos) (es : List Expr) (env : PySem.Env) (hs : es.all (fun e => !isStar e) = true) (hl : es.length < 30) (hp : (apos.endLine == pos.line) = true) (hab : attributeBase o m env (eval o env) = eval o env) : eval (.Call (.Attribute o m apos) es [] pos) env = (do
      let ov ← eval o env
      standAt apos.atName
      let (f, first) ← holding [ov] (getMethod ov m (do return (← importBound o env).getD true))
      callWith pos f first (backTo pos (starEach es env)) (backToKw pos (keywordEach [] env))) := by
  have e1 : eval (.Call (.Attribute o m apos) es [] pos) env = (do
      let ov ← attributeBase o m env (eval o env)
      standAt apos.atName
      methodCall o m apos pos env ov (es.length + ([] : List Keyword).length) (backTo pos (starEach es env)) (backToKw pos (keywordEach [] env))) := by
    first | rfl | skip
  rw [e1, hab]
  unfold methodCall calleeOf methodCallPos
  have hf : methodCallForm (es.length + ([] : List Keyword).length) (backTo pos (starEach es env)) (backToKw pos (keywordEach [] env)) = true := form_ok hs hl
  rw [hf, hp]
  rfl

theorem Fa2.one {P : D → V → Prop} {d : D} {v : V} (h : P d v) : Fa2 P [d] [v] := ⟨v, [], rfl, h, rfl⟩
/-- a call's frame about a method: the receiver stands still -/
theorem ev_obj {c : Nat} {x : Wk} {v : V} {M : Mo} (hs : Same F H) (h : isObj c x.2 = true ∧ x.1 = 0) (rv : RW M F H x.1 x.2 v) : ∃ a C dx fs, v = .ref a ∧ M.cl c = some C ∧ H a = some (.ins C dx fs) ∧ (∃ fl ds, x.2 = .nd (.obj c fl) ds ∧ fs.map (·.1) = fl) ∧ Rep M F x.2 v := by
  obtain ⟨k, d⟩ := x
  obtain ⟨h1, h2⟩ := h
  obtain ⟨fl, ds, rfl⟩ := isObj_inv h1
  have h2 : k = 0 := h2
  subst h2
  obtain ⟨a, C, dx, fs, e1, e2, e3, e4, _⟩ := obj_there' hs rv
  exact ⟨a, C, dx, fs, e1, e2, e3, ⟨fl, ds, rfl, e4⟩, rv⟩
/-- what an instance's class says: its fields are not its methods' names -/
structure MtF (CXv : CXT) (X : Cx) (M : Mo) (lv : Nat) (c : Nat) (f : FnD) : Prop where
  ex : ∃ C fa, M.cl c = some C ∧ Cls X.K C ∧ Meth X.K C f.name fa ∧ FnF CXv X M lv f fa
theorem lookup_none {m : Str} : ∀ {fs : List (Str × V)}, (fs.map (·.1)).contains m = false → fs.lookup m = none
  | [], _ => rfl
  | (g, w) :: fs, h => by
    simp only [List.map_cons, List.contains_cons, Bool.or_eq_false_iff] at h
    rw [List.lookup_cons, h.1]
    exact lookup_none h.2
theorem s_mth {CXv : CXT} {lv c : Nat} {f : FnD} (D : MtF CXv X G.M lv c f) (hr : Room lv X.A) (hx : Passes CXv X G.E) {o es : E} {y x : Expr} {xs : List Expr} {apos pos : Pos} (hy : noCall y = true) (hs : (x :: xs).all (fun e => !isStar e) = true) (hl : (x :: xs).length < 30) (hp : (apos.endLine == pos.line) = true)
    (ho : PE X y (tE G o.pure (ev o))) (hb : PA X (x :: xs) (tA G es.pure (evs es))) : PE X (.Call (.Attribute y f.name apos) (x :: xs) [] pos) (tE G (E.mth c f o es).pure (ev (.mth c f o es))) := by
  obtain ⟨C, fa, d1, d2, d3, k, fd, ps, F1, hk1, hb1⟩ := D.ex
  have hs2 := Bool.and_eq_true_iff.mp (show ((!isStar x) && xs.all fun e => !isStar e) = true from hs)
  refine pe_imp (pe_meth (pl := do return (← importBound y X.env).getD true) ho d2 d3 F1 (hr.mono (by omega)) hb1 .nil hx hb (star_cons (by simpa using hs2.1)) (star_none hs2.2) (meth_ht y f.name apos pos (x :: xs) X.env hs hl hp (ab_ok hy _ _))) fun σ H Q ⟨env, F, fs, g, q⟩ => ?_
  refine ⟨env, F, fs, g, q.bind (p2 := f.ms.all (· == 0) && es.pure) (fun z => by simp only [E.pure, Bool.and_eq_true] at z ⊢; exact ⟨z.1.2, z.1.1, z.2⟩) fun x env1 F1 H1 fs1 _ g1 s1 t1 q1 v rv => ?_⟩
  obtain ⟨⟨hc, hn⟩, q1⟩ := ite_inv q1
  obtain ⟨a, C', dx, fs', rfl, h1, h2, ⟨fl, ds, hx1, hx2⟩, rv⟩ := ev_obj g1.fh hc rv
  rw [d1] at h1; cases h1
  refine ⟨a, dx, fs', rfl, h2, ?_, ?_⟩
  · rw [hx1] at hn
    refine lookup_none ?_
    rw [hx2]
    simpa [notFl] using hn
  · refine ⟨env1, F1, fs1, g1, q1.bind (p2 := f.ms.all (· == 0)) (fun z => by simp only [Bool.and_eq_true] at z; exact ⟨z.2, z.1⟩) fun ars env2 F2 H2 fs2 _ g2 s2 t2 q2 vs rw => ?_⟩
    show Spec G.M f (.ref a :: (vs ++ [])) H2 Q G.E
    rw [List.append_nil]
    refine call_of g2 (ars := .d x.1 x.2 :: ars) ⟨.ref a, vs, rfl, ?_, rw⟩ (fun z => z) q2
    rw [hc.2]; exact Rep.mono s2.ff rv

theorem s_mth0 {CXv : CXT} {lv c : Nat} {f : FnD} (D : MtF CXv X G.M lv c f) (hr : Room lv X.A) (hx : Passes CXv X G.E) {o : E} {y : Expr} {apos pos : Pos} (hy : noCall y = true) (hp : (apos.endLine == pos.line) = true)
    (ho : PE X y (tE G o.pure (ev o))) : PE X (.Call (.Attribute y f.name apos) [] [] pos) (tE G (E.mth c f o .nil).pure (ev (.mth c f o .nil))) := by
  obtain ⟨C, fa, d1, d2, d3, k, fd, ps, F1, hk1, hb1⟩ := D.ex
  refine pe_imp (pe_meth0 (pl := do return (← importBound y X.env).getD true) ho d2 d3 F1 (hr.mono (by omega)) hb1 .nil hx (meth_ht y f.name apos pos [] X.env rfl (by simp) hp (ab_ok hy _ _))) fun σ H Q ⟨env, F, fs, g, q⟩ => ?_
  refine ⟨env, F, fs, g, q.bind (p2 := f.ms.all (· == 0) && true) (fun z => by simp only [E.pure, Bool.and_eq_true] at z ⊢; exact ⟨z.1.2, z.1.1, trivial⟩) fun x env1 F1 H1 fs1 _ g1 s1 t1 q1 v rv => ?_⟩
  obtain ⟨⟨hc, hn⟩, q1⟩ := ite_inv q1
  obtain ⟨a, C', dx, fs', rfl, h1, h2, ⟨fl, ds, hx1, hx2⟩, rv⟩ := ev_obj g1.fh hc rv
  rw [d1] at h1; cases h1
  refine ⟨a, dx, fs', rfl, h2, ?_, ?_⟩
  · rw [hx1] at hn
    refine lookup_none ?_
    rw [hx2]
    simpa [notFl] using hn
  · show Spec G.M f [.ref a] H1 Q G.E
    refine call_of (p := f.ms.all (· == 0) && true) g1 (ars := [.d x.1 x.2]) ⟨.ref a, [], rfl, ?_, rfl⟩ (fun z => (Bool.and_eq_true_iff.mp z).1) q1
    rw [hc.2]; exact rv
structure PrF (CXv : CXT) (X : Cx) (M : Mo) (lv : Nat) (c : Nat) (f : FnD) : Prop where
  ex : ∃ C pp fa, M.cl c = some C ∧ Cls X.K C ∧ PropOf X.K C f.name pp fa ∧ FnF CXv X M lv f fa
theorem s_prp {CXv : CXT} {lv c : Nat} {f : FnD} (D : PrF CXv X G.M lv c f) (hr : Room lv X.A) (p0 : ∀ X', Passes CXv X' E0) {o : E} {y : Expr} {pos : Pos} (hy : noCall y = true)
    (ho : PE X y (tE G o.pure (ev o))) : PE X (.Attribute y f.name pos) (tE G (E.prp c f o).pure (ev (.prp c f o))) := by
  obtain ⟨C, pp, fa, d1, d2, d3, k, fd, ps, F1, hk1, hb1⟩ := D.ex
  refine pe_imp (pe_prop ho d2 d3 F1 (hr.mono (by omega)) hb1 .nil (p0 _) (ab_ok hy _ _)) fun σ H Q ⟨env, F, fs, g, q⟩ => ?_
  refine ⟨env, F, fs, g, q.bind (p2 := f.ms.all (· == 0)) (fun z => (Bool.and_eq_true_iff.mp z).symm) fun x env1 F1 H1 fs1 _ g1 s1 t1 q1 v rv => ?_⟩
  obtain ⟨hc, q1⟩ := ite_inv q1
  obtain ⟨a, C', dx, fs', rfl, h1, h2, ⟨fl, ds, hx1, hx2⟩, rv⟩ := ev_obj g1.fh hc rv
  rw [d1] at h1; cases h1
  refine ⟨a, dx, fs', rfl, h2, ?_⟩
  show Spec G.M f [.ref a] H1 Q E0
  refine call_spec (G := { G with E := E0 }) (r0 := .stuck) (k := fun _ _ _ _ _ => True) (p := true) (ars := [.d x.1 x.2]) g1 ⟨.ref a, [], rfl, by rw [hc.2]; exact rv, rfl⟩ ?_
  cases e : callD f [.d x.1 x.2] env1 with
  | stuck => rw [e] at q1; exact q1
  | exn c d => rw [e] at q1; exact q1.elim
  | ok ro =>
    obtain ⟨r, env'⟩ := ro
    rw [e] at q1
    intro F' H' fs' v fr g' st t own nd ap fn
    obtain ⟨g2, s2, r2⟩ := frz_state g' ap own fn
    exact q1 _ _ fs' g2 (st.trans s2) (fun z => t z) v r2

theorem l_prp {CXv : CXT} {lv c : Nat} {f : FnD} (D : PrF CXv X G.M lv c f) (hk1 : f.rk = 1) (hr : Room lv X.A) (p0 : ∀ X', Passes CXv X' E0) {o : E} {y : Expr} {pos : Pos} (hy : noCall y = true)
    (ho : PE X y (tE G o.pure (ev o))) : PE X (.Attribute y f.name pos) (tL G (E.prp c f o).pure (ev (.prp c f o))) := by
  obtain ⟨C, pp, fa, d1, d2, d3, k, fd, ps, F1, hkk, hb1⟩ := D.ex
  refine pe_imp (pe_prop ho d2 d3 F1 (hr.mono (by omega)) hb1 .nil (p0 _) (ab_ok hy _ _)) fun σ H Q ⟨env, F, fs, g, q⟩ => ?_
  have e0 : ev (.prp c f o) env = (ev o env).bind fun (x, env) => if isObj c x.2 = true ∧ x.1 = 0 then (match callD f [.d x.1 x.2] env with | .ok (d, env) => .ok ((0, d), env) | _ => .stuck) else .stuck := rfl
  rw [e0] at q
  refine ⟨env, F, fs, g, ?_⟩
  cases e : ev o env with
  | stuck => rw [e] at q; exact q
  | exn c d => rw [e] at q; exact q
  | ok ro =>
    obtain ⟨x, env1⟩ := ro
    rw [e] at q
    intro F1 H1 fs1 g1 s1 t1 v rv
    by_cases hc : isObj c x.2 = true ∧ x.1 = 0
    · simp only [Res.bind_ok, if_pos hc] at q
      obtain ⟨a, C', dx, fs', rfl, h1, h2, ⟨fl, ds, hx1, hx2⟩, rv⟩ := ev_obj g1.fh hc rv
      rw [d1] at h1; cases h1
      refine ⟨a, dx, fs', rfl, h2, ?_⟩
      show Spec G.M f [.ref a] H1 Q E0
      refine call_spec (G := { G with E := E0 }) (r0 := .stuck) (k := fun _ _ _ _ _ => True) (p := true) (ars := [.d x.1 x.2]) g1 ⟨.ref a, [], rfl, by rw [hc.2]; exact rv, rfl⟩ ?_
      cases e2 : callD f [.d x.1 x.2] env1 with
      | stuck => rw [e2] at q; exact q.elim
      | exn c d => rw [e2] at q; exact q.elim
      | ok ro =>
        obtain ⟨r, env'⟩ := ro
        rw [e2] at q
        obtain ⟨es, er, q⟩ := q
        have er : r = .nd .lst es := congrArg Prod.snd er
        subst er
        intro F' H' fs' v fr g' st t own nd ap fn
        rw [hk1] at own
        exact q F' H' fs' v fr g' (s1.trans st) (fun z => (t1 (Bool.and_eq_true_iff.mp z).2).trans (t (Bool.and_eq_true_iff.mp z).1)) own nd ap fn
    · simp only [Res.bind_ok, if_neg hc] at q
/-! ### len, +, == of instances -/
theorem run_at {CXv : CXT} {k : Nat} {fa : Addr} {fd : FuncData} {ps : List Str} {sp : Sp} {A : Around} {pins : List (Addr × Obj)} {s : Shared} {Q : VK} {us : List Value} {vs : List V} {E : XK} (hA : A = X.A ∨ A = X.A.in1) (F1 : FnOk X.prog X.w X.K X.mg X.base CXv k fa fd ps sp) (hr : Room (k + 1) X.A)
    (hb : Binds X.K fd ps []) (hx : Passes CXv X E) (I : Inv X pins σ H s) (r : Vals vs us) (h : sp vs H Q E) : wpAny (model X.prog X.w) A (call (.ref fa) us) (EP X pins σ Q) X.xe s := by
  have hl : (us ++ []).length = ps.length := by rw [List.append_nil, ← r.length]; exact F1.len _ _ _ _ h
  have hbt := hb s us I.kIn hl
  rw [List.append_nil] at hbt
  have e0 : Env0 X.prog X.w X.K X.mg X.base A X.stack s H := by
    rcases hA with rfl | rfl
    · exact I.env0
    · exact I.env0.in1
  have rm : Room k A := by
    rcases hA with rfl | rfl
    · exact hr.mono (by omega)
    · exact hr.in1
  refine wpAny_call (codeAny_mono (F1.run A X.stack s H ⟨us, []⟩ us vs Q E rm e0 hbt r h) fun r s' hq => ?_)
  cases r with
  | error e => exact hx pins σ H s e s' I hq
  | ok fl =>
    cases fl with
    | ret u => exact I.after hq
    | next => exact False.elim hq
    | brk => exact False.elim hq
    | cont => exact False.elim hq
theorem spec_imp {M : Mo} {f : FnD} {vs : List V} {Q Q' : VK} {E : XK} (h : Spec M f vs H Q E) (i : ∀ v H, Q v H → Q' v H) : Spec M f vs H Q' E := by
  obtain ⟨ds, F, fo, a, b, c, d, e⟩ := h
  refine ⟨ds, F, fo, a, b, c, d, ?_⟩
  cases q : f.den ds with
  | stuck => rw [q] at e; exact e
  | exn c d => rw [q] at e; exact e
  | ok ro =>
    rw [q] at e
    exact fun v F' H' fo' fr x y z w u t => i _ _ (e v F' H' fo' fr x y z w u t)
structure LnF (CXv : CXT) (X : Cx) (M : Mo) (lv : Nat) (c : Nat) (f : FnD) : Prop where
  ex : ∃ C fa, M.cl c = some C ∧ PySem.W.findIn X.K (.ref C) "__len__" = some (some (.ref fa)) ∧ PySem.W.isFn X.K (.ref fa) = true ∧ FnF CXv X M lv f fa
theorem s_lno {CXv : CXT} {lv c : Nat} {f : FnD} (D : LnF CXv X G.M lv c f) (hr : Room lv X.A) (hx : Passes CXv X G.E) (hg : Gl X "len") (hm : X.mg "len" = none) {o : E} {y : Expr} {pp pos : Pos} (hy : isStar y = false)
    (ho : PE X y (tE G o.pure (ev o))) : PE X (.Call (.Name "len" pp) [y] [] pos) (tE G (E.lno c f o).pure (ev (.lno c f o))) := by
  obtain ⟨C, fa, d1, d2, d3, k, fd, ps, F1, hk1, hb1⟩ := D.ex
  have cr : CallR X (.builtin "len") (fun xs H Q => ∃ a dx fs, xs = [.ref a] ∧ H a = some (.ins C dx fs) ∧ Spec G.M f [.ref a] H (fun v H' => ∃ n, v = .int n ∧ (0 ≤ n ∧ n < 2 ^ 63) ∧ Q (.int n) H') G.E) := by
    intro pins s σ H xs us Q I rv h
    obtain ⟨a, dx, fs, rfl, ea, q⟩ := h
    have e := Vals.ref1 rv
    subst e
    obtain ⟨mA, O, _, _, _, _⟩ := ins_get I.hok ea
    obtain ⟨od, J, _⟩ := O.look
    obtain ⟨m, hF⟩ := I.fr
    refine PySem.W.len_K hF I.ok.mod.kin J d2 d3 (wpAny_mono (run_at (.inr rfl) F1 (hr.mono (by omega)) hb1 hx I rv q) (fun u s' hq => ?_) fun _ _ e => e)
    obtain ⟨v, H', I', rv', n, rfl, hn, q'⟩ := hq
    obtain ⟨t, rfl⟩ := rv'
    exact ⟨hn, .int n, H', I'.tok _, ⟨_, rfl⟩, q'⟩
  refine pe_imp (pe_callB cr hg hm (boot_b .len) (pa_cons ho pa_nil (star_cons hy)) (by decide) (by decide) (star_cons hy) rfl) fun σ H Q ⟨env, F, fs, g, q⟩ => ?_
  refine ⟨env, F, fs, g, q.bind (p2 := f.ms.all (· == 0)) (fun z => (Bool.and_eq_true_iff.mp z).symm) fun x env1 F1 H1 fs1 _ g1 s1 t1 q1 v rv => ?_⟩
  obtain ⟨hc, q1⟩ := ite_inv q1
  obtain ⟨a, C', dx, fs', rfl, h1, h2, ⟨fl, ds, hx1, hx2⟩, rv⟩ := ev_obj g1.fh hc rv
  rw [d1] at h1; cases h1
  refine ⟨a, dx, fs', rfl, h2, call_spec (r0 := .stuck) (k := fun _ _ _ _ _ => True) (p := true) (ars := [.d x.1 x.2]) g1 ⟨.ref a, [], rfl, by rw [hc.2]; exact rv, rfl⟩ ?_⟩
  cases e : callD f [.d x.1 x.2] env1 with
  | stuck => rw [e] at q1; exact q1
  | exn c d => rw [e] at q1; exact q1
  | ok ro =>
    obtain ⟨r, env'⟩ := ro
    rw [e] at q1
    intro F' H' fs' v fr g' st t own nd ap fn
    obtain ⟨g2, s2, r2⟩ := frz_state g' ap own fn
    cases r with
    | int n =>
      obtain ⟨hn, q1⟩ := ite_inv (r := Res.ok (((0 : Nat), DL.D.int n), env')) q1
      exact ⟨n, by simpa [Rep] using r2, hn, q1 _ _ fs' g2 (st.trans s2) (fun z => t z) _ Rep.int⟩
    | _ => exact q1.elim
structure AdF (CXv : CXT) (X : Cx) (M : Mo) (lv : Nat) (c : Nat) (f : FnD) : Prop where
  ex : ∃ C fa, M.cl c = some C ∧ PySem.W.selfFirst X.K C = true ∧ PySem.W.findIn X.K (.ref C) (PySem.dunder Operator.Add.info.2) = some (some (.ref fa)) ∧ PySem.W.isFn X.K (.ref fa) = true ∧ FnF CXv X M lv f fa
/-- the built-in types that data have -/
def bTys : List String := ["NoneType", "bool", "int", "str", "list", "tuple"]
/-- what isinstance asks of an own class, with both answers -/
structure IsC (K : PySem.W.Frag) (C : Addr) : Prop where
  me : C8.InsC K C
  no : ∀ T ∈ bTys, PySem.W.kitOne K (.type T) (.ref C) = some false
theorem IsC.sub {K : PySem.W.Frag} {C : Addr} (c : IsC K C) {T : String} (h : T ∈ bTys) : PySem.W.subIn K (.type T) (.ref C) = some false := by
  have e := c.no T h
  unfold PySem.W.kitOne at e
  split at e
  · cases e
  · unfold PySem.W.kitCls at e
    simp only at e
    split at e
    · exact e
    · cases e
/-- a datum's type: an instance of c, or a built-in one -/
def TyD (M : Mo) (H : Hp) (c : Nat) (C : Addr) (v : V) : Prop := (∃ a dx fs, v = .ref a ∧ H a = some (.ins C dx fs)) ∨ ∃ T ∈ bTys, TyX M.K H v (.type T)
theorem tyD_of {M : Mo} {c k : Nat} {C : Addr} {d : D} {v : V} {b : Bool} (hs : Same F H) (hC : M.cl c = some C) (e : isiD c d = some b) (r : RW M F H k d v) : (b = true ∧ ∃ a dx fs, v = .ref a ∧ H a = some (.ins C dx fs)) ∨ (b = false ∧ ∃ T ∈ bTys, TyX M.K H v (.type T)) := by
  cases d with
  | non =>
    cases e
    rw [r.non]
    exact .inr ⟨rfl, "NoneType", by simp [bTys], .base .non⟩
  | bl x =>
    cases e
    rw [r.bl]
    exact .inr ⟨rfl, "bool", by simp [bTys], .base (.bl _)⟩
  | int x =>
    cases e
    rw [r.int]
    exact .inr ⟨rfl, "int", by simp [bTys], .base (.int _)⟩
  | str x =>
    cases e
    rw [r.str]
    exact .inr ⟨rfl, "str", by simp [bTys], .base (.str _)⟩
  | nd kd ds =>
    obtain ⟨a, vs, rfl, rd, _⟩ := r.node hs
    cases kd with
    | lst =>
      cases e
      exact .inr ⟨rfl, "list", by simp [bTys], .base (.lst rd)⟩
    | tup =>
      cases e
      exact .inr ⟨rfl, "tuple", by simp [bTys], .base (.tup rd)⟩
    | scr => cases e
    | dic _ => cases e
    | obj c' fl =>
      have e' : (if c = c' then some true else none) = some b := e
      by_cases hc : c = c'
      · rw [if_pos hc] at e'
        have e2 := Option.some.inj e'
        subst hc
        subst e2
        obtain ⟨C', dx, fs, h1, h2, _⟩ := rd
        rw [hC] at h1; cases h1
        exact .inl ⟨rfl, a, dx, fs, rfl, h2⟩
      · rw [if_neg hc] at e'
        cases e'
structure EqF (CXv : CXT) (X : Cx) (M : Mo) (lv : Nat) (c : Nat) (f : FnD) : Prop where
  ex : ∃ C fa, M.cl c = some C ∧ IsC X.K C ∧ PySem.W.findIn X.K (.ref C) "__eq__" = some (some (.ref fa)) ∧ PySem.W.isFn X.K (.ref fa) = true ∧ FnF CXv X M lv f fa
theorem cmp_back {Q : Value → Shared → Prop} {v : V} {u : Value} {s' : Shared} (r : RelV v u) (h : Q u s') : PySem.W.CmpBack Q u s' := by
  cases v with
  | non => cases r; exact h
  | bl b => cases r; exact h
  | int i => obtain ⟨t, rfl⟩ := r; exact h
  | str i => obtain ⟨t, rfl⟩ := r; exact h
  | byt i => obtain ⟨t, rfl⟩ := r; exact h
  | flt i => obtain ⟨t, rfl⟩ := r; exact h
  | ref a => cases r; exact h
  | ty n => cases r; exact h
theorem s_addo {CXv : CXT} {lv c : Nat} {f : FnD} (D : AdF CXv X G.M lv c f) (hr : Room lv X.A) (hx : Passes CXv X G.E) {a b : E} {x y : Expr} {pos : Pos}
    (ha : PE X x (tE G a.pure (ev a))) (hb : PE X y (tE G b.pure (ev b))) : PE X (.BinOp x .Add y pos) (tE G (E.addo c f a b).pure (ev (.addo c f a b))) := by
  obtain ⟨C, fa, d1, d2, d3, d4, k, fd, ps, F1, hk1, hb1⟩ := D.ex
  have cr : OpR X (binaryOp .Add) (fun x y H Q => ∃ a b dx fs dy fs', x = .ref a ∧ y = .ref b ∧ H a = some (.ins C dx fs) ∧ H b = some (.ins C dy fs') ∧ Spec G.M f [.ref a, .ref b] H Q G.E) := by
    intro pins s σ H x y v u Q I rx ry h
    obtain ⟨a, b, dx, fs, dy, fs', rfl, rfl, ea, eb, q⟩ := h
    cases rx
    cases ry
    obtain ⟨mA, O, _⟩ := ins_get I.hok ea
    obtain ⟨od, J, _⟩ := O.look
    obtain ⟨mB, O', _⟩ := ins_get I.hok eb
    obtain ⟨od', J', _⟩ := O'.look
    obtain ⟨m, hF⟩ := I.fr
    refine PySem.W.binop_K (op := .Add) hF I.ok.mod.kin J J'.type d2 d3 d4 (wpAny_mono (run_at (.inl rfl) F1 (hr.mono (by omega)) hb1 hx I (vs := [.ref a, .ref b]) (.cons rfl (.cons rfl .nil)) q) (fun u s' hq => ?_) fun _ _ e => e)
    obtain ⟨v, H', I', rv', q'⟩ := hq
    exact cmp_back rv' ⟨v, H', I', rv', q'⟩
  refine pe_imp (pe_op cr ha hb) fun σ H Q ⟨env, F, fs, g, q⟩ => ?_
  refine ⟨env, F, fs, g, q.bind (p2 := f.ms.all (· == 0) && b.pure) (fun z => by simp only [E.pure, Bool.and_eq_true] at z ⊢; exact ⟨z.1.2, z.1.1, z.2⟩) fun x env1 F1 H1 fs1 _ g1 s1 t1 q1 v rv => ?_⟩
  obtain ⟨hc, q1⟩ := ite_inv q1
  refine ⟨env1, F1, fs1, g1, q1.bind (p2 := f.ms.all (· == 0)) (fun z => by simp only [Bool.and_eq_true] at z; exact ⟨z.2, z.1⟩) fun y env2 F2 H2 fs2 _ g2 s2 t2 q2 w rw => ?_⟩
  obtain ⟨hc2, q2⟩ := ite_inv q2
  rw [hc.2] at rv
  have rv : RW G.M F2 H2 x.1 x.2 v := by rw [hc.2]; exact Rep.mono s2.ff rv
  obtain ⟨a, C', dx, fs', rfl, h1, h2, _, rv⟩ := ev_obj g2.fh hc rv
  rw [d1] at h1; cases h1
  obtain ⟨b, C', dy, fs'', rfl, h1, h3, _, rw⟩ := ev_obj g2.fh hc2 rw
  rw [d1] at h1; cases h1
  exact ⟨a, b, dx, fs', dy, fs'', rfl, rfl, h2, h3, call_of g2 (ars := [.d x.1 x.2, .d y.1 y.2]) ⟨.ref a, [.ref b], rfl, by rw [hc.2]; exact rv, .ref b, [], rfl, by rw [hc2.2]; exact rw, rfl⟩ (fun z => z) q2⟩
theorem op_eqo {CXv : CXT} {lv c : Nat} {f : FnD} (hK : X.K = G.M.K) (D : EqF CXv X G.M lv c f) (hr : Room lv X.A) (hx : Passes CXv X G.E) : OpR X (compareOp .Eq) (fun x y H Q => ∃ C a dx fs, G.M.cl c = some C ∧ x = .ref a ∧ H a = some (.ins C dx fs) ∧ TyD G.M H c C y ∧ Spec G.M f [.ref a, y] H Q G.E) := by
  obtain ⟨C, fa, d1, d0, d2, d3, k, fd, ps, F1, hk1, hb1⟩ := D.ex
  intro pins s σ H x y v u Q I rx ry h
  obtain ⟨C', a, dx, fs, e1, rfl, ea, ty, q⟩ := h
  rw [d1] at e1; cases e1
  cases rx
  obtain ⟨mA, O, _⟩ := ins_get I.hok ea
  obtain ⟨od, J, _⟩ := O.look
  obtain ⟨m, hF⟩ := I.fr
  have main : ∀ tb : Value, PySem.W.Looks (model X.prog X.w) s.heap (typeOf u) tb → PySem.W.notFirst X.K C tb = true → wpAny (model X.prog X.w) X.A (compareOp .Eq (.ref a) u) (fun u' s' => ∃ v H', Inv X pins σ H' s' ∧ RelV v u' ∧ Q v H') X.xe s := fun tb lk nf => by
    refine PySem.W.cmp_K (op := .Eq) (tb := tb) hr.units0 hF I.ok.mod.kin J lk nf d2 d3 (wpAny_mono (run_at (.inl rfl) F1 (hr.mono (by omega)) hb1 hx I (vs := [.ref a, y]) (.cons rfl (.cons ry .nil)) q) (fun u s' hq => ?_) fun _ _ e => e)
    obtain ⟨v, H', I', rv', q'⟩ := hq
    exact cmp_back rv' ⟨v, H', I', rv', q'⟩
  rcases ty with ⟨b, dy, fs', rfl, eb⟩ | ⟨T, hT, ty⟩
  · cases ry
    obtain ⟨mB, O', _⟩ := ins_get I.hok eb
    obtain ⟨od', J', _⟩ := O'.look
    exact main (.ref C) J'.type (by simp [PySem.W.notFirst])
  · rw [← hK] at ty
    obtain ⟨P, Z, p, _⟩ := kit_of I ry ty
    exact main (.type T) (Z.ty _ _ I.kIn p) (by simp [PySem.W.notFirst, d0.sub hT])
theorem eqo_of {CXv : CXT} {lv c : Nat} {f : FnD} (D : EqF CXv X G.M lv c f) {a b : E} {Q : VK} (h : tE G (E.eqo c f a b).pure (ev (.eqo c f a b)) σ H Q) :
    tOp (fun x y H Q => ∃ C a dx fs, G.M.cl c = some C ∧ x = .ref a ∧ H a = some (.ins C dx fs) ∧ TyD G.M H c C y ∧ Spec G.M f [.ref a, y] H Q G.E) (tE G a.pure (ev a)) (tE G b.pure (ev b)) σ H (fun v H' => ∃ k, v = .bl k ∧ Q v H') := by
  obtain ⟨C, fa, d1, _⟩ := D.ex
  obtain ⟨env, F, fs, g, q⟩ := h
  refine ⟨env, F, fs, g, q.bind (p2 := f.ms.all (· == 0) && b.pure) (fun z => by simp only [E.pure, Bool.and_eq_true] at z ⊢; exact ⟨z.1.2, z.1.1, z.2⟩) fun x env1 F1 H1 fs1 _ g1 s1 t1 q1 v rv => ?_⟩
  obtain ⟨hc, q1⟩ := ite_inv q1
  refine ⟨env1, F1, fs1, g1, q1.bind (p2 := f.ms.all (· == 0)) (fun z => by simp only [Bool.and_eq_true] at z; exact ⟨z.2, z.1⟩) fun y env2 F2 H2 fs2 _ g2 s2 t2 q2 w rw => ?_⟩
  obtain ⟨hc2, q2⟩ := ite_inv q2
  rw [hc.2] at rv
  have rv : RW G.M F2 H2 x.1 x.2 v := by rw [hc.2]; exact Rep.mono s2.ff rv
  obtain ⟨a, C', dx, fs', rfl, h1, h2, _, rv⟩ := ev_obj g2.fh hc rv
  rw [d1] at h1; cases h1
  obtain ⟨b, hb⟩ := Option.isSome_iff_exists.mp hc2.1
  have ty : TyD G.M H2 c C w := (tyD_of g2.fh d1 hb rw).imp (fun z => z.2) fun z => z.2
  have rw : Rep G.M F2 y.2 w := by
    have rw := rw
    rw [hc2.2] at rw
    exact rw
  refine ⟨C, a, dx, fs', d1, rfl, h2, ty, call_spec (r0 := .stuck) (k := fun _ _ _ _ _ => True) (p := true) (ars := [.d x.1 x.2, .d y.1 y.2]) g2 ⟨.ref a, [w], rfl, by rw [hc.2]; exact rv, w, [], rfl, by rw [hc2.2]; exact rw, rfl⟩ ?_⟩
  cases e : callD f [.d x.1 x.2, .d y.1 y.2] env2 with
  | stuck => rw [e] at q2; exact q2
  | exn c d => rw [e] at q2; exact q2
  | ok ro =>
    obtain ⟨r, env'⟩ := ro
    rw [e] at q2
    intro F' H' fs' v fr g' st t own nd ap fn
    obtain ⟨g2, s2, r2⟩ := frz_state g' ap own fn
    cases r with
    | bl n =>
      have ev : v = .bl n := by simpa [Rep] using r2
      subst ev
      exact ⟨n, rfl, q2 _ _ fs' g2 (st.trans s2) (fun z => t z) _ Rep.bl⟩
    | _ => exact q2.elim
theorem s_eqo {CXv : CXT} {lv c : Nat} {f : FnD} (hK : X.K = G.M.K) (D : EqF CXv X G.M lv c f) (hr : Room lv X.A) (hx : Passes CXv X G.E) {a b : E} {x y : Expr} {pos : Pos}
    (ha : PE X x (tE G a.pure (ev a))) (hb : PE X y (tE G b.pure (ev b))) : PE X (.Compare x [.Eq] [y] pos) (tE G (E.eqo c f a b).pure (ev (.eqo c f a b))) :=
  pe_imp (pe_cmpR (op_eqo hK D hr hx) ha hb (nomark y)) fun σ H Q h => by
    have q := eqo_of D h
    obtain ⟨env, F, fs, g, q⟩ := q
    refine ⟨env, F, fs, g, q.weak id fun x env1 F1 H1 fs1 _ g1 s1 t1 q1 v rv => ?_⟩
    obtain ⟨env, F, fs, g, q⟩ := q1 v rv
    refine ⟨env, F, fs, g, q.weak id fun x env1 F1 H1 fs1 _ g1 s1 t1 q1 v rv => ?_⟩
    obtain ⟨C, a, dx, fs', h1, h2, h3, h4, h6⟩ := q1 v rv
    exact ⟨C, a, dx, fs', h1, h2, h3, h4, spec_imp h6 fun v H ⟨k, _, q⟩ => q⟩
theorem s_eqoT {CXv : CXT} {lv c : Nat} {f : FnD} (hK : X.K = G.M.K) (D : EqF CXv X G.M lv c f) (hr : Room lv X.A) (hx : Passes CXv X G.E) {a b : E} {x y : Expr} {pos : Pos}
    (ha : PE X x (tE G a.pure (ev a))) (hb : PE X y (tE G b.pure (ev b))) : PT X (.Compare x [.Eq] [y] pos) (tT G (E.eqo c f a b).pure (evT (.eqo c f a b))) :=
  pt_imp (pt_cmpR (op_eqo hK D hr hx) ha hb (nomark y)) fun σ H Q h => by
    have q := eqo_of D (tT_of h)
    obtain ⟨env, F, fs, g, q⟩ := q
    refine ⟨env, F, fs, g, q.weak id fun x env1 F1 H1 fs1 _ g1 s1 t1 q1 v rv => ?_⟩
    obtain ⟨env, F, fs, g, q⟩ := q1 v rv
    refine ⟨env, F, fs, g, q.weak id fun x env1 F1 H1 fs1 _ g1 s1 t1 q1 v rv => ?_⟩
    obtain ⟨C, a, dx, fs', h1, h2, h3, h4, h6⟩ := q1 v rv
    exact ⟨C, a, dx, fs', h1, h2, h3, h4, spec_imp h6 fun v H ⟨k, _, q⟩ => q⟩

/-! ### a new instance -/
structure MkF (CXv : CXT) (X : Cx) (M : Mo) (lv : Nat) (c : Nat) (f : FnD) : Prop where
  ex : ∃ C fa, M.cl c = some C ∧ Mk X.K C fa ∧ X.mg f.name = some (.ref C) ∧ FnF CXv X M lv f fa
theorem args0 {M : Mo} {F H : Hp} : ∀ {ds : List D} {vs : List V}, Fa2 (Rep M F) ds vs → ArgsR M F H (List.replicate ds.length 0) ds vs []
  | [], vs, h => ⟨rfl, h, rfl⟩
  | d :: ds, vs, h => by
    obtain ⟨v, vs', rfl, a, b⟩ := h
    exact ⟨d, ds, v, vs', rfl, rfl, a, args0 b⟩
theorem outs0 {M : Mo} {F H : Hp} : ∀ {n : Nat} {vs : List V} {ds : List D} {fo : List (List Addr)}, OutsR M F H (List.replicate n 0) vs ds fo → ds = [] ∧ fo = []
  | 0, _, _, _, h => h.2
  | n + 1, _, _, _, h => by
    obtain ⟨v, vs', rfl, h⟩ := h
    exact outs0 h
theorem mk_core {c : Nat} {f : FnD} {Cl : Addr} {ds : List D} {vs : List V} {env1 : Env} {Q : VK} {x dx : Addr} (d1 : G.M.cl c = some Cl) (hm : f.ms = 1 :: List.replicate ds.length 0) (hk0 : f.rk = 0) (g1 : GS G.M F1 H1 G.io env1 σ fs1) (fv : Fa2 (Rep G.M F1) ds vs)
    {p : Bool} (q1 : Pst G p σ F1 H1 fs1 ((f.den (.nd (.obj c []) [] :: ds)).bind fun (r, outs) => match r, outs with
      | .non, [o] => .ok ((0, o), env1)
      | _, _ => .stuck) fun x _ F' H' _ => ∀ v, RW G.M F' H' x.1 x.2 v → Q v H') (nx : H1 x = none) (ndx : H1 dx = none) (ne : dx ≠ x) :
    Spec G.M f (.ref x :: vs) (upd (upd H1 dx (.own x)) x (.ins Cl dx [])) (fun v H3 => v = .non ∧ Q (.ref x) H3) G.E := by
  have F0 : ∀ b, H1 b = none → F1 b = none := fun b hb => by
    cases q : F1 b with
    | none => rfl
    | some o => rw [g1.fh b o q] at hb; cases hb
  generalize hH2 : upd (upd H1 dx (.own x)) x (.ins Cl dx []) = H2
  have ndx2 : (upd H1 dx (.own x)) x = none := by rw [upd_ne (Ne.symm ne)]; exact nx
  have sm : Same H1 H2 := by
    rw [← hH2]
    exact (new_same ndx).trans (new_same ndx2)
  have h2x : H2 x = some (.ins Cl dx []) := by rw [← hH2]; exact upd_same
  have h2d : H2 dx = some (.own x) := by rw [← hH2, upd_ne ne]; exact upd_same
  have back : ∀ b, H2 b = none → H1 b = none := fun b hb => by
    cases q : H1 b with
    | none => rfl
    | some o => rw [sm b o q] at hb; cases hb
  have inl : ∀ b, inL [[x, dx]] b → H1 b = none := fun b hb => by
    simp [inL] at hb
    rcases hb with rfl | rfl
    · exact nx
    · exact ndx
  show Spec G.M f (.ref x :: vs) H2 _ G.E
  refine ⟨.nd (.obj c []) [] :: ds, F1, [[x, dx]], ?_, ?_, fun b hb => F0 b (inl b hb), g1.fh.trans sm, ?_⟩
  · rw [hm]
    exact ⟨_, ds, .ref x, vs, [x, dx], [], rfl, rfl, rfl, ⟨x, [], [dx], [], rfl, ⟨Cl, dx, [], d1, h2x, h2d, rfl, rfl, rfl⟩, ⟨rfl, rfl⟩, by simp⟩, args0 fv⟩
  · simp [Ne.symm ne]
  · cases ed : f.den (.nd (.obj c []) [] :: ds) with
    | stuck => rw [ed] at q1; exact q1
    | exn c' d' =>
      rw [ed] at q1
      intro cls dx' F' H' P' st s2 ex
      have q1 : XP G.M G.E c' d' F1 H1 fs1.at := q1
      refine q1 cls dx' F' H' P' ⟨st.ff, fun b o q n => st.fr b o (sm b o q) fun z => ?_, fun b hb => ?_, fun b hb => ?_⟩ s2 ex
      · rw [inl b z] at q; cases q
      · rcases st.nw b hb with z | z | z
        · exact .inl z
        · exact .inr (.inl (back b z))
        · exact .inr (.inl (inl b z))
      · rcases st.own b hb with z | z
        · exact .inr (inl b z)
        · exact .inr (back b z)
    | ok ro =>
      obtain ⟨r, outs⟩ := ro
      rw [ed] at q1
      intro v F' H' fo' fr st s2 ho own nd fno
      rw [hm] at ho
      obtain ⟨o, os, v', vs', f1, fo2, rfl, ev, rfl, oo, ho⟩ := ho
      cases ev
      obtain ⟨rfl, rfl⟩ := outs0 ho
      rw [hk0] at own
      cases r with
      | non =>
        have q1 : Pst G p σ F1 H1 fs1 (Res.ok (((0 : Nat), o), env1)) _ := q1
        refine ⟨by simpa [Rep] using own.1, ?_⟩
        have keepF : ∀ i b, b ∈ fs1 i → H' b = H1 b := fun i b hb => by
          cases q : H1 b with
          | none => exact absurd q (g1.hd hb)
          | some u => exact st.fr b u (sm b u q) fun z => by rw [inl b z] at q; cases q
        have nf : ∀ b, b ∈ f1 → H1 b = none := fun b hb => by
          rcases st.own b (.inl (by simp [hb])) with z | z
          · exact inl b z
          · exact back b z
        have g' : GS G.M F' H' G.io env1 σ fs1 := g1.keep st.ff keepF s2 fun i b hb => by
          cases q : F' b with
          | none => rfl
          | some u =>
            exfalso
            rcases st.nw b (by rw [q]; simp) with z | z | z
            · exact z (g1.fn i b hb)
            · exact g1.hd hb (back b z)
            · exact g1.hd hb (inl b z)
        obtain ⟨g2, s3, r3⟩ := frz_state g' (fun i b hb z => g1.hd hb (nf b z)) oo fun b hb => fno b (by simp [hb])
        have s4 : Step F1 H1 fs1.at F' H' (atW fs1 f1) := by
          refine ⟨st.ff, fun b o q n => st.fr b o (sm b o q) fun z => (by rw [inl b z] at q; cases q), fun b hb => ?_, fun b hb => ?_⟩
          · rcases st.nw b hb with z | z | z
            · exact .inl z
            · exact .inr (.inl (back b z))
            · exact .inr (.inl (inl b z))
          · rcases hb with hb | hb
            · exact .inl hb
            · exact .inr (nf b hb)
        refine q1 _ _ fs1 g2 (s4.trans s3) (fun _ b u q => st.fr b u (sm b u q) fun z => by rw [inl b z] at q; cases q) _ r3
      | _ => exact q1.elim
theorem args_ext {env : Env} {x : Sl} : ∀ {ms : List Nat} {ars : List Ar} {ds : List D}, argsOf env ms ars = some ds → (argsOf (env ++ [x]) ms ars = some ds) ∧ (∀ i ∈ wksOf ars, i < env.length) := by
  have lx : ∀ {i k : Nat} {d : D}, lent env i k = some d → lent (env ++ [x]) i k = some d ∧ i < env.length := fun {i k d} e => by
    unfold lent at e ⊢
    cases q : env[i]? with
    | none => rw [q] at e; cases e
    | some s =>
      have hi := lt_of_get q
      rw [List.getElem?_append_left hi]
      exact ⟨e, hi⟩
  intro ms ars
  induction ars generalizing ms with
  | nil =>
    intro ds e
    cases ms with
    | nil => exact ⟨e, by simp [wksOf]⟩
    | cons m ms => cases m <;> simp [argsOf] at e
  | cons a ars ih =>
    intro ds e
    cases ms with
    | nil => cases a <;> simp [argsOf] at e
    | cons m ms =>
      cases a with
      | d k d =>
        cases m with
        | succ m => simp [argsOf] at e
        | zero =>
          cases k with
          | succ k => simp [argsOf] at e
          | zero =>
            have e : (argsOf env ms ars).map (d :: ·) = some ds := e
            cases e1 : argsOf env ms ars with
            | none => rw [e1] at e; cases e
            | some es =>
              rw [e1] at e
              obtain ⟨a1, a2⟩ := ih e1
              refine ⟨?_, by simpa [wksOf] using a2⟩
              show (argsOf (env ++ [x]) ms ars).map (d :: ·) = some ds
              rw [a1]; exact e
      | wk i =>
        cases m with
        | succ m => simp [argsOf] at e
        | zero =>
          have e : (match lent env i 1 with | some (.nd .lst ds) => (argsOf env ms ars).map (D.lst ds :: ·) | _ => none) = some ds := e
          cases q : lent env i 1 with
          | none => rw [q] at e; cases e
          | some d =>
            obtain ⟨l1, l2⟩ := lx q
            rw [q] at e
            cases d with
            | nd kd xs =>
              cases kd with
              | lst =>
                have e : (argsOf env ms ars).map (D.lst xs :: ·) = some ds := e
                cases e1 : argsOf env ms ars with
                | none => rw [e1] at e; cases e
                | some es =>
                  rw [e1] at e
                  obtain ⟨a1, a2⟩ := ih e1
                  refine ⟨?_, fun j hj => ?_⟩
                  · show (match lent (env ++ [x]) i 1 with | some (.nd .lst ds) => (argsOf (env ++ [x]) ms ars).map (D.lst ds :: ·) | _ => none) = some ds
                    rw [l1]
                    show (argsOf (env ++ [x]) ms ars).map (D.lst xs :: ·) = some ds
                    rw [a1]; exact e
                  · simp only [wksOf, List.mem_cons] at hj
                    rcases hj with rfl | hj
                    · exact l2
                    · exact a2 j hj
              | _ => cases e
            | _ => cases e
      | io i =>
        cases m with
        | zero => simp [argsOf] at e
        | succ k =>
          have e : (match lent env i (k + 1) with | some d => (argsOf env ms ars).map (d :: ·) | none => none) = some ds := e
          cases q : lent env i (k + 1) with
          | none => rw [q] at e; cases e
          | some d =>
            obtain ⟨l1, l2⟩ := lx q
            rw [q] at e
            have e : (argsOf env ms ars).map (d :: ·) = some ds := e
            cases e1 : argsOf env ms ars with
            | none => rw [e1] at e; cases e
            | some es =>
              rw [e1] at e
              obtain ⟨a1, a2⟩ := ih e1
              refine ⟨?_, by simpa [wksOf] using a2⟩
              show (match lent (env ++ [x]) i (k + 1) with | some d => (argsOf (env ++ [x]) ms ars).map (d :: ·) | none => none) = some ds
              rw [l1]
              show (argsOf (env ++ [x]) ms ars).map (d :: ·) = some ds
              rw [a1]; exact e
theorem arR_ext0 {M : Mo} {F H : Hp} {σ : St} {y : Option V} : ∀ {ars : List Ar} {vs : List V}, ArR M F H σ ars vs → ArR M F H (σ ++ [y]) ars vs := by
  intro ars vs h
  induction ars generalizing vs with
  | nil => exact h
  | cons a ars ih =>
    have up : ∀ {i : Nat} {v : V}, σ[i]? = some (some v) → (σ ++ [y])[i]? = some (some v) := fun {i v} e => by rw [List.getElem?_append_left (lt_of_get e)]; exact e
    cases a with
    | d k d => obtain ⟨v, vs', e, r, h⟩ := h; exact ⟨v, vs', e, r, ih h⟩
    | io i => obtain ⟨v, vs', e, r, h⟩ := h; exact ⟨v, vs', e, up r, ih h⟩
    | wk i => obtain ⟨v, vs', e, r, h⟩ := h; exact ⟨v, vs', e, up r, ih h⟩
theorem arR_ext {M : Mo} {F H H2 : Hp} {σ : St} {y : Option V} (s : Same H H2) {ars : List Ar} {vs : List V} (h : ArR M F H σ ars vs) : ArR M F H2 (σ ++ [y]) ars vs := arR_ext0 (h.mono (Same.refl F) s)
theorem noOuts0 : ∀ {n : Nat} {ds : List D}, noOuts (List.replicate n 0) ds = true
  | 0, ds => by cases ds <;> rfl
  | n + 1, ds => by show noOuts (0 :: List.replicate n 0) ds = true; exact noOuts0 (n := n)
theorem mkw_core {c : Nat} {f : FnD} {Cl : Addr} {ars : List Ar} {vs : List V} {env1 : Env} {Q : VK} {x dx : Addr} (d1 : G.M.cl c = some Cl) (g1 : GS G.M F1 H1 G.io env1 σ fs1) (fv : ArR G.M F1 H1 σ ars vs)
    (q1 : Pst G false σ F1 H1 fs1 (mkW c f ars env1) fun x _ F' H' _ => ∀ v, RW G.M F' H' x.1 x.2 v → Q v H') (nx : H1 x = none) (ndx : H1 dx = none) (ne : dx ≠ x) :
    Spec G.M f (.ref x :: vs) (upd (upd H1 dx (.own x)) x (.ins Cl dx [])) (fun v H3 => v = .non ∧ Q (.ref x) H3) G.E := by
  unfold mkW at q1
  cases ea : argsOf env1 (List.replicate ars.length 0) ars with
  | none => rw [ea] at q1; exact q1.elim
  | some ds =>
    simp only [ea] at q1
    obtain ⟨⟨⟨hm, hk0⟩, hio⟩, q1⟩ := ite_inv q1
    obtain ⟨ea2, hwl⟩ := args_ext (x := .own 1 (.nd (.obj c []) [])) ea
    have F0 : ∀ b, H1 b = none → F1 b = none := fun b hb => by
      cases q : F1 b with
      | none => rfl
      | some o => rw [g1.fh b o q] at hb; cases hb
    generalize hH2 : upd (upd H1 dx (.own x)) x (.ins Cl dx []) = H2
    have ndx2 : (upd H1 dx (.own x)) x = none := by rw [upd_ne (Ne.symm ne)]; exact nx
    have sm : Same H1 H2 := by
      rw [← hH2]
      exact (new_same ndx).trans (new_same ndx2)
    have h2x : H2 x = some (.ins Cl dx []) := by rw [← hH2]; exact upd_same
    have h2d : H2 dx = some (.own x) := by rw [← hH2, upd_ne ne]; exact upd_same
    have back : ∀ b, H2 b = none → H1 b = none := fun b hb => by
      cases q : H1 b with
      | none => rfl
      | some o => rw [sm b o q] at hb; cases hb
    have inl : ∀ b, b ∈ [x, dx] → H1 b = none := fun b hb => by
      simp at hb
      rcases hb with rfl | rfl
      · exact nx
      · exact ndx
    generalize hn : env1.length = n at *
    have hsn : σ.length = n := by rw [g1.len, hn]
    have fo : fs1 n = [] := g1.out n (by rw [List.getElem?_eq_none]; omega)
    have gat : ∀ b, (fs1.set n [x, dx]).at b → fs1.at b ∨ b ∈ [x, dx] := fun b ⟨i, hb⟩ => by
      by_cases z : i = n
      · subst z; rw [Ft.set_same] at hb; exact .inr hb
      · rw [Ft.set_ne z] at hb; exact .inl ⟨i, hb⟩
    have g2 : GS G.M F1 H2 G.io (env1 ++ [.own 1 (.nd (.obj c []) [])]) (σ ++ [some (.ref x)]) (fs1.set n [x, dx]) := by
      refine ⟨by simp [g1.len], fun i s e => ?_, fun i => ?_, fun i j b hne hb hb2 => ?_, fun i b hb => ?_, fun i e => ?_, g1.fh.trans sm, fun p hp => ?_⟩
      · by_cases z : i < n
        · rw [List.getElem?_append_left (by omega)] at e
          obtain ⟨y, h1, h2⟩ := g1.sl i s e
          refine ⟨y, by rw [List.getElem?_append_left (by omega)]; exact h1, ?_⟩
          rw [Ft.set_ne (by omega)]
          exact h2.mono (Same.refl F1) fun b hb => g1.same sm i b hb
        · have hz : i = n := by have := lt_of_get e; simp at this; omega
          subst hz
          rw [List.getElem?_append_right (by omega), show i - env1.length = 0 by omega] at e
          cases e
          refine ⟨some (.ref x), by rw [List.getElem?_append_right (by omega), show i - σ.length = 0 by omega]; rfl, ?_⟩
          rw [Ft.set_same]
          exact ⟨.ref x, rfl, ⟨x, [], [dx], [], rfl, ⟨Cl, dx, [], d1, h2x, h2d, rfl, rfl, rfl⟩, ⟨rfl, rfl⟩, by simp⟩⟩
      · by_cases z : i = n
        · subst z; rw [Ft.set_same]; simp [Ne.symm ne]
        · rw [Ft.set_ne z]; exact g1.nd i
      · by_cases z : i = n
        · subst z
          rw [Ft.set_same] at hb
          rw [Ft.set_ne (Ne.symm hne)] at hb2
          exact g1.hd hb2 (inl b hb)
        · rw [Ft.set_ne z] at hb
          by_cases z2 : j = n
          · subst z2
            rw [Ft.set_same] at hb2
            exact g1.hd hb (inl b hb2)
          · rw [Ft.set_ne z2] at hb2
            exact g1.dj i j b hne hb hb2
      · by_cases z : i = n
        · subst z; rw [Ft.set_same] at hb; exact F0 b (inl b hb)
        · rw [Ft.set_ne z] at hb; exact g1.fn i b hb
      · have hi : n < i := by
          have := List.getElem?_eq_none_iff.mp e
          simp at this; omega
        rw [Ft.set_ne (by omega)]
        exact g1.out i (by rw [List.getElem?_eq_none]; omega)
      · obtain ⟨h1, k, d, h2⟩ := g1.io p hp
        exact ⟨by rw [List.getElem?_append_left (lt_of_get h1)]; exact h1, k, d, by rw [List.getElem?_append_left (lt_of_get h2)]; exact h2⟩
    have stp : ∀ {F' H' : Hp} {P' : Addr → Prop}, Step F1 H2 (fs1.set n [x, dx]).at F' H' P' → Step F1 H1 fs1.at F' H' P' := fun {F' H' P'} st => by
      refine ⟨st.ff, fun b o q z => st.fr b o (sm b o q) fun y => ?_, fun b hb => ?_, fun b hb => ?_⟩
      · rcases gat b y with y | y
        · exact z y
        · rw [inl b y] at q; cases q
      · rcases st.nw b hb with z | z | z
        · exact .inl z
        · exact .inr (.inl (back b z))
        · rcases gat b z with z | z
          · exact .inr (.inr z)
          · exact .inr (.inl (inl b z))
      · rcases st.own b hb with z | z
        · rcases gat b z with z | z
          · exact .inl z
          · exact .inr (inl b z)
        · exact .inr (back b z)
    have hio2 : iosOf (.io n :: ars) = [n] := by show n :: iosOf ars = [n]; rw [hio]
    have hen : (env1 ++ [Sl.own 1 (.nd (.obj c []) [])])[n]? = some (.own 1 (.nd (.obj c []) [])) := by rw [List.getElem?_append_right (by omega), show n - env1.length = 0 by omega]; rfl
    have hln : lent (env1 ++ [Sl.own 1 (.nd (.obj c []) [])]) n 1 = some (.nd (.obj c []) []) := by unfold lent; rw [hen]; rfl
    have ea3 : argsOf (env1 ++ [Sl.own 1 (.nd (.obj c []) [])]) f.ms (.io n :: ars) = some (.nd (.obj c []) [] :: ds) := by
      rw [hm]
      show (match lent (env1 ++ [Sl.own 1 (.nd (.obj c []) [])]) n (0 + 1) with | some d => (argsOf _ _ ars).map (d :: ·) | none => none) = _
      rw [hln]
      show (argsOf _ _ ars).map _ = _
      rw [ea2]; rfl
    refine call_spec (r0 := .stuck) (k := fun _ _ _ _ _ => True) (p := false) (ars := .io n :: ars) g2 ⟨.ref x, vs, rfl, by rw [List.getElem?_append_right (by omega), show n - σ.length = 0 by omega]; rfl, arR_ext sm fv⟩ ?_
    unfold callD
    rw [ea3]
    simp only []
    rw [hio2, if_pos ⟨by simp, fun i hi => by
      have := hwl i (by simpa [wksOf] using hi)
      simp; omega⟩]
    cases ed : f.den (.nd (.obj c []) [] :: ds) with
    | stuck => rw [ed] at q1; exact q1
    | exn c' d' =>
      rw [ed] at q1
      have q1 : XP G.M G.E c' d' F1 H1 fs1.at := q1
      intro cls dx' F' H' P' st s2 ex
      exact q1 cls dx' F' H' P' (stp st) s2 ex
    | ok ro =>
      obtain ⟨r, outs⟩ := ro
      rw [ed] at q1
      simp only [Res.bind_ok] at q1 ⊢
      cases r with
      | non =>
        match outs, q1 with
        | [o], q1 =>
          simp only [] at q1
          obtain ⟨hnl, q1⟩ := ite_inv q1
          have ep : putBack (env1 ++ [Sl.own 1 (.nd (.obj c []) [])]) [n] [o] = some (env1 ++ [Sl.own 1 o]) := by
            show (match (env1 ++ [Sl.own 1 (.nd (.obj c []) [])])[n]? with | some (.own k _) => putBack ((env1 ++ [Sl.own 1 (.nd (.obj c []) [])]).set n (.own k o)) [] [] | some (.io k _) => putBack ((env1 ++ [Sl.own 1 (.nd (.obj c []) [])]).set n (.io k o)) [] [] | _ => none) = _
            rw [hen]
            show some _ = _
            congr 1
            rw [List.set_append_right _ _ (by omega), show n - env1.length = 0 by omega]; rfl
          rw [ep]
          simp only []
          rw [if_pos (.inr ⟨rfl, hk0, by rw [hm]; show (noLstK 1 o && noOuts (List.replicate ars.length 0) []) = true; rw [hnl, noOuts0]; rfl⟩)]
          intro F' H' fs' v fr g' st _ own _ _ _
          rw [hk0] at own
          have hv : v = .non := by simpa [Rep] using own.1
          refine ⟨hv, ?_⟩
          have hen' : (env1 ++ [Sl.own 1 o])[n]? = some (.own 1 o) := by rw [List.getElem?_append_right (by omega), show n - env1.length = 0 by omega]; rfl
          obtain ⟨y, hy, v', ev', oo⟩ := g'.sl n _ hen'
          rw [List.getElem?_append_right (by omega), show n - σ.length = 0 by omega] at hy
          cases hy
          cases ev'
          have g3 : GS G.M F' H' G.io env1 σ (fs'.set n []) := by
            refine ⟨g1.len, fun i s e => ?_, fun i => ?_, fun i j b hne hb hb2 => ?_, fun i b hb => ?_, fun i e => ?_, g'.fh, fun p hp => ?_⟩
            · have hi := lt_of_get e
              obtain ⟨z, h1, h2⟩ := g'.sl i s (by rw [List.getElem?_append_left (by omega)]; exact e)
              rw [List.getElem?_append_left (by omega)] at h1
              refine ⟨z, h1, ?_⟩
              rw [Ft.set_ne (by omega)]
              exact h2
            · by_cases z : i = n
              · subst z; rw [Ft.set_same]; simp
              · rw [Ft.set_ne z]; exact g'.nd i
            · by_cases z : i = n
              · subst z; rw [Ft.set_same] at hb; simp at hb
              · rw [Ft.set_ne z] at hb
                by_cases z2 : j = n
                · subst z2; rw [Ft.set_same] at hb2; simp at hb2
                · rw [Ft.set_ne z2] at hb2
                  exact g'.dj i j b hne hb hb2
            · by_cases z : i = n
              · subst z; rw [Ft.set_same] at hb; simp at hb
              · rw [Ft.set_ne z] at hb; exact g'.fn i b hb
            · have := List.getElem?_eq_none_iff.mp e
              by_cases z : i = n
              · subst z; exact Ft.set_same
              · rw [Ft.set_ne z]
                exact g'.out i (by rw [List.getElem?_eq_none]; simp; omega)
            · exact g1.io p hp
          have ap : Apart (fs'.set n []) (fs' n) := fun i b hb => by
            by_cases z : i = n
            · subst z; rw [Ft.set_same] at hb; simp at hb
            · rw [Ft.set_ne z] at hb
              exact g'.dj i n b z hb
          obtain ⟨g4, s4, r4⟩ := frz_state g3 ap oo fun b hb => g'.fn n b hb
          have s5 : Step F1 H1 fs1.at F' H' (atW (fs'.set n []) (fs' n)) := by
            have s6 := stp st
            refine ⟨s6.ff, s6.fr, s6.nw, fun b hb => ?_⟩
            refine s6.own b (.inl ?_)
            rcases hb with ⟨i, hb⟩ | hb
            · by_cases z : i = n
              · subst z; rw [Ft.set_same] at hb; simp at hb
              · rw [Ft.set_ne z] at hb; exact ⟨i, hb⟩
            · exact ⟨n, hb⟩
          have q1 : Pst G false σ F1 H1 fs1 (Res.ok (((0 : Nat), o), env1)) _ := q1
          exact q1 _ _ _ g4 (s5.trans s4) (fun z => by cases z) _ r4
        | [], q1 => exact q1.elim
        | _ :: _ :: _, q1 => exact q1.elim
      | _ => exact q1.elim
theorem s_mk {CXv : CXT} {lv c : Nat} {f : FnD} (D : MkF CXv X G.M lv c f) (hr : Room lv X.A) (hx : Passes CXv X G.E) (hg : Gl X f.name) (hd : (f.name == ("__debug__" : Str)) = false) {es : E} {x : Expr} {xs : List Expr} {pp pos : Pos} (hs : (x :: xs).all (fun e => !isStar e) = true)
    (hb : PA X (x :: xs) (tA G es.pure (evs es))) : PE X (.Call (.Name f.name pp) (x :: xs) [] pos) (tE G (E.mk c f es).pure (ev (.mk c f es))) := by
  obtain ⟨C, fa, d1, d2, d3, k, fd, ps, F1, hk1, hb1⟩ := D.ex
  have hs := Bool.and_eq_true_iff.mp (show ((!isStar x) && xs.all fun e => !isStar e) = true from hs)
  refine pe_imp (pe_make d2 F1 (hr.mono (by omega)) hg d3 hb1 .nil hx hb hd (star_cons (by simpa using hs.1)) (star_none hs.2)) fun σ H Q ⟨env, F, fs, g, q⟩ => ?_
  refine ⟨env, F, fs, g, q.bind (p2 := es.noW) (fun z => Bool.and_eq_true_iff.mp z) fun ars env1 F1 H1 fs1 _ g1 s1 t1 q1 vs rv x dx nx ndx ne => ?_⟩
  show Spec G.M f (.ref x :: (vs ++ [])) _ _ G.E
  rw [List.append_nil]
  replace q1 : Pst G es.noW σ F1 H1 fs1 (mkD c f es.noW ars env1) _ := q1
  unfold mkD at q1
  cases e : strong ars with
  | some ds =>
    simp only [e] at q1
    obtain ⟨⟨hm, hk0⟩, q1⟩ := ite_inv q1
    exact mk_core d1 hm hk0 g1 (strong_vs e rv) q1 nx ndx ne
  | none =>
    simp only [e] at q1
    cases hw : es.noW with
    | true => rw [hw, if_pos rfl] at q1; exact q1.elim
    | false =>
      rw [hw, if_neg (by simp)] at q1
      exact mkw_core d1 g1 rv q1 nx ndx ne
end
end DL

-- part DLg
set_option Elab.async false
set_option linter.all false
set_option maxRecDepth 100000
/-! DL, part g: what loops and comprehensions walk. -/
namespace DL
open PySem PySem.Spec PyProof.Rows L2

/-! ### range of any ints -/
theorem turn_long {P : Program} {w : World} {K : PySem.W.Frag} {tg : Expr} (it : Addr) (lo : Int) (n : Nat) : Turn P w K tg (Itr lo n) [it] it (fun i h => IsLongIter h it (lo + (i : Nat) * 1) ((n : Int) - (i : Nat)) 1) where
  mem := by simp
  obj := fun i h st b hb => by
    have z : b = it := by simpa using hb
    rw [z]
    exact ⟨_, st, fun v q => by
      have q' : Data.fields _ = Data.cell v := q
      cases q'⟩
  keep := fun i h h' st k => k it (by simp) _ st
  item := by
    intro X e1 e2 e3 hc i pins s σ H E I hf st hg
    subst e1 e2 e3
    obtain ⟨f0, f1, f2, f3, f4, f5⟩ := hf it (by simp)
    have hg' : i < n := hg
    refine wpAny_pyNext_long_item st (by omega) fun h' st' sb => ?_
    have I1 : Inv X pins σ H { s with heap := h', toks := s.toks + 1 } := I.turned (fun b o hb e => (sb.2 b hb).trans e) f0 f1 f3 f4 f5
    refine ⟨_, rfl, go_of (s := { s with heap := h', toks := s.toks + 1 }) (n := "longrange_iterator") st' rfl rfl (by decide) ⟨.int (lo + i), H, I1, ⟨s.toks, ?_⟩, ⟨rfl, rfl⟩, ?_, fun b hb => (hf b hb).1⟩⟩
    · rw [Int.mul_one]
    · have a1 : lo + ((i + 1 : Nat) : Int) * 1 = lo + (i : Nat) * 1 + 1 := by omega
      have a2 : (n : Int) - ((i + 1 : Nat) : Int) = (n : Int) - (i : Nat) - 1 := by omega
      show IsLongIter h' it (lo + ((i + 1 : Nat) : Int) * 1) ((n : Int) - ((i + 1 : Nat) : Int)) 1
      rw [a1, a2]; exact st'
  done := by
    intro X e1 e2 e3 hc i pins s σ H E I hf st hg
    subst e1 e2 e3
    obtain ⟨f0, f1, f2, f3, f4, f5⟩ := hf it (by simp)
    exact wpAny_pyNext_long_end (I.ok.hd hc) st (by have : n ≤ i := hg; omega) fun h' eb => ⟨rfl, I.turned (t' := s.toks) (fun b o hb e => eb b o hb e) f0 f1 f3 f4 f5⟩
  self := fun _ _ _ _ _ st h => wpAny_pyIter_longiter st h
section
variable {X : Cx} {tg : Expr}
theorem range_any {pins : List (Addr × Obj)} {σ : L2.St} {H : Hp} {s : Shared} {R : It → Hp → Prop} {E : Value → Shared → Prop} {lo hi : Int} {t u v : Tok} {tk : Nat} (I : Inv X pins σ H s)
    (q : R (Itr lo (hi - lo).toNat) H) : wpAny (model X.prog X.w) X.A (pyIter (.ref s.heap.objs.size)) (PIE X pins σ tg R) E { s with heap := s.heap.push { cls := .type "range", data := .fields #[.int lo t, .int hi u, .int 1 v] }, toks := tk } := by
  generalize hr : ({ cls := .type "range", data := .fields #[.int lo t, .int hi u, .int 1 v] } : Obj) = ro
  have IR : IsRange (s.heap.push ro) s.heap.objs.size lo hi 1 t u v := by rw [← hr]; exact IsRange.new ..
  have I1 : Inv X pins σ H { s with heap := s.heap.push ro, toks := tk } := I.kept fun b o e => Heap.get?_push_of_some _ e
  have fin : ∀ (nm : String) (b : Addr), b ∈ [(s.heap.push ro).objs.size] → FpOk X pins H b := fun nm b hb => by
    have e : b = (s.heap.push ro).objs.size := by simpa using hb
    rw [e]
    exact I1.fpOk (Nat.le_refl _) (I1.hok.fresh (Nat.le_refl _))
  have z1 : lo + ((0 : Nat) : Int) * 1 = lo := by simp
  have z2 : (((hi - lo).toNat : Nat) : Int) - ((0 : Nat) : Int) = Builtin.Range.rangeSize lo hi 1 := by rw [rangeSize_one]; split <;> omega
  cases hs : Builtin.Range.small lo hi 1 with
  | true =>
    refine wpAny_pyIter_range IR hs ⟨(s.heap.push ro).objs.size, [(s.heap.push ro).objs.size], _, _, H, rfl, I1.kept (t' := tk) fun b o e => Heap.get?_push_of_some _ e, turn_range _ lo (hi - lo).toNat, ?_, fin "", q⟩
    show IsRangeIter _ _ (lo + ((0 : Nat) : Int) * 1) ((((hi - lo).toNat : Nat) : Int) - ((0 : Nat) : Int)) 1
    rw [z1, z2]
    exact Heap.get?_push_size _ rfl
  | false =>
    refine wpAny_pyIter_longrange IR hs ⟨(s.heap.push ro).objs.size, [(s.heap.push ro).objs.size], _, _, H, rfl, I1.kept (t' := tk) fun b o e => Heap.get?_push_of_some _ e, turn_long _ lo (hi - lo).toNat, ?_, fin "", q⟩
    show IsLongIter _ _ (lo + ((0 : Nat) : Int) * 1) ((((hi - lo).toNat : Nat) : Int) - ((0 : Nat) : Int)) 1
    rw [z1, z2]
    exact Heap.get?_push_size _ rfl
def iR1 (ta : TA) : TI := fun σ H R => ta σ H fun vs H1 => ∃ j : Int, vs = [.int j] ∧ R (Itr 0 j.toNat) H1
def iR2 (ta : TA) : TI := fun σ H R => ta σ H fun vs H1 => ∃ i j : Int, vs = [.int i, .int j] ∧ R (Itr i (j - i).toNat) H1
theorem pi_r1 {a : Expr} {ta : TA} {p pos : Pos} (hg : Gl X "range") (hm : X.mg "range" = none) (ha : PA X [a] ta) (hs : isStar a = false) : PI X tg (.Call (.Name "range" p) [a] [] pos) (iR1 ta) := by
  refine ⟨fun pins s σ H R I h => ?_⟩
  refine Call_ (ld_blt I hg hm boot_range (PyProof.Rows.callWith_type1 (thn (ha.run pos pins s σ H _ I h) fun us s1 ⟨vs, H1, I1, r1, q1⟩ => ?_) (star_cons hs) rfl))
  obtain ⟨j, e, q⟩ := q1
  subst e
  cases r1 with
  | cons r rr =>
    cases rr
    obtain ⟨t, rfl⟩ := r
    exact call_range_1 (range_any I1 (by simpa using q))
theorem pi_r2 {a b : Expr} {ta : TA} {p pos : Pos} (hg : Gl X "range") (hm : X.mg "range" = none) (ha : PA X [a, b] ta) (hs : isStar a = false) (hs2 : isStar b = false) : PI X tg (.Call (.Name "range" p) [a, b] [] pos) (iR2 ta) := by
  refine ⟨fun pins s σ H R I h => ?_⟩
  refine Call_ (ld_blt I hg hm boot_range (PyProof.Rows.callWith_type1 (thn (ha.run pos pins s σ H _ I h) fun us s1 ⟨vs, H1, I1, r1, q1⟩ => ?_) (star_cons hs) (star_none (by simp [hs2]))))
  obtain ⟨i, j, e, q⟩ := q1
  subst e
  cases r1 with
  | cons r rr =>
    cases rr with
    | cons r' rr =>
      cases rr
      obtain ⟨t, rfl⟩ := r
      obtain ⟨t', rfl⟩ := r'
      exact call_range_2 (range_any I1 q)
end

/-! ### what is walked, by data -/
/-- what a turn gives -/
def Yd (M : Mo) (F H H' : Hp) (d : D) (x : V) : Prop := ∃ F', Same F F' ∧ Same H H' ∧ Same F' H' ∧ (∀ b, F' b ≠ none → F b ≠ none ∨ H b = none) ∧ Rep M F' d x
def Jy (M : Mo) (F : Hp) (ds : List D) (J : It) : Prop := ∀ (i : Nat) (F' H' : Hp), Same F F' → Same F' H' → (∀ d, ds[i]? = some d → J.go i H' ∧ ∀ x H'', J.yld i H' x H'' → Yd M F' H' H'' d x) ∧ (ds.length ≤ i → J.stop i H')
def tI (G : Fr) (p : Bool) (r : Env → Res (List D × Env)) : TI := fun σ H R => ∃ env F fs, GS G.M F H G.io env σ fs ∧ Pst G p σ F H fs (r env) fun ds _ F' H' _ => ∀ J, Jy G.M F' ds J → R J H'
theorem Yd.stay {M : Mo} {F H : Hp} {d : D} {x : V} (hs : Same F H) (r : Rep M F d x) : Yd M F H H d x := ⟨F, Same.refl F, Same.refl H, hs, fun _ h => .inl h, r⟩
section
variable {M : Mo} {F : Hp}
theorem jy_list {K : PySem.W.Frag} {a : Addr} {ds : List D} {vs : List V} (h : ∀ H, Same F H → SqL K H a vs) (f : Fa2 (Rep M F) ds vs) : Jy M F ds (Itl K a) := fun i F' H' s t =>
  ⟨fun d e => by
    obtain ⟨v, e1, r⟩ := f.get e
    have q := h H' (s.trans t)
    refine ⟨⟨vs, v, q, e1⟩, fun x H'' y => ?_⟩
    obtain ⟨rfl, y⟩ := y
    have e2 := y vs q
    rw [e1] at e2; cases e2
    exact Yd.stay t (r.mono s), fun l => ⟨vs, h H' (s.trans t), by rw [f.length]; exact l⟩⟩
theorem jy_tup {K : PySem.W.Frag} {a : Addr} {ds : List D} {vs : List V} (h : ∀ H, Same F H → SqT K H a vs) (f : Fa2 (Rep M F) ds vs) : Jy M F ds (Itt K a) := fun i F' H' s t =>
  ⟨fun d e => by
    obtain ⟨v, e1, r⟩ := f.get e
    have q := h H' (s.trans t)
    refine ⟨⟨vs, v, q, e1⟩, fun x H'' y => ?_⟩
    obtain ⟨rfl, y⟩ := y
    have e2 := y vs q
    rw [e1] at e2; cases e2
    exact Yd.stay t (r.mono s), fun l => ⟨vs, h H' (s.trans t), by rw [f.length]; exact l⟩⟩
theorem jy_rng {lo : Int} {n : Nat} : Jy M F (rangeL lo n) (Itr lo n) := fun i F' H' s t =>
  ⟨fun d e => by
    have hi : i < n := by
      have := lt_of_get e
      simpa [rangeL] using this
    refine ⟨hi, fun x H'' y => ?_⟩
    obtain ⟨rfl, rfl⟩ := y
    have ed : d = .int (lo + i) := by
      simp [rangeL, hi] at e
      exact e.symm
    subst ed
    exact Yd.stay t Rep.int, fun l => by
    have l : n ≤ i := by simpa [rangeL] using l
    exact l⟩
theorem enumL_get : ∀ {ds : List D} {k i : Nat} {d : D}, (enumL k ds)[i]? = some d → ∃ e, ds[i]? = some e ∧ d = .tup [.int ((k + i : Nat) : Int), e]
  | [], _, _, _, h => by simp [enumL] at h
  | e :: ds, k, 0, d, h => by
    simp [enumL] at h
    exact ⟨e, rfl, by simp [h]⟩
  | e :: ds, k, i + 1, d, h => by
    obtain ⟨e', h1, h2⟩ := enumL_get (ds := ds) (k := k + 1) (i := i) (by simpa [enumL] using h)
    exact ⟨e', by simpa using h1, by rw [h2, show k + 1 + i = k + (i + 1) by omega]⟩
theorem enumL_len : ∀ {ds : List D} {k : Nat}, (enumL k ds).length = ds.length
  | [], _ => rfl
  | _ :: ds, k => by simp [enumL, enumL_len (ds := ds)]
theorem zipL_get : ∀ {xs ys : List D} {i : Nat} {d : D}, (zipL xs ys)[i]? = some d → ∃ x y, xs[i]? = some x ∧ ys[i]? = some y ∧ d = .tup [x, y]
  | [], _, _, _, h => by simp [zipL] at h
  | _ :: _, [], _, _, h => by simp [zipL] at h
  | x :: xs, y :: ys, 0, d, h => by
    simp [zipL] at h
    exact ⟨x, y, rfl, rfl, h.symm⟩
  | x :: xs, y :: ys, i + 1, d, h => by
    obtain ⟨x', y', h1, h2, h3⟩ := zipL_get (xs := xs) (ys := ys) (i := i) (by simpa [zipL] using h)
    exact ⟨x', y', by simpa using h1, by simpa using h2, h3⟩
theorem zipL_len : ∀ {xs ys : List D}, (zipL xs ys).length = min xs.length ys.length
  | [], _ => by simp [zipL]
  | _ :: _, [] => by simp [zipL]
  | x :: xs, y :: ys => by simp only [zipL, List.length_cons, zipL_len (xs := xs)]; omega
theorem Yd.new {H : Hp} {T : Addr} {vs : List V} {ds : List D} (hs : Same F H) (hT : H T = none) (f : Fa2 (Rep M F) ds vs) : Yd M F H (upd H T (.tup vs)) (.tup ds) (.ref T) := by
  have hF : F T = none := by
    cases e : F T with
    | none => rfl
    | some u => rw [hs T u e] at hT; cases hT
  refine ⟨upd F T (.tup vs), new_same hF, new_same hT, fun b u e => ?_, fun x hx => ?_, Rep.nd_iff.mpr ⟨T, vs, rfl, upd_same, f.mono fun d _ v r => r.mono (new_same hF)⟩⟩
  · by_cases z : b = T
    · subst z; rw [upd_same] at e ⊢; exact e
    · rw [upd_ne z] at e ⊢; exact hs b u e
  · by_cases z : x = T
    · subst z; exact .inr hT
    · rw [upd_ne z] at hx; exact .inl hx
theorem jy_enum {K : PySem.W.Frag} {a : Addr} {ds : List D} {vs : List V} (h : F a = some (.lst vs)) (f : Fa2 (Rep M F) ds vs) : Jy M F (enumL 0 ds) (Ite K a) := fun i F' H' s t =>
  ⟨fun d e => by
    obtain ⟨e', g1, g2⟩ := enumL_get e
    obtain ⟨v, e1, r⟩ := f.get g1
    have q : SqL K H' a vs := SqL.of (t _ _ (s _ _ h))
    refine ⟨⟨vs, v, q, e1⟩, fun x H'' y => ?_⟩
    obtain ⟨T, x', rfl, hT, rfl, y⟩ := y
    have e2 := y vs q
    rw [e1] at e2; cases e2
    rw [g2, Nat.zero_add]
    exact Yd.new t hT ⟨_, _, rfl, Rep.int, _, _, rfl, r.mono s, rfl⟩, fun l => ⟨vs, SqL.of (t _ _ (s _ _ h)), by rw [f.length]; rw [enumL_len] at l; exact l⟩⟩
theorem jy_zip {K : PySem.W.Frag} {a b : Addr} {ds es : List D} {vs ws : List V} (h : F a = some (.lst vs)) (h2 : F b = some (.lst ws)) (f : Fa2 (Rep M F) ds vs) (f2 : Fa2 (Rep M F) es ws) : Jy M F (zipL ds es) (Itz K a b) := fun i F' H' s t =>
  ⟨fun d e => by
    obtain ⟨x, y, g1, g2, g3⟩ := zipL_get e
    obtain ⟨v, e1, r⟩ := f.get g1
    obtain ⟨w, e2, r2⟩ := f2.get g2
    have q : SqL K H' a vs := SqL.of (t _ _ (s _ _ h))
    have q2 : SqL K H' b ws := SqL.of (t _ _ (s _ _ h2))
    refine ⟨⟨vs, ws, v, w, q, q2, e1, e2⟩, fun x H'' y => ?_⟩
    obtain ⟨T, x', y', rfl, hT, rfl, y1, y2⟩ := y
    have k1 := y1 vs q
    rw [e1] at k1; cases k1
    have k2 := y2 ws q2
    rw [e2] at k2; cases k2
    rw [g3]
    exact Yd.new t hT ⟨_, _, rfl, r.mono s, _, _, rfl, r2.mono s, rfl⟩, fun l => ⟨vs, ws, SqL.of (t _ _ (s _ _ h)), SqL.of (t _ _ (s _ _ h2)), by rw [f.length, f2.length]; rw [zipL_len] at l; omega⟩⟩
end
section
variable {X : Cx} {G : Fr} {tg : Expr}
theorem pi_imp {x tg : Expr} {t t' : TI} (h : PI X tg x t) (i : ∀ σ H Q, t' σ H Q → t σ H Q) : PI X tg x t' := ⟨fun pins s σ H Q I q => h.run pins s σ H Q I (i σ H Q q)⟩
theorem s_ilst {e : E} {x : Expr} (h : PE X x (tE G e.pure (ev e))) : PI X tg x (tI G (E.ilst e).pure (evi (.ilst e))) :=
  pi_imp (pi_list h) fun σ H Q ⟨env, F, fs, g, q⟩ => ⟨env, F, fs, g, q.bind (p2 := true) (fun z => ⟨z, rfl⟩) fun x env1 F1 H1 fs1 _ g1 s1 t1 q1 v rv => by
    obtain ⟨k, d⟩ := x
    cases k with
    | succ k => exact q1.elim
    | zero =>
      cases d with
      | nd kd ds =>
        cases kd with
        | lst =>
          obtain ⟨a, vs, rfl, r1, f1⟩ := Rep.nd_iff.mp rv
          exact ⟨a, rfl, ⟨vs, SqL.of (g1.fh _ _ r1)⟩, q1.done g1 _ (jy_list (fun H s => SqL.of (s _ _ r1)) f1)⟩
        | _ => exact q1.elim
      | _ => exact q1.elim⟩
theorem s_iscr (hK : X.K = G.M.K) {e : E} {x : Expr} (h : PE X x (tE G e.pure (ev e))) : PI X tg x (tI G (E.iscr e).pure (evi (.iscr e))) :=
  pi_imp (pi_list h) fun σ H Q ⟨env, F, fs, g, q⟩ => ⟨env, F, fs, g, q.bind (p2 := true) (fun z => ⟨z, rfl⟩) fun x env1 F1 H1 fs1 _ g1 s1 t1 q1 v rv => by
    obtain ⟨k, d⟩ := x
    cases k with
    | succ k => exact q1.elim
    | zero =>
      cases d with
      | nd kd ds =>
        cases kd with
        | scr =>
          obtain ⟨a, vs, rfl, r1, f1⟩ := Rep.nd_iff.mp rv
          have r1 : SqL X.K F1 a vs := hK ▸ r1
          exact ⟨a, rfl, ⟨vs, g1.fh.seq r1⟩, q1.done g1 _ (jy_list (fun H s => s.seq r1) f1)⟩
        | _ => exact q1.elim
      | _ => exact q1.elim⟩
theorem s_itup {e : E} {x : Expr} (h : PE X x (tE G e.pure (ev e))) : PI X tg x (tI G (E.itup e).pure (evi (.itup e))) :=
  pi_imp (pi_tup h) fun σ H Q ⟨env, F, fs, g, q⟩ => ⟨env, F, fs, g, q.bind (p2 := true) (fun z => ⟨z, rfl⟩) fun x env1 F1 H1 fs1 _ g1 s1 t1 q1 v rv => by
    obtain ⟨k, d⟩ := x
    cases k with
    | succ k => exact q1.elim
    | zero =>
      cases d with
      | nd kd ds =>
        cases kd with
        | tup =>
          obtain ⟨a, vs, rfl, r1, f1⟩ := Rep.nd_iff.mp rv
          exact ⟨a, rfl, ⟨vs, SqT.of (g1.fh _ _ r1)⟩, q1.done g1 _ (jy_tup (fun H s => SqT.of (s _ _ r1)) f1)⟩
        | _ => exact q1.elim
      | _ => exact q1.elim⟩
theorem s_irg1 (hg : Gl X "range") (hm : X.mg "range" = none) {a : E} {x : Expr} {pp pos : Pos} (hx : isStar x = false) (h : PE X x (tE G a.pure (ev a))) : PI X tg (.Call (.Name "range" pp) [x] [] pos) (tI G (E.irg1 a).pure (evi (.irg1 a))) :=
  pi_imp (pi_r1 hg hm (pa_cons h pa_nil (star_cons hx)) hx) fun σ H Q ⟨env, F, fs, g, q⟩ => ⟨env, F, fs, g, q.bind (p2 := true) (fun z => ⟨z, rfl⟩) fun x env1 F1 H1 fs1 _ g1 s1 t1 q1 v rv => by
    obtain ⟨k, d⟩ := x
    cases d <;> try exact q1.elim
    rw [RW.int rv]
    obtain ⟨_, q1⟩ := ite_inv (r := Res.ok _) q1
    exact ⟨_, rfl, q1.done g1 _ jy_rng⟩⟩
theorem jy_rngD {M : Mo} {F : Hp} {lo : Int} {n : Nat} : Jy M F (rangeD lo n) (Itc lo (-1) n) := fun i F' H' s t =>
  ⟨fun d e => by
    have hi : i < n := by
      have := lt_of_get e
      simpa [rangeD] using this
    refine ⟨hi, fun x H'' y => ?_⟩
    obtain ⟨rfl, rfl⟩ := y
    have ed : d = .int (lo + (i : Nat) * (-1)) := by
      simp [rangeD, hi] at e
      rw [← e]
      simp
    subst ed
    exact Yd.stay t Rep.int, fun l => by
    have l : n ≤ i := by simpa [rangeD] using l
    exact l⟩
theorem jy_rngS {M : Mo} {F : Hp} {lo k : Int} {n : Nat} : Jy M F (rangeS lo k n) (Itc lo k n) := fun i F' H' s t =>
  ⟨fun d e => by
    have hi : i < n := by
      have := lt_of_get e
      simpa [rangeS] using this
    refine ⟨hi, fun x H'' y => ?_⟩
    obtain ⟨rfl, rfl⟩ := y
    have ed : d = .int (lo + (i : Nat) * k) := by
      simp [rangeS, hi] at e
      rw [← e]
    subst ed
    exact Yd.stay t Rep.int, fun l => by
    have l : n ≤ i := by simpa [rangeS] using l
    exact l⟩
theorem s_irg3 (hg : Gl X "range") (hm : X.mg "range" = none) {a b c : E} {x y z : Expr} {pp pos : Pos} (hx : isStar x = false) (hy : isStar y = false) (hz : isStar z = false) (h : PE X x (tE G a.pure (ev a))) (h2 : PE X y (tE G b.pure (ev b))) (h3 : PE X z (tE G c.pure (ev c))) : PI X tg (.Call (.Name "range" pp) [x, y, z] [] pos) (tI G (E.irg3 a b c).pure (evi (.irg3 a b c))) :=
  pi_imp (pi_range3 hg hm (pa_cons h (pa_cons h2 (pa_cons h3 pa_nil (star_cons hz)) (star_cons hy)) (star_cons hx)) (star_cons hx) (star_none (by simp [hy, hz]))) fun σ H Q ⟨env, F, fs, g, q⟩ => ⟨env, F, fs, g, q.bind (p2 := b.pure && c.pure) (fun z => by simpa [E.pure, Bool.and_assoc] using z) fun x env1 F1 H1 fs1 _ g1 s1 t1 q1 v rv => by
    obtain ⟨k, d⟩ := x
    cases d with
    | non => exact q1.elim
    | bl b => exact q1.elim
    | str b => exact q1.elim
    | nd a b => exact q1.elim
    | int i =>
    rw [RW.int rv]
    refine ⟨env1, F1, fs1, g1, Pst.bind (p2 := c.pure) (f := fun (y, env) => (asI y.2).bind fun j => (ev c env).bind fun (z, env) => (asI z.2).bind fun k => rng3 i j k env) q1 (fun z => Bool.and_eq_true_iff.mp z) fun y env2 F2 H2 fs2 _ g2 s2 t2 q2 w rw => ?_⟩
    obtain ⟨k2, d2⟩ := y
    cases d2 with
    | non => exact q2.elim
    | bl b => exact q2.elim
    | str b => exact q2.elim
    | nd a b => exact q2.elim
    | int j =>
    rw [RW.int rw]
    refine ⟨env2, F2, fs2, g2, Pst.bind (p2 := true) (f := fun (z, env) => (asI z.2).bind fun k => rng3 i j k env) q2 (fun z => ⟨z, rfl⟩) fun z env3 F3 H3 fs3 _ g3 s3 t3 q3 u ru => ?_⟩
    obtain ⟨k3, d3⟩ := z
    cases d3 with
    | non => exact q3.elim
    | bl b => exact q3.elim
    | str b => exact q3.elim
    | nd a b => exact q3.elim
    | int k =>
    rw [RW.int ru]
    have e3 : (asI (D.int k)).bind (fun k => rng3 i j k env3) = rng3 i j k env3 := rfl
    simp only [e3] at q3
    unfold rng3 at q3
    by_cases c0 : (k = -1 ∧ -(2 ^ 62) ≤ i ∧ i < 2 ^ 62) ∧ (-(2 ^ 62) ≤ j ∧ j < 2 ^ 62)
    · rw [if_pos c0] at q3
      obtain ⟨⟨rfl, c1, c2⟩, c3, c4⟩ := c0
      exact ⟨_, _, _, _, rfl, RgC.neg c1 c2 c3 c4, q3.done g3 _ jy_rngD⟩
    · rw [if_neg c0] at q3
      obtain ⟨⟨⟨c1, c2⟩, c3, c4⟩, q4⟩ := ite_inv (r := Res.ok _) q3
      exact ⟨_, _, _, _, rfl, ⟨c1, c2, c3, (Int.toNat_of_nonneg c4).symm⟩, q4.done g3 _ jy_rngS⟩⟩
theorem s_irg2 (hg : Gl X "range") (hm : X.mg "range" = none) {a b : E} {x y : Expr} {pp pos : Pos} (hx : isStar x = false) (hy : isStar y = false) (h : PE X x (tE G a.pure (ev a))) (h2 : PE X y (tE G b.pure (ev b))) : PI X tg (.Call (.Name "range" pp) [x, y] [] pos) (tI G (E.irg2 a b).pure (evi (.irg2 a b))) :=
  pi_imp (pi_r2 hg hm (pa_cons h (pa_cons h2 pa_nil (star_cons hy)) (star_cons hx)) hx hy) fun σ H Q ⟨env, F, fs, g, q⟩ => ⟨env, F, fs, g, q.bind (p2 := b.pure) (fun z => Bool.and_eq_true_iff.mp z) fun x env1 F1 H1 fs1 _ g1 s1 t1 q1 v rv => by
    obtain ⟨k, d⟩ := x
    cases d with
    | non => exact q1.elim
    | bl b => exact q1.elim
    | str b => exact q1.elim
    | nd a b => exact q1.elim
    | int i =>
    rw [RW.int rv]
    refine ⟨env1, F1, fs1, g1, Pst.bind (p2 := true) (f := fun (y, env) => (asI y.2).bind fun j => Res.ok (rangeL i (j - i).toNat, env)) q1 (fun z => ⟨z, rfl⟩) fun y env2 F2 H2 fs2 _ g2 s2 t2 q2 w rw => ?_⟩
    obtain ⟨k, d⟩ := y
    cases d <;> try exact q2.elim
    rw [RW.int rw]
    exact ⟨_, _, rfl, q2.done g2 _ jy_rng⟩⟩
end
end DL

-- part DLh
set_option Elab.async false
set_option linter.all false
set_option maxRecDepth 100000
/-! DL, part h: targets; list comprehensions. -/
namespace DL
open PySem PySem.Spec PyProof.Rows L2

/-! ### targets -/
def setV (σ : St) : List Nat → List V → St
  | i :: is, v :: vs => setV (σ.set i (some v)) is vs
  | _, _ => σ
def gIs : List Nat → TGs
  | [] => gNil
  | i :: is => gCons (gName i) (gIs is)
theorem gIs_of {H : Hp} {Q : L2.St → Hp → Prop} : ∀ {is : List Nat} {vs : List V} {σ : L2.St}, is.length = vs.length → Q (setV σ is vs) H → gIs is vs σ H Q
  | [], [], σ, _, h => ⟨rfl, h⟩
  | i :: is, v :: vs, σ, l, h => ⟨v, vs, rfl, gIs_of (is := is) (vs := vs) (by simpa using l) h⟩
  | [], _ :: _, σ, l, _ => by simp at l
  | _ :: _, [], σ, l, _ => by simp at l
section
variable {M : Mo} {F H : Hp} {io : List (Nat × V)} {env env' : Env} {σ : St} {fs : Ft}
theorem setSl_val {i : Nat} {d : D} {v : V} (g : GS M F H io env σ fs) (r : Rep M F d v) (e : setSl env i (.val d) = .ok env') : GS M F H io env' (σ.set i (some v)) (fs.set i []) := by
  unfold setSl at e
  cases q : env[i]? with
  | none => rw [q] at e; cases e
  | some s =>
    rw [q] at e
    have ni : ∀ k d, s ≠ .io k d := fun k d z => by rw [z] at e; cases e
    have e2 : Res.ok (env.set i (.val d)) = .ok env' := by
      cases s with
      | io k d => exact absurd rfl (ni k d)
      | _ => exact e
    cases e2
    exact g.set q ni ⟨v, rfl, r, rfl⟩ (by simp) (by simp) (by simp)
theorem set_less {i : Nat} : ∀ b, (fs.set i []).at b → fs.at b := fun b ⟨j, hb⟩ => by
  by_cases z : j = i
  · subst z; rw [Ft.set_same] at hb; simp at hb
  · rw [Ft.set_ne z] at hb; exact ⟨j, hb⟩
theorem setTis_vals : ∀ {is : List Nat} {ds : List D} {vs : List V} {env : Env} {σ : St} {fs : Ft}, GS M F H io env σ fs → Fa2 (Rep M F) ds vs → setTis env (is.map .sl) ds = .ok env' →
    is.length = vs.length ∧ ∃ fs', GS M F H io env' (setV σ is vs) fs' ∧ ∀ b, fs'.at b → fs.at b
  | [], [], vs, env, σ, fs, g, h, e => by
    rw [show vs = [] from h]
    cases e
    exact ⟨rfl, fs, g, fun _ h => h⟩
  | [], _ :: _, vs, env, σ, fs, g, h, e => by cases e
  | _ :: _, [], vs, env, σ, fs, g, h, e => by cases e
  | i :: is, d :: ds, vs, env, σ, fs, g, h, e => by
    obtain ⟨v, vs', rfl, a, b⟩ := h
    have e : (setSl env i (.val d)).bind (fun env => setTis env (is.map .sl) ds) = .ok env' := e
    cases e1 : setSl env i (.val d) with
    | stuck => rw [e1] at e; cases e
    | exn c d => rw [e1] at e; cases e
    | ok env1 =>
      rw [e1] at e
      obtain ⟨l, fs', g', s'⟩ := setTis_vals (setSl_val g a e1) b e
      exact ⟨by simp [l], fs', g', fun b hb => set_less b (s' b hb)⟩
/-- a loop's target: one name or a tuple of names -/
def gTg (K : PySem.W.Frag) : List Nat → TG
  | [i] => gName i
  | is => gTup K is.length (gIs is)
theorem setIs_ok {K : PySem.W.Frag} {tg : List Nat} {d : D} {v : V} (g : GS M F H io env σ fs) (r : Rep M F d v) (e : setIs env tg d = .ok env') :
    ∃ is vs fs', GS M F H io env' (setV σ is vs) fs' ∧ (∀ b, fs'.at b → fs.at b) ∧ (∀ i, i ∈ is → i ∈ tg) ∧ ∀ Q : L2.St → Hp → Prop, Q (setV σ is vs) H → gTg K tg v σ H Q := by
  unfold setIs at e
  split at e
  · rename_i i
    exact ⟨[i], [v], _, setSl_val g r e, set_less, fun _ h => h, fun Q q => q⟩
  · rename_i ds hn
    obtain ⟨a, vs, rfl, r1, f1⟩ := Rep.nd_iff.mp r
    obtain ⟨l, fs', g', s'⟩ := setTis_vals g f1 e
    refine ⟨tg, vs, fs', g', s', fun _ h => h, fun Q q => ?_⟩
    have q2 : gTup K tg.length (gIs tg) (.ref a) σ H Q := ⟨a, vs, rfl, SqT.of (g.fh _ _ r1), l.symm, gIs_of l q⟩
    unfold gTg
    split
    · rename_i i
      exact absurd rfl (hn i)
    · exact q2
  · cases e
end
/-- the target's check -/
def tgB (fnc : Str → Bool) (N : List Str) (sc : Scope) (i : Nat) : Expr → Bool
  | .Name x _ => decide (N[i]? = some x) && (decide (sc.names.lookup x = some .local) || (decide (sc.names.lookup x = some .cell) && fnc x))
  | _ => false
def tgsB (fnc : Str → Bool) (N : List Str) (sc : Scope) : List Nat → List Expr → Bool
  | [], [] => true
  | i :: is, e :: es => tgB fnc N sc i e && tgsB fnc N sc is es
  | _, _ => false
def tgtB (fnc : Str → Bool) (N : List Str) (sc : Scope) : List Nat → Expr → Bool
  | [i], e => tgB fnc N sc i e
  | is, .Tuple es _ _ => tgsB fnc N sc is es
  | _, _ => false
section
variable {X : Cx} {fnc : Str → Bool} {N : List Str} {sc : Scope}
theorem pg_tgB (hN : X.N = N) (nd : N.Nodup) (hsc : X.env.scope = sc) (hf : ∀ x, fnc x = true → X.fn x = true) {i : Nat} {e : Expr} (h : tgB fnc N sc i e = true) : PG X e (gName i) ∧ (assignEach [e] X.env).map (·.2) = [assign e X.env] ∧ (∀ es, (assignEach (e :: es) X.env).map (·.2) = assign e X.env :: (assignEach es X.env).map (·.2)) ∧ ∀ es, assignEach (e :: es) X.env = (false, assign e X.env) :: assignEach es X.env := by
  cases e with
  | Name x p =>
    simp only [tgB, Bool.and_eq_true, Bool.or_eq_true, decide_eq_true_eq] at h
    obtain ⟨h1, h2⟩ := h
    refine ⟨?_, rfl, fun _ => rfl, fun _ => rfl⟩
    rcases h2 with h2 | ⟨h2, h3⟩
    · exact pg_name (hN ▸ nd) (by rw [hN]; exact h1) (.inl (by rw [hsc]; exact h2)) (.inr (by rw [hsc]; exact h2))
    · exact pg_name (hN ▸ nd) (by rw [hN]; exact h1) (.inr (by rw [hsc]; exact h2)) (.inl (hf x h3))
  | _ => simp [tgB] at h
theorem pgs_tgsB (hN : X.N = N) (nd : N.Nodup) (hsc : X.env.scope = sc) (hf : ∀ x, fnc x = true → X.fn x = true) : ∀ {is : List Nat} {es : List Expr}, tgsB fnc N sc is es = true → PGs X es (gIs is) ∧ (assignEach es X.env).length = is.length ∧ (assignEach es X.env).findIdx? (·.1) = none
  | [], [], _ => ⟨pgs_nil, rfl, rfl⟩
  | [], _ :: _, h => by simp [tgsB] at h
  | _ :: _, [], h => by simp [tgsB] at h
  | i :: is, e :: es, h => by
    have h := Bool.and_eq_true_iff.mp (show (tgB fnc N sc i e && tgsB fnc N sc is es) = true from h)
    obtain ⟨a1, _, a3, a4⟩ := pg_tgB hN nd hsc hf h.1
    obtain ⟨b1, b2, b3⟩ := pgs_tgsB hN nd hsc hf h.2
    refine ⟨pgs_cons a1 b1 (a3 es), by rw [a4, List.length_cons, b2, List.length_cons], ?_⟩
    rw [a4, List.findIdx?_cons, b3]
    rfl
theorem pg_tgtB (hc : X.calm = true) (hN : X.N = N) (nd : N.Nodup) (hsc : X.env.scope = sc) (hf : ∀ x, fnc x = true → X.fn x = true) {tg : List Nat} {e : Expr} (h : tgtB fnc N sc tg e = true) : PG X e (gTg X.K tg) := by
  unfold tgtB at h
  split at h
  · exact (pg_tgB hN nd hsc hf h).1
  · rename_i is es k p hn
    obtain ⟨b1, b2, b3⟩ := pgs_tgsB hN nd hsc hf h
    have q := pg_tup (pos := p) (k := k) hc b1 b2 b3
    unfold gTg
    split
    · rename_i i
      exact absurd rfl (hn i)
    · exact q
  · cases h
end
/-! ### a comprehension's slots -/
theorem wipe_get {σ : L2.St} {i : Nat} : ∀ {vs : List Nat}, i ∉ vs → (wipe σ vs)[i]? = σ[i]?
  | [], _ => rfl
  | v :: vs, h => by
    unfold wipe
    rw [List.getElem?_set_ne (fun z => h (by simp [z])), wipe_get (vs := vs) fun z => h (by simp [z])]
theorem wipe_in {σ : L2.St} {i : Nat} (hi : i < σ.length) : ∀ {vs : List Nat}, i ∈ vs → (wipe σ vs)[i]? = some none
  | [], h => by simp at h
  | v :: vs, h => by
    unfold wipe
    by_cases z : v = i
    · subst z
      rw [List.getElem?_set_self (by rw [wipe_length]; exact hi)]
    · rw [List.getElem?_set_ne z]
      exact wipe_in hi (by rcases List.mem_cons.mp h with h | h; exact absurd h.symm z; exact h)
theorem list_ext {α : Type} {l m : List α} (h : ∀ i : Nat, l[i]? = m[i]?) : l = m := List.ext_getElem? h
theorem setV_length : ∀ {is : List Nat} {vs : List V} {σ : L2.St}, (setV σ is vs).length = σ.length
  | [], _, _ => rfl
  | _ :: _, [], _ => rfl
  | i :: is, v :: vs, σ => by
    unfold setV
    rw [setV_length (is := is)]
    simp
theorem setV_get {i : Nat} : ∀ {is : List Nat} {vs : List V} {σ : L2.St}, i ∉ is → (setV σ is vs)[i]? = σ[i]?
  | [], _, _, _ => rfl
  | _ :: _, [], _, _ => rfl
  | j :: is, v :: vs, σ, h => by
    unfold setV
    rw [setV_get (is := is) fun z => h (by simp [z]), List.getElem?_set_ne fun z => h (by simp [z])]
theorem wipe_setV {σ : L2.St} {is vs : List Nat} {ws : List V} (h : ∀ i, i ∈ is → i ∈ vs) : wipe (setV σ is ws) vs = wipe σ vs := by
  refine list_ext fun i => ?_
  by_cases hi : i ∈ vs
  · by_cases l : i < σ.length
    · rw [wipe_in l hi, wipe_in (by rw [setV_length]; exact l) hi]
    · rw [List.getElem?_eq_none (by rw [wipe_length, setV_length]; omega), List.getElem?_eq_none (by rw [wipe_length]; omega)]
  · rw [wipe_get hi, wipe_get hi, setV_get fun z => hi (h i z)]
theorem wipe_wipe {σ : L2.St} {vs : List Nat} : wipe (wipe σ vs) vs = wipe σ vs := by
  refine list_ext fun i => ?_
  by_cases hi : i ∈ vs
  · by_cases l : i < σ.length
    · rw [wipe_in l hi, wipe_in (by rw [wipe_length]; exact l) hi]
    · rw [List.getElem?_eq_none (by rw [wipe_length, wipe_length]; omega), List.getElem?_eq_none (by rw [wipe_length]; omega)]
  · rw [wipe_get hi]
theorem blank_len {env : Env} : ∀ {tg : List Nat}, (blank env tg).length = env.length
  | [] => rfl
  | i :: is => by unfold blank; rw [List.length_set, blank_len]
theorem blank_get {env : Env} {i : Nat} : ∀ {tg : List Nat}, i ∉ tg → (blank env tg)[i]? = env[i]?
  | [], _ => rfl
  | j :: is, h => by
    unfold blank
    rw [List.getElem?_set_ne fun z => h (by simp [z]), blank_get fun z => h (by simp [z])]
theorem blank_in {env : Env} {i : Nat} (hi : i < env.length) : ∀ {tg : List Nat}, i ∈ tg → (blank env tg)[i]? = some .un
  | [], h => by simp at h
  | j :: is, h => by
    unfold blank
    by_cases z : j = i
    · subst z; rw [List.getElem?_set_self (by rw [blank_len]; exact hi)]
    · rw [List.getElem?_set_ne z]
      exact blank_in hi (by rcases List.mem_cons.mp h with h | h; exact absurd h.symm z; exact h)
theorem back_len {old env : Env} : ∀ {tg : List Nat}, (back old tg env).length = env.length
  | [] => rfl
  | i :: is => by
    unfold back
    split
    · rw [List.length_set, back_len]
    · exact back_len
theorem back_get {old env : Env} {i : Nat} : ∀ {tg : List Nat}, i ∉ tg → (back old tg env)[i]? = env[i]?
  | [], _ => rfl
  | j :: is, h => by
    unfold back
    split
    · rw [List.getElem?_set_ne fun z => h (by simp [z]), back_get fun z => h (by simp [z])]
    · exact back_get fun z => h (by simp [z])
theorem back_in {old env : Env} {i : Nat} {s : Sl} (hi : i < env.length) (e : old[i]? = some s) : ∀ {tg : List Nat}, i ∈ tg → (back old tg env)[i]? = some s
  | [], h => by simp at h
  | j :: is, h => by
    unfold back
    by_cases z : j = i
    · subst z
      rw [e]
      show ((back old is env).set j s)[j]? = some s
      rw [List.getElem?_set_self (by rw [back_len]; exact hi)]
    · have hm : i ∈ is := by rcases List.mem_cons.mp h with h | h; exact absurd h.symm z; exact h
      split
      · rw [List.getElem?_set_ne z]; exact back_in hi e hm
      · exact back_in hi e hm
theorem freeSl_inv {env : Env} {tg : List Nat} (h : freeSl env tg = true) {i : Nat} (hi : i ∈ tg) : env[i]? = some .un ∨ ∃ d, env[i]? = some (.val d) := by
  have := List.all_eq_true.mp h i hi
  cases e : env[i]? with
  | none => simp [e] at this
  | some s =>
    cases s with
    | un => exact .inl rfl
    | val d => exact .inr ⟨d, rfl⟩
    | _ => simp [e] at this
section
variable {M : Mo} {F H : Hp} {io : List (Nat × V)} {env env' : Env} {σ : St} {fs : Ft}
/-- slots without owned things -/
theorem GS.bare (g : GS M F H io env σ fs) {tg : List Nat} (h : freeSl env tg = true) {i : Nat} (hi : i ∈ tg) : fs i = [] := by
  rcases freeSl_inv h hi with e | ⟨d, e⟩
  · obtain ⟨x, _, r⟩ := g.sl i _ e
    exact r
  · obtain ⟨x, _, v, _, _, r⟩ := g.sl i _ e
    exact r
theorem GS.blank (g : GS M F H io env σ fs) {tg : List Nat} (h : freeSl env tg = true) : GS M F H io (blank env tg) (wipe σ tg) fs := by
  refine ⟨by rw [wipe_length, blank_len, g.len], fun i s e => ?_, g.nd, g.dj, g.fn, fun i e => ?_, g.fh, fun p hp => ?_⟩
  · by_cases hi : i ∈ tg
    · have hl : i < env.length := by
        have := lt_of_get e
        rwa [blank_len] at this
      rw [blank_in hl hi] at e
      cases e
      exact ⟨none, wipe_in (by rw [g.len]; exact hl) hi, g.bare h hi⟩
    · rw [blank_get hi] at e
      obtain ⟨x, e1, e2⟩ := g.sl i s e
      exact ⟨x, by rw [wipe_get hi]; exact e1, e2⟩
  · refine g.out i ?_
    rw [List.getElem?_eq_none_iff] at e ⊢
    rwa [blank_len] at e
  · obtain ⟨q1, k, d, q2⟩ := g.io p hp
    have hn : p.1 ∉ tg := fun z => by
      rcases freeSl_inv h z with e | ⟨d', e⟩ <;> (rw [q2] at e; cases e)
    exact ⟨by rw [wipe_get hn]; exact q1, k, d, by rw [blank_get hn]; exact q2⟩
/-- behind it -/
theorem GS.back {F1 H1 : Hp} {env1 : Env} {fs1 : Ft} (g : GS M F H io env σ fs) {tg : List Nat} (h : freeSl env tg = true) (g1 : GS M F1 H1 io env1 (wipe σ tg) fs1) (hl : env1.length = env.length) (hb : ∀ i ∈ tg, fs1 i = []) (s : Same F F1) : GS M F1 H1 io (back env tg env1) σ fs1 := by
  refine ⟨by rw [back_len, hl, g.len], fun i s' e => ?_, g1.nd, g1.dj, g1.fn, fun i e => ?_, g1.fh, fun p hp => ?_⟩
  · by_cases hi : i ∈ tg
    · rcases freeSl_inv h hi with e1 | ⟨d, e1⟩
      · have hl2 := lt_of_get e1
        rw [back_in (by rw [hl]; exact hl2) e1 hi] at e
        cases e
        exact ⟨_, List.getElem?_eq_getElem (by rw [g.len]; exact hl2), hb i hi⟩
      · have hl2 := lt_of_get e1
        rw [back_in (by rw [hl]; exact hl2) e1 hi] at e
        cases e
        obtain ⟨x, e2, v, e3, r, _⟩ := g.sl i _ e1
        exact ⟨x, e2, v, e3, r.mono s, hb i hi⟩
    · rw [back_get hi] at e
      obtain ⟨x, e1, e2⟩ := g1.sl i s' e
      rw [wipe_get hi] at e1
      exact ⟨x, e1, e2⟩
  · refine g1.out i ?_
    rw [List.getElem?_eq_none_iff] at e ⊢
    rwa [back_len] at e
  · obtain ⟨q1, k, d, q2⟩ := g.io p hp
    have hn : p.1 ∉ tg := fun z => by
      rcases freeSl_inv h z with e | ⟨d', e⟩ <;> (rw [q2] at e; cases e)
    obtain ⟨_, k2, d2, q3⟩ := g1.io p hp
    exact ⟨q1, k2, d2, by rw [back_get hn]; exact q3⟩
end

/-! ### list comprehensions -/
section
variable {M : Mo} {F F' H H' : Hp} {fs fs' : Ft} {D : Addr} {o : HO}
theorem apart_step (s : Step F H fs.at F' H' fs'.at) (ap : Apart fs [D]) (hF : F D = none) (hH : H D = some o) : Apart fs' [D] ∧ F' D = none ∧ H' D = some o := by
  have nd : ¬ fs.at D := fun ⟨i, h⟩ => ap i D h (by simp)
  refine ⟨fun i b hb z => ?_, ?_, s.fr D o hH nd⟩
  · rw [List.mem_singleton] at z
    subst z
    rcases s.own b ⟨i, hb⟩ with h | h
    · exact nd h
    · rw [hH] at h; cases h
  · cases q : F' D with
    | none => rfl
    | some u =>
      exfalso
      rcases s.nw D (by rw [q]; simp) with h | h | h
      · exact h hF
      · rw [hH] at h; cases h
      · exact nd h
theorem step_with (s : Step F H fs.at F' H' fs'.at) : Step F H (atW fs [D]) F' H' (atW fs' [D]) :=
  s.mono (fun b h => .inl h) fun b h => h.elim .inl fun h => .inr (.inl (.inr h))
theorem step_put {u : HO} : Step F H (atW fs [D]) F (upd H D u) (atW fs [D]) :=
  ⟨Same.refl F, fun b o e n => by rw [upd_ne (fun z => n (.inr (by simp [z])))]; exact e, fun b h => .inl h, fun b h => .inl h⟩
end
section
variable {X : Cx} {G : Fr}
theorem pts_imp {xs : List Expr} {t t' : TT} (h : PTs X xs t) (i : ∀ σ H Q, t' σ H Q → t σ H Q) : PTs X xs t' := ⟨fun pins s σ H Q I q => h.run pins s σ H Q I (i σ H Q q)⟩
theorem lc_imp {K : PySem.W.Frag} {tg : List Nat} {it t e : E} (σ : L2.St) (H : Hp) (Q : VK) (h : tN G (E.comp tg it t e).pure (ev (.comp tg it t e)) σ H Q) :
    tLc (tI G it.pure (evi it)) (gTg K tg) (tT { G with E := E0 } t.pure (tstOf t (ev t))) (tE { G with E := E0 } e.pure (ev e)) tg σ H Q := by
  obtain ⟨env, F, fs, g, q⟩ := h
  refine ⟨env, F, fs, g, q.bind (p2 := t.pure && e.pure) (fun z => by simpa [E.pure, Bool.and_assoc] using z) fun xs env1 F1 H1 fs1 _ g1 s1 t1 q1 J hJ D hD => ?_⟩
  obtain ⟨⟨hf, hx⟩, q1⟩ := ite_inv q1
  cases ec : compL tg (tstOf t (ev t)) (eltOf (ev e)) xs (blank env1 tg) with
  | stuck => rw [ec] at q1; exact q1.elim
  | exn c d => rw [ec] at q1; exact q1.elim
  | ok ro =>
    obtain ⟨ds, env'⟩ := ro
    rw [ec] at q1
    have F1D : F1 D = none := by
      cases q : F1 D with
      | none => rfl
      | some u => rw [g1.fh D u q] at hD; cases hD
    refine ⟨fun i m H => m = xs.length - i ∧ i ≤ xs.length ∧ ∃ env F fs acc done rest, GS G.M F H G.io env (wipe σ tg) fs ∧ Apart fs [D] ∧ F D = none ∧ H D = some (.lst acc) ∧ Fa2 (Rep G.M F) done acc ∧ acc.length ≤ i ∧
      Step F1 H1 fs1.at F H (atW fs [D]) ∧ (∀ j ∈ tg, fs j = []) ∧ ((t.pure && e.pure) = true → Same H1 H) ∧ compL tg (tstOf t (ev t)) (eltOf (ev e)) (xs.drop i) env = .ok (rest, env') ∧ ds = done ++ rest, ⟨xs.length, by simp, Nat.zero_le _, blank env1 tg, F1, fs1, [], [], ds, ?_⟩, ?_⟩
    · obtain ⟨g2, s2, ap, _⟩ := (g1.blank hf).newO (o := .lst []) hD
      exact ⟨g2, ap, F1D, upd_same, rfl, Nat.le_refl _, s2, fun j hj => g1.bare hf hj, fun _ => new_same hD, by simpa using ec, rfl⟩
    · rintro i m H ⟨rfl, hil, env, F, fs, acc, done, rest, g2, ap, hFD, hHD, fa, hacc, st, hb, hp, hl, hds⟩
      have sF : Same F1 F := st.ff
      by_cases hlt : i < xs.length
      · -- a turn
        obtain ⟨x, hx1⟩ : ∃ x, xs[i]? = some x := ⟨xs[i], List.getElem?_eq_getElem hlt⟩
        have hdr : xs.drop i = x :: xs.drop (i + 1) := by
          rw [List.drop_eq_getElem_cons hlt]
          rw [List.getElem?_eq_getElem hlt] at hx1
          rw [Option.some.inj hx1]
        rw [hdr] at hl
        obtain ⟨go, yl⟩ := (hJ i F H sF g2.fh).1 x hx1
        refine .inr ⟨go, fun H' => ∃ env F fs acc done rest, GS G.M F H' G.io env (wipe σ tg) fs ∧ Apart fs [D] ∧ F D = none ∧ H' D = some (.lst acc) ∧ Fa2 (Rep G.M F) done acc ∧ acc.length ≤ i + 1 ∧
          Step F1 H1 fs1.at F H' (atW fs [D]) ∧ (∀ j ∈ tg, fs j = []) ∧ ((t.pure && e.pure) = true → Same H1 H') ∧ compL tg (tstOf t (ev t)) (eltOf (ev e)) (xs.drop (i + 1)) env = .ok (rest, env') ∧ ds = done ++ rest,
          fun H' hN => ⟨xs.length - (i + 1), by omega, rfl, hlt, hN⟩, fun xv H' hy => ?_⟩
        obtain ⟨F2, a1, a2, a3, a4, a5⟩ := yl xv H' hy
        obtain ⟨g3, s3⟩ := g2.more a1 a2 a3 a4
        -- the names
        cases e1 : setIs env tg x with
        | stuck => simp [compL, e1] at hl
        | exn c d => simp [compL, e1] at hl
        | ok env2 =>
          obtain ⟨is, vs, fs2, g4, l4, hi4, k4⟩ := setIs_ok (K := K) g3 a5 e1
          refine k4 _ ?_
          have hw : wipe (setV (wipe σ tg) is vs) tg = wipe σ tg := by rw [wipe_setV hi4, wipe_wipe]
          refine ⟨hw.trans wipe_wipe.symm |>.trans wipe_wipe, ?_⟩
          have s4 : Step F H fs.at F2 H' fs2.at := s3.less l4
          -- the test
          cases e2 : tstOf t (ev t) env2 with
          | stuck => simp [compL, e1, e2] at hl
          | exn c d => simp [compL, e1, e2] at hl
          | ok rb =>
            obtain ⟨b, env3⟩ := rb
            refine ⟨env2, F2, fs2, g4, ?_⟩
            rw [e2]
            intro F3 H3 fs3 g5 s5 t5
            have s5' : Step F H fs.at F3 H3 fs3.at := s4.trans s5
            obtain ⟨ap3, hF3, hH3⟩ := apart_step s5' ap hFD hHD
            cases b with
            | false =>
              simp only [compL, e1, e2, Res.bind_ok, Bool.false_eq_true, if_false] at hl
              by_cases hfr : freeSl env3 tg = true
              · rw [if_pos hfr] at hl
                simp only [Bool.false_eq_true, if_false]
                have g6 := g5.blank hfr
                rw [hw] at g6
                refine ⟨blank env3 tg, F3, fs3, acc, done, rest, g6, ap3, hF3, hH3, fa.mono fun d _ v r => r.mono s5'.ff, by omega, st.trans (step_with s5'), fun j hj => g5.bare hfr hj, fun z => ?_, hl, hds⟩
                have z := Bool.and_eq_true_iff.mp z
                exact (hp (by simp [z.1, z.2])).trans (a2.trans (t5 z.1))
              · rw [if_neg hfr] at hl; cases hl
            | true =>
              simp only [compL, e1, e2, Res.bind_ok, if_true] at hl
              simp only [if_true]
              -- the element
              cases e3 : eltOf (ev e) env3 with
              | stuck => simp [e3] at hl
              | exn c d => simp [e3] at hl
              | ok rd =>
                obtain ⟨d, env4⟩ := rd
                simp only [e3, Res.bind_ok] at hl
                by_cases hfr : freeSl env4 tg = true
                · rw [if_pos hfr] at hl
                  refine ⟨env3, F3, fs3, g5, ?_⟩
                  have e4 : ev e env3 = .ok ((0, d), env4) := by
                    unfold eltOf at e3
                    cases e5 : ev e env3 with
                    | stuck => rw [e5] at e3; cases e3
                    | exn c d => rw [e5] at e3; cases e3
                    | ok ro =>
                      obtain ⟨⟨k, z⟩, env5⟩ := ro
                      rw [e5] at e3
                      cases k with
                      | succ k => cases e3
                      | zero => cases e3; rfl
                  rw [e4]
                  intro F4 H4 fs4 g6 s6 t6 y ry
                  have s6' := s5'.trans s6
                  obtain ⟨ap4, hF4, hH4⟩ := apart_step s6' ap hFD hHD
                  cases e6 : compL tg (tstOf t (ev t)) (eltOf (ev e)) (xs.drop (i + 1)) (blank env4 tg) with
                  | stuck => simp [e6] at hl
                  | exn c d => simp [e6] at hl
                  | ok rr =>
                    obtain ⟨rest', env5⟩ := rr
                    simp only [e6, Res.bind_ok] at hl
                    cases hl
                    refine ⟨acc, hH4, Nat.lt_of_lt_of_le (Nat.lt_of_le_of_lt hacc hlt) (lim_ok hx), ?_⟩
                    have g7 := g6.blank hfr
                    rw [hw] at g7
                    have hne : ∀ i b, b ∈ fs4 i → b ≠ D := fun i b hb z => ap4 i b hb (by simp [z])
                    refine ⟨blank env4 tg, F4, fs4, acc ++ [y], done ++ [d], rest', g7.keep (Same.refl F4) (fun i b hb => by rw [upd_ne (hne i b hb)]) (fun b o q => ?_) g7.fn, ap4, hF4, upd_same, (fa.mono fun d _ v r => r.mono s6'.ff).append ⟨y, [], rfl, ry, rfl⟩, by simp; omega,
                      (st.trans (step_with s6')).trans step_put, fun j hj => g6.bare hfr hj, fun z => ?_, e6, by rw [hds]; simp⟩
                    · by_cases z : b = D
                      · subst z; rw [hF4] at q; cases q
                      · rw [upd_ne z]; exact g6.fh b o q
                    · have z := Bool.and_eq_true_iff.mp z
                      have sm := ((hp (by simp [z.1, z.2])).trans (a2.trans (t5 z.1))).trans (t6 z.2)
                      intro b o q
                      have : b ≠ D := fun w => by rw [w, hD] at q; cases q
                      rw [upd_ne this]; exact sm b o q
                · rw [if_neg hfr] at hl; cases hl
      · -- the end
        have hi2 : i = xs.length := by omega
        refine .inl ⟨(hJ i F H sF g2.fh).2 (by omega), ?_⟩
        rw [hi2, List.drop_length] at hl
        cases hl
        rw [List.append_nil] at hds
        subst hds
        -- the heap as if the list were not yet
        generalize hH' : (fun b => if b = D then none else H b : Hp) = H'
        have n1 : ∀ b, b ≠ D → H' b = H b := fun b hb => by rw [← hH']; exact if_neg hb
        have n2 : H' D = none := by rw [← hH']; exact if_pos rfl
        have hne : ∀ i b, b ∈ fs i → b ≠ D := fun i b hb z => ap i b hb (by simp [z])
        have hFH' : Same F H' := fun b o q => by
          have : b ≠ D := fun z => by rw [z, hFD] at q; cases q
          rw [n1 b this]; exact g2.fh b o q
        have g3 : GS G.M F H' G.io _ (wipe σ tg) fs := g2.keep (Same.refl F) (fun i b hb => n1 b (hne i b hb)) hFH' g2.fn
        have g4 := g1.back hf g3 (by rw [← g3.len, wipe_length, g1.len]) hb sF
        have sm : ∀ b o, H1 b = some o → b ≠ D := fun b o q z => by rw [z, hD] at q; cases q
        have st2 : Step F1 H1 fs1.at F H' fs.at := ⟨sF, fun b o q n => by rw [n1 b (sm b o q)]; exact st.fr b o q n, st.nw, fun b h => st.own b (.inl h)⟩
        have q2 := q1 F H' fs g4 st2 (fun z b o q => by rw [n1 b (sm b o q)]; exact hp z b o q) rfl
        have q3 := q2 D acc n2 fa
        have e : upd H' D (.lst acc) = H := by
          funext b
          by_cases z : b = D
          · subst z; rw [upd_same, hHD]
          · rw [upd_ne z, n1 b z]
        rw [e] at q3
        exact q3
theorem n_comp {tg : List Nat} {it t e : E} {tgt iter elt : Expr} {ifs : List Expr} {scope : Scope} {pos : Pos} {own : List (Str × Nat)} (hc : X.calm = true) (hN : X.N.Nodup) (hi : PI X tgt iter (tI G it.pure (evi it))) (ok : BlkOk X.N X.env.scope scope own) (hown : own.map (·.2) = tg)
    (hg : ∀ (s : Shared) (H : Hp) (C : Addr) (cl : List (Str × Addr)) (fp : List Addr), PG (X.blk s H scope (compEnvC scope cl C X.env) fp) tgt (gTg X.K tg))
    (ht : ∀ (s : Shared) (H : Hp) (C : Addr) (cl : List (Str × Addr)) (fp : List Addr), PTs (X.blk s H scope (compEnvC scope cl C X.env) fp) ifs (tT { G with E := E0 } t.pure (tstOf t (ev t))))
    (he : ∀ (s : Shared) (H : Hp) (C : Addr) (cl : List (Str × Addr)) (fp : List Addr), PE (X.blk s H scope (compEnvC scope cl C X.env) fp) elt (tE { G with E := E0 } e.pure (ev e))) (hs : ∀ x, foldedSetIterable iter X.env x = pure x) :
    PE X (.ListComp elt [⟨tgt, iter, ifs, 0⟩] scope pos) (tN G (E.comp tg it t e).pure (ev (.comp tg it t e))) := by
  refine pe_imp (pe_lc hc hN hi ok hg ht he hs) fun σ H Q h => ?_
  rw [hown]
  exact lc_imp σ H Q h
end
end DL

-- part DLie
set_option Elab.async false
set_option linter.all false
set_option maxRecDepth 100000
/-! DL, part ie: enumerate of a tuple. -/
namespace PySem
open Sem (wp)
open AutoSeq1 (wpAny_loadPart')
theorem dl_enum_newT (l : Addr) (items : Array Value) (n : Nat) (dct : Option Addr) (sl : Array (Option Value)) :
    Meets (Builtin.«enumerate.__new__» ⟨[.type "enumerate", .ref l], []⟩) (fun _ R s => s.heap.get? l = some { cls := .type "tuple", dict := dct, data := .seq items n, slots := sl } ∧
      R (.ok (.ret (.ref (s.heap.push { cls := .type "tuple_iterator", data := .fields #[.ref l, .int 0 0] }).objs.size)))
        { s with heap := (s.heap.push { cls := .type "tuple_iterator", data := .fields #[.ref l, .int 0 0] }).push { cls := .type "enumerate", data := .fields #[.none, .bool false, .ref s.heap.objs.size, rawInt 0, .none, .none] } }) :=
  .of_wp fun prog w A R s h => by
    obtain ⟨hp, g, d, tk, os⟩ := s; obtain ⟨hl, h⟩ := h
    have hsub := sub_enumerate
    have hL : Heap.IsTuple (Shared.heap ⟨hp, g, d, tk, os⟩) l items := ⟨_, hl, rfl, n, rfl⟩
    wp_walk using wpAny_loadPart' hl
    refine wpAny_stack_any fun st => wpAny_pure ?_
    split
    · rename_i c _ _ _ _ _
      cases (c == Value.type "enumerate")
      · wp_walk using wpAny_loadPart' hl, wpAny_pyIter_tuple hL
        exact ⟨_, rfl, h⟩
      · wp_walk using wpAny_loadPart' hl, wpAny_pyIter_tuple hL
        exact ⟨_, rfl, h⟩
    · wp_walk using wpAny_loadPart' hl, wpAny_pyIter_tuple hL
      exact ⟨_, rfl, h⟩
theorem dl_enum_tuple {prog : Program} {w : World} {A : Around} {E : Value → Shared → Prop} {s : Shared} {l : Addr} {items : Array Value} {Q : Value → Shared → Prop} (hL : s.heap.IsTuple l items)
    (h : ∀ h', IsEnum h' (s.heap.objs.size + 1) s.heap.objs.size 0 .none → h'.IsTupleIter s.heap.objs.size l 0 → h'.objs.size = s.heap.objs.size + 2 →
      (∀ b o, s.heap.get? b = some o → h'.get? b = some o) → Q (.ref (s.heap.objs.size + 1)) { s with heap := h' }) :
    wpAny (model prog w) A (call (.type "enumerate") [.ref l]) Q E s := by
  obtain ⟨⟨c, dct, dt, sl⟩, hl, hc, n, hd⟩ := hL
  replace hc : c = .type "tuple" := hc
  replace hd : dt = .seq items n := hd
  subst hc hd
  refine callType_new F.called_enumerate (by decide) (F.typeCall_enumerate_1 _) (F.newCall_enumerate_1 _) (fun obj => F.args_object_init_2 obj _) F.entry_enumerate_new
    (dl_enum_newT l items n dct sl) ⟨hl, ?_⟩
  have hz : (s.heap.push { cls := .type "tuple_iterator", data := .fields #[.ref l, .int 0 0] }).objs.size = s.heap.objs.size + 1 := Heap.size_push ..
  show _ ∧ _
  rw [hz]
  have he : IsEnum ((s.heap.push { cls := .type "tuple_iterator", data := .fields #[.ref l, .int 0 0] }).push
      { cls := .type "enumerate", data := .fields #[.none, .bool false, .ref s.heap.objs.size, rawInt 0, .none, .none] }) (s.heap.objs.size + 1) s.heap.objs.size 0 .none := by
    have := Heap.get?_push_size (s.heap.push { cls := .type "tuple_iterator", data := .fields #[.ref l, .int 0 0] })
      (o := { cls := .type "enumerate", data := .fields #[.none, .bool false, .ref s.heap.objs.size, rawInt 0, .none, .none] }) rfl
    rw [hz] at this; exact this
  refine ⟨⟨_, he, rfl⟩, h _ he ⟨_, Heap.get?_push_of_some _ (Heap.get?_push_size _ rfl), rfl, rfl⟩ (by rw [Heap.size_push, hz]) fun b o x => Heap.get?_push_of_some _ (Heap.get?_push_of_some _ x)⟩
theorem dl_enum_endT {prog : Program} {w : World} {A : Around} {E : Value → Shared → Prop} {s : Shared} {e it a : Addr} {items : Array Value} {i : Nat} {j : Int} {old : Value} {Q : Option Value → Shared → Prop} (hh : A.handled = none) (he : IsEnum s.heap e it j old)
    (hit : s.heap.IsTupleIter it a i) (ht : s.heap.IsTuple a items) (hx : items[i]? = none) (hQ : ∀ h', Heap.ExtBut it s.heap h' → Q none { s with heap := h' }) : wpAny (model prog w) A (pyNext (.ref e)) Q E s := by
  have hT : s.TypeIs (.ref e) "enumerate" := ⟨_, he, rfl⟩
  unfold pyNext
  refine wpAny_bind (wpAny_attempt (wpAny_callSpecial?_slot (name := Str.ofString "__next__") hT F.slot_enumerate_next
    (wpAny_call_entry F.slot_enumerate_next hT F.entry_enumerate_next ?_ (F.args_enumerate_next_1 _))))
  show wpAny _ _ (field (.ref e) 2 >>= _) _ _ _
  refine wpAny_bind (wpAny_field he rfl (x := .ref it) rfl ?_)
  refine wpAny_bind (wpAny_nextOf_tuple_end (A := A.in1) hh hit ht hx fun h' x he' hx' => ?_)
  obtain ⟨o, ho, hc⟩ := hx'
  refine wpAny_bind (wpAny_isInstance (T := "StopIteration") (b := true) ⟨o, ho, hc⟩ isSubtype_stop ?_)
  exact wpAny_pure (hQ _ he')
end PySem
namespace DL
open PySem PySem.Spec PyProof.Rows L2
/-- the tuple at a, each item in a new pair -/
def IteT (K : PySem.W.Frag) (a : Addr) : It :=
  ⟨fun i H => ∃ (xs : List V) (x : V), SqT K H a xs ∧ xs[i]? = some x, fun i H v H' => ∃ T x, v = .ref T ∧ H T = none ∧ H' = upd H T (.tup [.int (i : Nat), x]) ∧ ∀ xs, SqT K H a xs → xs[i]? = some x, fun i H => ∃ xs : List V, SqT K H a xs ∧ xs.length ≤ i⟩
theorem turn_enumT {P : Program} {w : World} {K : PySem.W.Frag} {elts : List Expr} {kk : Nat} {tpos : Pos} (a e it : Addr) (hai : a ≠ it) (hae : a ≠ e) :
    Turn P w K (.Tuple elts kk tpos) (IteT K a) [e, it] e (fun i h => (∃ old, IsEnum h e it ((i : Nat) : Int) old) ∧ h.IsTupleIter it a i ∧ e ≠ it) where
  mem := by simp
  obj := fun i h st b hb => by
    obtain ⟨⟨old, he⟩, ⟨o, ho, hc, hd⟩, _⟩ := st
    have e' : b = e ∨ b = it := by simpa using hb
    rcases e' with z | z
    · rw [z]; exact ⟨_, he, fun v q => nomatch q⟩
    · rw [z]; exact ⟨o, ho, fun v q => by rw [hd] at q; cases q⟩
  keep := fun i h h' st k => let ⟨⟨old, he⟩, hi, hne⟩ := st; ⟨⟨old, k e (by simp) _ he⟩, hi.at fun o q => k it (by simp) o q, hne⟩
  item := by
    intro X hP hw hK hc i pins s σ H E I hf st hg
    subst hP hw hK
    obtain ⟨⟨old, he⟩, hit, hne⟩ := st
    obtain ⟨xs, x, hq, hx⟩ := hg
    obtain ⟨its, rv, p, hz⟩ := I.tuple hq
    obtain ⟨u, hu, ru⟩ := rv.get hx
    have p' : s.heap.IsTuple a its.toArray := p
    have hel : e < s.heap.objs.size := Heap.lt_size he
    have hil : it < s.heap.objs.size := by obtain ⟨_, q, _⟩ := hit; exact Heap.lt_size q
    have hi : i < its.toArray.size := by
      have := (List.getElem?_eq_some_iff.mp hu).1
      simpa using this
    have hef : e ∉ [it, a] := by
      intro h
      rcases List.mem_cons.mp h with h | h
      · exact hne h
      · exact hae (List.mem_singleton.mp h).symm
    refine wpAny_pyNext_enum_itemD (Draws.tuple (A := X.A.in1) (I.ok.hd hc) it a hai its.toArray) he ⟨hit, p'⟩ hi hne hef fun x' h' tk hp' ho hit' hT hsz hk => ?_
    obtain rfl : x' = u := by
      have z : its.toArray[i]? = some x' := hp'
      rw [show its.toArray[i]? = some u by simpa using hu] at z
      exact (Option.some.inj z).symm
    refine ⟨_, rfl, wpAny_letOwnedTupleGo_enum (s := { s with heap := h', toks := tk + 1 }) ho fun h'' he' sb => ?_⟩
    have hT2 : h''.get? s.heap.objs.size = some { cls := .type "tuple", data := .seq #[.int i tk, x'] } := (sb.2 _ (Nat.ne_of_gt hel)).trans hT
    have new : ObjOk X.prog X.w (upd H s.heap.objs.size (.tup [.int (i : Nat), x])) h'' s.heap.objs.size (.tup [.int (i : Nat), x]) :=
      ⟨by show 2 ≤ sizeLine; decide, [.int i tk, x'], .cons ⟨_, rfl⟩ (.cons ru .nil), ⟨_, hT2, rfl, _, rfl⟩⟩
    have I1 : Inv X pins σ (upd H s.heap.objs.size (.tup [.int (i : Nat), x])) { s with heap := h'', toks := tk + 1 } :=
      I.turnedNew (ch := [e, it]) (fun b ob hb q => (sb.2 b (fun z => hb (by simp [z]))).trans (hk b ob (fun z => hb (by simp [z])) (fun z => hb (by simp [z])) q)) hf (Nat.le_refl _) new
    refine ⟨.ref s.heap.objs.size, _, I1, rfl, ⟨_, x, rfl, I.hok.fresh (Nat.le_refl _), rfl, fun ys hy => by rw [I.tuple_inj hy hq]; exact hx⟩, ⟨⟨x', ?_⟩, hit'.1.at fun o q => (sb.2 it (Ne.symm hne)).trans q, hne⟩, fun b hb => ?_⟩
    · have e1 : ((i + 1 : Nat) : Int) = (i : Int) + 1 := by omega
      rw [e1]; exact he'
    · have hb' : b < s.heap.objs.size := by
        have e' : b = e ∨ b = it := by simpa using hb
        rcases e' with z | z
        · rw [z]; exact hel
        · rw [z]; exact hil
      rw [upd_ne (Nat.ne_of_lt hb')]
      exact (hf b hb).1
  done := by
    intro X hP hw hK hc i pins s σ H E I hf st hg
    subst hP hw hK
    obtain ⟨⟨old, he⟩, hit, hne⟩ := st
    obtain ⟨xs, hq, hx⟩ := hg
    obtain ⟨its, rv, p, hz⟩ := I.tuple hq
    have p' : s.heap.IsTuple a its.toArray := p
    obtain ⟨f0, f1, f2, f3, f4, f5⟩ := hf it (by simp)
    have hl := rv.length
    exact dl_enum_endT (I.ok.hd hc) he hit p' (by simp; omega) fun h' eb => ⟨rfl, I.turned (t' := s.toks) (fun b o hb q => eb b o hb q) f0 f1 f3 f4 f5⟩
  self := fun A i s Q E st h => let ⟨⟨_, he⟩, _⟩ := st; wpAny_pyIter_enum he h
def iEnumT (K : PySem.W.Frag) (ta : TA) : TI := fun σ H R => ta σ H fun vs H1 => ∃ a xs, vs = [.ref a] ∧ SqT K H1 a xs ∧ R (IteT K a) H1
theorem pi_enumT {X : Cx} {e : Expr} {ta : TA} {p pos tpos : Pos} {elts : List Expr} {kk : Nat} (hg : Gl X "enumerate") (hm : X.mg "enumerate" = none) (ha : PA X [e] ta) (hs : starEach [e] X.env = [(false, eval e X.env)] := by rfl) :
    PI X (.Tuple elts kk tpos) (.Call (.Name "enumerate" p) [e] [] pos) (iEnumT X.K ta) := by
  refine ⟨fun pins s σ H R I h => ?_⟩
  refine Call_ (ld_blt I hg hm boot_enumerate (PyProof.Rows.callWith_type1 (thn (ha.run pos pins s σ H _ I h) fun us s1 ⟨vs, H1, I1, r1, q1⟩ => ?_) hs rfl))
  obtain ⟨a, xs, ex, hq, q⟩ := q1
  subst ex
  cases r1 with
  | cons r rr =>
    cases rr
    cases r
    obtain ⟨its, rv, p', hz⟩ := I1.tuple hq
    have p2 : s1.heap.IsTuple a its.toArray := p'
    have hal : a < s1.heap.objs.size := by
      obtain ⟨o, ho, _⟩ := p2
      exact Heap.lt_size ho
    refine dl_enum_tuple p2 fun h' he hit hsz hk => wpAny_pyIter_enum he ?_
    have I2 : Inv X pins σ H1 { s1 with heap := h' } := I1.kept (t' := s1.toks) hk
    refine ⟨s1.heap.objs.size + 1, [s1.heap.objs.size + 1, s1.heap.objs.size], _, _, H1, rfl, I2, turn_enumT a (s1.heap.objs.size + 1) s1.heap.objs.size (Nat.ne_of_lt hal) (Nat.ne_of_lt (Nat.lt_succ_of_lt hal)), ⟨⟨.none, he⟩, hit, Nat.succ_ne_self _⟩, fun b hb => ?_, q⟩
    have e' : b = s1.heap.objs.size + 1 ∨ b = s1.heap.objs.size := by simpa using hb
    have hle : s1.heap.objs.size ≤ b := by
      rcases e' with z | z
      · rw [z]; exact Nat.le_add_right _ _
      · rw [z]; exact Nat.le_refl _
    exact I1.fpOk hle (I1.hok.fresh hle)
theorem jy_enumT {M : Mo} {F : Hp} {K : PySem.W.Frag} {a : Addr} {ds : List D} {vs : List V} (h : F a = some (.tup vs)) (f : Fa2 (Rep M F) ds vs) : Jy M F (enumL 0 ds) (IteT K a) := fun i F' H' s t =>
  ⟨fun d e => by
    obtain ⟨e', g1, g2⟩ := enumL_get e
    obtain ⟨v, e1, r⟩ := f.get g1
    have q : SqT K H' a vs := SqT.of (t _ _ (s _ _ h))
    refine ⟨⟨vs, v, q, e1⟩, fun x H'' y => ?_⟩
    obtain ⟨T, x', rfl, hT, rfl, y⟩ := y
    have e2 := y vs q
    rw [e1] at e2; cases e2
    rw [g2, Nat.zero_add]
    exact Yd.new t hT ⟨_, _, rfl, Rep.int, _, _, rfl, r.mono s, rfl⟩, fun l => ⟨vs, SqT.of (t _ _ (s _ _ h)), by rw [f.length]; rw [enumL_len] at l; exact l⟩⟩
end DL

-- part DLi
set_option Elab.async false
set_option linter.all false
set_option maxRecDepth 100000
/-! DL, part i: the check of an expression against its code; its soundness. -/
namespace DL
open PySem PySem.Spec PyProof.Rows L2

section
variable {X : Cx} {G : Fr} {σ : L2.St} {H : Hp} {p : Bool}
theorem chn_of {a b c : E} {op op' : Cop} {Q : VK} (h : tE G (E.chn op op' a b c).pure (ev (.chn op op' a b c)) σ H Q) :
    tChain (rCmp G.M op) (rCmp G.M op') (tE G a.pure (ev a)) (tE G b.pure (ev b)) (tE G c.pure (ev c)) σ H (fun v H' => ∃ k, v = .bl k ∧ Q v H') := by
  obtain ⟨env, F, fs, g, q⟩ := h
  refine ⟨env, F, fs, g, q.bind (p2 := b.pure && c.pure) (fun z => by simpa [E.pure, Bool.and_assoc] using z) fun x env1 F1 H1 fs1 _ g1 s1 t1 q1 v rv => ?_⟩
  obtain ⟨hx, q1⟩ := ite_inv q1
  refine ⟨env1, F1, fs1, g1, q1.bind (p2 := c.pure) (fun z => Bool.and_eq_true_iff.mp z) fun y env2 F2 H2 fs2 _ g2 s2 t2 q2 w rw => ?_⟩
  obtain ⟨hy, q2⟩ := ite_inv q2
  rw [hx] at rv
  have rv2 : RW G.M F2 H2 x.1 x.2 v := by rw [hx]; exact Rep.mono s2.ff rv
  dsimp only at q2
  cases e : dCmp op x y with
  | stuck => rw [e] at q2; exact q2.elim
  | exn c d => exact absurd e (dCmp_fx op x y c d)
  | ok k =>
    rw [e] at q2
    refine ⟨F2, x.1, x.2, y.1, y.2, k, g2.fh, rv2, rw, e, k, rfl, ?_⟩
    have q2 : Pst G c.pure σ F2 H2 fs2 (if k = true then (ev c env2).bind fun (z, env) => (dCmp op' y z).bind fun k' => Res.ok (((0 : Nat), D.bl k'), env) else Res.ok (((0 : Nat), D.bl false), env2)) _ := q2
    cases k with
    | false => exact ⟨false, rfl, q2.weak id (fun _ _ _ _ _ _ _ _ _ z => z) |>.done g2 _ Rep.bl⟩
    | true =>
      simp only [if_true] at q2 ⊢
      refine ⟨env2, F2, fs2, g2, q2.bind (p2 := true) (fun z => ⟨z, rfl⟩) fun z env3 F3 H3 fs3 _ g3 s3 t3 q3 u ru => ?_⟩
      dsimp only at q3
      cases e2 : dCmp op' y z with
      | stuck => rw [e2] at q3; exact q3.elim
      | exn c d => exact absurd e2 (dCmp_fx op' y z c d)
      | ok k' =>
        rw [e2] at q3
        rw [hy] at rw
        exact ⟨F3, y.1, y.2, z.1, z.2, k', g3.fh, by rw [hy]; exact Rep.mono s3.ff rw, ru, e2, k', rfl, q3.done g3 _ Rep.bl⟩
theorem chain_imp {r r' : R2} {ta tb tc : TE} {Q Q' : VK} (ra : ∀ x y H Q Q', r x y H Q → (∀ v H, Q v H → Q' v H) → r x y H Q') (rb : ∀ x y H Q Q', r' x y H Q → (∀ v H, Q v H → Q' v H) → r' x y H Q')
    (ma : ∀ σ H Q Q', ta σ H Q → (∀ v H, Q v H → Q' v H) → ta σ H Q') (mb : ∀ σ H Q Q', tb σ H Q → (∀ v H, Q v H → Q' v H) → tb σ H Q') (mc : ∀ σ H Q Q', tc σ H Q → (∀ v H, Q v H → Q' v H) → tc σ H Q')
    (h : tChain r r' ta tb tc σ H Q) (i : ∀ v H, Q v H → Q' v H) : tChain r r' ta tb tc σ H Q' := by
  refine ma _ _ _ _ h fun x H1 h1 => mb _ _ _ _ h1 fun y H2 h2 => ra _ _ _ _ _ h2 fun z H3 ⟨k, e, h3⟩ => ⟨k, e, ?_⟩
  cases k with
  | false =>
    simp only [Bool.false_eq_true, if_false] at h3 ⊢
    exact i _ _ h3
  | true =>
    simp only [if_true] at h3 ⊢
    exact mc _ _ _ _ h3 fun w H4 h4 => rb _ _ _ _ _ h4 i
theorem rCmp_imp {M : Mo} {op : Cop} (x y : V) (H : Hp) (Q Q' : VK) (h : rCmp M op x y H Q) (i : ∀ v H, Q v H → Q' v H) : rCmp M op x y H Q' := by
  obtain ⟨F, j, d, k, e, b, h1, h2, h3, h4, h5⟩ := h
  exact ⟨F, j, d, k, e, b, h1, h2, h3, h4, i _ _ h5⟩
theorem tE_mono {r : Env → Res (Wk × Env)} (σ : L2.St) (H : Hp) (Q Q' : VK) (h : tE G p r σ H Q) (i : ∀ v H, Q v H → Q' v H) : tE G p r σ H Q' := by
  obtain ⟨env, F, fs, g, q⟩ := h
  exact ⟨env, F, fs, g, q.weak id fun x env1 F1 H1 fs1 _ _ _ _ q v rv => i _ _ (q v rv)⟩
theorem s_chn (hK : X.K = G.M.K) (hu : X.A.units + 64 < cLine) {a b c : E} {x y z : Expr} {op op' : Cop} {pos : Pos} (hm : lastMarks [op.py, op'.py] [y, z] = false) (ha : PE X x (tE G a.pure (ev a))) (hb : PE X y (tE G b.pure (ev b))) (hc : PE X z (tE G c.pure (ev c))) :
    PE X (.Compare x [op.py, op'.py] [y, z] pos) (tE G (E.chn op op' a b c).pure (ev (.chn op op' a b c))) :=
  pe_imp (pe_chain (op_cmp hK hu op) (op_cmp hK hu op') ha hb hc hm) fun σ H Q h => chain_imp rCmp_imp rCmp_imp tE_mono tE_mono tE_mono (chn_of h) fun v H ⟨k, _, q⟩ => q
theorem s_chnT (hK : X.K = G.M.K) (hu : X.A.units + 64 < cLine) {a b c : E} {x y z : Expr} {op op' : Cop} {pos : Pos} (hm : lastMarks [op.py, op'.py] [y, z] = false) (ha : PE X x (tE G a.pure (ev a))) (hb : PE X y (tE G b.pure (ev b))) (hc : PE X z (tE G c.pure (ev c))) :
    PT X (.Compare x [op.py, op'.py] [y, z] pos) (tT G (E.chn op op' a b c).pure (evT (.chn op op' a b c))) :=
  pt_imp (pt_chain (op_cmp hK hu op) (op_cmp hK hu op') ha hb hc hm) fun σ H Q h => chain_imp rCmp_imp rCmp_imp tE_mono tE_mono tE_mono (chn_of (tT_of h)) fun v H ⟨k, _, q⟩ => q
/-! ### tests -/
theorem evT_bind {e : E} {f : Bool × Env → Res (Bool × Env)} {env : Env} : (evT e env).bind f = (ev e env).bind fun (x, env) => (asB x.2).bind fun k => f (k, env) := by
  unfold evT
  cases ev e env with
  | stuck => rfl
  | exn c d => rfl
  | ok p =>
    obtain ⟨x, env1⟩ := p
    show ((asB x.2).bind fun k => Res.ok (k, env1)).bind f = (asB x.2).bind fun k => f (k, env1)
    cases asB x.2 <;> rfl
theorem bind_assoc {α β γ : Type} {r : Res α} {f : α → Res β} {g : β → Res γ} : (r.bind f).bind g = r.bind fun x => (f x).bind g := by
  cases r <;> rfl
theorem evT_not {a : E} {env : Env} : evT (.notv a) env = (evT a env).bind fun (k, env) => .ok (!k, env) := by
  rw [evT_bind]
  show ((ev a env).bind fun (x, env) => (asB x.2).bind fun k => Res.ok (((0 : Nat), D.bl (!k)), env)).bind _ = _
  rw [bind_assoc]
  cases ev a env with
  | stuck => rfl
  | exn c d => rfl
  | ok p =>
    obtain ⟨x, env1⟩ := p
    show ((asB x.2).bind fun k => Res.ok (((0 : Nat), D.bl (!k)), env1)).bind _ = (asB x.2).bind fun k => Res.ok (!k, env1)
    cases asB x.2 <;> rfl
theorem evT_and {a b : E} {env : Env} : evT (.andv a b) env = (evT a env).bind fun (k, env) => if k then evT b env else .ok (false, env) := by
  rw [evT_bind]
  show ((ev a env).bind fun (x, env) => (asB x.2).bind fun k => if k then (ev b env).bind fun (y, env) => (asB y.2).bind fun k' => Res.ok (((0 : Nat), D.bl k'), env) else .ok ((0, .bl false), env)).bind _ = _
  rw [bind_assoc]
  cases ev a env with
  | stuck => rfl
  | exn c d => rfl
  | ok p =>
    obtain ⟨x, env1⟩ := p
    cases e : asB x.2 with
    | stuck => simp [e]
    | exn c d => simp [e]
    | ok k =>
      cases k with
      | false =>
        simp only [e, Res.bind_ok]
        rfl
      | true =>
        simp only [e, Res.bind_ok, if_true]
        unfold evT
        cases ev b env1 with
        | stuck => rfl
        | exn c d => rfl
        | ok p =>
          obtain ⟨y, env2⟩ := p
          show ((asB y.2).bind fun k' => Res.ok (((0 : Nat), D.bl k'), env2)).bind _ = (asB y.2).bind fun k' => Res.ok (k', env2)
          cases asB y.2 <;> rfl
theorem evT_or {a b : E} {env : Env} : evT (.orv a b) env = (evT a env).bind fun (k, env) => if k then .ok (true, env) else evT b env := by
  rw [evT_bind]
  show ((ev a env).bind fun (x, env) => (asB x.2).bind fun k => if k then .ok ((0, .bl true), env) else (ev b env).bind fun (y, env) => (asB y.2).bind fun k' => Res.ok (((0 : Nat), D.bl k'), env)).bind _ = _
  rw [bind_assoc]
  cases ev a env with
  | stuck => rfl
  | exn c d => rfl
  | ok p =>
    obtain ⟨x, env1⟩ := p
    cases e : asB x.2 with
    | stuck => simp [e]
    | exn c d => simp [e]
    | ok k =>
      cases k with
      | true =>
        simp only [e, Res.bind_ok]
        rfl
      | false =>
        simp only [e, Res.bind_ok, Bool.false_eq_true, if_false]
        unfold evT
        cases ev b env1 with
        | stuck => rfl
        | exn c d => rfl
        | ok p =>
          obtain ⟨y, env2⟩ := p
          show ((asB y.2).bind fun k' => Res.ok (((0 : Nat), D.bl k'), env2)).bind _ = (asB y.2).bind fun k' => Res.ok (k', env2)
          cases asB y.2 <;> rfl
theorem s_notT {a : E} {x : Expr} {pos : Pos} (ha : PT X x (tT G a.pure (evT a))) : PT X (.UnaryOp .Not x pos) (tT G (E.notv a).pure (evT (.notv a))) :=
  pt_imp (pt_not ha) fun σ H Q ⟨env, F, fs, g, q⟩ => by
    rw [evT_not] at q
    exact ⟨env, F, fs, g, q.bind (p2 := true) (fun z => ⟨z, rfl⟩) fun k env1 F1 H1 fs1 _ g1 s1 t1 q1 => q1.done g1⟩
theorem pw_andT {a b : E} {x y : Expr} {rest : List Expr} {pos : Pos} (ha : PT X x (tT G a.pure (evT a))) (hb : PW X (.BoolOp .And (y :: rest) pos) (tT G b.pure (evT b))) : PW X (.BoolOp .And (x :: y :: rest) pos) (tT G (E.andv a b).pure (evT (.andv a b))) := by
  have h := pw_and ha hb
  refine ⟨fun whole pins s σ H Q I ⟨env, F, fs, g, q⟩ => h.run whole pins s σ H Q I ?_⟩
  rw [evT_and] at q
  refine ⟨env, F, fs, g, q.bind (p2 := b.pure) (fun z => Bool.and_eq_true_iff.mp z) fun k env1 F1 H1 fs1 _ g1 s1 t1 q1 => ?_⟩
  cases k with
  | false => exact q1.weak id (fun _ _ _ _ _ _ _ _ _ z => z) |>.done g1
  | true => exact ⟨env1, F1, fs1, g1, q1⟩
theorem pw_orT {a b : E} {x y : Expr} {rest : List Expr} {pos : Pos} (ha : PT X x (tT G a.pure (evT a))) (hb : PW X (.BoolOp .Or (y :: rest) pos) (tT G b.pure (evT b))) : PW X (.BoolOp .Or (x :: y :: rest) pos) (tT G (E.orv a b).pure (evT (.orv a b))) := by
  have h := pw_or ha hb
  refine ⟨fun whole pins s σ H Q I ⟨env, F, fs, g, q⟩ => h.run whole pins s σ H Q I ?_⟩
  rw [evT_or] at q
  refine ⟨env, F, fs, g, q.bind (p2 := b.pure) (fun z => Bool.and_eq_true_iff.mp z) fun k env1 F1 H1 fs1 _ g1 s1 t1 q1 => ?_⟩
  cases k with
  | true => exact q1.weak id (fun _ _ _ _ _ _ _ _ _ z => z) |>.done g1
  | false => exact ⟨env1, F1, fs1, g1, q1⟩
/-- a value as a test -/
def plainT : Expr → Bool
  | .Name _ _ => true
  | .Call _ _ _ _ => true
  | .Subscript _ _ _ => true
  | .Attribute _ _ _ => true
  | _ => false
theorem s_valT {a : E} {x : Expr} (hx : plainT x = true) (ha : PE X x (tE G a.pure (ev a))) : PT X x (tT G a.pure (evT a)) :=
  pt_imp (pt_val ha (by intro w; cases x <;> first | rfl | (simp [plainT] at hx))) fun σ H Q h => tT_of h
/-! ### enumerate, zip, of lists -/
theorem s_ienum {elts : List Expr} {kk : Nat} {tpos : Pos} (hg : Gl X "enumerate") (hm : X.mg "enumerate" = none) {a : E} {x : Expr} {pp pos : Pos} (hx : isStar x = false) (h : PE X x (tE G a.pure (ev a))) : PI X (.Tuple elts kk tpos) (.Call (.Name "enumerate" pp) [x] [] pos) (tI G (E.ienum a).pure (evi (.ienum a))) :=
  pi_imp (pi_enum hg hm (pa_cons h pa_nil (star_cons hx)) (star_cons hx)) fun σ H Q ⟨env, F, fs, g, q⟩ => ⟨env, F, fs, g, q.bind (p2 := true) (fun z => ⟨z, rfl⟩) fun x env1 F1 H1 fs1 _ g1 s1 t1 q1 v rv => by
    obtain ⟨k, d⟩ := x
    cases k with
    | succ k => exact q1.elim
    | zero =>
      cases d with
      | nd kd ds =>
        cases kd with
        | lst =>
          obtain ⟨a, vs, rfl, r1, f1⟩ := Rep.nd_iff.mp rv
          exact ⟨a, vs, rfl, SqL.of (g1.fh _ _ r1), q1.done g1 _ (jy_enum r1 f1)⟩
        | _ => exact q1.elim
      | _ => exact q1.elim⟩
theorem s_ienumT {elts : List Expr} {kk : Nat} {tpos : Pos} (hg : Gl X "enumerate") (hm : X.mg "enumerate" = none) {a : E} {x : Expr} {pp pos : Pos} (hx : isStar x = false) (h : PE X x (tE G a.pure (ev a))) : PI X (.Tuple elts kk tpos) (.Call (.Name "enumerate" pp) [x] [] pos) (tI G (E.ienumT a).pure (evi (.ienumT a))) :=
  pi_imp (pi_enumT hg hm (pa_cons h pa_nil (star_cons hx)) (star_cons hx)) fun σ H Q ⟨env, F, fs, g, q⟩ => ⟨env, F, fs, g, q.bind (p2 := true) (fun z => ⟨z, rfl⟩) fun x env1 F1 H1 fs1 _ g1 s1 t1 q1 v rv => by
    obtain ⟨k, d⟩ := x
    cases k with
    | succ k => exact q1.elim
    | zero =>
      cases d with
      | nd kd ds =>
        cases kd with
        | tup =>
          obtain ⟨a, vs, rfl, r1, f1⟩ := Rep.nd_iff.mp rv
          exact ⟨a, vs, rfl, SqT.of (g1.fh _ _ r1), q1.done g1 _ (jy_enumT r1 f1)⟩
        | _ => exact q1.elim
      | _ => exact q1.elim⟩
theorem s_izip {elts : List Expr} {kk : Nat} {tpos : Pos} (hg : Gl X "zip") (hm : X.mg "zip" = none) {a b : E} {x y : Expr} {pp pos : Pos} (hx : isStar x = false) (hy : isStar y = false) (h : PE X x (tE G a.pure (ev a))) (h2 : PE X y (tE G b.pure (ev b))) : PI X (.Tuple elts kk tpos) (.Call (.Name "zip" pp) [x, y] [] pos) (tI G (E.izip a b).pure (evi (.izip a b))) :=
  pi_imp (pi_zip hg hm (pa_cons h (pa_cons h2 pa_nil (star_cons hy)) (star_cons hx)) (star_cons hx) (star_none (by simp [hy]))) fun σ H Q ⟨env, F, fs, g, q⟩ => ⟨env, F, fs, g, q.bind (p2 := b.pure) (fun z => Bool.and_eq_true_iff.mp z) fun x env1 F1 H1 fs1 _ g1 s1 t1 q1 v rv => by
    refine ⟨env1, F1, fs1, g1, q1.bind (p2 := true) (fun z => ⟨z, rfl⟩) fun y env2 F2 H2 fs2 _ g2 s2 t2 q2 w rw => ?_⟩
    obtain ⟨k, d⟩ := x
    obtain ⟨j, d2⟩ := y
    cases k with
    | succ k => exact q2.elim
    | zero =>
      cases j with
      | succ k =>
        exfalso
        cases d with
        | nd kd ds =>
          cases kd with
          | lst => cases d2 with
            | nd kd2 ds2 => cases kd2 <;> exact q2.elim
            | _ => exact q2.elim
          | _ => exact q2.elim
        | _ => exact q2.elim
      | zero =>
        cases d with
        | nd kd ds =>
          cases kd with
          | lst =>
            cases d2 with
            | nd kd2 ds2 =>
              cases kd2 with
              | lst =>
                have rv2 : Rep G.M F2 (.lst ds) v := Rep.mono s2.ff rv
                obtain ⟨a, vs, rfl, r1, f1⟩ := Rep.nd_iff.mp rv2
                obtain ⟨b, ws, rfl, r2, f2⟩ := Rep.nd_iff.mp rw
                exact ⟨a, b, vs, ws, rfl, SqL.of (g2.fh _ _ r1), SqL.of (g2.fh _ _ r2), q2.done g2 _ (jy_zip r1 r2 f1 f2)⟩
              | _ => exact q2.elim
            | _ => exact q2.elim
          | _ => exact q2.elim
        | _ => exact q2.elim⟩
end
end DL

-- part DLfk
set_option Elab.async false
set_option linter.all false
set_option maxRecDepth 100000
/-! DL, part fk: calls by keywords alone. -/
namespace DL
open PySem PySem.Spec PyProof.Rows L2
/-! ### an order -/
def permL {α : Type} (pm : List Nat) (l : List α) : List α := (permO pm l).getD []
theorem permO_vals {pm : List Nat} {zs : List V} {ws : List Value} (r : Vals zs ws) : (permO pm zs = none ∧ permO pm ws = none) ∨ ∃ a b, permO pm zs = some a ∧ permO pm ws = some b ∧ Vals a b := by
  induction pm with
  | nil => exact .inr ⟨[], [], rfl, rfl, .nil⟩
  | cons i is ih =>
    have hl : zs.length = ws.length := r.length
    cases e : zs[i]? with
    | none =>
      have e2 : ws[i]? = none := List.getElem?_eq_none (by have := List.getElem?_eq_none_iff.mp e; omega)
      exact .inl ⟨by simp [permO, e], by simp [permO, e2]⟩
    | some x =>
      obtain ⟨u, hu, ru⟩ := r.get e
      rcases ih with ⟨h1, h2⟩ | ⟨a, b, h1, h2, h3⟩
      · exact .inl ⟨by simp [permO, e, h1], by simp [permO, hu, h2]⟩
      · exact .inr ⟨x :: a, u :: b, by simp [permO, e, h1], by simp [permO, hu, h2], .cons ru h3⟩
theorem permL_vals {pm : List Nat} {zs : List V} {ws : List Value} (r : Vals zs ws) : Vals (permL pm zs) (permL pm ws) := by
  rcases permO_vals (pm := pm) r with ⟨h1, h2⟩ | ⟨a, b, h1, h2, h3⟩
  · simp only [permL, h1, h2]; exact .nil
  · simp only [permL, h1, h2]; exact h3
section
variable {M : Mo} {F H : Hp} {σ : L2.St}
theorem arR_get : ∀ {ars : List Ar} {vs : List V} {i : Nat} {a : Ar}, ArR M F H σ ars vs → ars[i]? = some a → ∃ v, vs[i]? = some v ∧ ∀ r ws, ArR M F H σ r ws → ArR M F H σ (a :: r) (v :: ws)
  | [], _, i, a, _, e => by simp at e
  | b :: r, vs, i, a, h, e => by
    have key : ∃ v vs', vs = v :: vs' ∧ ArR M F H σ r vs' ∧ ∀ r ws, ArR M F H σ r ws → ArR M F H σ (b :: r) (v :: ws) := by
      cases b with
      | d k d => obtain ⟨v, vs', e1, h1, h2⟩ := h; exact ⟨v, vs', e1, h2, fun r ws h3 => ⟨v, ws, rfl, h1, h3⟩⟩
      | io j => obtain ⟨v, vs', e1, h1, h2⟩ := h; exact ⟨v, vs', e1, h2, fun r ws h3 => ⟨v, ws, rfl, h1, h3⟩⟩
      | wk j => obtain ⟨v, vs', e1, h1, h2⟩ := h; exact ⟨v, vs', e1, h2, fun r ws h3 => ⟨v, ws, rfl, h1, h3⟩⟩
    obtain ⟨v, vs', rfl, h2, h3⟩ := key
    cases i with
    | zero => simp at e; subst e; exact ⟨v, rfl, h3⟩
    | succ i =>
      obtain ⟨w, a1, a2⟩ := arR_get h2 (by simpa using e)
      exact ⟨w, by simpa using a1, a2⟩
theorem arR_perm {ars : List Ar} {vs : List V} (h : ArR M F H σ ars vs) : ∀ {pm : List Nat} {ars' : List Ar}, permO pm ars = some ars' → ∃ vs', permO pm vs = some vs' ∧ ArR M F H σ ars' vs'
  | [], ars', e => by cases e; exact ⟨[], rfl, rfl⟩
  | i :: is, ars', e => by
    unfold permO at e
    split at e
    · rename_i x r e1 e2
      cases e
      obtain ⟨v, a1, a2⟩ := arR_get h e1
      obtain ⟨vs', b1, b2⟩ := arR_perm h e2
      exact ⟨v :: vs', by simp [permO, a1, b1], a2 _ _ b2⟩
    · cases e
theorem arR_len : ∀ {ars : List Ar} {vs : List V}, ArR M F H σ ars vs → vs.length = ars.length
  | [], _, h => by rw [show _ = [] from h]; rfl
  | .d k d :: r, _, ⟨v, vs', e, _, y⟩ => by rw [e, List.length_cons, List.length_cons, arR_len y]
  | .io i :: r, _, ⟨v, vs', e, _, y⟩ => by rw [e, List.length_cons, List.length_cons, arR_len y]
  | .wk i :: r, _, ⟨v, vs', e, _, y⟩ => by rw [e, List.length_cons, List.length_cons, arR_len y]
theorem kwO_inv {ks : List Str} {pm : List Nat} {ars ars' : List Ar} {vs : List V} (e : kwO ks pm ars = some ars') (h : ArR M F H σ ars vs) : vs.length = ks.length ∧ ArR M F H σ ars' (permL pm vs) := by
  unfold kwO at e
  split at e
  · rename_i hl
    obtain ⟨vs', a, b⟩ := arR_perm h e
    refine ⟨by rw [arR_len h, hl], ?_⟩
    simp only [permL, a]; exact b
  · cases e
end
/-! ### keywords in the model -/
def kwB (ks : List Str) : List Keyword → Bool
  | [] => ks.isEmpty
  | k :: kws => match ks with
    | x :: ks => decide (k.arg = some x) && kwB ks kws
    | [] => false
theorem kw_all {pos : Pos} {env : PySem.Env} : ∀ {kws : List Keyword} {ks : List Str}, kwB ks kws = true → (backToKw pos (keywordEach kws env)).all (·.1.isSome) = true ∧ (backToKw pos (keywordEach kws env)).filterMap (·.1) = ks ∧ (backToKw pos (keywordEach kws env)).any (·.1.isNone) = false ∧ ks.length = kws.length
  | [], ks, h => by
    cases ks with
    | nil => exact ⟨rfl, rfl, rfl, rfl⟩
    | cons _ _ => cases h
  | ⟨nm, v, p⟩ :: kws, [], h => by cases h
  | ⟨nm, v, p⟩ :: kws, x :: ks, h => by
    have h := Bool.and_eq_true_iff.mp (show (decide (nm = some x) && kwB ks kws) = true from h)
    have e : nm = some x := of_decide_eq_true h.1
    subst e
    obtain ⟨a, b, c, d⟩ := kw_all (pos := pos) (env := env) h.2
    refine ⟨?_, ?_, ?_, by simp [d]⟩
    · show (true && (backToKw pos (keywordEach kws env)).all (·.1.isSome)) = true
      rw [a]; rfl
    · show x :: (backToKw pos (keywordEach kws env)).filterMap (·.1) = x :: ks
      rw [b]
    · show (false || (backToKw pos (keywordEach kws env)).any (·.1.isNone)) = false
      rw [c]; rfl
section
variable {X : Cx} {G : Fr} {σ : L2.St} {H F : Hp} {p : Bool}
theorem pk_imp {x : List Keyword} {t t' : TA} (h : PK X x t) (i : ∀ σ H Q, t' σ H Q → t σ H Q) : PK X x t' := ⟨fun pos pins s σ H Q I q => h.run pos pins s σ H Q I (i σ H Q q)⟩
theorem s_knil : PK X [] (tA G E.nil.pure (evs .nil)) := pk_imp pk_nil fun σ H Q ⟨env, F, fs, g, q⟩ => q.done g [] rfl
theorem s_kcons {a es : E} {nm : Option Str} {kp : Pos} {x : Expr} {xs : List Keyword} (hi : ∀ i, a ≠ .ioa i ∧ a ≠ .wka i) (hst : ∀ b, a ≠ .star b) (ha : PE X x (tE G a.pure (ev a))) (hb : PK X xs (tA G es.pure (evs es))) : PK X (⟨nm, x, kp⟩ :: xs) (tA G (E.cons a es).pure (evs (.cons a es))) :=
  pk_imp (pk_cons ha hb) (acons_imp hi hst)
theorem s_kio {i : Nat} {es : E} {nm : Option Str} {kp : Pos} {x : Str} {pos : Pos} {xs : List Keyword} (hN : X.N[i]? = some x) (hv : Vis X.env.scope x) (hd : (x == ("__debug__" : Str)) = false) (hcd : (x == ("__classdict__" : Str)) = false)
    (hb : PK X xs (tA G es.pure (evs es))) : PK X (⟨nm, .Name x pos, kp⟩ :: xs) (tA G (E.cons (.ioa i) es).pure (evs (.cons (.ioa i) es))) := pk_imp (pk_cons (pe_var hN hv hd hcd) hb) aio_imp
theorem s_kwk {i : Nat} {es : E} {nm : Option Str} {kp : Pos} {x : Str} {pos : Pos} {xs : List Keyword} (hN : X.N[i]? = some x) (hv : Vis X.env.scope x) (hd : (x == ("__debug__" : Str)) = false) (hcd : (x == ("__classdict__" : Str)) = false)
    (hb : PK X xs (tA G es.pure (evs es))) : PK X (⟨nm, .Name x pos, kp⟩ :: xs) (tA G (E.cons (.wka i) es).pure (evs (.cons (.wka i) es))) := pk_imp (pk_cons (pe_var hN hv hd hcd) hb) awk_imp
section
variable {CX : CXT} {k n : Nat} {f C : Addr} {fd : FuncData} {ps ks : List Str} {sp : Sp} {E : XK} {x m : Str} {p pos apos : Pos} {o : Expr} {ta : TE} {kws : List Keyword} {tk : TA} {g : List Value → List Value → List Value} {gV : List V → List V → List V}
theorem pe_kw (F : FnOk X.prog X.w X.K X.mg X.base CX k f fd ps sp) (hr : Room k X.A) (hg : Gl X x) (hm : X.mg x = some (.ref f)) (hk : PySem.W.keepIn X.K (.ref f) = true) (hb : KBn X.K fd ps 0 ks g gV) (hx : Passes CX X E) (hkw : PK X kws tk) (hB : kwB ks kws = true)
    (hdb : (x == ("__debug__" : Str)) = false) : PE X (.Call (.Name x p) [] kws pos) (tCallN 0 ks.length sp gV E tNil tk) := by
  refine ⟨fun pins s σ H Q I h => wpAny_Call_Name_kw (ld_glob I hg hm ?_ hdb)⟩
  obtain ⟨a1, a2, a3, _⟩ := kw_all (pos := pos) (env := X.env) hB
  refine PySem.W.callWith_KW0 (h₀ := X.base) I.ok.mod.kin hk a1 (thn (hkw.run pos pins s σ H _ I h) fun ws s2 ⟨zs, H2, I2, rz, l1, l2, q2⟩ => ⟨I2.kIn, ?_⟩) (by rw [a3]; rfl)
  rw [a2]
  exact run_fnN (us := []) (vs := []) F hr hb hx I2 .nil rz rfl l2 q2
/-- o.m(k = v, ..) -/
def tMethN (C : Addr) (m : Str) (n : Nat) (sp : Sp) (gV : List V → List V → List V) (E : XK) (ta : TE) (tk : TA) : TE := fun σ H Q => ta σ H fun x H1 => ∃ a dx fs, x = .ref a ∧ H1 a = some (.ins C dx fs) ∧ fs.lookup m = none ∧ tk σ H1 fun zs H2 => zs.length = n ∧ sp (gV [.ref a] zs) H2 Q E
theorem meth_htk {kws : List Keyword} {ks : List Str} (hB : kwB ks kws = true) (o : Expr) (m : Str) (apos pos : Pos) (env : PySem.Env) (hl : kws.length < 29) (hp : (apos.endLine == pos.line) = true) (hab : attributeBase o m env (eval o env) = eval o env) : eval (.Call (.Attribute o m apos) [] kws pos) env = (do
      let ov ← eval o env
      standAt apos.atName
      let (f, first) ← holding [ov] (getMethod ov m (do return (← importBound o env).getD true))
      callWith pos f first (backTo pos (starEach [] env)) (backToKw pos (keywordEach kws env))) := by
  have e1 : eval (.Call (.Attribute o m apos) [] kws pos) env = (do
      let ov ← attributeBase o m env (eval o env)
      standAt apos.atName
      methodCall o m apos pos env ov (([] : List Expr).length + kws.length) (backTo pos (starEach [] env)) (backToKw pos (keywordEach kws env))) := by
    first | rfl | skip
  rw [e1, hab]
  unfold methodCall calleeOf methodCallPos
  have hf : methodCallForm (([] : List Expr).length + kws.length) (backTo pos (starEach [] env)) (backToKw pos (keywordEach kws env)) = true := by
    obtain ⟨a1, a2, a3, _⟩ := kw_all (pos := pos) (env := env) hB
    unfold methodCallForm
    rw [a1]
    simp only [List.length_nil, Nat.zero_add, Bool.and_true, decide_eq_true_eq, Bool.and_eq_true]
    refine ⟨rfl, ?_⟩
    split <;> omega
  rw [hf, hp]
  rfl
theorem pe_methK (he : PE X o ta) (c : Cls X.K C) (hm : Meth X.K C m f) (F : FnOk X.prog X.w X.K X.mg X.base CX k f fd ps sp) (hr : Room k X.A) (hb : KBn X.K fd ps 1 ks g gV) (hx : Passes CX X E) (hkw : PK X kws tk) (hB : kwB ks kws = true) (hl : kws.length < 29) (hp : (apos.endLine == pos.line) = true) (ho : noCall o = true) :
    PE X (.Call (.Attribute o m apos) [] kws pos) (tMethN C m ks.length sp gV E ta tk) := by
  refine ⟨fun pins s σ H Q I h => ?_⟩
  refine PySem.W.methodCall_KW (thn (he.run pins s σ H _ I h) fun u s1 ⟨x, H1, I1, rx, a, dx, fs, ex, ea, l, q⟩ => ?_) (meth_htk hB o m apos pos X.env hl hp (ab_ok ho _ _))
  subst ex
  obtain rfl : u = Value.ref a := rx
  obtain ⟨a1, a2, a3, _⟩ := kw_all (pos := pos) (env := X.env) hB
  refine getmeth_ok I1 ea c hm l ?_
  refine PySem.W.callWith_KW0 (first := [.ref a]) (h₀ := X.base) I.ok.mod.kin hm.kp a1 (thn (hkw.run pos pins s1 σ H1 _ I1 q) fun ws s2 ⟨zs, H2, I2, rz, l2, q2⟩ => ⟨I2.kIn, ?_⟩) (by rw [a3]; rfl)
  rw [a2]
  exact run_fnN (us := [.ref a]) (vs := [.ref a]) F hr hb hx I2 (.cons rfl .nil) rz rfl l2 q2
end
def KwF (CXv : CXT) (X : Cx) (M : Mo) (lv : Nat) (f : FnD) (n : Nat) (ks : List Str) (pm : List Nat) (fa : Addr) : Prop := ∃ k fd ps, FnOk X.prog X.w X.K X.mg X.base CXv k fa fd ps (Spec M f) ∧ k + 2 ≤ lv ∧ KBn X.K fd ps n ks (fun us ws => us ++ permL pm ws) (fun vs zs => vs ++ permL pm zs)
structure GkF (CXv : CXT) (X : Cx) (M : Mo) (lv : Nat) (f : FnD) (ks : List Str) (pm : List Nat) : Prop where
  ex : ∃ fa, KwF CXv X M lv f 0 ks pm fa ∧ X.mg f.name = some (.ref fa) ∧ PySem.W.keepIn X.K (.ref fa) = true
structure MtkF (CXv : CXT) (X : Cx) (M : Mo) (lv : Nat) (c : Nat) (f : FnD) (ks : List Str) (pm : List Nat) : Prop where
  ex : ∃ C fa, M.cl c = some C ∧ Cls X.K C ∧ Meth X.K C f.name fa ∧ KwF CXv X M lv f 1 ks pm fa
structure MkkF (CXv : CXT) (X : Cx) (M : Mo) (lv : Nat) (c : Nat) (f : FnD) (ks : List Str) (pm : List Nat) : Prop where
  ex : ∃ C fa, M.cl c = some C ∧ Mk X.K C fa ∧ X.mg f.name = some (.ref C) ∧ KwF CXv X M lv f 1 ks pm fa
section
variable {CXv : CXT} {lv c : Nat} {f : FnD} {ks : List Str} {pm : List Nat} {o es : E} {y : Expr} {kws : List Keyword} {pp apos pos : Pos}
theorem s_appk (D : GkF CXv X G.M lv f ks pm) (hr : Room lv X.A) (hx : Passes CXv X G.E) (hg : Gl X f.name) (hd : (f.name == ("__debug__" : Str)) = false) (hB : kwB ks kws = true) (hb : PK X kws (tA G es.pure (evs es))) :
    PE X (.Call (.Name f.name pp) [] kws pos) (tE G (E.appk f ks pm es).pure (ev (.appk f ks pm es))) := by
  obtain ⟨fa, ⟨k, fd, ps, F1, hk1, hb1⟩, hm, hk⟩ := D.ex
  refine pe_imp (pe_kw F1 (hr.mono (by omega)) hg hm hk hb1 hx hb hB hd) fun σ H Q ⟨env, F, fs, g, q⟩ => ?_
  refine ⟨env, F, fs, g, q.bind (p2 := f.ms.all (· == 0)) (fun z => (Bool.and_eq_true_iff.mp z).symm) fun ars env1 F1 H1 fs1 _ g1 s1 t1 q1 vs rv => ?_⟩
  obtain ⟨ars', e, q1⟩ := ofO_inv q1
  obtain ⟨l, rv'⟩ := kwO_inv e rv
  exact ⟨rfl, l, call_of g1 rv' (fun z => z) q1⟩
theorem s_mkk (D : MkkF CXv X G.M lv c f ks pm) (hr : Room lv X.A) (hx : Passes CXv X G.E) (hg : Gl X f.name) (hd : (f.name == ("__debug__" : Str)) = false) (hB : kwB ks kws = true) (hb : PK X kws (tA G es.pure (evs es))) :
    PE X (.Call (.Name f.name pp) [] kws pos) (tE G (E.mkk c f ks pm es).pure (ev (.mkk c f ks pm es))) := by
  obtain ⟨C, fa, d1, d2, d3, k, fd, ps, F1, hk1, hb1⟩ := D.ex
  obtain ⟨a1, a2, a3, _⟩ := kw_all (pos := pos) (env := X.env) hB
  refine pe_imp (pe_makeK0 d2 F1 (hr.mono (by omega)) hg d3 hb1 hx hb a1 a2 hd (by rw [a3]; rfl)) fun σ H Q ⟨env, F, fs, g, q⟩ => ?_
  refine ⟨env, F, fs, g, q.bind (p2 := true) (fun z => ⟨z, rfl⟩) fun ars env1 F1 H1 fs1 _ g1 s1 t1 q1 vs rv => ?_⟩
  obtain ⟨ars', e, q1⟩ := ofO_inv q1
  obtain ⟨l, rv'⟩ := kwO_inv e rv
  refine ⟨rfl, l, fun x dx nx ndx ne => ?_⟩
  obtain ⟨ds, e, q1⟩ := ofO_inv q1
  obtain ⟨⟨hm, hk0⟩, q1⟩ := ite_inv q1
  exact mk_core d1 hm hk0 g1 (strong_vs e rv') q1 nx ndx ne
theorem s_mthk (D : MtkF CXv X G.M lv c f ks pm) (hr : Room lv X.A) (hx : Passes CXv X G.E) (hy : noCall y = true) (hB : kwB ks kws = true) (hl : kws.length < 29) (hp : (apos.endLine == pos.line) = true)
    (ho : PE X y (tE G o.pure (ev o))) (hb : PK X kws (tA G es.pure (evs es))) : PE X (.Call (.Attribute y f.name apos) [] kws pos) (tE G (E.mthk c f ks pm o es).pure (ev (.mthk c f ks pm o es))) := by
  obtain ⟨C, fa, d1, d2, d3, k, fd, ps, F1, hk1, hb1⟩ := D.ex
  refine pe_imp (pe_methK ho d2 d3 F1 (hr.mono (by omega)) hb1 hx hb hB hl hp hy) fun σ H Q ⟨env, F, fs, g, q⟩ => ?_
  refine ⟨env, F, fs, g, q.bind (p2 := f.ms.all (· == 0) && es.pure) (fun z => by simp only [E.pure, Bool.and_eq_true] at z ⊢; exact ⟨z.1.2, z.1.1, z.2⟩) fun x env1 F1 H1 fs1 _ g1 s1 t1 q1 v rv => ?_⟩
  obtain ⟨⟨hc, hn⟩, q1⟩ := ite_inv q1
  obtain ⟨a, C', dx, fs', rfl, h1, h2, ⟨fl, ds, hx1, hx2⟩, rv⟩ := ev_obj g1.fh hc rv
  rw [d1] at h1; cases h1
  refine ⟨a, dx, fs', rfl, h2, ?_, ?_⟩
  · rw [hx1] at hn
    refine lookup_none ?_
    rw [hx2]
    simpa [notFl] using hn
  · refine ⟨env1, F1, fs1, g1, q1.bind (p2 := f.ms.all (· == 0)) (fun z => by simp only [Bool.and_eq_true] at z; exact ⟨z.2, z.1⟩) fun ars env2 F2 H2 fs2 _ g2 s2 t2 q2 vs rw => ?_⟩
    obtain ⟨ars', e, q2⟩ := ofO_inv q2
    obtain ⟨l, rv'⟩ := kwO_inv e rw
    refine ⟨l, call_of g2 (ars := .d x.1 x.2 :: ars') ⟨.ref a, _, rfl, ?_, rv'⟩ (fun z => z) q2⟩
    rw [hc.2]; exact Rep.mono s2.ff rv
end
end
end DL

-- part DLfi
set_option Elab.async false
set_option linter.all false
set_option maxRecDepth 100000
/-! DL, part fi: isinstance, list(range(..)). -/
namespace DL
open PySem PySem.Spec PyProof.Rows L2
structure IsF (X : Cx) (M : Mo) (c : Nat) (nm : Str) : Prop where
  ex : ∃ C, M.cl c = some C ∧ IsC X.K C ∧ X.mg "isinstance" = none ∧ X.mg nm = some (.ref C)
section
variable {X : Cx} {G : Fr} {σ : L2.St} {H F : Hp} {p pa pb : Bool}
theorem s_isi {c : Nat} {nm : Str} (hK : X.K = G.M.K) (D : IsF X G.M c nm) {a : E} {x : Expr} {pp qp pos : Pos} (hg : Gl X "isinstance") (hgc : Gl X nm) (hd : (nm == ("__debug__" : Str)) = false) (hs : isStar x = false) (ha : PE X x (tE G a.pure (ev a))) :
    PE X (.Call (.Name "isinstance" pp) [x, .Name nm qp] [] pos) (tE G (E.isi c nm a).pure (ev (.isi c nm a))) := by
  obtain ⟨C, d1, d2, d3, d4⟩ := D.ex
  refine pe_imp (pe_callB call_isi hg d3 rfl (pa_cons ha (pa_cons (pe_glob hgc d4 (v := .ref C) rfl hd) pa_nil) (star_cons hs)) (by decide) (by decide) (star_cons hs) rfl) fun σ H Q ⟨env, F, fs, g, q⟩ => ?_
  refine ⟨env, F, fs, g, q.bind (p2 := true) (fun z => ⟨z, rfl⟩) fun x env1 F1 H1 fs1 _ g1 s1 t1 q1 v rv => ?_⟩
  obtain ⟨b, e, q1⟩ := ofO_inv q1
  have qb : Q (.bl b) H1 := q1.done g1 _ Rep.bl
  rcases tyD_of g1.fh d1 e rv with ⟨rfl, a, dx, fs', rfl, h2⟩ | ⟨rfl, T, hT, ty⟩
  · exact ⟨_, _, _, _, true, rfl, .own C, .base (.ins h2 d2.me.cl d2.me.ha d2.me.hn d2.me.htk d2.me.hm), d2.me.me, qb⟩
  · rw [← hK] at ty
    exact ⟨_, _, _, _, false, rfl, .own C, ty, d2.no T hT, qb⟩
theorem n_lrg {a b : E} {x y : Expr} {p1 p2 p3 p4 : Pos} (hc : X.calm = true) (hg : Gl X "list") (hm : X.mg "list" = none) (hg2 : Gl X "range") (hm2 : X.mg "range" = none) (hs : isStar x = false) (hs2 : isStar y = false) (ha : PE X x (tE G a.pure (ev a))) (hb : PE X y (tE G b.pure (ev b))) :
    PE X (.Call (.Name "list" p1) [.Call (.Name "range" p2) [x, y] [] p3] [] p4) (tN G (E.lrg a b).pure (ev (.lrg a b))) := by
  refine pe_imp (pe_listRg hc hg hm (prg_2 hg2 hm2 ha hb (star_cons hs) (star_cons hs2) (by rw [star_cons hs2]; rfl))) fun σ H Q ⟨env, F, fs, g, q⟩ => ?_
  refine ⟨env, F, fs, g, q.bind (p2 := b.pure) (fun z => Bool.and_eq_true_iff.mp z) fun x env1 F1 H1 fs1 _ g1 s1 t1 q1 v rv => ?_⟩
  obtain ⟨k, d⟩ := x
  cases d with
  | int i =>
    refine ⟨env1, F1, fs1, g1, Pst.bind (p2 := true) q1 (fun z => ⟨z, rfl⟩) fun y env2 F2 H2 fs2 _ g2 s2 t2 q2 w rw => ?_⟩
    obtain ⟨k2, d2⟩ := y
    cases d2 with
    | int j =>
      obtain ⟨hc, q2⟩ := ite_inv q2
      refine ⟨i, j, RW.int rv, RW.int rw, ⟨hc.1.1, hc.1.2, hc.2.1.1, hc.2.1.2, Nat.le_trans hc.2.2 (by decide)⟩, fun q hq => ?_⟩
      refine (q2.done g2 rfl) q _ hq ?_
      have : rangeL i (j - i).toNat = ((List.range (j - i).toNat).map fun n : Nat => (i + (n : Int))).map D.int := by simp [rangeL, Function.comp_def]
      rw [this]
      have := Fa2.ints (M := G.M) (F := F2) ((List.range (j - i).toNat).map fun n : Nat => (i + (n : Int)))
      simpa [rgV, Function.comp_def] using this
    | _ => exact q2.elim
  | _ => exact q1.elim
end
end DL

-- part DLfj
set_option Elab.async false
set_option linter.all false
set_option maxRecDepth 100000
/-! DL, part fj: stars, constants of the module, get of a written dict. -/
namespace DL
open PySem PySem.Spec PyProof.Rows L2
section
variable {X : Cx} {G : Fr} {σ : L2.St} {H F : Hp} {p : Bool}
theorem seqArs_node {M : Mo} {F H : Hp} {w : Wk} {v : V} {ars : List Ar} (hs : Same F H) (e : seqArs w = some ars) (r : RW M F H w.1 w.2 v) : ∃ ds a vs, ars = ds.map (Ar.d 0) ∧ v = .ref a ∧ (SqT M.K H a vs ∨ SqL M.K H a vs) ∧ Fa2 (Rep M F) ds vs := by
  obtain ⟨k, d⟩ := w
  cases k with
  | succ k => cases d <;> simp [seqArs] at e
  | zero =>
    cases d with
    | nd kd ds =>
      obtain ⟨a, vs, rfl, r1, f1⟩ := RW.node hs r
      cases kd <;> simp [seqArs] at e <;> subst e
      · exact ⟨ds, a, vs, rfl, rfl, .inr (SqL.of r1), f1⟩
      · exact ⟨ds, a, vs, rfl, rfl, .inl (SqT.of r1), f1⟩
    | _ => simp [seqArs] at e
theorem arR_app {M : Mo} {F H : Hp} {σ : L2.St} : ∀ {ds : List D} {vs ws : List V} {ars : List Ar}, Fa2 (Rep M F) ds vs → ArR M F H σ ars ws → ArR M F H σ (ds.map (Ar.d 0) ++ ars) (vs ++ ws)
  | [], vs, ws, ars, h, q => by rw [show vs = [] from h]; exact q
  | d :: ds, _, ws, ars, ⟨v, vs', e, a, b⟩, q => by subst e; exact ⟨v, vs' ++ ws, rfl, a, arR_app b q⟩
theorem s_astar (hK : X.K = G.M.K) {a es : E} {x : Expr} {sp : Pos} {xs : List Expr} (ha : PE X x (tE G a.pure (ev a))) (hb : PA X xs (tA G es.pure (evs es))) : PA X (.Starred x sp :: xs) (tA G (E.cons (.star a) es).pure (evs (.cons (.star a) es))) :=
  pa_imp (StX.pa_star ha hb) fun σ H Q ⟨env, F, fs, g, q⟩ => by
    have q : Pst G (a.pure && es.pure) σ F H fs ((ev a env).bind fun (x, env) => (ofO (seqArs x)).bind fun ars => (evs es env).bind fun (r, env) => .ok (ars ++ r, env)) _ := q
    refine ⟨env, F, fs, g, q.bind (p2 := es.pure) (fun z => Bool.and_eq_true_iff.mp z) fun x env1 F1 H1 fs1 _ g1 s1 t1 q1 v rv => ?_⟩
    obtain ⟨ars, e, q1⟩ := ofO_inv q1
    obtain ⟨ds, b, vs, rfl, rfl, sq, f1⟩ := seqArs_node g1.fh e rv
    rw [← hK] at sq
    refine ⟨b, vs, rfl, sq, env1, F1, fs1, g1, q1.bind (p2 := true) (fun z => ⟨z, rfl⟩) fun r env2 F2 H2 fs2 _ g2 s2 t2 q2 ws rw => ?_⟩
    exact q2.done g2 (vs ++ ws) (arR_app (f1.mono fun _ _ _ h => Rep.mono s2.ff h) rw)
theorem s_apps {CXv : CXT} {lv : Nat} {f : FnD} {fa : Addr} (hK : X.K = G.M.K) (D : FnF CXv X G.M lv f fa) (hm : X.mg f.name = some (.ref fa)) (hk : PySem.W.keepIn X.K (.ref fa) = true) (hr : Room lv X.A) (hx : Passes CXv X G.E) (hg : Gl X f.name) (hd : (f.name == ("__debug__" : Str)) = false)
    {a : E} {x : Expr} {sp pp pos : Pos} (ha : PE X x (tE G a.pure (ev a))) : PE X (.Call (.Name f.name pp) [.Starred x sp] [] pos) (tE G (E.apps f a).pure (ev (.apps f a))) := by
  obtain ⟨k, fd, ps, F1, hk1, hb1⟩ := D
  refine pe_imp (StX.pe_callS1 (F1.raw hb1 .nil) (hr.mono (by omega)) hk hg hm hx ha hd) fun σ H Q ⟨env, F, fs, g, q⟩ => ?_
  have q : Pst G (f.ms.all (· == 0) && a.pure) σ F H fs ((ev a env).bind fun (x, env) => (ofO (seqArs x)).bind fun ars => (callD f ars env).bind fun (d, env) => .ok ((0, d), env)) _ := q
  refine ⟨env, F, fs, g, q.bind (p2 := f.ms.all (· == 0)) (fun z => (Bool.and_eq_true_iff.mp z).symm) fun x env1 F1 H1 fs1 _ g1 s1 t1 q1 v rv => ?_⟩
  obtain ⟨ars, e, q1⟩ := ofO_inv q1
  obtain ⟨ds, b, vs, rfl, rfl, sq, f1⟩ := seqArs_node g1.fh e rv
  rw [← hK] at sq
  refine ⟨b, vs, rfl, sq, ?_⟩
  show Spec G.M f (vs ++ []) H1 Q G.E
  have aa := arR_app (ars := []) (ws := []) (H := H1) (σ := σ) f1 rfl
  rw [List.append_nil, List.append_nil] at aa
  rw [List.append_nil]
  exact call_of g1 aa (fun z => z) q1
/-- a name of the module that holds a number or a text -/
structure GcF (X : Cx) (nm : Str) (d : D) : Prop where
  ex : ∃ u v, X.mg nm = some u ∧ RelV v u ∧ ∀ M F, Rep M F d v
theorem s_glc {nm : Str} {d : D} {pos : Pos} (D : GcF X nm d) (hg : Gl X nm) (hd : (nm == ("__debug__" : Str)) = false) : PE X (.Name nm pos) (tE G (E.glc nm d).pure (ev (.glc nm d))) := by
  obtain ⟨u, v, h1, h2, h3⟩ := D.ex
  exact pe_imp (pe_glob hg h1 h2 hd) fun σ H Q ⟨env, F, fs, g, q⟩ => q.done g v (h3 _ _)
/-- a written dict of the module, from texts to numbers -/
structure DgF (X : Cx) (nm : Str) (kvs : List (Str × Int)) : Prop where
  ex : ∃ a es n, X.mg nm = some (.ref a) ∧ KDict X.K X.w a es n ∧ ∀ z : Str, ∃ r : Option Value, PySem.W.nsIn X.K a z = some r ∧ match kvs.lookup z with
    | some i => ∃ u, r = some u ∧ RelV (.int i) u
    | none => r = none
theorem s_dget {nm : Str} {kvs : List (Str × Int)} (D : DgF X nm kvs) {a : E} {x : Expr} {np ap cp : Pos} (hg : Gl X nm) (hd : (nm == ("__debug__" : Str)) = false) (hs : isStar x = false) (hl : (ap.endLine == cp.line) = true) (ha : PE X x (tE G a.pure (ev a))) :
    PE X (.Call (.Attribute (.Name nm np) "get" ap) [x] [] cp) (tE G (E.dget nm kvs a).pure (ev (.dget nm kvs a))) := by
  obtain ⟨d, es, n, h1, D1, h2⟩ := D.ex
  refine ⟨fun pins s σ H Q I h => ?_⟩
  have hb : attributeBase (.Name nm np) "get" X.env (eval (.Name nm np) X.env) = eval (.Name nm np) X.env := ab_ok rfl _ _
  have ht : backTo cp (starEach [x] X.env) = [(false, eval x X.env)] := by rw [star_cons hs]; rfl
  refine wpAny_Call_method hb (by rw [ht]; rfl) hl PySem.F.plainAttrs_dict PySem.F.slot_dict_get PySem.F.type_dict_get (thn ((pe_glob (v := .ref d) hg h1 rfl hd).run pins s σ H (fun v H1 => v = .ref d ∧ tE G a.pure (ev a) σ H1 fun w H2 => ∃ (z : Str) (y : V), w = .str z ∧ (match kvs.lookup z with | some i => y = .int i | none => y = .non) ∧ Q y H2) I ⟨rfl, ?_⟩) fun u s1 ⟨x1, H1, I1, rx, q1⟩ => ?_)
  · obtain ⟨env, F, fs, g, q⟩ := h
    have q : Pst G a.pure σ F H fs ((ev a env).bind fun (x, env) => (ofO (dgetD kvs x.2)).bind fun d => .ok ((0, d), env)) _ := q
    refine ⟨env, F, fs, g, q.bind (p2 := true) (fun z => ⟨z, rfl⟩) fun x env1 F1 H1 fs1 _ g1 s1 t1 q1 v rv => ?_⟩
    obtain ⟨d', e, q1⟩ := ofO_inv q1
    obtain ⟨k, dd⟩ := x
    cases dd with
    | str z =>
      cases hz : kvs.lookup z with
      | some i =>
        simp only [dgetD, hz] at e
        cases e
        exact ⟨z, _, RW.str rv, by rw [hz], q1.done g1 _ Rep.int⟩
      | none =>
        simp only [dgetD, hz] at e
        cases e
        exact ⟨z, _, RW.str rv, by rw [hz], q1.done g1 _ (by simp [RW, Rep])⟩
    | _ => simp [dgetD] at e
  · obtain ⟨rfl, q1⟩ := q1
    cases (show u = Value.ref d from rx)
    have hm := PySem.W.mapOf_K (prog := X.prog) (w := X.w) I1.kIn D1.at_ D1.lit
    refine ⟨hm.typeIs, fun b e => ?_, ?_⟩
    · cases e
      exact ⟨_, I1.kIn _ _ D1.at_, rfl⟩
    · rw [ht]
      refine Calls.callWith_builtin rfl (Calls.evalArgs_plain (Calls.spliced_cons (thn (ha.run pins s1 σ H1 _ I1 q1) fun iv s2 ⟨y, H2, I2, ry, z, y', ez, hz, q2⟩ => Calls.spliced_nil ?_)))
      subst ez
      obtain ⟨t, rfl⟩ := (show ∃ t, iv = Value.str z t from ry)
      have hm2 := PySem.W.mapOf_K (prog := X.prog) (w := X.w) I2.kIn D1.at_ D1.lit
      obtain ⟨r, hr, hk⟩ := h2 z
      refine call_meetsIn PySem.F.slot_dict_get hm2.typeIs PySem.F.entry_dict_get (PySem.F.args_dict_get_2 _ _) (meets_dict_get (strKind X.prog X.w) d (PySem.strKind_is X.prog X.w z t) D1.low) ⟨_, hm2, ?_⟩
      rw [PySem.W.find_K D1.at_ hr]
      refine ⟨y', H2, I2.tok _, ?_, q2⟩
      cases hl : kvs.lookup z with
      | some i =>
        rw [hl] at hk hz
        obtain ⟨u, rfl, ru⟩ := hk
        rw [hz]; exact ru
      | none =>
        rw [hl] at hk hz
        rw [hk, hz]; rfl
end
end DL

-- part DLse
set_option Elab.async false
set_option linter.all false
/-! a set comprehension of numbers -/
namespace DL
open PySem L2
/-- {e for ..}, of numbers -/
def tSci (w : World) (wi : TI) (g : TG) (tt : TT) (te : TE) (vs : List Nat) : TE := fun σ H Q => wi σ H fun J H1 => ∀ D, H1 D = none → ∃ W : Nat → Nat → Hp → Prop, (∃ m, W 0 m (upd H1 D (SetO w D (fun _ => false) 0))) ∧ ∀ i m H, W i m H → (J.stop i H ∧ Q (.ref D) H) ∨ (J.go i H ∧ ∃ Nx : Hp → Prop, (∀ H', Nx H' → ∃ m', m' < m ∧ W (i + 1) m' H') ∧
  ∀ x H', J.yld i H x H' → g x (wipe σ vs) H' fun σ2 H2 => wipe σ2 vs = wipe σ vs ∧ tt σ2 H2 fun b H3 => if b = true then te σ2 H3 fun y H4 => ∃ (k : Int) (S : Int → Bool) (n : Nat), y = .int k ∧ H4 D = some (SetO w D S n) ∧ n + 1 < scanBound ∧ Nx (upd H4 D (SetO w D (fun j => S j || decide (j = k)) (if S k = true then n else n + 1))) else Nx H3)
theorem addI {X : Cx} {pins : List (Addr × Obj)} {σ : St} {H : Hp} {s : Shared} {E : Value → Shared → Prop} {D : Addr} {S : Int → Bool} {n : Nat} {y : Int} {tk : Tok} {Q : Value → Shared → Prop} (I : L2.Inv X pins σ H s) (hD : H D = some (SetO X.w D S n)) (room : n + 1 < scanBound)
    (h : ∀ s', L2.Inv X pins σ (upd H D (SetO X.w D (fun j => S j || decide (j = y)) (if S y = true then n else n + 1))) s' → Q .none s') : wpAny (model X.prog X.w) X.A (call (.builtin "set.add") [.ref D, .int y tk]) Q E s := by
  refine setR_add (setO_get I hD) room fun h' sb new => ?_
  have he : ∃ o, h'.get? D = some o := by
    obtain ⟨o, _, _, _, ho, _⟩ := new
    exact ⟨o, ho⟩
  exact h _ (Inv.write I (by rw [hD]; trivial) (.inl rfl) (fun b u hb hu => (sb.right b hb).trans hu) he (setO_new new))
theorem pe_sci {X : Cx} {elt tg iter : Expr} {ifs : List Expr} {scope : Scope} {own : List (Str × Nat)} {pos : Pos} {wi : TI} {g : TG} {tt : TT} {te : TE} (hc : X.calm = true) (hN : X.N.Nodup) (hi : PI X tg iter wi) (ok : BlkOk X.N X.env.scope scope own)
    (hg : ∀ (s : Shared) (H : Hp) (C : Addr) (cl : List (Str × Addr)) (fp : List Addr), PG (X.blk s H scope (compEnvC scope cl C X.env) fp) tg g)
    (ht : ∀ (s : Shared) (H : Hp) (C : Addr) (cl : List (Str × Addr)) (fp : List Addr), PTs (X.blk s H scope (compEnvC scope cl C X.env) fp) ifs tt)
    (he : ∀ (s : Shared) (H : Hp) (C : Addr) (cl : List (Str × Addr)) (fp : List Addr), PE (X.blk s H scope (compEnvC scope cl C X.env) fp) elt te)
    (hs : ∀ x, foldedSetIterable iter X.env x = pure x) : PE X (.SetComp elt [⟨tg, iter, ifs, 0⟩] scope pos) (tSci X.w wi g tt te (own.map (·.2))) := by
  refine ⟨fun pins s σ H Q I h => ?_⟩
  rw [PpSet.eval_SetComp]
  have hfree : ∀ y : Str × NameKind, y ∈ scope.names → y.2 = .free → ∃ c, X.env.cells.lookup y.1 = some c := fun y hy e => by
    rcases ok.free y hy e with k | k
    · exact I.ok.has y.1 (.inl k)
    · exact I.ok.has y.1 (.inr k)
  refine wpAny_comprehension_free rfl hs (closure_ok hfree) ok.kind (fun y hy e => by rw [ok.uniq y hy, e]) ?_
  refine thn (hi.run pins s σ H _ I h) fun xv s1 hx => ?_
  refine thn hx fun itv s2 h2 => ?_
  obtain ⟨it, fp, tn, J, H2, rfl, I2, T, st2, f2, q⟩ := h2
  refine PpSet.newSet_ok (newEnv_comp ?_)
  have hDn : H2 s2.heap.objs.size = none := HOk.fresh I2.hok (Nat.le_refl _)
  obtain ⟨W, ⟨m0, w0⟩, turn⟩ := q _ hDn
  generalize hD : s2.heap.objs.size = D at *
  have I3 := Inv.laid (t' := s2.toks) I2 (fun b u e => Heap.get?_push_of_some { cls := .type "set", data := .set #[] 0 (SetTable.fresh 0 0 !X.w.params.followText "set-order") } e) (Nat.le_of_eq hD) (by rw [← hD]; exact setO_new (setR_fresh X.w))
  generalize h3e : ({ heap := s2.heap.push { cls := .type "set", data := .set #[] 0 (SetTable.fresh 0 0 !X.w.params.followText "set-order") }, gens := s2.gens, drawn := s2.drawn, toks := s2.toks, os := s2.os } : Shared) = s3 at *
  rw [hD] at I3
  have h3 : s3.heap = s2.heap.push { cls := .type "set", data := .set #[] 0 (SetTable.fresh 0 0 !X.w.params.followText "set-order") } := by rw [← h3e]
  clear h3e
  generalize hH3 : upd H2 D (SetO X.w D (fun _ => false) 0) = H3 at *
  have sz : ∀ b ∈ fp, b < D := fun b hb => by
    obtain ⟨o, e, _⟩ := T.obj 0 s2.heap st2 b hb
    rw [← hD]
    exact Heap.lt_size e
  have f3 : ∀ b ∈ fp, FpOk X pins H3 b ∧ b < s3.heap.objs.size := fun b hb => by
    refine ⟨⟨?_, (f2 b hb).2⟩, ?_⟩
    · rw [← hH3, upd_ne (Nat.ne_of_lt (sz b hb))]
      exact (f2 b hb).1
    · rw [h3, Heap.size_push]
      have := sz b hb
      rw [hD]
      exact Nat.lt_succ_of_lt this
  have st3 : tn 0 s3.heap := T.keep 0 s2.heap s3.heap st2 fun b x o e => by rw [h3]; exact Heap.get?_push_of_some _ e
  have I4 := block_start I3 ok hN f3
  have pg := hg s3 H3 s3.heap.objs.size (cellsFrom (s3.heap.objs.size + 1) scope.names (cloFrom X.env.cells scope.names [])) fp
  have pt := ht s3 H3 s3.heap.objs.size (cellsFrom (s3.heap.objs.size + 1) scope.names (cloFrom X.env.cells scope.names [])) fp
  have pe := he s3 H3 s3.heap.objs.size (cellsFrom (s3.heap.objs.size + 1) scope.names (cloFrom X.env.cells scope.names [])) fp
  have nfp : ∀ b ∈ fp, H3 b = none := fun b hb => (f3 b hb).1.1
  have cL : (compEnvC scope (cellsFrom (s3.heap.objs.size + 1) scope.names (cloFrom X.env.cells scope.names [])) s3.heap.objs.size X.env).locals = s3.heap.objs.size := rfl
  have st4 := T.keep 0 s3.heap ({ heap := pushCells (s3.heap.push { cls := .type "dict", data := .dict #[] }) scope.names, gens := s3.gens, drawn := s3.drawn, toks := s3.toks, os := s3.os } : Shared).heap st3 fun b x o e => pushCells_keeps scope.names _ b o (Heap.get?_push_of_some _ e)
  show codeAny _ _ (Code.compStart _ 0 _ _ (compEnvC scope (cellsFrom (s3.heap.objs.size + 1) scope.names (cloFrom X.env.cells scope.names [])) s3.heap.objs.size X.env)) _ _
  generalize compEnvC scope (cellsFrom (s3.heap.objs.size + 1) scope.names (cloFrom X.env.cells scope.names [])) s3.heap.objs.size X.env = ce at *
  generalize ({ heap := pushCells (s3.heap.push { cls := .type "dict", data := .dict #[] }) scope.names, gens := s3.gens, drawn := s3.drawn, toks := s3.toks, os := s3.os } : Shared) = s4 at *
  have stat : ∀ {σ' : St} {H' : Hp} {s' : Shared}, L2.Inv (X.blk s3 H3 scope ce fp) [] σ' H' s' → (∀ b ∈ fp, H' b = none) → ∀ b ∈ fp, FpOk (X.blk s3 H3 scope ce fp) [] H' b := fun {σ' H' s'} I' hn b hb =>
    ⟨hn b hb, (I'.ok.exf b hb).1, I'.ok.exfs b hb, .inl hb, fun x c e => (I'.ok.exf b hb).2 x c e, fun p hp => by
      have hp : p ∈ ([] ++ [] : List (Addr × Obj)) := hp
      simp at hp⟩
  have loop : codeAny (model X.prog X.w) X.A (Code.compLoop (elt.SetComp [⟨tg, iter, ifs, 0⟩] scope pos) 0 (.ref it) (.ref D) ce) (compPost (model X.prog X.w) X.A X.xe none (EP X pins σ Q) (.ref D) s3.heap.objs.size) s4 := by
    refine PpSet.compLoopS_any (fun n s' => ∃ i H', L2.Inv (X.blk s3 H3 scope ce fp) [] (wipe σ (own.map (·.2))) H' s' ∧ tn i s'.heap ∧ (∀ b ∈ fp, H' b = none) ∧ W i n H') ?_ m0 ⟨0, H3, I4, st4, nfp, w0⟩
    rintro n s5 ⟨i, H5, I5, st5, n5, w5⟩
    rcases turn i n H5 w5 with ⟨stop, qq⟩ | ⟨go, Nx, hNx, step⟩
    · have td := T.done (X.blk s3 H3 scope ce fp) rfl rfl rfl hc i [] s5 _ H5 (fun _ _ => False) I5 (stat I5 n5) st5 stop
      refine thnF td fun r s6 h6 => ?_
      obtain ⟨rfl, I6⟩ := h6
      have I7 := Inv.call' I3 I6.os I6.base I6.hok I6.bare fun b hb => ⟨(f3 b hb).1.2.2.2.1, (f3 b hb).1.2.1, (f3 b hb).1.2.2.2.2.1, (f3 b hb).1.2.2.2.2.2⟩
      have nC : H5 s3.heap.objs.size = none := by
        have z : H5 ce.locals = none := I6.free
        rwa [cL] at z
      obtain ⟨m, hn, _⟩ := I6.loc
      have hn : s6.heap.Ns ce.locals m := hn
      rw [cL] at hn
      obtain ⟨g0, g1, g2, g3, g4, g5⟩ := Inv.fpOk I3 (Nat.le_refl s3.heap.objs.size) nC
      exact ⟨m, hn, fun h'' sb => ⟨.ref D, H5, Inv.turned I7 (fun b o hb e => (sb.right b hb).trans e) g0 g1 g3 g4 g5, rfl, qq⟩⟩
    · have ti := T.item (X.blk s3 H3 scope ce fp) rfl rfl rfl hc i [] s5 _ H5 (fun _ _ => False) I5 (stat I5 n5) st5 go
      refine thnF ti fun r s6 h6 => ?_
      obtain ⟨u, rfl, h6⟩ := h6
      refine thnF h6 fun _ s7 h7 => ?_
      obtain ⟨x, H7, I7, r7, y7, st7, n7⟩ := h7
      have I7' := Inv.pinned I7 (stat I7 n7) (T.obj (i + 1) s7.heap st7)
      refine thnF (pg.run _ s7 _ H7 x u _ I7' r7 (step x H7 y7)) fun _ s8 h8 => ?_
      obtain ⟨σ8, H8, I8, hw8, q8⟩ := h8
      refine thnF (pt.run _ s8 σ8 H8 _ I8 q8) fun b s9 h9 => ?_
      obtain ⟨H9, I9, q9⟩ := h9
      have fin : ∀ {s' : Shared} {H' : Hp}, L2.Inv (X.blk s3 H3 scope ce fp) ([] ++ pinsAt fp s7.heap) σ8 H' s' → Nx H' → ∃ m, m < n ∧ ∃ i H', L2.Inv (X.blk s3 H3 scope ce fp) [] (wipe σ (own.map (·.2))) H' s' ∧ tn i s'.heap ∧ (∀ b ∈ fp, H' b = none) ∧ W i m H' := fun {s' H'} I' nx => by
        obtain ⟨m', hm, w'⟩ := hNx H' nx
        have pin' : ∀ b ∈ fp, ∀ o, s7.heap.get? b = some o → s'.heap.get? b = some o ∧ H' b = none := fun b hb o e =>
          let z := I'.pin (b, o) (List.mem_append_right _ (List.mem_append_right _ (mem_pinsAt hb e)))
          ⟨z.1, z.2.1⟩
        have hl : (wipe σ (own.map (·.2))).length = σ8.length := by rw [← hw8, wipe_length]
        refine ⟨m', hm, i + 1, H', Inv.weak (Inv.unpinned I') hl (fun j v e => (wipe_some (vs := own.map (·.2)) (by rw [hw8]; exact e)).1), T.keep (i + 1) s7.heap s'.heap st7 (fun b hb o e => (pin' b hb o e).1), fun b hb => ?_, w'⟩
        obtain ⟨o, e, _⟩ := T.obj (i + 1) s7.heap st7 b hb
        exact (pin' b hb o e).2
      cases b with
      | false =>
        simp only [Bool.false_eq_true, if_false] at q9 ⊢
        exact fin I9 q9
      | true =>
        simp only [if_true] at q9 ⊢
        refine thnF (pe.run _ s9 σ8 H9 _ I9 q9) fun z s10 h10 => ?_
        obtain ⟨yv, H10, I10, r10, k, S0, n0, rfl, hD10, hz10, nx⟩ := h10
        obtain ⟨tk, rfl⟩ := r10
        exact addI (X := X.blk s3 H3 scope ce fp) I10 hD10 hz10 fun s11 I11 => fin I11 nx
  exact PpSet.codeAny_compStart_set loop (T.self X.A 0 s4 _ _ st4 loop)
end DL

-- part DLsf
set_option Elab.async false
set_option linter.all false
set_option maxRecDepth 100000
/-! sorted({e for ..}) of numbers -/
namespace DL
open PySem PySem.Spec PyProof.Rows L2
theorem mem_dd {x : Int} : ∀ {l : List Int}, x ∈ dd l ↔ x ∈ l
  | [] => by simp [dd]
  | y :: l => by
    unfold dd
    split
    · rename_i h
      rw [mem_dd (l := l), List.mem_cons]
      constructor
      · exact Or.inr
      · rintro (rfl | h2)
        · exact h
        · exact h2
    · rw [List.mem_cons, List.mem_cons, mem_dd (l := l)]
theorem dd_nodup : ∀ {l : List Int}, (dd l).Nodup
  | [] => by simp [dd]
  | y :: l => by
    unfold dd
    split
    · exact dd_nodup
    · rename_i h
      exact List.nodup_cons.mpr ⟨fun z => h (mem_dd.mp z), dd_nodup⟩
theorem lt_perm {ns l : List Int} (s : ns.Pairwise (· < ·)) (m : ∀ k, k ∈ ns ↔ k ∈ l) : ns = sortI (dd l) := by
  have n1 : ns.Nodup := s.imp fun {a b} h => by omega
  have p : ns.Perm (dd l) := (List.perm_ext_iff_of_nodup n1 dd_nodup).mpr fun k => by rw [m, mem_dd]
  exact sortI_uniq p (s.imp fun {a b} h => by omega)
theorem ints_app {a b : List D} {is : List Int} (h : intsOf (a ++ b) = some is) : ∃ i1 i2, intsOf a = some i1 ∧ intsOf b = some i2 ∧ is = i1 ++ i2 := by
  induction a generalizing is with
  | nil => exact ⟨[], is, rfl, h, rfl⟩
  | cons x a ih =>
    cases x with
    | int k =>
      have h : (intsOf (a ++ b)).map (k :: ·) = some is := h
      cases e : intsOf (a ++ b) with
      | none => rw [e] at h; cases h
      | some js =>
        rw [e] at h
        cases h
        obtain ⟨i1, i2, e1, e2, rfl⟩ := ih e
        exact ⟨k :: i1, i2, by show (intsOf a).map (k :: ·) = _; rw [e1]; rfl, e2, rfl⟩
    | _ => cases h
section
variable {X : Cx} {G : Fr}
theorem sci_imp {K : PySem.W.Frag} {w : World} {tg : List Nat} {it t e : E} (σ : L2.St) (H : Hp) (Q : VK) (h : tN G (E.ssc tg it t e).pure (ev (.ssc tg it t e)) σ H Q) :
    tSci w (tI G it.pure (evi it)) (gTg K tg) (tT { G with E := E0 } t.pure (tstOf t (ev t))) (tE { G with E := E0 } e.pure (ev e)) tg σ H (fun x H' => rSortedSet w [x] H' Q) := by
  obtain ⟨env, F, fs, g, q⟩ := h
  refine ⟨env, F, fs, g, q.bind (p2 := t.pure && e.pure) (fun z => by simpa [E.pure, Bool.and_assoc] using z) fun xs env1 F1 H1 fs1 _ g1 s1 t1 q1 J hJ D hD => ?_⟩
  obtain ⟨⟨hf, hx⟩, q1⟩ := ite_inv q1
  cases ec : compL tg (tstOf t (ev t)) (eltOf (ev e)) xs (blank env1 tg) with
  | stuck => rw [ec] at q1; exact q1.elim
  | exn c d => rw [ec] at q1; exact q1.elim
  | ok ro =>
    obtain ⟨ds, env'⟩ := ro
    rw [ec] at q1
    cases ei : intsOf ds with
    | none => simp only [ei] at q1; exact q1.elim
    | some is =>
    simp only [ei] at q1
    have F1D : F1 D = none := by
      cases q : F1 D with
      | none => rfl
      | some u => rw [g1.fh D u q] at hD; cases hD
    refine ⟨fun i m H => m = xs.length - i ∧ i ≤ xs.length ∧ ∃ env F fs S n done js rest, GS G.M F H G.io env (wipe σ tg) fs ∧ Apart fs [D] ∧ F D = none ∧ H D = some (SetO w D S n) ∧ (∀ k, S k = true ↔ k ∈ js) ∧ intsOf done = some js ∧ n ≤ i ∧
      Step F1 H1 fs1.at F H (atW fs [D]) ∧ (∀ j ∈ tg, fs j = []) ∧ ((t.pure && e.pure) = true → Same H1 H) ∧ compL tg (tstOf t (ev t)) (eltOf (ev e)) (xs.drop i) env = .ok (rest, env') ∧ ds = done ++ rest, ⟨xs.length, by simp, Nat.zero_le _, blank env1 tg, F1, fs1, fun _ => false, 0, [], [], ds, ?_⟩, ?_⟩
    · obtain ⟨g2, s2, ap, _⟩ := (g1.blank hf).newO (o := SetO w D (fun _ => false) 0) hD
      exact ⟨g2, ap, F1D, upd_same, by simp, rfl, Nat.le_refl _, s2, fun j hj => g1.bare hf hj, fun _ => new_same hD, by simpa using ec, rfl⟩
    · rintro i m H ⟨rfl, hil, env, F, fs, S, n, done, js, rest, g2, ap, hFD, hHD, hS, hjs, hacc, st, hb, hp, hl, hds⟩
      have sF : Same F1 F := st.ff
      by_cases hlt : i < xs.length
      · -- a turn
        obtain ⟨x, hx1⟩ : ∃ x, xs[i]? = some x := ⟨xs[i], List.getElem?_eq_getElem hlt⟩
        have hdr : xs.drop i = x :: xs.drop (i + 1) := by
          rw [List.drop_eq_getElem_cons hlt]
          rw [List.getElem?_eq_getElem hlt] at hx1
          rw [Option.some.inj hx1]
        rw [hdr] at hl
        obtain ⟨go, yl⟩ := (hJ i F H sF g2.fh).1 x hx1
        refine .inr ⟨go, fun H' => ∃ env F fs S n done js rest, GS G.M F H' G.io env (wipe σ tg) fs ∧ Apart fs [D] ∧ F D = none ∧ H' D = some (SetO w D S n) ∧ (∀ k, S k = true ↔ k ∈ js) ∧ intsOf done = some js ∧ n ≤ i + 1 ∧
          Step F1 H1 fs1.at F H' (atW fs [D]) ∧ (∀ j ∈ tg, fs j = []) ∧ ((t.pure && e.pure) = true → Same H1 H') ∧ compL tg (tstOf t (ev t)) (eltOf (ev e)) (xs.drop (i + 1)) env = .ok (rest, env') ∧ ds = done ++ rest,
          fun H' hN => ⟨xs.length - (i + 1), by omega, rfl, hlt, hN⟩, fun xv H' hy => ?_⟩
        obtain ⟨F2, a1, a2, a3, a4, a5⟩ := yl xv H' hy
        obtain ⟨g3, s3⟩ := g2.more a1 a2 a3 a4
        cases e1 : setIs env tg x with
        | stuck => simp [compL, e1] at hl
        | exn c d => simp [compL, e1] at hl
        | ok env2 =>
          obtain ⟨is', vs, fs2, g4, l4, hi4, k4⟩ := setIs_ok (K := K) g3 a5 e1
          refine k4 _ ?_
          have hw : wipe (setV (wipe σ tg) is' vs) tg = wipe σ tg := by rw [wipe_setV hi4, wipe_wipe]
          refine ⟨hw.trans wipe_wipe.symm |>.trans wipe_wipe, ?_⟩
          have s4 : Step F H fs.at F2 H' fs2.at := s3.less l4
          cases e2 : tstOf t (ev t) env2 with
          | stuck => simp [compL, e1, e2] at hl
          | exn c d => simp [compL, e1, e2] at hl
          | ok rb =>
            obtain ⟨b, env3⟩ := rb
            refine ⟨env2, F2, fs2, g4, ?_⟩
            rw [e2]
            intro F3 H3 fs3 g5 s5 t5
            have s5' : Step F H fs.at F3 H3 fs3.at := s4.trans s5
            obtain ⟨ap3, hF3, hH3⟩ := apart_step s5' ap hFD hHD
            cases b with
            | false =>
              simp only [compL, e1, e2, Res.bind_ok, Bool.false_eq_true, if_false] at hl
              by_cases hfr : freeSl env3 tg = true
              · rw [if_pos hfr] at hl
                simp only [Bool.false_eq_true, if_false]
                have g6 := g5.blank hfr
                rw [hw] at g6
                refine ⟨blank env3 tg, F3, fs3, S, n, done, js, rest, g6, ap3, hF3, hH3, hS, hjs, by omega, st.trans (step_with s5'), fun j hj => g5.bare hfr hj, fun z => ?_, hl, hds⟩
                have z := Bool.and_eq_true_iff.mp z
                exact (hp (by simp [z.1, z.2])).trans (a2.trans (t5 z.1))
              · rw [if_neg hfr] at hl; cases hl
            | true =>
              simp only [compL, e1, e2, Res.bind_ok, if_true] at hl
              simp only [if_true]
              cases e3 : eltOf (ev e) env3 with
              | stuck => simp [e3] at hl
              | exn c d => simp [e3] at hl
              | ok rd =>
                obtain ⟨d, env4⟩ := rd
                simp only [e3, Res.bind_ok] at hl
                by_cases hfr : freeSl env4 tg = true
                · rw [if_pos hfr] at hl
                  refine ⟨env3, F3, fs3, g5, ?_⟩
                  have e4 : ev e env3 = .ok ((0, d), env4) := by
                    unfold eltOf at e3
                    cases e5 : ev e env3 with
                    | stuck => rw [e5] at e3; cases e3
                    | exn c d => rw [e5] at e3; cases e3
                    | ok ro =>
                      obtain ⟨⟨k, z⟩, env5⟩ := ro
                      rw [e5] at e3
                      cases k with
                      | succ k => cases e3
                      | zero => cases e3; rfl
                  rw [e4]
                  intro F4 H4 fs4 g6 s6 t6 y ry
                  have s6' := s5'.trans s6
                  obtain ⟨ap4, hF4, hH4⟩ := apart_step s6' ap hFD hHD
                  cases e6 : compL tg (tstOf t (ev t)) (eltOf (ev e)) (xs.drop (i + 1)) (blank env4 tg) with
                  | stuck => simp [e6] at hl
                  | exn c d => simp [e6] at hl
                  | ok rr =>
                    obtain ⟨rest', env5⟩ := rr
                    simp only [e6, Res.bind_ok] at hl
                    cases hl
                    have hei := ei
                    rw [hds, show done ++ d :: rest' = (done ++ [d]) ++ rest' by simp] at hei
                    obtain ⟨i1, i2, f1, _, _⟩ := ints_app hei
                    obtain ⟨i3, i4, f3, f4, rfl⟩ := ints_app f1
                    rw [hjs] at f3
                    cases f3
                    obtain ⟨k, rfl, rfl⟩ : ∃ k, d = .int k ∧ i4 = [k] := by
                      cases d with
                      | int k => exact ⟨k, rfl, by cases f4; rfl⟩
                      | _ => cases f4
                    have hy : y = .int k := by
                      have ry : Rep G.M F4 (.int k) y := ry
                      simpa [Rep] using ry
                    have g7 := g6.blank hfr
                    rw [hw] at g7
                    have hne : ∀ i b, b ∈ fs4 i → b ≠ D := fun i b hb z => ap4 i b hb (by simp [z])
                    refine ⟨k, S, n, hy, hH4, by show n + 1 < 4096; omega, blank env4 tg, F4, fs4, _, _, done ++ [.int k], js ++ [k], rest', g7.keep (Same.refl F4) (fun i b hb => by rw [upd_ne (hne i b hb)]) (fun b o q => ?_) g7.fn, ap4, hF4, upd_same, fun k' => ?_, f1, ?_,
                      (st.trans (step_with s6')).trans step_put, fun j hj => g6.bare hfr hj, fun z => ?_, e6, by rw [hds]; simp⟩
                    · by_cases z : b = D
                      · subst z; rw [hF4] at q; cases q
                      · rw [upd_ne z]; exact g6.fh b o q
                    · simp only [Bool.or_eq_true, decide_eq_true_eq, List.mem_append, List.mem_singleton, hS]
                    · split <;> omega
                    · have z := Bool.and_eq_true_iff.mp z
                      have sm := ((hp (by simp [z.1, z.2])).trans (a2.trans (t5 z.1))).trans (t6 z.2)
                      intro b o q
                      have : b ≠ D := fun w => by rw [w, hD] at q; cases q
                      rw [upd_ne this]; exact sm b o q
                · rw [if_neg hfr] at hl; cases hl
      · -- the end
        have hi2 : i = xs.length := by omega
        refine .inl ⟨(hJ i F H sF g2.fh).2 (by omega), ?_⟩
        rw [hi2, List.drop_length] at hl
        cases hl
        rw [List.append_nil] at hds
        subst hds
        rw [hjs] at ei
        cases ei
        refine ⟨D, S, n, rfl, hHD, by omega, fun ns p s m _ hp2 => ?_⟩
        have e := lt_perm (l := is) s fun k => by rw [m, hS]
        have g4 := g1.back hf g2 (by rw [← g2.len, wipe_length, g1.len]) hb sF
        have st2 : Step F1 H1 fs1.at F H fs.at := ⟨st.ff, st.fr, st.nw, fun b h => st.own b (.inl h)⟩
        have q2 := q1 F H fs g4 st2 (fun z => hp z) rfl
        rw [e]
        exact q2 p _ hp2 (Fa2.ints _)
theorem n_ssc {tg : List Nat} {it t e : E} {tgt iter elt : Expr} {ifs : List Expr} {scope : Scope} {pos pos2 pp : Pos} {own : List (Str × Nat)} (hc : X.calm = true) (hN : X.N.Nodup) (hgl : Gl X "sorted") (hm : X.mg "sorted" = none) (hi : PI X tgt iter (tI G it.pure (evi it))) (ok : BlkOk X.N X.env.scope scope own) (hown : own.map (·.2) = tg)
    (hg : ∀ (s : Shared) (H : Hp) (C : Addr) (cl : List (Str × Addr)) (fp : List Addr), PG (X.blk s H scope (compEnvC scope cl C X.env) fp) tgt (gTg X.K tg))
    (ht : ∀ (s : Shared) (H : Hp) (C : Addr) (cl : List (Str × Addr)) (fp : List Addr), PTs (X.blk s H scope (compEnvC scope cl C X.env) fp) ifs (tT { G with E := E0 } t.pure (tstOf t (ev t))))
    (he : ∀ (s : Shared) (H : Hp) (C : Addr) (cl : List (Str × Addr)) (fp : List Addr), PE (X.blk s H scope (compEnvC scope cl C X.env) fp) elt (tE { G with E := E0 } e.pure (ev e))) (hs : ∀ x, foldedSetIterable iter X.env x = pure x) :
    PE X (.Call (.Name "sorted" pp) [.SetComp elt [⟨tgt, iter, ifs, 0⟩] scope pos] [] pos2) (tN G (E.ssc tg it t e).pure (ev (.ssc tg it t e))) := by
  refine pe_imp (pe_callB (cr_sortedSet hc) hgl hm rfl (pa_cons (pe_sci hc hN hi ok hg ht he hs) pa_nil (star_cons rfl)) (by decide) (by decide) (star_cons rfl) rfl) fun σ H Q h => ?_
  rw [hown]
  exact sci_imp (K := X.K) (w := X.w) σ H Q h
end
end DL

-- part DLsh
set_option Elab.async false
set_option linter.all false
set_option maxRecDepth 100000
/-! sorted(a set of numbers), however many -/
namespace DL
open PySem PySem.Spec PyProof.Rows L2
section
variable {P : Program} {w : World} {A : Around} {E : Value → Shared → Prop} {s : Shared}
theorem sorted_setB {a : Addr} {S : Int → Bool} {n : Nat} {Q : Value → Shared → Prop} (R : SetR w s.heap a S n) (hh : A.handled = none) (hn : n ≤ sizeLine)
    (hQ : ∀ s' p (out : List Value) (c : Nat) (ns : List Int), (∀ b o, s.heap.get? b = some o → s'.heap.get? b = some o) → s'.gens = s.gens → s'.os = s.os → s.heap.objs.size ≤ p →
      s'.heap.get? p = some (seqObj "list" out.toArray c) → IntsAre out ns → ns.Pairwise (· < ·) → (∀ k, k ∈ ns ↔ S k = true) → ns.length = n → Q (.ref p) s') :
    wpAny (model P w) A (call (.builtin "sorted") [.ref a]) Q E s := by
  obtain ⟨o, es, ep, t, ho, hex, hd, good, nod, hm, hb, hf, hl, hr, hlv⟩ := R
  refine Calls.call_function_entry kind_sorted plain_sorted entry_sorted (args_sorted1 _) ?_
  unfold Builtin.«sorted»
  refine wpAny_bind (m := checkCount "sorted" 1 1 _) (wpAny_pure ?_)
  refine wpAny_bind (collect_set (A := A.in1) hh ⟨o, ho, hex.1, hd⟩ hf hb hr hlv fun s1 vs keep far gens1 os1 perm => ?_)
  have len : vs.length = n := by rw [perm.length_eq, List.length_map, Array.length_toList]; exact hl
  have hI : IntsAre vs (vs.map Builtin.Re.reRawOf) := ints_of vs fun v hv => by
    obtain ⟨e, he, q⟩ := List.mem_map.mp (perm.mem_iff.mp hv)
    obtain ⟨k, tk, h1, _⟩ := good e he
    exact ⟨k, tk, q ▸ h1⟩
  have pk : (vs.map Builtin.Re.reRawOf).Perm (es.toList.map keyOf) := by
    have q := perm.map Builtin.Re.reRawOf
    rwa [List.map_map] at q
  refine wpAny_bind (wpAny_newList ?_ (by rw [len]; exact hn))
  have made : (s1.heap.push (seqObj "list" vs.toArray 0)).get? s1.heap.objs.size = some (seqObj "list" vs.toArray 0) := Heap.get?_push_size _ rfl
  refine wpAny_bind (wpAny_holding (wpAny_call_entry slot_list_sort ⟨_, made, rfl⟩ entry_list_sort (SrtO.list_sort_ord SrtO.swo_int made (by rw [len]; exact hn) (fun h2 => SrtO.ints_sortable hI h2) fun out h1 h2 => ⟨_, rfl, ?_⟩) (args_list_sort _)))
  obtain ⟨k1, k2, k3⟩ := SrtO.ints_out hI h1 h2
  obtain ⟨c, hc⟩ := sortedHeap_at (vs := vs) (out := out.toArray) made
  have pn := k2.trans pk
  refine wpAny_pure ⟨_, rfl, hQ _ s1.heap.objs.size out c (out.map SrtO.iv) (fun b u e => ?_) gens1 os1 far hc k1 (lt_of_le_nodup _ k3 (pn.nodup_iff.mpr nod)) (fun k => by rw [pn.mem_iff, ← hm k]) ?_⟩
  · have q := keep b u e
    have lt := Heap.lt_size q
    show (sortedHeap (s1.heap.push (seqObj "list" vs.toArray 0)) s1.heap.objs.size vs out.toArray).get? b = some u
    rw [sortedHeap_old (Nat.ne_of_lt lt) (by rw [size_push']; exact Nat.lt_succ_of_lt lt)]
    exact Heap.get?_push_of_some _ q
  · rw [pn.length_eq, List.length_map, Array.length_toList]; exact hl
end
/-- sorted(found), up to 4000 members -/
def rSortedSetB (w : World) : List V → Hp → VK → Prop := fun vs H Q => ∃ (a : Addr) (S : Int → Bool) (n : Nat), vs = [V.ref a] ∧ H a = some (SetO w a S n) ∧ n ≤ 4000 ∧
  ∀ (ns : List Int) (p : Addr), ns.Pairwise (· < ·) → (∀ k : Int, k ∈ ns ↔ S k = true) → ns.length = n → H p = none → Q (.ref p) (upd H p (.lst (ns.map V.int)))
section
variable {X : Cx}
theorem cr_sortedSetB (hc : X.calm = true) : CallR X (.builtin "sorted") (rSortedSetB X.w) := by
  intro pins s σ H vs us Q I r h
  obtain ⟨a, S, n, rfl, ha, hn, q⟩ := h
  have R := setO_get I ha
  rw [Vals.ref1 r]
  refine sorted_setB R (I.ok.hd hc) (by rw [sizeLine_eq]; omega) fun s' p out c ns keep g o hp hg hi hs hm hl => ?_
  have hlen : (ns.map V.int).length ≤ sizeLine := by rw [List.length_map, hl, sizeLine_eq]; omega
  have fresh : H p = none := I.hok.fresh hp
  have J : Inv X pins σ (upd H p (.lst (ns.map V.int))) { s with heap := s'.heap, gens := s'.gens, drawn := s'.drawn, toks := s'.toks } :=
    I.call (ch := []) (Un.laid keep hp fresh) (I.hok.laid keep hp ⟨hlen, out, c, vals_of_ints hi, hg⟩) (by rw [g]; exact I.bare) (fun _ z => nomatch z)
  have e : s' = { s with heap := s'.heap, gens := s'.gens, drawn := s'.drawn, toks := s'.toks } := by
    cases s'
    cases s
    cases o
    rfl
  rw [e]
  exact ⟨.ref p, _, J, rfl, q ns p hs hm hl fresh⟩
end
end DL

-- part DLsg
set_option Elab.async false
set_option linter.all false
set_option maxRecDepth 100000
/-! sorted(set(xs)) of a list of numbers -/
namespace DL
open PySem PySem.Spec PyProof.Rows L2
section
variable {P : Program} {w : World} {A : Around} {E : Value → Shared → Prop} {s : Shared}
set_option maxHeartbeats 3200000 in
theorem dl_set_list {l : Addr} {items : Array Value} (ns : List Int) {Q : Value → Shared → Prop} (hh : A.handled = none) (hl : s.heap.IsList l items) (hit : IntsAre items.toList ns) (hb : ns.length + 1 < scanBound)
    (h : ∀ (h' : Heap) (tk c : Nat), SetR w h' s.heap.objs.size (fun j => decide (j ∈ ns)) c → c ≤ ns.length → (∀ b o, s.heap.get? b = some o → h'.get? b = some o) → Q (.ref s.heap.objs.size) { s with heap := h', toks := tk }) :
    wpAny (model P w) A (call (.type "set") [.ref l]) Q E s := by
  have hisz : items.size = ns.length := by
    have q := IntsAre.length hit
    rw [Array.length_toList] at q
    exact q
  obtain ⟨c, tl, hmro⟩ := F.called_set.mro
  have hmade := F.called_set.made
  have hsub := F.called_set.sub
  refine wpAny_call (codeAny_of_tree ?_)
  show wpAny _ _ (callAny (.type "set") _) _ _ _
  refine wpAny_pure ⟨Code.quiet_builtin _ (by decide +kernel), codeAny_builtin F.entry_type_call ?_⟩
  rw [Around.under_plain (weight_type_call_type "set" [.ref l] []) rfl]
  have h1 := F.called_set.notType
  have h2 := F.called_set.canCreate
  have hct := F.typeCall_set_1 (.ref l)
  repeat (any_goals (first | assumption | wp_step))
  refine codeAny_mono (code_set_led1 (.ref l) (E := E) (Q₁ := fun obj s₁ => obj = .ref s.heap.objs.size ∧ s₁ = { s with heap := s.heap.push { cls := .type "set", dict := none, data := .set #[] 0 (.fresh 0 0 (!w.params.followText "set-order")) } }) ⟨rfl, rfl⟩) fun r s₁ hr => ?_
  cases r with
  | error e => exact hr
  | ok fl =>
    cases fl with
    | ret obj =>
      obtain ⟨rfl, rfl⟩ := hr
      have hS : (s.heap.push { cls := .type "set", dict := none, data := .set #[] 0 (.fresh 0 0 (!w.params.followText "set-order")) }).get? s.heap.objs.size = some { cls := .type "set", dict := none, data := .set #[] 0 (.fresh 0 0 (!w.params.followText "set-order")) } := Heap.get?_push_size _ rfl
      have hT : Shared.TypeIs { s with heap := s.heap.push { cls := .type "set", dict := none, data := .set #[] 0 (.fresh 0 0 (!w.params.followText "set-order")) } } (.ref s.heap.objs.size) "set" := ⟨_, hS, rfl⟩
      have hli := F.called_set.init.lookup
      have hbi := F.called_set.init.bind (.ref s.heap.objs.size)
      repeat (any_goals (first | assumption | wp_step))
      refine codeAny_mono (codeAny_call_builtin (R := wants (fun r s₂ => r = .none ∧ ∃ h' tk c, s₂ = { s with heap := h', toks := tk } ∧ SetR w h' s.heap.objs.size (fun j => decide (j ∈ ns)) c ∧ c ≤ ns.length ∧
          (∀ b o, s.heap.get? b = some o → h'.get? b = some o)) E) F.called_set.init.plain F.entry_set_init (check_set_init_1 hT ?_)) fun r₂ s₂ hr₂ => ?_
      · obtain ⟨ol, hol, hcl, nl, hdl⟩ := hl
        obtain ⟨ocls, odict, odata, oslots⟩ := ol
        simp only at hcl hdl
        subst hcl; subst hdl
        have hol' : (s.heap.push { cls := .type "set", dict := none, data := .set #[] 0 (.fresh 0 0 (!w.params.followText "set-order")) }).get? l = some { cls := .type "list", dict := odict, data := .seq items nl, slots := oslots } := Heap.get?_push_of_some _ hol
        have hsls := F.sub_list_set
        have hslf := F.sub_list_frozenset
        have hne : (Value.type "list" == Value.type "dict") = false := by decide
        have hl1 : (s.heap.push { cls := .type "set", dict := none, data := .set #[] 0 (.fresh 0 0 (!w.params.followText "set-order")) }).IsList l items := ⟨_, hol', rfl, nl, rfl⟩
        unfold Builtin.«set.__init__» noKeywords Builtin.Frozenset.updateFrom
        generalize hPI : pyIter = PI
        wp_walk
        subst hPI
        refine wpAny_pyIter_list hl1 ?_
        refine wpAny_bind (wpAny_runValue ?_)
        have hlS : l < s.heap.objs.size := Heap.lt_size hol
        have hh3 : A.in1.in1.in1.handled = none := by simp [hh]
        have hneI : l ≠ (s.heap.push { cls := .type "set", dict := none, data := .set #[] 0 (.fresh 0 0 (!w.params.followText "set-order")) }).objs.size := by
          rw [Heap.size_push]; exact Nat.ne_of_lt (Nat.lt_succ_of_lt hlS)
        have hSf : s.heap.objs.size ∉ [(s.heap.push { cls := .type "set", dict := none, data := .set #[] 0 (.fresh 0 0 (!w.params.followText "set-order")) }).objs.size, l] := by
          rw [Heap.size_push]; simp only [List.mem_cons, List.mem_singleton, List.not_mem_nil, or_false, not_or]
          exact ⟨Nat.ne_of_lt (Nat.lt_succ_self _), Nat.ne_of_gt hlS⟩
        have hval : ∀ (i : Nat) (v : Value), items[i]? = some v → ∃ k t, ns[i]? = some k ∧ v = .int k t := fun i v hv => by
          have hi : i < ns.length := by rw [← hisz]; exact (Array.getElem?_eq_some_iff.mp hv).1
          obtain ⟨t, e⟩ := PyProof.Rows.IntsAre.int_at hit i v (by rw [Array.getElem?_toList]; exact hv)
          refine ⟨ns[i], t, List.getElem?_eq_getElem hi, ?_⟩
          rw [e, List.getD_eq_getElem?_getD, List.getElem?_eq_getElem hi] <;> rfl
        refine set_update_ints ((Walks.list hh3 _ l hneI items).toS) s.heap.objs.size
          hSf ns hisz hb hval (items.size - 0) 0 _ (by omega) (Nat.zero_le _)
          ⟨⟨_, Heap.get?_push_size _ rfl, rfl, rfl⟩, (hl1.push _)⟩ ?hS0 ?hR
        case hS0 =>
          have hget : ((s.heap.push { cls := .type "set", dict := none, data := .set #[] 0 (.fresh 0 0 (!w.params.followText "set-order")) }).push { cls := .type "list_iterator", data := .fields #[.ref l, .int 0 0] }).get? s.heap.objs.size
              = some { cls := .type "set", dict := none, data := .set #[] 0 (.fresh 0 0 (!w.params.followText "set-order")) } := Heap.get?_push_of_some _ hS
          exact ⟨0, Nat.le_refl 0, setR_new_at hget⟩
        case hR =>
          intro s' c' hm hc' hS'
          obtain ⟨h', g2, d', tk', os'⟩ := s'
          have eg : g2 = s.gens := hm.gens
          have ed : d' = s.drawn := hm.drawn
          have eo : os' = s.os := hm.os
          subst eg; subst ed; subst eo
          show wpAny _ _ _ _ _ _
          refine wpAny_pure ?_
          show wpAny _ _ (ret Value.none) _ _ _
          rw [hisz] at hc'
          refine wpAny_pure ⟨rfl, h', tk', c', rfl, hS', hc', fun b o e => ?_⟩
          have hb0 : b < s.heap.objs.size := Heap.lt_size e
          have hb1 : b ≠ s.heap.objs.size := Nat.ne_of_lt hb0
          have hb2 : b ≠ (s.heap.push { cls := .type "set", dict := none, data := .set #[] 0 (.fresh 0 0 (!w.params.followText "set-order")) }).objs.size := by
            rw [Heap.size_push]; exact Nat.ne_of_lt (Nat.lt_succ_of_lt hb0)
          exact hm.heap b o (by simp only [List.mem_cons, List.mem_singleton, List.not_mem_nil, or_false, not_or]; exact ⟨hb1, hb2⟩) (Heap.get?_push_of_some _ (Heap.get?_push_of_some _ e))
      · cases r₂ with
        | error e => exact hr₂
        | ok fl₂ =>
          cases fl₂ with
          | ret r =>
            obtain ⟨rfl, h', tk, c', rfl, hS', hc', hk'⟩ := hr₂
            repeat (any_goals (first | assumption | wp_step))
            exact h _ _ _ hS' hc' hk'
          | _ => exact hr₂.elim
    | _ => exact hr.elim
end
/-- set(xs) -/
def rSetL (K : PySem.W.Frag) (w : World) : List V → Hp → VK → Prop := fun vs H Q => ∃ (p : Addr) (ns : List Int), vs = [.ref p] ∧ SqL K H p (ns.map V.int) ∧ ns.length ≤ 4000 ∧ ∀ a c, H a = none → c ≤ ns.length → Q (.ref a) (upd H a (SetO w a (fun j => decide (j ∈ ns)) c))
section
variable {X : Cx} {G : Fr}
theorem cr_setL (hc : X.calm = true) : CallR X (.type "set") (rSetL X.K X.w) := by
  intro pins s σ H xs us Q I r h
  obtain ⟨p0, ns, e1, hq, hl, q⟩ := h
  subst e1
  cases r with
  | cons r rr =>
    cases rr
    cases r
    obtain ⟨its, rv, pt, hz⟩ := I.list hq
    have hi : IntsAre its.toArray.toList ns := ints_of_vals rv
    refine dl_set_list ns (I.ok.hd hc) pt.isList hi (by unfold scanBound; omega) fun h' tk c R1 hcn k => ?_
    exact ⟨.ref _, _, I.laid (t' := tk) k (Nat.le_refl _) (setO_new R1), rfl, q _ _ (I.hok.fresh (Nat.le_refl _)) hcn⟩
theorem n_sst (hK : X.K = G.M.K) (hc : X.calm = true) (hgl : Gl X "sorted") (hm : X.mg "sorted" = none) (hgs : Gl X "set") (hms : X.mg "set" = none) {e : E} {x : Expr} {p1 p2 p3 p4 : Pos} (hx : isStar x = false) (he : PE X x (tE G e.pure (ev e))) :
    PE X (.Call (.Name "sorted" p1) [.Call (.Name "set" p2) [x] [] p3] [] p4) (tN G (E.sst e).pure (ev (.sst e))) := by
  refine pe_imp (pe_callB (cr_sortedSetB hc) hgl hm rfl (pa_cons (pe_callTy (cr_setL hc) hgs hms rfl (pa_cons he pa_nil (star_cons hx)) (by decide) (by decide) (star_cons hx) rfl) pa_nil (star_cons rfl)) (by decide) (by decide) (star_cons rfl) rfl) fun σ H Q ⟨env, F, fs, g, q⟩ => ?_
  refine ⟨env, F, fs, g, q.bind (p2 := true) (fun z => ⟨z, rfl⟩) fun y env1 F1 H1 fs1 _ g1 s1 t1 q1 v rv => ?_⟩
  obtain ⟨k, d⟩ := y
  cases hi : (lstOf d).bind intsOf with
  | none => simp only [hi] at q1; exact q1.elim
  | some is =>
    simp only [hi] at q1
    obtain ⟨hlen, q1⟩ := ite_inv q1
    obtain ⟨ds, e1, e2⟩ := ints_of_bind hi
    obtain ⟨a, vs, rfl, r1, f1⟩ := lstOf_node g1.fh rv e1
    obtain rfl := ints_vals e2 f1
    refine ⟨a, is, rfl, SqL.of r1, by omega, fun D c hD hcn => ⟨D, _, c, rfl, upd_same, by omega, fun ns p sm hmem _ hp2 => ?_⟩⟩
    have e := lt_perm (l := is) sm fun k => by rw [hmem]; simp
    rw [e]
    obtain ⟨g2, s2, ap, _⟩ := g1.newO (o := SetO X.w D (fun j => decide (j ∈ is)) c) hD
    have st2 : Step F1 H1 fs1.at F1 (upd H1 D (SetO X.w D (fun j => decide (j ∈ is)) c)) fs1.at := ⟨s2.ff, s2.fr, s2.nw, fun b h => s2.own b (.inl h)⟩
    exact q1 F1 _ fs1 g2 st2 (fun _ => new_same hD) rfl p _ hp2 (Fa2.ints _)
end
end DL

-- part DLfz
set_option Elab.async false
set_option linter.all false
set_option maxRecDepth 100000
/-! lists of one's own that stand still while an expression is reckoned -/
namespace DL
open PySem PySem.Spec PyProof.Rows L2
open Classical in
/-- what is one's own is left out -/
noncomputable def lessOf (P : Addr → Prop) (F : Hp) : Hp := fun b => if P b then none else F b
theorem less_in {P : Addr → Prop} {F : Hp} {b : Addr} (h : P b) : lessOf P F b = none := if_pos h
theorem less_out {P : Addr → Prop} {F : Hp} {b : Addr} (h : ¬ P b) : lessOf P F b = F b := if_neg h
section
variable {M : Mo} {io : List (Nat × V)} {σ : L2.St}
theorem frzE_ok : ∀ {is : List Nat} {F H : Hp} {env env1 : Env} {fs : Ft}, GS M F H io env σ fs → frzE env is = some env1 →
    ∃ F1 fs1, GS M F1 H io env1 σ fs1 ∧ Same F F1 ∧ (∀ b, ¬ fs.at b → F1 b = F b) ∧ ∀ b, fs1.at b → fs.at b
  | [], F, H, env, env1, fs, g, h => by
    cases h
    exact ⟨F, fs, g, Same.refl F, fun _ _ => rfl, fun _ h => h⟩
  | i :: is, F, H, env, env1, fs, g, h => by
    unfold frzE at h
    split at h
    · rename_i ds e
      obtain ⟨v, ev, o⟩ := g.own (.inl e)
      have g1 : GS M F H io (env.set i .un) (σ.set i (some v)) (fs.set i []) := g.set e (by intro k d z; cases z) rfl List.nodup_nil (by simp) (by simp)
      rw [set_self ev] at g1
      have ap : Apart (fs.set i []) (fs i) := fun j b hb z => by
        by_cases w : j = i
        · subst w; rw [Ft.set_same] at hb; simp at hb
        · rw [Ft.set_ne w] at hb; exact g.dj j i b w hb z
      obtain ⟨g2, s2, r2⟩ := frz_state g1 ap o fun b hb => g.fn i b hb
      have hl : i < (env.set i Sl.un).length := by rw [List.length_set]; exact lt_of_get e
      have g3 := g2.set (i := i) (s := .un) (s' := .val (.lst ds)) (v := v) (f := []) (by rw [List.getElem?_set_self (lt_of_get e)]) (by intro k d z; cases z) ⟨v, rfl, r2, rfl⟩ List.nodup_nil (by simp) (by simp)
      rw [set_self ev, List.set_set] at g3
      obtain ⟨F1, fs1, a1, a2, a3, a4⟩ := frzE_ok g3 h
      have sub : ∀ b, ((fs.set i []).set i []).at b → fs.at b := fun b ⟨j, hb⟩ => by
        by_cases w : j = i
        · subst w; rw [Ft.set_same] at hb; simp at hb
        · rw [Ft.set_ne w, Ft.set_ne w] at hb; exact ⟨j, hb⟩
      refine ⟨F1, fs1, a1, (frz_same g.fh).trans a2, fun b hb => ?_, fun b hb => sub b (a4 b hb)⟩
      rw [a3 b fun z => hb (sub b z), frz_out fun z => hb ⟨i, z⟩]
    · cases h
end
section
variable {X : Cx} {G : Fr} {σ : L2.St} {F H : Hp} {fs : Ft} {p : Bool}
theorem fz_core {is : List Nat} {e : E} {env : Env} (g : GS G.M F H G.io env σ fs) (q : ev (.froz is e) env ≠ .stuck) :
    ∃ env1 F1 fs1, GS G.M F1 H G.io env1 σ fs1 ∧ ∃ d env2, ev e env1 = .ok ((0, d), env2) ∧ ev (.froz is e) env = .ok ((0, d), env) ∧ flat d = true ∧ e.pure = true ∧ ∀ F' H' fs', GS G.M F' H' G.io env2 σ fs' → Step F1 H fs1.at F' H' fs'.at → Same H H' → ∃ F2, GS G.M F2 H' G.io env σ fs ∧ Step F H fs.at F2 H' fs.at := by
  have un : ev (.froz is e) env = (match frzE env is with | some env1 => if e.pure = true then fzO env (ev e env1) else .stuck | none => .stuck) := rfl
  rw [un] at q ⊢
  cases ez : frzE env is with
  | none => rw [ez] at q; exact absurd rfl q
  | some env1 =>
    rw [ez] at q
    simp only [] at q ⊢
    by_cases hp : e.pure = true
    · rw [if_pos hp] at q ⊢
      obtain ⟨F1, fs1, g1, sm, dif, sub⟩ := frzE_ok g ez
      cases ee : ev e env1 with
      | stuck => rw [ee] at q; exact absurd rfl q
      | exn c d => rw [ee] at q; exact absurd rfl q
      | ok r =>
        obtain ⟨⟨n, d⟩, env2⟩ := r
        rw [ee] at q
        cases n with
        | succ n => exact absurd rfl q
        | zero =>
          have eq : fzO env (.ok ((0, d), env2)) = if flat d = true then .ok (((0 : Nat), d), env) else .stuck := rfl
          rw [eq] at q ⊢
          by_cases hf : flat d = true
          · rw [if_pos hf]
            refine ⟨env1, F1, fs1, g1, d, env2, ee, rfl, hf, hp, fun F' H' fs' g' st hs => ⟨lessOf fs.at F', ?_⟩⟩
            have hin : ∀ i b, b ∈ fs i → H' b = H b := g.same hs
            refine ⟨g.keep (fun b o e => ?_) hin (fun b o e => ?_) fun i b hb => less_in ⟨i, hb⟩, fun b o e => ?_, fun b o e _ => hs b o e, fun b hb => ?_, fun b hb => .inl hb⟩
            · have hn : ¬ fs.at b := fun ⟨i, hb⟩ => by rw [g.fn i b hb] at e; cases e
              rw [less_out hn]; exact st.ff b o (sm b o e)
            · by_cases hb : fs.at b
              · rw [less_in hb] at e; cases e
              · rw [less_out hb] at e; exact g'.fh b o e
            · have hn : ¬ fs.at b := fun ⟨i, hb⟩ => by rw [g.fn i b hb] at e; cases e
              rw [less_out hn]; exact st.ff b o (sm b o e)
            · by_cases hz : fs.at b
              · exact .inr (.inr hz)
              · rw [less_out hz] at hb
                rcases st.nw b hb with z | z | z
                · rw [dif b hz] at z; exact .inl z
                · exact .inr (.inl z)
                · exact .inr (.inr (sub b z))
          · rw [if_neg hf] at q; exact absurd rfl q
    · rw [if_neg hp] at q; exact absurd rfl q
theorem fz_st {is : List Nat} {e : E} {env : Env} {α : Type} {f : Wk × Env → Res (α × Env)} {k : α → Env → Hp → Hp → Ft → Prop} (q : Pst G p σ F H fs ((ev (.froz is e) env).bind f) k) : ev (.froz is e) env ≠ .stuck := fun z => by
  rw [z] at q; exact q.elim
theorem flat_rep {M : Mo} {F F' : Hp} {d : D} {v : V} (h : flat d = true) (r : Rep M F d v) : Rep M F' d v := by
  cases d with
  | nd k ds => cases h
  | _ => simpa [Rep] using r
theorem fz_imp {is : List Nat} {e : E} (σ : L2.St) (H : Hp) (Q : VK) (h : tE G (E.froz is e).pure (ev (.froz is e)) σ H Q) : tE G e.pure (ev e) σ H Q := by
  obtain ⟨env, F, fs, g, q⟩ := h
  have ns : ev (.froz is e) env ≠ .stuck := fun z => by rw [z] at q; exact q.elim
  obtain ⟨env1, F1, fs1, g1, d, env2, ee, ef, hf, hp, k⟩ := fz_core g ns
  refine ⟨env1, F1, fs1, g1, ?_⟩
  rw [ee]
  rw [ef] at q
  intro F' H' fs' g' st t v rv
  obtain ⟨F2, g2, s2⟩ := k F' H' fs' g' st (t hp)
  exact q F2 H' fs g2 s2 (fun _ => t hp) v (flat_rep hf rv)
theorem fzT_imp {is : List Nat} {e : E} (σ : L2.St) (H : Hp) (Q) (h : tT G (E.froz is e).pure (evT (.froz is e)) σ H Q) : tT G e.pure (evT e) σ H Q := by
  obtain ⟨env, F, fs, g, q⟩ := h
  have q : Pst G (E.froz is e).pure σ F H fs ((ev (.froz is e) env).bind fun x => (asB x.1.2).bind fun k => Res.ok (k, x.2)) fun x _ F' H' _ => Q x H' := q
  obtain ⟨env1, F1, fs1, g1, d, env2, ee, ef, hf, hp, k⟩ := fz_core g (fz_st q)
  refine ⟨env1, F1, fs1, g1, ?_⟩
  show Pst G e.pure σ F1 H fs1 ((ev e env1).bind fun x => (asB x.1.2).bind fun k => Res.ok (k, x.2)) _
  rw [ee]
  rw [ef] at q
  cases d with
  | bl b =>
    intro F' H' fs' g' st t
    obtain ⟨F2, g2, s2⟩ := k F' H' fs' g' st (t hp)
    exact q F2 H' fs g2 s2 fun _ => t hp
  | _ => exact q.elim
theorem s_froz {is : List Nat} {e : E} {x : Expr} (h : PE X x (tE G e.pure (ev e))) : PE X x (tE G (E.froz is e).pure (ev (.froz is e))) := pe_imp h fz_imp
theorem s_frozT {is : List Nat} {e : E} {x : Expr} (h : PT X x (tT G e.pure (evT e))) : PT X x (tT G (E.froz is e).pure (evT (.froz is e))) := pt_imp h fzT_imp
theorem s_frozW {is : List Nat} {e : E} {x : Expr} (h : PW X x (tT G e.pure (evT e))) : PW X x (tT G (E.froz is e).pure (evT (.froz is e))) := ⟨fun whole pins s σ H Q I q => h.run whole pins s σ H Q I (fzT_imp σ H Q q)⟩
end
end DL

-- part DLx
set_option Elab.async false
set_option linter.all false
set_option maxRecDepth 100000
set_option maxHeartbeats 1000000
/-! DL, part x: the __init__ of an own exception class, with super().__init__(value). -/
namespace DL
open PySem PySem.Spec PyProof.Rows L2 NdefX

/-- the class C has the __init__ of the class D -/
structure IniC (K : PySem.W.Frag) (D C : Addr) : Prop where
  ox : OexC K C
  sub : PySem.W.mroIn K C (.ref D) = some true
  sup : PySem.W.ks_superIn K C D "__init__" = some (some (.builtin "ValueError.__init__"))
  ve : PySem.W.subIn K (.ref C) (.type "ValueError") = some true
  nov : PySem.W.findIn K (.ref C) "value" = some none
/-- the def of the class D at f -/
structure IniF (P : Program) (K : PySem.W.Frag) (mg : Str → Option Value) (D f : Addr) (fd : FuncData) : Prop where
  ex : ∃ (oc : Value) (od : Option Addr) (osl : Array (Option Value)) (name qual : Str) (params : Arguments) (scope : Scope) (doc pm ctv : Value) (cc cda : Addr) (p0 p1 p2 p3 p4 p5 p6 p7 p8 p9 : Pos) (r : List Arg) (ps1 : Pos),
    fd = PySem.W.fnX name qual params [.Expr (.Call (.Attribute (.Call (.Name "super" p0) [] [] p1) "__init__" p2) [.Name "value" p3] [] p4) p5, .Assign [.Attribute (.Name "self" p6) "value" p7] (.Name "value" p8) p9] scope [("__class__", cc)] .none .none doc pm none (.ref cda) ctv ∧
    K.lookup f = some ⟨oc, od, .func fd, osl⟩ ∧ params.posonlyargs ++ params.args = ⟨"self", none, ps1⟩ :: r ∧ nscB ["self", "value", "__class__"] ["self", "value"] ["__class__"] scope = true ∧ scope.names.lookup ("super" : Str) = some .globalImplicit ∧
    PySem.W.codeIn K (.ref cda) qual = true ∧ (∃ (ccl : Value) (cdd : Option Addr) (vs : Array Value) (ccs : Array (Option Value)) (file : Str) (tf : Tok), K.lookup cda = some ⟨ccl, cdd, .fields vs, ccs⟩ ∧ vs[2]? = some (.str file tf) ∧ ((P.main.file : Str) == file) = true) ∧
    (∃ (cl : Value) (cld : Option Addr) (csl : Array (Option Value)), K.lookup cc = some ⟨cl, cld, .cell (some (.ref D)), csl⟩) ∧ (p2.endLine == p4.line) = true
  cls : ∃ cd, PySem.W.clsIn K D = some cd
  sn : mg "super" = none
  st : PySem.W.nsIn K cStatics "thirdparty.any" = some none
  top : (P.main.scope.names.lookup ("super" : Str)).isSome = false
/-- its promise -/
def iniSp (K : PySem.W.Frag) (D : Addr) : Sp := fun vs H Q _ => ∃ (a C : Addr) (v : V), vs = [.ref a, v] ∧ IniC K D C ∧ H a = some (exo a C none) ∧ ∀ dx, H dx = none → dx ≠ a → Q .non (upd (upd H dx (exd dx [("value", v)])) a (exo a C (some dx)))
section
variable {CX : CXT} {P : Program} {w : World} {K : PySem.W.Frag} {mg : Str → Option Value} {base : Heap} {D f : Addr} {fd : FuncData}
theorem ini_ok (F : IniF P K mg D f fd) (k : Nat) : FnOk P w K mg base CX (k + 1) f fd ["self", "value"] (iniSp K D) := by
  obtain ⟨oc, od, osl, name, qual, params, scope, doc, pm, ctv, cc, cda, p0, p1, p2, p3, p4, p5, p6, p7, p8, p9, r, ps1, rfl, lk, hpar, hsc, hsup, hcd, ⟨ccl, cdd, vs, ccs, file, tf, hcode, hvs, hfile⟩, ⟨cl, cld, csl, hcell⟩, hline⟩ := F.ex
  obtain ⟨cdD, hD⟩ := F.cls
  have S := nscope_by hsc
  refine ⟨fun vs H Q E ⟨a, C, v, e, _⟩ => by rw [e]; rfl, fun A outer s H args us vs Q E hr e0 hb rv hsp => ?_⟩
  obtain ⟨a, C, v, rfl, T, ea, hq⟩ := hsp
  have KX : K.In s.heap := e0.mod.kin.keeps fun b o e => (e0.bs b o e).1
  have lim : s.heap.NoLimit := e0.mod.nolimit.keeps fun b o e => (e0.bs b o e).1
  let NFx : NF := ⟨name, qual, params, [.Expr (.Call (.Attribute (.Call (.Name "super" p0) [] [] p1) "__init__" p2) [.Name "value" p3] [] p4) p5, .Assign [.Attribute (.Name "self" p6) "value" p7] (.Name "value" p8) p9], scope, [("__class__", cc)], cda⟩
  have kFree : scope.names.lookup ("__class__" : Str) = some .free := S.frk _ (by simp)
  have kSelf : scope.names.lookup ("self" : Str) = some .local := S.par _ (by simp)
  have kVal : scope.names.lookup ("value" : Str) = some .local := S.par _ (by simp)
  refine PySem.ks_codeAny_call_defAt (fd := NFx.fd doc pm ctv) (body := NFx.body) (binds := (["self", "value"] : List Str).zip us) hr.depth (KX _ _ lk) rfl lim (PySem.W.codeRec_of KX hcd) rfl hb S.nocell (fun x hx => S.par x.1 (List.of_mem_zip hx).1) (fun h₁ hns hk₁ => ?_) S.co S.gen S.kind
  have hcB : base.get? cc = some ⟨cl, cld, .cell (some (.ref D)), csl⟩ := e0.mod.kin _ _ hcell
  have CA : CellsAt NFx.cl ["__class__"] [none] s.heap H := by
    refine ⟨rfl, fun y c e => ?_, fun x y c e1 e2 => ?_, fun i y hi => ?_⟩
    · have : c = cc := by
        simp only [NFx, List.lookup] at e
        split at e <;> simp_all
      subst this
      exact ⟨(e0.bs _ _ hcB).2, _, _, (e0.bs _ _ hcB).1, rfl⟩
    · simp only [NFx, List.lookup] at e1 e2
      split at e1
      · split at e2
        · simp_all
        · cases e2
      · cases e1
    · cases i with
      | zero =>
        simp at hi
        subst hi
        exact ⟨cc, rfl, fun v e => by simp at e⟩
      | succ i => simp at hi
  have I0 : Inv (ncx CX P w K mg base ["self", "value", "__class__"] NFx f A outer s H E) [] (startF ["self", "value", "__class__"] [.ref a, v] [none]) H { s with heap := h₁, toks := s.toks + ((["self", "value"] : List Str).zip us).length } :=
    inv_startN S hr.hd e0 rfl rv CA hns hk₁
  generalize s.toks + ((["self", "value"] : List Str).zip us).length = tk0 at I0 ⊢
  let X : Cx := ncx CX P w K mg base ["self", "value", "__class__"] NFx f A outer s H E
  have I0 : Inv X [] [some (.ref a), some v, none] H { s with heap := h₁, toks := tk0 } := I0
  show _root_.PySem.wpAt (model P w) X.A (.func NFx.body X.env) (execs NFx.body X.env) _ X.xe _
  have kSup : X.env.kindOf "super" = some .globalImplicit := hsup
  have gSup : Gl X "super" := hsup
  have kF : X.env.kindOf "__class__" = some .free := kFree
  have kS : X.env.kindOf "self" = some .local := kSelf
  have kV : X.env.kindOf "value" = some .local := kVal
  have K1 := I0.kIn
  obtain ⟨oD, hD1, hD2⟩ : ∃ oD, ({ s with heap := h₁, toks := tk0 } : Shared).heap.get? D = some oD ∧ oD.data = .cls cdD := by
    unfold PySem.W.clsIn at hD
    split at hD
    · rename_i c d cd' sl ho
      cases hD
      exact ⟨_, K1 _ _ ho, rfl⟩
    · cases hD
  obtain ⟨t1, ho⟩ := exo_at I0.hok ea
  refine PySem.ks_wpAt_execs_cons (PySem.ks_wpAt_Expr_any (PySem.ks_wpAt_MethodCall (pl := do return (← importBound (.Call (.Name "super" p0) [] [] p1) X.env).getD true) ?_ ?_) ?_ ?_)
  · refine PySem.ks_wpAt_super_base (ar := ⟨"self", none, ps1⟩) kSup kF (by decide) rfl (K1 _ _ lk) rfl (by show (params.posonlyargs ++ params.args).head? = _; rw [hpar]; rfl) rfl (K1 _ _ hcode) rfl hvs hfile F.top ?_
    obtain ⟨mb, b1, b2⟩ := I0.mod.blt
    refine PySem.W.ks_loadName_global S.kind kSup (Calls.loadGlobal_builtin (I0.mod.glob.keeps I0.bk) F.sn (b1.keeps I0.bk) ((b2 _ (by decide)).trans (show bootBuiltins "super" = some (.type "super") by kernel_rfl)) ⟨rfl, ?_⟩)
    refine wpAny_loadName_free S.kind kF rfl ⟨_, K1 _ _ hcell, rfl⟩ ?_
    obtain ⟨m, hm, hlk⟩ := I0.loc
    have mS : m "self" = some (.ref a) := by
      obtain ⟨u, ru, hu⟩ := hlk 0 "self" (.ref a) rfl rfl (.inl kSelf)
      obtain rfl : u = .ref a := ru
      rcases hu with ⟨_, e⟩ | ⟨k, _⟩
      · exact e
      · rw [kS] at k; rcases k with k | k <;> cases k
    refine wpAny_loadName_local S.kind kS hm mS ?_
    refine PySem.ks_wpAny_isType_cls hD1 hD2 ⟨rfl, ?_⟩
    refine PySem.ks_wpAny_call_super hD1 hD2 ho rfl (fun c e => by cases e) (PySem.W.looks_mroIn K1 T.sub) (fun h2 e2 k2 => ?_)
    have I2 : Inv X [] [some (.ref a), some v, none] H { s with heap := h2, toks := tk0 } := I0.kept k2
    have K2 := I2.kIn
    obtain ⟨cd, hcC⟩ : ∃ cd, PySem.W.clsIn K C = some cd := by
      have := T.sup
      unfold PySem.W.ks_superIn at this
      cases q : PySem.W.clsIn K C with
      | none => rw [q] at this; cases this
      | some cd => exact ⟨cd, rfl⟩
    have hal := T.sup
    unfold PySem.W.ks_superIn at hal
    rw [hcC] at hal
    have hx2 := k2 _ _ ho
    have II : PySem.W.InstAt h2 a _ C none := ⟨hx2, rfl, rfl, trivial⟩
    have hI : PySem.W.Looks (model P w) h2 (isInstance (.ref a) (.type "ValueError")) true := II.type.andThen (PySem.W.looks_subIn K2 T.ve)
    refine PySem.W.kxs_getMethod PySem.W.kxs_ValueError e2 (PySem.W.looks_opaque K2 F.st) (l₀ := cd.mro) (fun A Q E s k q => wpAny_bind ((PySem.W.looks_clsIn K2 hcC) A _ E s k (wpAny_pure q))) rfl K2 hal hI (PySem.W.ks_ne K2 II hcC) (by decide) ?_
    dsimp only
    have I3 : Inv X [] [some (.ref a), some v, none] H { s with heap := h2.push (PySem.W.kxs_mw "ValueError.__init__" a), toks := tk0 + 1 } := I2.kept fun b o e => Heap.get?_push_of_some _ e
    have hu : (h2.push (PySem.W.kxs_mw "ValueError.__init__" a)).get? h2.objs.size = some (PySem.W.kxs_mw "ValueError.__init__" a) := Heap.get?_push_at rfl rfl
    generalize h2.push (PySem.W.kxs_mw "ValueError.__init__" a) = h3 at I3 hu ⊢
    have I4 := I3.pinned (fp := [h2.objs.size]) (fun b hb => by
      obtain rfl : b = h2.objs.size := by simpa using hb
      exact I2.fpOk (Nat.le_refl _) (I2.hok.fresh (Nat.le_refl _))) (fun b hb => by
      obtain rfl : b = h2.objs.size := by simpa using hb
      exact ⟨_, hu, fun v z => by cases z⟩)
    have hmem := mem_pinsAt (fp := [h2.objs.size]) (List.mem_singleton.mpr rfl) hu
    refine PySem.W.kxs_callWith (i := "ValueError.__init__") (x := a) rfl (Calls.evalArgs_plain (x := eval (.Name "value" p3) X.env) (rest := []) ?_)
    refine thn ((pa_cons (X := X) (pe_var (i := 1) rfl (.inl kVal)) pa_nil).run p4 _ _ _ H (fun vs H' => vs = [v] ∧ H' = H) I4 ⟨v, rfl, rfl, rfl⟩) fun us5 s5 ⟨vs5, H5, I5, r5, ev, eH⟩ => ?_
    subst ev eH
    have hu5 := (I5.pin _ (List.mem_append_right _ (List.mem_append_right _ hmem))).1
    refine ⟨hu5, ?_⟩
    obtain ⟨t5, ho5⟩ := exo_at I5.hok ea
    obtain ⟨nm, q, N, bs, bm, sn, sub, ab, col, dd, k0, k1, k2, k3, k5, hC, hbm⟩ := T.ox.cls
    have hz : us5.length ≤ sizeLine := by
      rw [← r5.length, sizeLine_eq]
      simp
    have fin : ∀ h', (∀ b o, b ≠ a → s5.heap.get? b = some o → h'.get? b = some o) → h'.get? a = some (PySem.W.excRec (.ref C) s5.heap.objs.size none .none .none (.bool false)) → _root_.PySem.wpAt (model P w) X.A (.func NFx.body X.env) (execs [.Assign [.Attribute (.Name "self" p6) "value" p7] (.Name "value" p8) p9] X.env)
        (fun f s' => CR CX outer P w H5 s Q E (.ok (.ret (match f with | .ret v => v | _ => .none))) s') X.xe { s5 with heap := h' } := fun h' kp hx => by
      have J := (I5.write (t' := s5.toks) (x := a) (e := a) (o := exo a C none) (by rw [ea]; exact True.intro) (.inl rfl) kp ⟨_, hx⟩ (exo_ok hx)).unpinned
      have eu : upd H5 a (exo a C none) = H5 := by
        funext b
        by_cases hb : b = a
        · rw [hb, upd_same, ea]
        · rw [upd_ne hb]
      rw [eu] at J
      refine _root_.PySem.wpAt_of_wpAny (wpAny_mono ((pss_cons (X := X) (ps_ost (pe_var (i := 0) rfl (.inl kSelf)) (pe_var (i := 1) rfl (.inl kVal))) pss_nil).run [] _ _ H5 { nx := fun _ H' => Q .non H', rt := fun _ _ => False } J ?_) (fun f s' hf => ?_) fun e s' z => z)
      · exact ⟨v, rfl, .ref a, rfl, a, C, rfl, T.ox, T.nov, .inl ⟨ea, fun dx n ne => hq dx n ne⟩⟩
      · cases f with
        | next =>
          obtain ⟨σ', H', J', q⟩ := hf
          exact ⟨.non, H', J'.os, J'.bare, J'.base, J'.hok, rfl, q⟩
        | ret u =>
          obtain ⟨_, _, _, _, _, q⟩ := hf
          exact q.elim
        | brk =>
          obtain ⟨_, _, _, q⟩ := hf
          exact q.elim
        | cont =>
          obtain ⟨_, _, _, q⟩ := hf
          exact q.elim
    refine wpAny_call (codeAny_of_tree ?_)
    show wpAny _ X.A.in1 (callAny (.ref h2.objs.size) ⟨us5, []⟩) _ _ _
    simp only [callAny]
    refine wpAny_bind (wpAny_load hu5 ?_)
    simp only [PySem.W.kxs_mw, show (Value.type "method-wrapper" == Value.type "method" || Value.type "method-wrapper" == Value.type "builtin_function_or_method" || Value.type "method-wrapper" == Value.type "method-wrapper") = true by decide, if_true]
    refine PySem.W.KFB.if_so (by decide) ?_
    obtain ⟨hp5, g5, d5, tk5, os5⟩ := s5
    refine wpAny_bind (PySem.W.check_bound_init PySem.F.excBase_ValueError.toExcCallFacts (I5.kIn _ _ hC) ho5 rfl ?_)
    refine wpAny_bind (wpAny_pure (wpAny_pure ?_))
    refine ⟨Code.quiet_builtin _ (by decide +kernel), codeAny_builtin PySem.F.excBase_ValueError.initEntry ?_⟩
    exact PySem.W.exc_init_tree (cls := .ref C) (t0 := t5) (dv := none) (c2 := .none) (c3 := .none) (b4 := .bool false) ho5 hz fun h' kp hx _ => fin h' kp hx
  · have e1 : eval (.Call (.Attribute (.Call (.Name "super" p0) [] [] p1) "__init__" p2) [.Name "value" p3] [] p4) X.env = (do
        let ov ← attributeBase (.Call (.Name "super" p0) [] [] p1) "__init__" X.env (eval (.Call (.Name "super" p0) [] [] p1) X.env)
        standAt p2.atName
        methodCall (.Call (.Name "super" p0) [] [] p1) "__init__" p2 p4 X.env ov (([.Name "value" p3] : List Expr).length + ([] : List Keyword).length) (backTo p4 (starEach [.Name "value" p3] X.env)) (backToKw p4 (keywordEach [] X.env))) := rfl
    rw [e1]
    unfold methodCall calleeOf methodCallPos
    have hf : methodCallForm (([.Name "value" p3] : List Expr).length + ([] : List Keyword).length) (backTo p4 (starEach [.Name "value" p3] X.env)) (backToKw p4 (keywordEach [] X.env)) = true := form_ok (es := [.Name "value" p3]) rfl (by simp)
    rw [hf, hline]
    rfl
  · unfold interactive
    rw [show X.env.scope.kind = .function from S.kind]
    rfl
  · rfl
end
end DL

-- part DLxf
set_option Elab.async false
set_option linter.all false
set_option maxRecDepth 100000
set_option maxHeartbeats 1000000
/-! DL, part xf: what raising and handling lean on. -/
namespace DL
open PySem PySem.Spec PyProof.Rows L2

/-- C(value), C an own class of exceptions -/
structure XcF (CXv : CXT) (X : Cx) (M : Mo) (lv c : Nat) (nm : Str) : Prop where
  cx : CXv = L2N.CX X.prog X.w
  ex : ∃ (C D fI : Addr) (fd : FuncData) (k : Nat), M.cl c = some C ∧ X.mg nm = some (.ref C) ∧ IniC X.K D C ∧ FnOk X.prog X.w X.K X.mg X.base CXv k fI fd ["self", "value"] (iniSp X.K D) ∧ k + 1 ≤ lv ∧ Binds X.K fd ["self", "value"] [] ∧
    PySem.W.findIn X.K (.ref C) "__init__" = some (some (.ref fI)) ∧ PySem.W.typeIn X.K (.ref fI) = some (.type "function")
/-- except nm as ..: 20 is the class above all -/
structure XhF (CXv : CXT) (X : Cx) (M : Mo) (cls : Nat) (nm : Str) : Prop where
  cx : CXv = L2N.CX X.prog X.w
  ex : ∃ CC, X.mg nm = some (.ref CC) ∧ ∀ c C', 20 ≤ c → M.cl c = some C' → PySem.W.exmOne X.K (.ref C') (.ref CC) = some (decide (cls = 20) || decide (cls = c))
/-- what an except suite asks of the classes -/
structure XsF (X : Cx) (M : Mo) (l : Cls2) : Prop where
  isn : X.mg "isinstance" = none
  ven : X.mg "ValueError" = none
  cl : ∀ p ∈ l, ∃ C, M.cl p.1 = some C ∧ X.mg p.2 = some (.ref C)
  all : ∀ c C', 20 ≤ c → M.cl c = some C' → ExcC X.K C' ∧ PySem.W.findIn X.K (.ref C') "value" = some none ∧ PySem.W.kitOne X.K (.ref C') (.type "ValueError") = some true ∧
    ∀ p ∈ l, ∀ C, M.cl p.1 = some C → PySem.W.kitOne X.K (.ref C') (.ref C) = some (decide (c = p.1))
/-- a def that is called with the caught exception, within the suite -/
def FnX (P : Program) (w : World) (K : PySem.W.Frag) (mg : Str → Option Value) (base : Heap) (CX : CXT) (M : Mo) (k : Nat) (f : Addr) (fd : FuncData) (x : Str) (g : HnD) : Prop :=
  ∀ (A : Around) (outer : List PySem.Env) (s : Shared) (H : Hp) (args : Args) (Q : VK) (E : XK) (p : Addr × Obj) (C dx : Addr) (c : Nat) (F : Hp) (v : V) (d : D), L2H.RoomH k A → L2H.Hot1 A p → L2H.PinOk outer H s p → Zc (.ref C) (some dx) p.2 → Env0 P w K mg base A outer s H →
    BindsTo s fd args [(x, .ref p.1)] → M.cl c = some C → 20 ≤ c → H dx = some (.xd [("value", v)]) → Rep M F d v → Same F H →
    (match g.den c d with
      | some r => ∀ u F' H', Same F F' → Same H H' → Same F' H' → (∀ b, F' b ≠ none → F b ≠ none ∨ H b = none) → Rep M F' r u → Q u H'
      | none => False) → codeAny (model P w) A (.call (.ref f) args) (CR CX outer P w H s Q E) s
structure HnF (CXv : CXT) (X : Cx) (M : Mo) (lv : Nat) (g : HnD) : Prop where
  ex : ∃ (fa : Addr) (fd : FuncData) (x : Str) (k : Nat), FnX X.prog X.w X.K X.mg X.base CXv M k fa fd x g ∧ k ≤ lv ∧ X.mg g.name = some (.ref fa) ∧ PySem.W.keepIn X.K (.ref fa) = true ∧ Binds X.K fd [x] []
end DL

-- part DLj
set_option Elab.async false
set_option linter.all false
set_option maxRecDepth 100000
/-! DL, part j: the check of expressions, as a whole. -/
namespace DL
open PySem PySem.Spec PyProof.Rows L2

/-- what the code of a def leans on -/
inductive Fact where
  | xc (c : Nat) (nm : Str) | xh (cls : Nat) (nm : Str) | xs (l : Cls2) | hn (g : HnD)
  | ng (nm : Str) | is (c : Nat) (nm : Str) | gc (nm : Str) (d : D) | dg (nm : Str) (kvs : List (Str × Int)) | gl (f : FnD) | mt (c : Nat) (f : FnD) | pr (c : Nat) (f : FnD) | ln (c : Nat) (f : FnD) | ad (c : Nat) (f : FnD) | eq (c : Nat) (f : FnD) | fd (c : Nat) (x : Str) | mk (c : Nat) (f : FnD) | gk (f : FnD) (ks : List Str) (pm : List Nat) | mtk (c : Nat) (f : FnD) (ks : List Str) (pm : List Nat) | mkk (c : Nat) (f : FnD) (ks : List Str) (pm : List Nat)
structure GlF (CXv : CXT) (X : Cx) (M : Mo) (lv : Nat) (f : FnD) : Prop where
  ex : ∃ fa, FnF CXv X M lv f fa ∧ X.mg f.name = some (.ref fa) ∧ PySem.W.keepIn X.K (.ref fa) = true
def FactOk (CXv : CXT) (X : Cx) (M : Mo) (lv : Nat) : Fact → Prop
  | .xc c nm => XcF CXv X M lv c nm
  | .xh cls nm => XhF CXv X M cls nm
  | .xs l => XsF X M l
  | .hn g => HnF CXv X M lv g
  | .ng nm => X.mg nm = none
  | .is c nm => IsF X M c nm
  | .gc nm d => GcF X nm d
  | .dg nm kvs => DgF X nm kvs
  | .gl f => GlF CXv X M lv f
  | .mt c f => MtF CXv X M lv c f
  | .pr c f => PrF CXv X M lv c f
  | .ln c f => LnF CXv X M lv c f
  | .ad c f => AdF CXv X M lv c f
  | .eq c f => EqF CXv X M lv c f
  | .fd c x => FdF X M c x
  | .mk c f => MkF CXv X M lv c f
  | .gk f ks pm => GkF CXv X M lv f ks pm
  | .mtk c f ks pm => MtkF CXv X M lv c f ks pm
  | .mkk c f ks pm => MkkF CXv X M lv c f ks pm
def E.needs : E → List Fact
  | .nil => []
  | .cons a b => a.needs ++ b.needs
  | .name _ => []
  | .lit _ => []
  | .bin _ a b => a.needs ++ b.needs
  | .neg a => a.needs
  | .cmp _ a b => a.needs ++ b.needs
  | .chn _ _ a b c => a.needs ++ (b.needs ++ c.needs)
  | .andv a b => a.needs ++ b.needs
  | .orv a b => a.needs ++ b.needs
  | .notv a => a.needs
  | .ife t a b => t.needs ++ (a.needs ++ b.needs)
  | .tup es => es.needs
  | .lst es => es.needs
  | .idx a b => a.needs ++ b.needs
  | .slc a lo hi => a.needs ++ (lo.needs ++ hi.needs)
  | .app f es => .gl f :: es.needs
  | .ioa _ => []
  | .wka _ => []
  | .blt _ es => es.needs
  | .fld c f a => .fd c f :: a.needs
  | .prp c f a => .pr c f :: a.needs
  | .mth c f o es => .mt c f :: (o.needs ++ es.needs)
  | .lno c f a => .ln c f :: a.needs
  | .addo c f a b => .ad c f :: (a.needs ++ b.needs)
  | .eqo c f a b => .eq c f :: (a.needs ++ b.needs)
  | .mk c f es => .mk c f :: es.needs
  | .isi c nm a => .is c nm :: a.needs
  | .lrg a b => a.needs ++ b.needs
  | .star a => a.needs
  | .apps f a => .gl f :: a.needs
  | .dget nm kvs a => .dg nm kvs :: a.needs
  | .glc nm d => [.gc nm d]
  | .appk f ks pm es => .gk f ks pm :: es.needs
  | .mthk c f ks pm o es => .mtk c f ks pm :: (o.needs ++ es.needs)
  | .mkk c f ks pm es => .mkk c f ks pm :: es.needs
  | .comp _ it t e => it.needs ++ (t.needs ++ e.needs)
  | .ssc _ it t e => it.needs ++ (t.needs ++ e.needs)
  | .sst e => .ng "set" :: e.needs
  | .froz _ e => e.needs
  | .ilst e => e.needs
  | .iscr e => e.needs
  | .itup e => e.needs
  | .irg1 a => a.needs
  | .irg2 a b => a.needs ++ b.needs
  | .irg3 a b c => a.needs ++ (b.needs ++ c.needs)
  | .ienum e => e.needs
  | .ienumT e => e.needs
  | .izip a b => a.needs ++ b.needs

/-! ### the check -/
def dbg (x : Str) : Bool := !(x == ("__debug__" : Str))
def nmB (N : List Str) (sc : Scope) (i : Nat) : Expr → Bool
  | .Name x _ => decide (N[i]? = some x) && (decide (sc.names.lookup x = some .local) || decide (sc.names.lookup x = some .cell) || decide (sc.names.lookup x = some .free)) && dbg x && !(x == ("__classdict__" : Str))
  | _ => false
def glB (sc : Scope) (x : Str) : Bool := decide (sc.names.lookup x = some .globalImplicit) && dbg x
def noStars (xs : List Expr) : Bool := xs.all fun e => !isStar e
def isNilE : E → Bool
  | .nil => true
  | _ => false
def isSl : Expr → Bool
  | .Slice _ _ _ _ => true
  | _ => false
def ownOf (N : List Str) : List Nat → List (Str × Nat)
  | [] => []
  | i :: is => match N[i]? with
    | some x => (x, i) :: ownOf N is
    | none => ownOf N is
def notComp : Expr → Bool
  | .ListComp _ _ _ _ => false
  | _ => true
def notSet : Expr → Bool
  | .Set _ _ _ => false
  | _ => true
mutual
/-- t: as a test -/
def chk (N : List Str) : Bool → Scope → E → Expr → Bool
  | t, sc, .name i, x => nmB N sc i x
  | t, sc, .lit d, .Constant c _ _ => !t && litB d c
  | t, sc, .bin op a b, .BinOp x o y _ => !t && decide (o = op.py) && chk N false sc a x && chk N false sc b y
  | t, sc, .neg a, .UnaryOp .USub x _ => !t && chk N false sc a x
  | t, sc, .cmp op a b, .Compare x [o] [y] _ => decide (o = op.py) && !behindInMarks o y && chk N false sc a x && chk N false sc b y
  | t, sc, .chn op op' a b c, .Compare x [o, o'] [y, z] _ => decide (o = op.py) && decide (o' = op'.py) && !lastMarks [o, o'] [y, z] && chk N false sc a x && chk N false sc b y && chk N false sc c z
  | t, sc, .andv a b, .BoolOp .And (x :: y :: rest) p => chk N t sc a x && (match rest with | [] => chk N t sc b y | _ => chk N t sc b (.BoolOp .And (y :: rest) p))
  | t, sc, .orv a b, .BoolOp .Or (x :: y :: rest) p => chk N t sc a x && (match rest with | [] => chk N t sc b y | _ => chk N t sc b (.BoolOp .Or (y :: rest) p))
  | t, sc, .notv a, .UnaryOp .Not x _ => chk N t sc a x
  | t, sc, .ife u a b, .IfExp c x y _ => !t && chk N true sc u c && chk N false sc a x && chk N false sc b y
  | t, sc, .tup es, .Tuple xs _ _ => !t && chks N sc es xs
  | t, sc, .lst es, .List xs _ => !t && chks N sc es xs
  | t, sc, .idx a b, .Subscript x y _ => !isSl y && chk N false sc a x && chk N false sc b y
  | t, sc, .slc a lo hi, .Subscript x (.Slice l h none _) _ => !t && chk N false sc a x && (match l with | none => isNilE lo | some l => !isNilE lo && chk N false sc lo l) && (match h with | none => isNilE hi | some h => !isNilE hi && chk N false sc hi h)
  | t, sc, .app f es, .Call (.Name g _) (x :: xs) [] _ => decide (g = f.name) && glB sc g && noStars (x :: xs) && chks N sc es (x :: xs)
  | t, sc, .blt b es, .Call (.Name g _) (x :: xs) [] _ => decide (g = (b.nm : Str)) && glB sc g && noStars (x :: xs) && chks N sc es (x :: xs)
  | t, sc, .fld c f a, .Attribute x g _ => decide (g = f) && noCall x && chk N false sc a x
  | t, sc, .prp c f a, .Attribute x g _ => decide (g = f.name) && noCall x && chk N false sc a x
  | t, sc, .mth c f o es, .Call (.Attribute y g ap) xs [] p => decide (g = f.name) && noCall y && noStars xs && decide (xs.length < 30) && (ap.endLine == p.line) && chk N false sc o y && chks N sc es xs
  | t, sc, .lno c f a, .Call (.Name g _) [x] [] _ => decide (g = ("len" : Str)) && glB sc g && !isStar x && chk N false sc a x
  | t, sc, .addo c f a b, .BinOp x .Add y _ => !t && chk N false sc a x && chk N false sc b y
  | t, sc, .eqo c f a b, .Compare x [.Eq] [y] _ => chk N false sc a x && chk N false sc b y
  | t, sc, .mk c f es, .Call (.Name g _) (x :: xs) [] _ => decide (g = f.name) && glB sc g && noStars (x :: xs) && chks N sc es (x :: xs)
  | t, sc, .isi c nm a, .Call (.Name g _) [x, .Name h _] [] _ => decide (g = ("isinstance" : Str)) && glB sc g && decide (h = nm) && glB sc h && !isStar x && chk N false sc a x
  | t, sc, .lrg a b, .Call (.Name g _) [.Call (.Name h _) [x, y] [] _] [] _ => decide (g = ("list" : Str)) && glB sc g && decide (h = ("range" : Str)) && glB sc h && !isStar x && !isStar y && chk N false sc a x && chk N false sc b y
  | t, sc, .apps f a, .Call (.Name g _) [.Starred x _] [] _ => decide (g = f.name) && glB sc g && chk N false sc a x
  | t, sc, .dget nm kvs a, .Call (.Attribute (.Name g _) m ap) [x] [] p => decide (g = nm) && glB sc g && decide (m = ("get" : Str)) && !isStar x && (ap.endLine == p.line) && chk N false sc a x
  | t, sc, .star a, x => !t && chk N false sc a x
  | t, sc, .glc nm d, .Name g _ => !t && decide (g = nm) && glB sc g
  | t, sc, .appk f ks pm es, .Call (.Name g _) [] kws _ => decide (g = f.name) && glB sc g && kwB ks kws && chkk N sc es kws
  | t, sc, .mthk c f ks pm o es, .Call (.Attribute y g ap) [] kws p => decide (g = f.name) && noCall y && kwB ks kws && decide (kws.length < 29) && (ap.endLine == p.line) && chk N false sc o y && chkk N sc es kws
  | t, sc, .mkk c f ks pm es, .Call (.Name g _) [] kws _ => decide (g = f.name) && glB sc g && kwB ks kws && chkk N sc es kws
  | t, sc, .comp tg it u e, .ListComp elt [⟨tgt, iter, ifs, asy⟩] scope _ => !t && decide (asy = 0) && notSet iter && chkI N sc it tgt iter && blkC N sc scope (ownOf N tg) && decide ((ownOf N tg).map (·.2) = tg) && tgtB (fun x => scope.names.lookup x == some .cell) N (relS scope sc) tg tgt &&
      (match ifs with | [] => isNilE u | [c] => !isNilE u && chk N true (relS scope sc) u c | _ => false) && chk N false (relS scope sc) e elt
  | t, sc, .sst e, .Call (.Name g _) [.Call (.Name h _) [x] [] _] [] _ => !t && decide (g = ("sorted" : Str)) && glB sc g && decide (h = ("set" : Str)) && glB sc h && !isStar x && chk N false sc e x
  | t, sc, .froz _ e, x => notComp x && chk N t sc e x
  | t, sc, .ssc tg it u e, .Call (.Name g _) [.SetComp elt [⟨tgt, iter, ifs, asy⟩] scope _] [] _ => !t && decide (asy = 0) && decide (g = ("sorted" : Str)) && glB sc g && notSet iter && chkI N sc it tgt iter && blkC N sc scope (ownOf N tg) && decide ((ownOf N tg).map (·.2) = tg) && tgtB (fun x => scope.names.lookup x == some .cell) N (relS scope sc) tg tgt &&
      (match ifs with | [] => isNilE u | [c] => !isNilE u && chk N true (relS scope sc) u c | _ => false) && chk N false (relS scope sc) e elt
  | _, _, _, _ => false
def chks (N : List Str) : Scope → E → List Expr → Bool
  | sc, .nil, [] => true
  | sc, .cons (.ioa i) es, x :: xs => nmB N sc i x && chks N sc es xs
  | sc, .cons (.wka i) es, x :: xs => nmB N sc i x && chks N sc es xs
  | sc, .cons (.star a) es, .Starred x _ :: xs => chk N false sc (.star a) x && chks N sc es xs
  | sc, .cons (.star _) es, _ => false
  | sc, .cons a es, x :: xs => !isStar x && chk N false sc a x && chks N sc es xs
  | _, _, _ => false
def chkk (N : List Str) : Scope → E → List Keyword → Bool
  | sc, .nil, [] => true
  | sc, .cons (.ioa i) es, ⟨_, x, _⟩ :: xs => nmB N sc i x && chkk N sc es xs
  | sc, .cons (.wka i) es, ⟨_, x, _⟩ :: xs => nmB N sc i x && chkk N sc es xs
  | sc, .cons (.star _) es, _ => false
  | sc, .cons a es, ⟨_, x, _⟩ :: xs => chk N false sc a x && chkk N sc es xs
  | _, _, _ => false
def chkI (N : List Str) : Scope → E → Expr → Expr → Bool
  | sc, .ilst e, _, x => chk N false sc e x
  | sc, .iscr e, _, x => chk N false sc e x
  | sc, .itup e, _, x => chk N false sc e x
  | sc, .irg1 a, _, .Call (.Name g _) [x] [] _ => decide (g = ("range" : Str)) && glB sc g && !isStar x && chk N false sc a x
  | sc, .irg2 a b, _, .Call (.Name g _) [x, y] [] _ => decide (g = ("range" : Str)) && glB sc g && !isStar x && !isStar y && chk N false sc a x && chk N false sc b y
  | sc, .irg3 a b c, _, .Call (.Name g _) [x, y, z] [] _ => decide (g = ("range" : Str)) && glB sc g && !isStar x && !isStar y && !isStar z && chk N false sc a x && chk N false sc b y && chk N false sc c z
  | sc, .ienum a, .Tuple _ _ _, .Call (.Name g _) [x] [] _ => decide (g = ("enumerate" : Str)) && glB sc g && !isStar x && chk N false sc a x
  | sc, .ienumT a, .Tuple _ _ _, .Call (.Name g _) [x] [] _ => decide (g = ("enumerate" : Str)) && glB sc g && !isStar x && chk N false sc a x
  | sc, .izip a b, .Tuple _ _ _, .Call (.Name g _) [x, y] [] _ => decide (g = ("zip" : Str)) && glB sc g && !isStar x && !isStar y && chk N false sc a x && chk N false sc b y
  | _, _, _, _ => false
end
end DL

-- part DLk
set_option Elab.async false
set_option linter.all false
set_option maxRecDepth 100000
set_option maxHeartbeats 1000000
/-! DL, part k: the check of expressions is sound. -/
namespace DL
open PySem PySem.Spec PyProof.Rows L2

abbrev Facts (CXv : CXT) (X : Cx) (M : Mo) (lv : Nat) (l : List Fact) : Prop := ∀ f ∈ l, FactOk CXv X M lv f
structure SE (N : List Str) (e : E) : Prop where
  v : ∀ {CXv : CXT} {X : Cx} {G : Fr} {sc : Scope} {lv : Nat} {x : Expr}, CO CXv X G N sc lv → Facts CXv X G.M lv e.needs → chk N false sc e x = true → PE X x (tE G e.pure (ev e))
  t : ∀ {CXv : CXT} {X : Cx} {G : Fr} {sc : Scope} {lv : Nat} {x : Expr}, CO CXv X G N sc lv → Facts CXv X G.M lv e.needs → chk N true sc e x = true → PT X x (tT G e.pure (evT e))
  w : ∀ {CXv : CXT} {X : Cx} {G : Fr} {sc : Scope} {lv : Nat} {op : BoolOp} {xs : List Expr} {p : Pos}, CO CXv X G N sc lv → Facts CXv X G.M lv e.needs → chk N true sc e (.BoolOp op xs p) = true → PW X (.BoolOp op xs p) (tT G e.pure (evT e))
  a : ∀ {CXv : CXT} {X : Cx} {G : Fr} {sc : Scope} {lv : Nat} {xs : List Expr}, CO CXv X G N sc lv → Facts CXv X G.M lv e.needs → chks N sc e xs = true → PA X xs (tA G e.pure (evs e))
  i : ∀ {CXv : CXT} {X : Cx} {G : Fr} {sc : Scope} {lv : Nat} {tg x : Expr}, CO CXv X G N sc lv → Facts CXv X G.M lv e.needs → chkI N sc e tg x = true → PI X tg x (tI G e.pure (evi e))
  l : ∀ {CXv : CXT} {X : Cx} {G : Fr} {sc : Scope} {lv : Nat} {x : Expr}, CO CXv X G N sc lv → Facts CXv X G.M lv e.needs → ownL e = true → chk N false sc e x = true → PE X x (tL G e.pure (ev e))
  k : ∀ {CXv : CXT} {X : Cx} {G : Fr} {sc : Scope} {lv : Nat} {kws : List Keyword}, CO CXv X G N sc lv → Facts CXv X G.M lv e.needs → chkk N sc e kws = true → PK X kws (tA G e.pure (evs e)) := by
    intro _ _ _ _ _ kws _ _ h
    cases kws with
    | nil => exact absurd (show false = true from h) Bool.false_ne_true
    | cons k ks => exact absurd (show false = true from h) Bool.false_ne_true
section
variable {CXv : CXT} {X : Cx} {G : Fr} {N : List Str} {sc : Scope} {lv : Nat}
theorem factOk_blk {M : Mo} {s : Shared} {H : Hp} {scope : Scope} {cenv : PySem.Env} {fp : List Addr} {f : Fact} (h : FactOk CXv X M lv f) : FactOk CXv (X.blk s H scope cenv fp) M lv f := by
  cases f with
  | xc c nm => exact ⟨h.cx, h.ex⟩
  | xh c nm => exact ⟨h.cx, h.ex⟩
  | xs l => exact ⟨h.isn, h.ven, h.cl, h.all⟩
  | hn g => exact ⟨h.ex⟩
  | ng nm => exact h
  | is c x => exact ⟨h.ex⟩
  | gl f => exact ⟨h.ex⟩
  | mt c f => exact ⟨h.ex⟩
  | pr c f => exact ⟨h.ex⟩
  | ln c f => exact ⟨h.ex⟩
  | ad c f => exact ⟨h.ex⟩
  | eq c f => exact ⟨h.ex⟩
  | fd c x => exact h
  | mk c f => exact ⟨h.ex⟩
  | gk f ks pm => exact ⟨h.ex⟩
  | mtk c f ks pm => exact ⟨h.ex⟩
  | mkk c f ks pm => exact ⟨h.ex⟩
  | gc nm d => exact ⟨h.ex⟩
  | dg nm kvs => exact ⟨h.ex⟩
theorem CO.blk (c : CO CXv X G N sc lv) (s : Shared) (H : Hp) (scope : Scope) (C : Addr) (cl : List (Str × Addr)) (fp : List Addr) : CO CXv (X.blk s H scope (compEnvC scope cl C X.env) fp) { G with E := E0 } N (relS scope sc) lv :=
  ⟨c.K, c.calm, c.hN, by
    have e := c.sc
    show relabel scope X.env = relS scope sc
    rw [← e]; rfl, c.nd, c.room, c.nb, c.nr, c.ne, c.nz, c.pass0 _, c.pass0⟩
theorem nmB_inv {i : Nat} {x : Expr} (c : CO CXv X G N sc lv) (h : nmB N sc i x = true) : ∃ n p, x = .Name n p ∧ X.N[i]? = some n ∧ Vis X.env.scope n ∧ (n == ("__debug__" : Str)) = false ∧ (n == ("__classdict__" : Str)) = false := by
  cases x with
  | Name n p =>
    simp only [nmB, dbg, Bool.and_eq_true, Bool.or_eq_true, decide_eq_true_eq, Bool.not_eq_true'] at h
    obtain ⟨⟨⟨h1, h2⟩, h3⟩, h4⟩ := h
    refine ⟨n, p, rfl, by rw [c.hN]; exact h1, ?_, h3, h4⟩
    rw [c.sc]
    rcases h2 with (h2 | h2) | h2
    · exact .inl h2
    · exact .inr (.inl h2)
    · exact .inr (.inr h2)
  | _ => simp [nmB] at h
theorem glB_inv {x : Str} (c : CO CXv X G N sc lv) (h : glB sc x = true) : Gl X x ∧ (x == ("__debug__" : Str)) = false := by
  simp only [glB, dbg, Bool.and_eq_true, decide_eq_true_eq, Bool.not_eq_true'] at h
  refine ⟨?_, h.2⟩
  show X.env.kindOf x = _
  unfold Env.kindOf
  rw [c.sc]; exact h.1
theorem plainIx_of {y : Expr} (h : isSl y = false) : PlainIx y := by
  intro o i
  cases y <;> first | rfl | (simp [isSl] at h)
theorem set_iter {x : Expr} (h : notSet x = true) (env : PySem.Env) : ∀ v, foldedSetIterable x env v = pure v := by
  intro v
  cases x <;> first | rfl | (simp [notSet] at h)
theorem ff_true {p : Prop} (h : false = true) : p := nomatch h
theorem fact_l {a b : List Fact} {M : Mo} (h : Facts CXv X M lv (a ++ b)) : Facts CXv X M lv a := fun f hf => h f (List.mem_append_left _ hf)
theorem fact_r {a b : List Fact} {M : Mo} (h : Facts CXv X M lv (a ++ b)) : Facts CXv X M lv b := fun f hf => h f (List.mem_append_right _ hf)
theorem fact_t {a : Fact} {b : List Fact} {M : Mo} (h : Facts CXv X M lv (a :: b)) : Facts CXv X M lv b := fun f hf => h f (List.mem_cons_of_mem _ hf)
theorem fact_h {a : Fact} {b : List Fact} {M : Mo} (h : Facts CXv X M lv (a :: b)) : FactOk CXv X M lv a := h a List.mem_cons_self
/-- an expression by its value alone -/
theorem SE.val {e : E} (ha : ∀ sc xs, chks N sc e xs = false) (hi : ∀ sc tg x, chkI N sc e tg x = false) (ho : ownL e = false) (hp : ∀ sc x, chk N true sc e x = true → chk N false sc e x = true ∧ plainT x = true)
    (v : ∀ {CXv : CXT} {X : Cx} {G : Fr} {sc : Scope} {lv : Nat} {x : Expr}, CO CXv X G N sc lv → Facts CXv X G.M lv e.needs → chk N false sc e x = true → PE X x (tE G e.pure (ev e))) (hk : ∀ sc kws, chkk N sc e kws = false := by intro _ kws; cases kws <;> rfl) : SE N e where
  v := v
  t := fun c f h => s_valT (hp _ _ h).2 (v c f (hp _ _ h).1)
  w := fun c f h => by
    have := (hp _ _ h).2
    simp [plainT] at this
  a := fun c f h => (by rw [ha] at h; cases h)
  i := fun c f h => (by rw [hi] at h; cases h)
  l := fun c f o h => (by rw [ho] at o; cases o)
  k := fun c f h => (by rw [hk] at h; cases h)
/-- .. that may be a new list -/
theorem SE.own {e : E} (ha : ∀ sc xs, chks N sc e xs = false) (hi : ∀ sc tg x, chkI N sc e tg x = false) (hp : ∀ sc x, chk N true sc e x = true → chk N false sc e x = true ∧ plainT x = true)
    (v : ∀ {CXv : CXT} {X : Cx} {G : Fr} {sc : Scope} {lv : Nat} {x : Expr}, CO CXv X G N sc lv → Facts CXv X G.M lv e.needs → chk N false sc e x = true → PE X x (tN G e.pure (ev e))) (hk : ∀ sc kws, chkk N sc e kws = false := by intro _ kws; cases kws <;> rfl) : SE N e := by
  have v' : ∀ {CXv : CXT} {X : Cx} {G : Fr} {sc : Scope} {lv : Nat} {x : Expr}, CO CXv X G N sc lv → Facts CXv X G.M lv e.needs → chk N false sc e x = true → PE X x (tE G e.pure (ev e)) := fun c f h => pe_imp (v c f h) fun σ H Q q => tE_N q
  refine ⟨v', fun c f h => s_valT (hp _ _ h).2 (v' c f (hp _ _ h).1), fun c f h => ?_, fun c f h => (by rw [ha] at h; cases h), fun c f h => (by rw [hi] at h; cases h), fun c f o h => pe_imp (v c f h) fun σ H Q q => tL_N q, fun c f h => (by rw [hk] at h; cases h)⟩
  have := (hp _ _ h).2
  simp [plainT] at this
/-- .. whose new list may come by another road -/
theorem SE.cho {e : E} (ha : ∀ sc xs, chks N sc e xs = false) (hi : ∀ sc tg x, chkI N sc e tg x = false) (hp : ∀ sc x, chk N true sc e x = true → chk N false sc e x = true ∧ plainT x = true)
    (v : ∀ {CXv : CXT} {X : Cx} {G : Fr} {sc : Scope} {lv : Nat} {x : Expr}, CO CXv X G N sc lv → Facts CXv X G.M lv e.needs → chk N false sc e x = true → PE X x (tE G e.pure (ev e)))
    (l : ∀ {CXv : CXT} {X : Cx} {G : Fr} {sc : Scope} {lv : Nat} {x : Expr}, CO CXv X G N sc lv → Facts CXv X G.M lv e.needs → ownL e = true → chk N false sc e x = true → PE X x (tL G e.pure (ev e))) (hk : ∀ sc kws, chkk N sc e kws = false := by intro _ kws; cases kws <;> rfl) : SE N e := by
  refine ⟨v, fun c f h => s_valT (hp _ _ h).2 (v c f (hp _ _ h).1), fun c f h => ?_, fun c f h => (by rw [ha] at h; cases h), fun c f h => (by rw [hi] at h; cases h), l, fun c f h => (by rw [hk] at h; cases h)⟩
  have := (hp _ _ h).2
  simp [plainT] at this
/-- what a loop goes through -/
theorem SE.itr {e : E} (ha : ∀ sc xs, chks N sc e xs = false) (hv : ∀ t sc x, chk N t sc e x = false) (ho : ownL e = false)
    (i : ∀ {CXv : CXT} {X : Cx} {G : Fr} {sc : Scope} {lv : Nat} {tg x : Expr}, CO CXv X G N sc lv → Facts CXv X G.M lv e.needs → chkI N sc e tg x = true → PI X tg x (tI G e.pure (evi e))) (hk : ∀ sc kws, chkk N sc e kws = false := by intro _ kws; cases kws <;> rfl) : SE N e :=
  ⟨fun c f h => (by rw [hv] at h; cases h), fun c f h => (by rw [hv] at h; cases h), fun c f h => (by rw [hv] at h; cases h), fun c f h => (by rw [ha] at h; cases h), i, fun c f o h => (by rw [ho] at o; cases o), fun c f h => (by rw [hk] at h; cases h)⟩
end
theorem tst_nil {G : Fr} : ∀ σ H Q, tT G E.nil.pure (tstOf .nil (ev .nil)) σ H Q → tYes σ H Q := fun σ H Q ⟨env, F, fs, g, q⟩ => q.done g
theorem tst_evT {u : E} (h : isNilE u = false) : tstOf u (ev u) = evT u := by
  cases u <;> first | rfl | (simp [isNilE] at h)
/-- and, or: a chain -/
def boolW (N : List Str) (e : E) : Prop := ∀ {CXv : CXT} {X : Cx} {G : Fr} {sc : Scope} {lv : Nat} {op : BoolOp} {xs : List Expr} {p : Pos}, CO CXv X G N sc lv → Facts CXv X G.M lv e.needs → chk N true sc e (.BoolOp op xs p) = true → PW X (.BoolOp op xs p) (tT G e.pure (evT e))
theorem sound (N : List Str) : ∀ e : E, SE N e := by
  intro e
  induction e with
  | nil =>
    refine ⟨fun c f h => ?_, fun c f h => ?_, fun c f h => ?_, fun {_ _ _ _ _ xs} c f h => ?_, fun c f h => ?_, fun c f h => ?_, fun {_ _ _ _ _ xs} c f h => (by
      cases xs with
      | nil => exact s_knil
      | cons x xs => exact absurd (show false = true from h) Bool.false_ne_true)⟩
    · simp [chk] at h
    · simp [chk] at h
    · simp [chk] at h
    · cases xs with
      | nil => exact s_anil
      | cons x xs => simp [chks] at h
    · simp [chkI] at h
    · simp [ownL] at h
  | cons a b iha ihb =>
    have kk : ∀ {CXv : CXT} {X : Cx} {G : Fr} {sc : Scope} {lv : Nat} {kws : List Keyword}, CO CXv X G N sc lv → Facts CXv X G.M lv (E.cons a b).needs → chkk N sc (.cons a b) kws = true → PK X kws (tA G (E.cons a b).pure (evs (.cons a b))) := by
      intro CXv X G sc lv xs c f h
      cases xs with
      | nil => cases a <;> exact absurd (show false = true from h) Bool.false_ne_true
      | cons kw xs =>
        obtain ⟨nm, x, kp⟩ := kw
        by_cases h1 : ∃ i, a = .ioa i
        · obtain ⟨i, rfl⟩ := h1
          have h := Bool.and_eq_true_iff.mp (show (nmB N sc i x && chkk N sc b xs) = true from h)
          obtain ⟨n, p, rfl, a1, a2, a3, a4⟩ := nmB_inv c h.1
          exact s_kio a1 a2 a3 a4 (ihb.k c (fact_r f) h.2)
        · by_cases h2 : ∃ i, a = .wka i
          · obtain ⟨i, rfl⟩ := h2
            have h := Bool.and_eq_true_iff.mp (show (nmB N sc i x && chkk N sc b xs) = true from h)
            obtain ⟨n, p, rfl, a1, a2, a3, a4⟩ := nmB_inv c h.1
            exact s_kwk a1 a2 a3 a4 (ihb.k c (fact_r f) h.2)
          · have h3 : ¬ ∃ a', a = .star a' := by
              rintro ⟨a', rfl⟩
              exact absurd (show false = true from h) Bool.false_ne_true
            have h : (chk N false sc a x && chkk N sc b xs) = true := by
              cases a <;> first | exact h | exact absurd ⟨_, rfl⟩ h1 | exact absurd ⟨_, rfl⟩ h2 | exact absurd ⟨_, rfl⟩ h3
            have h := Bool.and_eq_true_iff.mp h
            exact s_kcons (fun i => ⟨fun z => h1 ⟨i, z⟩, fun z => h2 ⟨i, z⟩⟩) (fun b z => h3 ⟨b, z⟩) (iha.v c (fact_l f) h.1) (ihb.k c (fact_r f) h.2)
    refine ⟨fun c f h => ?_, fun c f h => ?_, fun c f h => ?_, fun {_ _ _ sc _ xs} c f h => ?_, fun c f h => ?_, fun c f h => ?_, kk⟩
    · simp [chk] at h
    · simp [chk] at h
    · simp [chk] at h
    · cases xs with
      | nil => cases a <;> simp [chks] at h
      | cons x xs =>
        by_cases h1 : ∃ i, a = .ioa i
        · obtain ⟨i, rfl⟩ := h1
          have h := Bool.and_eq_true_iff.mp (show (nmB N sc i x && chks N sc b xs) = true from h)
          obtain ⟨n, p, rfl, a1, a2, a3, a4⟩ := nmB_inv c h.1
          exact s_aio a1 a2 a3 a4 (ihb.a c (fact_r f) h.2)
        · by_cases h2 : ∃ i, a = .wka i
          · obtain ⟨i, rfl⟩ := h2
            have h := Bool.and_eq_true_iff.mp (show (nmB N sc i x && chks N sc b xs) = true from h)
            obtain ⟨n, p, rfl, a1, a2, a3, a4⟩ := nmB_inv c h.1
            exact s_awk a1 a2 a3 a4 (ihb.a c (fact_r f) h.2)
          · by_cases h3 : ∃ a', a = .star a'
            · obtain ⟨a', rfl⟩ := h3
              cases x with
              | Starred y sp =>
                have h := Bool.and_eq_true_iff.mp (show (chk N false sc (.star a') y && chks N sc b xs) = true from h)
                exact s_astar c.K (iha.v c (fact_l f) h.1) (ihb.a c (fact_r f) h.2)
              | _ => simp [chks, chk] at h
            · have h : (!isStar x && chk N false sc a x && chks N sc b xs) = true := by
                cases a <;> first | exact h | exact absurd ⟨_, rfl⟩ h1 | exact absurd ⟨_, rfl⟩ h2 | exact absurd ⟨_, rfl⟩ h3
              simp only [Bool.and_eq_true, Bool.not_eq_true'] at h
              exact s_acons (fun i => ⟨fun z => h1 ⟨i, z⟩, fun z => h2 ⟨i, z⟩⟩) (fun b z => h3 ⟨b, z⟩) h.1.1 (iha.v c (fact_l f) h.1.2) (ihb.a c (fact_r f) h.2)
    · simp [chkI] at h
    · simp [ownL] at h
  | name i =>
    refine SE.val (fun _ xs => by cases xs <;> rfl) (fun _ _ _ => rfl) rfl (fun sc x h => ⟨h, ?_⟩) fun c f h => ?_
    · cases x <;> first | rfl | (simp [chk, nmB] at h)
    · obtain ⟨n, p, rfl, a1, a2, a3, a4⟩ := nmB_inv c h
      exact s_name a1 a2 a3 a4
  | lit d =>
    refine SE.val (fun _ xs => by cases xs <;> rfl) (fun _ _ _ => rfl) rfl (fun sc x h => ?_) fun {_ _ _ _ _ x} c f h => ?_
    · cases x <;> simp [chk] at h
    · cases x with
      | Constant k j p => exact s_lit (by simpa [chk] using h)
      | _ => simp [chk] at h
  | bin op a b iha ihb =>
    refine SE.own (fun _ xs => by cases xs <;> rfl) (fun _ _ _ => rfl) (fun sc x h => ?_) fun {_ _ _ _ _ x} c f h => ?_
    · cases x <;> simp [chk] at h
    · cases x with
      | BinOp x o y p =>
        simp only [chk, Bool.not_false, Bool.true_and, Bool.and_eq_true, decide_eq_true_eq] at h
        obtain ⟨⟨rfl, h1⟩, h2⟩ := h
        exact n_bin c.K (iha.v c (fact_l f) h1) (ihb.v c (fact_r f) h2)
      | _ => simp [chk] at h
  | neg a iha =>
    refine SE.val (fun _ xs => by cases xs <;> rfl) (fun _ _ _ => rfl) rfl (fun sc x h => ?_) fun {_ _ _ _ _ x} c f h => ?_
    · cases x with
      | UnaryOp o x p => cases o <;> simp [chk] at h
      | _ => simp [chk] at h
    · cases x with
      | UnaryOp o x p =>
        cases o with
        | USub => exact s_neg (iha.v c f (by simpa [chk] using h))
        | _ => simp [chk] at h
      | _ => simp [chk] at h
  | cmp op a b iha ihb =>
    refine ⟨fun {_ _ _ _ _ x} c f h => ?_, fun {_ _ _ _ _ x} c f h => ?_, fun c f h => ?_, fun {_ _ _ _ _ xs} c f h => ?_, fun c f h => ?_, fun c f o h => ?_, fun {_ _ _ _ _ kws} c f h => (by cases kws <;> exact absurd (show false = true from h) Bool.false_ne_true)⟩
    · cases x with
      | Compare x os ys p =>
        cases os with
        | nil => simp [chk] at h
        | cons o os => cases os with
          | cons _ _ => simp [chk] at h
          | nil => cases ys with
            | nil => simp [chk] at h
            | cons y ys => cases ys with
              | cons _ _ => simp [chk] at h
              | nil =>
                simp only [chk, Bool.and_eq_true, decide_eq_true_eq, Bool.not_eq_true'] at h
                obtain ⟨⟨⟨rfl, hm⟩, h1⟩, h2⟩ := h
                exact s_cmp c.K c.hu hm (iha.v c (fact_l f) h1) (ihb.v c (fact_r f) h2)
      | _ => simp [chk] at h
    · cases x with
      | Compare x os ys p =>
        cases os with
        | nil => simp [chk] at h
        | cons o os => cases os with
          | cons _ _ => simp [chk] at h
          | nil => cases ys with
            | nil => simp [chk] at h
            | cons y ys => cases ys with
              | cons _ _ => simp [chk] at h
              | nil =>
                simp only [chk, Bool.and_eq_true, decide_eq_true_eq, Bool.not_eq_true'] at h
                obtain ⟨⟨⟨rfl, hm⟩, h1⟩, h2⟩ := h
                exact s_cmpT c.K c.hu hm (iha.v c (fact_l f) h1) (ihb.v c (fact_r f) h2)
      | _ => simp [chk] at h
    · simp [chk] at h
    · cases xs <;> simp [chks, chk] at h
    · simp [chkI] at h
    · simp [ownL] at o
  | chn op op' a b c iha ihb ihc =>
    refine ⟨fun {_ _ _ _ _ x} c f h => ?_, fun {_ _ _ _ _ x} c f h => ?_, fun {_ _ _ _ _ op xs p} c f h => ?_, fun {_ _ _ _ _ xs} c f h => ?_, fun c f h => ?_, fun c f o h => ?_, fun {_ _ _ _ _ kws} c f h => (by cases kws <;> exact absurd (show false = true from h) Bool.false_ne_true)⟩
    · cases x with
      | Compare x zx1 zx2 p =>
        cases zx1 with
        | nil => simp [chk] at h
        | cons o tzx1 =>
          cases tzx1 with
          | nil => simp [chk] at h
          | cons o' ttzx1 =>
            cases ttzx1 with
            | nil =>
              cases zx2 with
              | nil => simp [chk] at h
              | cons y tzx2 =>
                cases tzx2 with
                | nil => simp [chk] at h
                | cons z ttzx2 =>
                  cases ttzx2 with
                  | nil =>
                    simp only [chk, Bool.not_false, Bool.true_and, Bool.and_eq_true, decide_eq_true_eq, Bool.not_eq_true'] at h
                    obtain ⟨⟨⟨⟨⟨rfl, rfl⟩, hm⟩, h1⟩, h2⟩, h3⟩ := h
                    exact s_chn c.K c.hu hm (iha.v c (fact_l f) h1) (ihb.v c (fact_l (fact_r f)) h2) (ihc.v c (fact_r (fact_r f)) h3)
                  | cons _ _ => simp [chk] at h
            | cons _ _ => simp [chk] at h
      | _ => simp [chk] at h
    · cases x with
      | Compare x zx1 zx2 p =>
        cases zx1 with
        | nil => simp [chk] at h
        | cons o tzx1 =>
          cases tzx1 with
          | nil => simp [chk] at h
          | cons o' ttzx1 =>
            cases ttzx1 with
            | nil =>
              cases zx2 with
              | nil => simp [chk] at h
              | cons y tzx2 =>
                cases tzx2 with
                | nil => simp [chk] at h
                | cons z ttzx2 =>
                  cases ttzx2 with
                  | nil =>
                    simp only [chk, Bool.not_false, Bool.true_and, Bool.and_eq_true, decide_eq_true_eq, Bool.not_eq_true'] at h
                    obtain ⟨⟨⟨⟨⟨rfl, rfl⟩, hm⟩, h1⟩, h2⟩, h3⟩ := h
                    exact s_chnT c.K c.hu hm (iha.v c (fact_l f) h1) (ihb.v c (fact_l (fact_r f)) h2) (ihc.v c (fact_r (fact_r f)) h3)
                  | cons _ _ => simp [chk] at h
            | cons _ _ => simp [chk] at h
      | _ => simp [chk] at h
    · simp [chk] at h
    · cases xs <;> simp [chks, chk] at h
    · simp [chkI] at h
    · simp [ownL] at o
  | andv a b iha ihb =>
    refine ⟨fun {_ _ _ _ _ x} c f h => ?_, fun {_ _ _ _ _ x} c f h => ?_, fun {_ _ _ _ _ op xs p} c f h => ?_, fun {_ _ _ _ _ xs} c f h => ?_, fun c f h => ?_, fun c f o h => ?_, fun {_ _ _ _ _ kws} c f h => (by cases kws <;> exact absurd (show false = true from h) Bool.false_ne_true)⟩
    · cases x with
      | BoolOp zx0 zx1 p =>
        cases zx0 with
        | And  =>
          cases zx1 with
          | nil => simp [chk] at h
          | cons x tzx1 =>
            cases tzx1 with
            | nil => simp [chk] at h
            | cons y rest =>
              simp only [chk, Bool.and_eq_true] at h
              cases rest with
              | nil => exact s_and (iha.v c (fact_l f) h.1) (pe_one (ihb.v c (fact_r f) h.2))
              | cons z rest => exact s_and (iha.v c (fact_l f) h.1) (ihb.v c (fact_r f) h.2)
        | _ => simp [chk] at h
      | _ => simp [chk] at h
    · cases x with
      | BoolOp zx0 zx1 p =>
        cases zx0 with
        | And  =>
          cases zx1 with
          | nil => simp [chk] at h
          | cons x tzx1 =>
            cases tzx1 with
            | nil => simp [chk] at h
            | cons y rest =>
              simp only [chk, Bool.and_eq_true] at h
              cases rest with
              | nil => exact PW.pt (pw_andT (iha.t c (fact_l f) h.1) (pw_and1 (ihb.t c (fact_r f) h.2)))
              | cons z rest => exact PW.pt (pw_andT (iha.t c (fact_l f) h.1) (ihb.w c (fact_r f) h.2))
        | _ => simp [chk] at h
      | _ => simp [chk] at h
    · cases op with
      | And  =>
        cases xs with
        | nil => simp [chk] at h
        | cons x txs =>
          cases txs with
          | nil => simp [chk] at h
          | cons y rest =>
            simp only [chk, Bool.and_eq_true] at h
            cases rest with
            | nil => exact pw_andT (iha.t c (fact_l f) h.1) (pw_and1 (ihb.t c (fact_r f) h.2))
            | cons z rest => exact pw_andT (iha.t c (fact_l f) h.1) (ihb.w c (fact_r f) h.2)
      | _ => simp [chk] at h
    · cases xs <;> simp [chks, chk] at h
    · simp [chkI] at h
    · simp [ownL] at o
  | orv a b iha ihb =>
    refine ⟨fun {_ _ _ _ _ x} c f h => ?_, fun {_ _ _ _ _ x} c f h => ?_, fun {_ _ _ _ _ op xs p} c f h => ?_, fun {_ _ _ _ _ xs} c f h => ?_, fun c f h => ?_, fun c f o h => ?_, fun {_ _ _ _ _ kws} c f h => (by cases kws <;> exact absurd (show false = true from h) Bool.false_ne_true)⟩
    · cases x with
      | BoolOp zx0 zx1 p =>
        cases zx0 with
        | Or  =>
          cases zx1 with
          | nil => simp [chk] at h
          | cons x tzx1 =>
            cases tzx1 with
            | nil => simp [chk] at h
            | cons y rest =>
              simp only [chk, Bool.and_eq_true] at h
              cases rest with
              | nil => exact s_or (iha.v c (fact_l f) h.1) (pe_one (ihb.v c (fact_r f) h.2))
              | cons z rest => exact s_or (iha.v c (fact_l f) h.1) (ihb.v c (fact_r f) h.2)
        | _ => simp [chk] at h
      | _ => simp [chk] at h
    · cases x with
      | BoolOp zx0 zx1 p =>
        cases zx0 with
        | Or  =>
          cases zx1 with
          | nil => simp [chk] at h
          | cons x tzx1 =>
            cases tzx1 with
            | nil => simp [chk] at h
            | cons y rest =>
              simp only [chk, Bool.and_eq_true] at h
              cases rest with
              | nil => exact PW.pt (pw_orT (iha.t c (fact_l f) h.1) (pw_or1 (ihb.t c (fact_r f) h.2)))
              | cons z rest => exact PW.pt (pw_orT (iha.t c (fact_l f) h.1) (ihb.w c (fact_r f) h.2))
        | _ => simp [chk] at h
      | _ => simp [chk] at h
    · cases op with
      | Or  =>
        cases xs with
        | nil => simp [chk] at h
        | cons x txs =>
          cases txs with
          | nil => simp [chk] at h
          | cons y rest =>
            simp only [chk, Bool.and_eq_true] at h
            cases rest with
            | nil => exact pw_orT (iha.t c (fact_l f) h.1) (pw_or1 (ihb.t c (fact_r f) h.2))
            | cons z rest => exact pw_orT (iha.t c (fact_l f) h.1) (ihb.w c (fact_r f) h.2)
      | _ => simp [chk] at h
    · cases xs <;> simp [chks, chk] at h
    · simp [chkI] at h
    · simp [ownL] at o
  | notv a iha =>
    refine ⟨fun {_ _ _ _ _ x} c f h => ?_, fun {_ _ _ _ _ x} c f h => ?_, fun {_ _ _ _ _ op xs p} c f h => ?_, fun {_ _ _ _ _ xs} c f h => ?_, fun c f h => ?_, fun c f o h => ?_, fun {_ _ _ _ _ kws} c f h => (by cases kws <;> exact absurd (show false = true from h) Bool.false_ne_true)⟩
    · cases x with
      | UnaryOp zx0 x p =>
        cases zx0 with
        | Not  =>
          simp only [chk] at h
          exact s_not (iha.v c f h)
        | _ => simp [chk] at h
      | _ => simp [chk] at h
    · cases x with
      | UnaryOp zx0 x p =>
        cases zx0 with
        | Not  =>
          simp only [chk] at h
          exact s_notT (iha.t c f h)
        | _ => simp [chk] at h
      | _ => simp [chk] at h
    · simp [chk] at h
    · cases xs <;> simp [chks, chk] at h
    · simp [chkI] at h
    · simp [ownL] at o
  | ife u a b ihu iha ihb =>
    refine SE.val (fun _ xs => by cases xs <;> rfl) (fun _ _ _ => rfl) rfl (fun sc x h => ?_) (fun {CXv X G sc lv x} c f h => ?_)
    · cases x with
      | IfExp c0 x y p =>
        simp [chk] at h
      | _ => simp [chk] at h
    · cases x with
      | IfExp c0 x y p =>
        simp only [chk, Bool.not_false, Bool.true_and, Bool.and_eq_true, decide_eq_true_eq, Bool.not_eq_true'] at h
        exact s_ife (ihu.t c (fact_l f) h.1.1) (iha.v c (fact_l (fact_r f)) h.1.2) (ihb.v c (fact_r (fact_r f)) h.2)
      | _ => simp [chk] at h
  | tup es ihe =>
    refine SE.val (fun _ xs => by cases xs <;> rfl) (fun _ _ _ => rfl) rfl (fun sc x h => ?_) (fun {CXv X G sc lv x} c f h => ?_)
    · cases x with
      | Tuple xs k p =>
        simp [chk] at h
      | _ => simp [chk] at h
    · cases x with
      | Tuple xs k p =>
        simp only [chk, Bool.not_false, Bool.true_and, Bool.and_eq_true, decide_eq_true_eq, Bool.not_eq_true'] at h
        exact s_tup (ihe.a c f h)
      | _ => simp [chk] at h
  | lst es ihe =>
    refine SE.own (fun _ xs => by cases xs <;> rfl) (fun _ _ _ => rfl) (fun sc x h => ?_) (fun {CXv X G sc lv x} c f h => ?_)
    · cases x with
      | List xs p =>
        simp [chk] at h
      | _ => simp [chk] at h
    · cases x with
      | List xs p =>
        simp only [chk, Bool.not_false, Bool.true_and, Bool.and_eq_true, decide_eq_true_eq, Bool.not_eq_true'] at h
        exact n_lst (ihe.a c f h)
      | _ => simp [chk] at h
  | idx a b iha ihb =>
    refine SE.val (fun _ xs => by cases xs <;> rfl) (fun _ _ _ => rfl) rfl (fun sc x h => ⟨?_, ?_⟩) (fun {CXv X G sc lv x} c f h => ?_)
    · cases x with
      | Subscript x y p =>
        simpa [chk] using h
      | _ => simp [chk] at h
    · cases x with
      | Subscript x y p =>
        rfl
      | _ => simp [chk] at h
    · cases x with
      | Subscript x y p =>
        simp only [chk, Bool.not_false, Bool.true_and, Bool.and_eq_true, decide_eq_true_eq, Bool.not_eq_true'] at h
        exact s_idx c.hu c.K (plainIx_of h.1.1) (iha.v c (fact_l f) h.1.2) (ihb.v c (fact_r f) h.2)
      | _ => simp [chk] at h
  | slc a lo hi iha ihl ihh =>
    refine SE.own (fun _ xs => by cases xs <;> rfl) (fun _ _ _ => rfl) (fun sc x h => ?_) (fun {CXv X G sc lv x} c f h => ?_)
    · cases x with
      | Subscript x zx1 p =>
        cases zx1 with
        | Slice l hh st p2 =>
          cases st <;> simp [chk] at h
        | _ => simp [chk] at h
      | _ => simp [chk] at h
    · cases x with
      | Subscript x zx1 p =>
        cases zx1 with
        | Slice l hh st p2 =>
          cases st with
          | some _ => simp [chk] at h
          | none =>
            simp only [chk, Bool.not_false, Bool.true_and, Bool.and_eq_true] at h
            obtain ⟨⟨h1, h2⟩, h3⟩ := h
            refine n_slc c.K (iha.v c (fact_l f) h1) ?_ ?_
            · cases l with
              | none => cases lo <;> first | exact tO_nil | (simp [isNilE] at h2)
              | some l =>
                simp only [Bool.and_eq_true, Bool.not_eq_true'] at h2
                exact tO_prt (by rintro rfl; simp [isNilE] at h2) (ihl.v c (fact_l (fact_r f)) h2.2)
            · cases hh with
              | none => cases hi <;> first | exact tO_nil | (simp [isNilE] at h3)
              | some l =>
                simp only [Bool.and_eq_true, Bool.not_eq_true'] at h3
                exact tO_prt (by rintro rfl; simp [isNilE] at h3) (ihh.v c (fact_r (fact_r f)) h3.2)
        | _ => simp [chk] at h
      | _ => simp [chk] at h
  | app fd es ihe =>
    have v : ∀ {CXv : CXT} {X : Cx} {G : Fr} {sc : Scope} {lv : Nat} {x : Expr}, CO CXv X G N sc lv → Facts CXv X G.M lv (E.app fd es).needs → chk N false sc (.app fd es) x = true → PE X x (tE G (E.app fd es).pure (ev (.app fd es))) := by
      intro CXv X G sc lv x c f h
      cases x with
      | Call zx0 zx1 zx2 p =>
        cases zx0 with
        | Name g pp =>
          cases zx1 with
          | nil => simp [chk] at h
          | cons x xs =>
            cases zx2 with
            | nil =>
              simp only [chk, Bool.not_false, Bool.true_and, Bool.and_eq_true, decide_eq_true_eq, Bool.not_eq_true'] at h
              obtain ⟨⟨⟨rfl, hg⟩, hs⟩, h1⟩ := h
              obtain ⟨fa, F1, hm, hk⟩ := (fact_h f).ex
              exact s_app F1 hm hk c.room c.pass (glB_inv c hg).1 (glB_inv c hg).2 hs (ihe.a c (fact_t f) h1)
            | cons _ _ => simp [chk] at h
        | _ => simp [chk] at h
      | _ => simp [chk] at h
    have q : ∀ sc x, chk N true sc (.app fd es) x = true → chk N false sc (.app fd es) x = true ∧ plainT x = true := by
      intro sc x h
      cases x with
      | Call zx0 zx1 zx2 p =>
        cases zx0 with
        | Name g pp =>
          cases zx1 with
          | nil => simp [chk] at h
          | cons x xs =>
            cases zx2 with
            | nil =>
              exact ⟨by simpa [chk] using h, rfl⟩
            | cons _ _ => simp [chk] at h
        | _ => simp [chk] at h
      | _ => simp [chk] at h
    have s := SE.cho (fun _ xs => by cases xs <;> rfl) (fun _ _ _ => rfl) q v
    exact s fun {CXv X G sc lv x} c f o h => by
      cases x with
      | Call zx0 zx1 zx2 p =>
        cases zx0 with
        | Name g pp =>
          cases zx1 with
          | nil => simp [chk] at h
          | cons x xs =>
            cases zx2 with
            | nil =>
              simp only [chk, Bool.not_false, Bool.true_and, Bool.and_eq_true, decide_eq_true_eq, Bool.not_eq_true'] at h
              obtain ⟨⟨⟨rfl, hg⟩, hs⟩, h1⟩ := h
              obtain ⟨fa, F1, hm, hk⟩ := (fact_h f).ex
              exact l_app F1 (by simpa [ownL] using o) hm hk c.room c.pass (glB_inv c hg).1 (glB_inv c hg).2 hs (ihe.a c (fact_t f) h1)
            | cons _ _ => simp [chk] at h
        | _ => simp [chk] at h
      | _ => simp [chk] at h
  | blt b es ihe =>
    refine SE.own (fun _ xs => by cases xs <;> rfl) (fun _ _ _ => rfl) (fun sc x h => ⟨?_, ?_⟩) (fun {CXv X G sc lv x} c f h => ?_)
    · cases x with
      | Call zx0 zx1 zx2 p =>
        cases zx0 with
        | Name g pp =>
          cases zx1 with
          | nil => simp [chk] at h
          | cons x xs =>
            cases zx2 with
            | nil =>
              simpa [chk] using h
            | cons _ _ => simp [chk] at h
        | _ => simp [chk] at h
      | _ => simp [chk] at h
    · cases x with
      | Call zx0 zx1 zx2 p =>
        cases zx0 with
        | Name g pp =>
          cases zx1 with
          | nil => simp [chk] at h
          | cons x xs =>
            cases zx2 with
            | nil =>
              rfl
            | cons _ _ => simp [chk] at h
        | _ => simp [chk] at h
      | _ => simp [chk] at h
    · cases x with
      | Call zx0 zx1 zx2 p =>
        cases zx0 with
        | Name g pp =>
          cases zx1 with
          | nil => simp [chk] at h
          | cons x xs =>
            cases zx2 with
            | nil =>
              simp only [chk, Bool.not_false, Bool.true_and, Bool.and_eq_true, decide_eq_true_eq, Bool.not_eq_true'] at h
              obtain ⟨⟨⟨rfl, hg⟩, hs⟩, h1⟩ := h
              exact n_blt c.K c.calm (glB_inv c hg).1 (c.nb _) hs (ihe.a c f h1)
            | cons _ _ => simp [chk] at h
        | _ => simp [chk] at h
      | _ => simp [chk] at h
  | fld k g' a iha =>
    refine SE.val (fun _ xs => by cases xs <;> rfl) (fun _ _ _ => rfl) rfl (fun sc x h => ⟨?_, ?_⟩) (fun {CXv X G sc lv x} c f h => ?_)
    · cases x with
      | Attribute x g p =>
        simpa [chk] using h
      | _ => simp [chk] at h
    · cases x with
      | Attribute x g p =>
        rfl
      | _ => simp [chk] at h
    · cases x with
      | Attribute x g p =>
        simp only [chk, Bool.not_false, Bool.true_and, Bool.and_eq_true, decide_eq_true_eq, Bool.not_eq_true'] at h
        obtain ⟨⟨rfl, hy⟩, h1⟩ := h
        exact s_fld (fact_h f) (ab_ok hy _ _) (iha.v c (fact_t f) h1)
      | _ => simp [chk] at h
  | prp k fd a iha =>
    have v : ∀ {CXv : CXT} {X : Cx} {G : Fr} {sc : Scope} {lv : Nat} {x : Expr}, CO CXv X G N sc lv → Facts CXv X G.M lv (E.prp k fd a).needs → chk N false sc (.prp k fd a) x = true → PE X x (tE G (E.prp k fd a).pure (ev (.prp k fd a))) := by
      intro CXv X G sc lv x c f h
      cases x with
      | Attribute x g p =>
        simp only [chk, Bool.not_false, Bool.true_and, Bool.and_eq_true, decide_eq_true_eq, Bool.not_eq_true'] at h
        obtain ⟨⟨rfl, hy⟩, h1⟩ := h
        exact s_prp (fact_h f) c.room c.pass0 hy (iha.v c (fact_t f) h1)
      | _ => simp [chk] at h
    have q : ∀ sc x, chk N true sc (.prp k fd a) x = true → chk N false sc (.prp k fd a) x = true ∧ plainT x = true := by
      intro sc x h
      cases x with
      | Attribute x g p =>
        exact ⟨by simpa [chk] using h, rfl⟩
      | _ => simp [chk] at h
    have s := SE.cho (fun _ xs => by cases xs <;> rfl) (fun _ _ _ => rfl) q v
    exact s fun {CXv X G sc lv x} c f o h => by
      cases x with
      | Attribute x g p =>
        simp only [chk, Bool.not_false, Bool.true_and, Bool.and_eq_true, decide_eq_true_eq, Bool.not_eq_true'] at h
        obtain ⟨⟨rfl, hy⟩, h1⟩ := h
        exact l_prp (fact_h f) (by simpa [ownL] using o) c.room c.pass0 hy (iha.v c (fact_t f) h1)
      | _ => simp [chk] at h
  | mth k fd o es iho ihe =>
    refine SE.val (fun _ xs => by cases xs <;> rfl) (fun _ _ _ => rfl) rfl (fun sc x h => ⟨?_, ?_⟩) (fun {CXv X G sc lv x} c f h => ?_)
    · cases x with
      | Call zx0 xs zx2 p =>
        cases zx0 with
        | Attribute y g ap =>
          cases zx2 with
          | nil =>
            simpa [chk] using h
          | cons _ _ => simp [chk] at h
        | _ => simp [chk] at h
      | _ => simp [chk] at h
    · cases x with
      | Call zx0 xs zx2 p =>
        cases zx0 with
        | Attribute y g ap =>
          cases zx2 with
          | nil =>
            rfl
          | cons _ _ => simp [chk] at h
        | _ => simp [chk] at h
      | _ => simp [chk] at h
    · cases x with
      | Call zx0 xs zx2 p =>
        cases zx0 with
        | Attribute y g ap =>
          cases zx2 with
          | nil =>
            simp only [chk, Bool.not_false, Bool.true_and, Bool.and_eq_true, decide_eq_true_eq, Bool.not_eq_true'] at h
            obtain ⟨⟨⟨⟨⟨⟨rfl, hy⟩, hs⟩, hl⟩, hp⟩, h1⟩, h2⟩ := h
            cases xs with
            | cons x xs => exact s_mth (fact_h f) c.room c.pass hy hs hl hp (iho.v c (fact_l (fact_t f)) h1) (ihe.a c (fact_r (fact_t f)) h2)
            | nil =>
              have : es = .nil := by
                cases es with
                | nil => rfl
                | cons a b => cases a <;> simp [chks] at h2
                | _ => simp [chks] at h2
              subst this
              exact s_mth0 (fact_h f) c.room c.pass hy hp (iho.v c (fact_l (fact_t f)) h1)
          | cons _ _ => simp [chk] at h
        | _ => simp [chk] at h
      | _ => simp [chk] at h
  | lno k fd a iha =>
    refine SE.val (fun _ xs => by cases xs <;> rfl) (fun _ _ _ => rfl) rfl (fun sc x h => ⟨?_, ?_⟩) (fun {CXv X G sc lv x} c f h => ?_)
    · cases x with
      | Call zx0 zx1 zx2 p =>
        cases zx0 with
        | Name g pp =>
          cases zx1 with
          | nil => simp [chk] at h
          | cons x tzx1 =>
            cases tzx1 with
            | nil =>
              cases zx2 with
              | nil =>
                simpa [chk] using h
              | cons _ _ => simp [chk] at h
            | cons _ _ => simp [chk] at h
        | _ => simp [chk] at h
      | _ => simp [chk] at h
    · cases x with
      | Call zx0 zx1 zx2 p =>
        cases zx0 with
        | Name g pp =>
          cases zx1 with
          | nil => simp [chk] at h
          | cons x tzx1 =>
            cases tzx1 with
            | nil =>
              cases zx2 with
              | nil =>
                rfl
              | cons _ _ => simp [chk] at h
            | cons _ _ => simp [chk] at h
        | _ => simp [chk] at h
      | _ => simp [chk] at h
    · cases x with
      | Call zx0 zx1 zx2 p =>
        cases zx0 with
        | Name g pp =>
          cases zx1 with
          | nil => simp [chk] at h
          | cons x tzx1 =>
            cases tzx1 with
            | nil =>
              cases zx2 with
              | nil =>
                simp only [chk, Bool.not_false, Bool.true_and, Bool.and_eq_true, decide_eq_true_eq, Bool.not_eq_true'] at h
                obtain ⟨⟨⟨rfl, hg⟩, hs⟩, h1⟩ := h
                exact s_lno (fact_h f) c.room c.pass (glB_inv c hg).1 (c.nb .len) hs (iha.v c (fact_t f) h1)
              | cons _ _ => simp [chk] at h
            | cons _ _ => simp [chk] at h
        | _ => simp [chk] at h
      | _ => simp [chk] at h
  | addo k fd a b iha ihb =>
    refine SE.val (fun _ xs => by cases xs <;> rfl) (fun _ _ _ => rfl) rfl (fun sc x h => ?_) (fun {CXv X G sc lv x} c f h => ?_)
    · cases x with
      | BinOp x zx1 y p =>
        cases zx1 with
        | Add  =>
          simp [chk] at h
        | _ => simp [chk] at h
      | _ => simp [chk] at h
    · cases x with
      | BinOp x zx1 y p =>
        cases zx1 with
        | Add  =>
          simp only [chk, Bool.not_false, Bool.true_and, Bool.and_eq_true, decide_eq_true_eq, Bool.not_eq_true'] at h
          exact s_addo (fact_h f) c.room c.pass (iha.v c (fact_l (fact_t f)) h.1) (ihb.v c (fact_r (fact_t f)) h.2)
        | _ => simp [chk] at h
      | _ => simp [chk] at h
  | eqo k fd a b iha ihb =>
    refine ⟨fun {_ _ _ _ _ x} c f h => ?_, fun {_ _ _ _ _ x} c f h => ?_, fun {_ _ _ _ _ op xs p} c f h => ?_, fun {_ _ _ _ _ xs} c f h => ?_, fun c f h => ?_, fun c f o h => ?_, fun {_ _ _ _ _ kws} c f h => (by cases kws <;> exact absurd (show false = true from h) Bool.false_ne_true)⟩
    · cases x with
      | Compare x zx1 zx2 p =>
        cases zx1 with
        | nil => simp [chk] at h
        | cons ezx1 tzx1 =>
          cases ezx1 with
          | Eq  =>
            cases tzx1 with
            | nil =>
              cases zx2 with
              | nil => simp [chk] at h
              | cons y tzx2 =>
                cases tzx2 with
                | nil =>
                  simp only [chk, Bool.not_false, Bool.true_and, Bool.and_eq_true, decide_eq_true_eq, Bool.not_eq_true'] at h
                  exact s_eqo c.K (fact_h f) c.room c.pass (iha.v c (fact_l (fact_t f)) h.1) (ihb.v c (fact_r (fact_t f)) h.2)
                | cons _ _ => simp [chk] at h
            | cons _ _ => simp [chk] at h
          | _ => simp [chk] at h
      | _ => simp [chk] at h
    · cases x with
      | Compare x zx1 zx2 p =>
        cases zx1 with
        | nil => simp [chk] at h
        | cons ezx1 tzx1 =>
          cases ezx1 with
          | Eq  =>
            cases tzx1 with
            | nil =>
              cases zx2 with
              | nil => simp [chk] at h
              | cons y tzx2 =>
                cases tzx2 with
                | nil =>
                  simp only [chk, Bool.not_false, Bool.true_and, Bool.and_eq_true, decide_eq_true_eq, Bool.not_eq_true'] at h
                  exact s_eqoT c.K (fact_h f) c.room c.pass (iha.v c (fact_l (fact_t f)) h.1) (ihb.v c (fact_r (fact_t f)) h.2)
                | cons _ _ => simp [chk] at h
            | cons _ _ => simp [chk] at h
          | _ => simp [chk] at h
      | _ => simp [chk] at h
    · simp [chk] at h
    · cases xs <;> simp [chks, chk] at h
    · simp [chkI] at h
    · simp [ownL] at o
  | mk k fd es ihe =>
    refine SE.val (fun _ xs => by cases xs <;> rfl) (fun _ _ _ => rfl) rfl (fun sc x h => ⟨?_, ?_⟩) (fun {CXv X G sc lv x} c f h => ?_)
    · cases x with
      | Call zx0 zx1 zx2 p =>
        cases zx0 with
        | Name g pp =>
          cases zx1 with
          | nil => simp [chk] at h
          | cons x xs =>
            cases zx2 with
            | nil =>
              simpa [chk] using h
            | cons _ _ => simp [chk] at h
        | _ => simp [chk] at h
      | _ => simp [chk] at h
    · cases x with
      | Call zx0 zx1 zx2 p =>
        cases zx0 with
        | Name g pp =>
          cases zx1 with
          | nil => simp [chk] at h
          | cons x xs =>
            cases zx2 with
            | nil =>
              rfl
            | cons _ _ => simp [chk] at h
        | _ => simp [chk] at h
      | _ => simp [chk] at h
    · cases x with
      | Call zx0 zx1 zx2 p =>
        cases zx0 with
        | Name g pp =>
          cases zx1 with
          | nil => simp [chk] at h
          | cons x xs =>
            cases zx2 with
            | nil =>
              simp only [chk, Bool.not_false, Bool.true_and, Bool.and_eq_true, decide_eq_true_eq, Bool.not_eq_true'] at h
              obtain ⟨⟨⟨rfl, hg⟩, hs⟩, h1⟩ := h
              exact s_mk (fact_h f) c.room c.pass (glB_inv c hg).1 (glB_inv c hg).2 hs (ihe.a c (fact_t f) h1)
            | cons _ _ => simp [chk] at h
        | _ => simp [chk] at h
      | _ => simp [chk] at h
  | isi k nm a iha =>
    refine SE.val (fun _ xs => by cases xs <;> rfl) (fun _ _ _ => rfl) rfl (fun sc x h => ⟨?_, ?_⟩) (fun {CXv X G sc lv x} c f h => ?_)
    · cases x with
      | Call zx0 zx1 zx2 p =>
        cases zx0 with
        | Name g pp =>
          cases zx1 with
          | nil => simp [chk] at h
          | cons x tzx1 =>
            cases tzx1 with
            | nil => simp [chk] at h
            | cons etzx1 ttzx1 =>
              cases etzx1 with
              | Name hh hp =>
                cases ttzx1 with
                | nil =>
                  cases zx2 with
                  | nil =>
                    simpa [chk] using h
                  | cons _ _ => simp [chk] at h
                | cons _ _ => simp [chk] at h
              | _ => simp [chk] at h
        | _ => simp [chk] at h
      | _ => simp [chk] at h
    · cases x with
      | Call zx0 zx1 zx2 p =>
        cases zx0 with
        | Name g pp =>
          cases zx1 with
          | nil => simp [chk] at h
          | cons x tzx1 =>
            cases tzx1 with
            | nil => simp [chk] at h
            | cons etzx1 ttzx1 =>
              cases etzx1 with
              | Name hh hp =>
                cases ttzx1 with
                | nil =>
                  cases zx2 with
                  | nil =>
                    rfl
                  | cons _ _ => simp [chk] at h
                | cons _ _ => simp [chk] at h
              | _ => simp [chk] at h
        | _ => simp [chk] at h
      | _ => simp [chk] at h
    · cases x with
      | Call zx0 zx1 zx2 p =>
        cases zx0 with
        | Name g pp =>
          cases zx1 with
          | nil => simp [chk] at h
          | cons x tzx1 =>
            cases tzx1 with
            | nil => simp [chk] at h
            | cons etzx1 ttzx1 =>
              cases etzx1 with
              | Name hh hp =>
                cases ttzx1 with
                | nil =>
                  cases zx2 with
                  | nil =>
                    simp only [chk, Bool.not_false, Bool.true_and, Bool.and_eq_true, decide_eq_true_eq, Bool.not_eq_true'] at h
                    obtain ⟨⟨⟨⟨⟨rfl, hg⟩, rfl⟩, hgc⟩, hs⟩, h1⟩ := h
                    exact s_isi c.K (fact_h f) (glB_inv c hg).1 (glB_inv c hgc).1 (glB_inv c hgc).2 hs (iha.v c (fact_t f) h1)
                  | cons _ _ => simp [chk] at h
                | cons _ _ => simp [chk] at h
              | _ => simp [chk] at h
        | _ => simp [chk] at h
      | _ => simp [chk] at h
  | lrg a b iha ihb =>
    refine SE.own (fun _ xs => by cases xs <;> rfl) (fun _ _ _ => rfl) (fun sc x h => ⟨?_, ?_⟩) (fun {CXv X G sc lv x} c f h => ?_)
    · cases x with
      | Call zx0 zx1 zx2 p =>
        cases zx0 with
        | Name g pp =>
          cases zx1 with
          | nil => simp [chk] at h
          | cons ezx1 tzx1 =>
            cases ezx1 with
            | Call zezx10 zezx11 zezx12 p2 =>
              cases zezx10 with
              | Name hh hp =>
                cases zezx11 with
                | nil => simp [chk] at h
                | cons x tzezx11 =>
                  cases tzezx11 with
                  | nil => simp [chk] at h
                  | cons y ttzezx11 =>
                    cases ttzezx11 with
                    | nil =>
                      cases zezx12 with
                      | nil =>
                        cases tzx1 with
                        | nil =>
                          cases zx2 with
                          | nil =>
                            simpa [chk] using h
                          | cons _ _ => simp [chk] at h
                        | cons _ _ => simp [chk] at h
                      | cons _ _ => simp [chk] at h
                    | cons _ _ => simp [chk] at h
              | _ => simp [chk] at h
            | _ => simp [chk] at h
        | _ => simp [chk] at h
      | _ => simp [chk] at h
    · cases x with
      | Call zx0 zx1 zx2 p =>
        cases zx0 with
        | Name g pp =>
          cases zx1 with
          | nil => simp [chk] at h
          | cons ezx1 tzx1 =>
            cases ezx1 with
            | Call zezx10 zezx11 zezx12 p2 =>
              cases zezx10 with
              | Name hh hp =>
                cases zezx11 with
                | nil => simp [chk] at h
                | cons x tzezx11 =>
                  cases tzezx11 with
                  | nil => simp [chk] at h
                  | cons y ttzezx11 =>
                    cases ttzezx11 with
                    | nil =>
                      cases zezx12 with
                      | nil =>
                        cases tzx1 with
                        | nil =>
                          cases zx2 with
                          | nil =>
                            rfl
                          | cons _ _ => simp [chk] at h
                        | cons _ _ => simp [chk] at h
                      | cons _ _ => simp [chk] at h
                    | cons _ _ => simp [chk] at h
              | _ => simp [chk] at h
            | _ => simp [chk] at h
        | _ => simp [chk] at h
      | _ => simp [chk] at h
    · cases x with
      | Call zx0 zx1 zx2 p =>
        cases zx0 with
        | Name g pp =>
          cases zx1 with
          | nil => simp [chk] at h
          | cons ezx1 tzx1 =>
            cases ezx1 with
            | Call zezx10 zezx11 zezx12 p2 =>
              cases zezx10 with
              | Name hh hp =>
                cases zezx11 with
                | nil => simp [chk] at h
                | cons x tzezx11 =>
                  cases tzezx11 with
                  | nil => simp [chk] at h
                  | cons y ttzezx11 =>
                    cases ttzezx11 with
                    | nil =>
                      cases zezx12 with
                      | nil =>
                        cases tzx1 with
                        | nil =>
                          cases zx2 with
                          | nil =>
                            simp only [chk, Bool.not_false, Bool.true_and, Bool.and_eq_true, decide_eq_true_eq, Bool.not_eq_true'] at h
                            obtain ⟨⟨⟨⟨⟨⟨⟨rfl, hg⟩, rfl⟩, hgc⟩, hs⟩, hs2⟩, h1⟩, h2⟩ := h
                            exact n_lrg c.calm (glB_inv c hg).1 (c.nb .list) (glB_inv c hgc).1 c.nr hs hs2 (iha.v c (fact_l f) h1) (ihb.v c (fact_r f) h2)
                          | cons _ _ => simp [chk] at h
                        | cons _ _ => simp [chk] at h
                      | cons _ _ => simp [chk] at h
                    | cons _ _ => simp [chk] at h
              | _ => simp [chk] at h
            | _ => simp [chk] at h
        | _ => simp [chk] at h
      | _ => simp [chk] at h
  | apps fd a iha =>
    refine SE.val (fun _ xs => by cases xs <;> rfl) (fun _ _ _ => rfl) rfl (fun sc x h => ⟨?_, ?_⟩) (fun {CXv X G sc lv x} c f h => ?_)
    · cases x with
      | Call zx0 zx1 zx2 p =>
        cases zx0 with
        | Name g pp =>
          cases zx1 with
          | nil => simp [chk] at h
          | cons ezx1 tzx1 =>
            cases ezx1 with
            | Starred x sp =>
              cases tzx1 with
              | nil =>
                cases zx2 with
                | nil =>
                  simpa [chk] using h
                | cons _ _ => simp [chk] at h
              | cons _ _ => simp [chk] at h
            | _ => simp [chk] at h
        | _ => simp [chk] at h
      | _ => simp [chk] at h
    · cases x with
      | Call zx0 zx1 zx2 p =>
        cases zx0 with
        | Name g pp =>
          cases zx1 with
          | nil => simp [chk] at h
          | cons ezx1 tzx1 =>
            cases ezx1 with
            | Starred x sp =>
              cases tzx1 with
              | nil =>
                cases zx2 with
                | nil =>
                  rfl
                | cons _ _ => simp [chk] at h
              | cons _ _ => simp [chk] at h
            | _ => simp [chk] at h
        | _ => simp [chk] at h
      | _ => simp [chk] at h
    · cases x with
      | Call zx0 zx1 zx2 p =>
        cases zx0 with
        | Name g pp =>
          cases zx1 with
          | nil => simp [chk] at h
          | cons ezx1 tzx1 =>
            cases ezx1 with
            | Starred x sp =>
              cases tzx1 with
              | nil =>
                cases zx2 with
                | nil =>
                  simp only [chk, Bool.not_false, Bool.true_and, Bool.and_eq_true, decide_eq_true_eq, Bool.not_eq_true'] at h
                  obtain ⟨⟨rfl, hg⟩, h1⟩ := h
                  obtain ⟨fa, F1, hm, hk⟩ := (fact_h f).ex
                  exact s_apps c.K F1 hm hk c.room c.pass (glB_inv c hg).1 (glB_inv c hg).2 (iha.v c (fact_t f) h1)
                | cons _ _ => simp [chk] at h
              | cons _ _ => simp [chk] at h
            | _ => simp [chk] at h
        | _ => simp [chk] at h
      | _ => simp [chk] at h
  | dget nm kvs a iha =>
    refine SE.val (fun _ xs => by cases xs <;> rfl) (fun _ _ _ => rfl) rfl (fun sc x h => ⟨?_, ?_⟩) (fun {CXv X G sc lv x} c f h => ?_)
    · cases x with
      | Call zx0 zx1 zx2 p =>
        cases zx0 with
        | Attribute zzx00 m ap =>
          cases zzx00 with
          | Name g pp =>
            cases zx1 with
            | nil => simp [chk] at h
            | cons x tzx1 =>
              cases tzx1 with
              | nil =>
                cases zx2 with
                | nil =>
                  simpa [chk] using h
                | cons _ _ => simp [chk] at h
              | cons _ _ => simp [chk] at h
          | _ => simp [chk] at h
        | _ => simp [chk] at h
      | _ => simp [chk] at h
    · cases x with
      | Call zx0 zx1 zx2 p =>
        cases zx0 with
        | Attribute zzx00 m ap =>
          cases zzx00 with
          | Name g pp =>
            cases zx1 with
            | nil => simp [chk] at h
            | cons x tzx1 =>
              cases tzx1 with
              | nil =>
                cases zx2 with
                | nil =>
                  rfl
                | cons _ _ => simp [chk] at h
              | cons _ _ => simp [chk] at h
          | _ => simp [chk] at h
        | _ => simp [chk] at h
      | _ => simp [chk] at h
    · cases x with
      | Call zx0 zx1 zx2 p =>
        cases zx0 with
        | Attribute zzx00 m ap =>
          cases zzx00 with
          | Name g pp =>
            cases zx1 with
            | nil => simp [chk] at h
            | cons x tzx1 =>
              cases tzx1 with
              | nil =>
                cases zx2 with
                | nil =>
                  simp only [chk, Bool.not_false, Bool.true_and, Bool.and_eq_true, decide_eq_true_eq, Bool.not_eq_true'] at h
                  obtain ⟨⟨⟨⟨⟨rfl, hg⟩, rfl⟩, hs⟩, hp⟩, h1⟩ := h
                  exact s_dget (fact_h f) (glB_inv c hg).1 (glB_inv c hg).2 hs hp (iha.v c (fact_t f) h1)
                | cons _ _ => simp [chk] at h
              | cons _ _ => simp [chk] at h
          | _ => simp [chk] at h
        | _ => simp [chk] at h
      | _ => simp [chk] at h
  | glc nm d  =>
    refine SE.val (fun _ xs => by cases xs <;> rfl) (fun _ _ _ => rfl) rfl (fun sc x h => ?_) (fun {CXv X G sc lv x} c f h => ?_)
    · cases x with
      | Name g pp =>
        simp [chk] at h
      | _ => simp [chk] at h
    · cases x with
      | Name g pp =>
        simp only [chk, Bool.not_false, Bool.true_and, Bool.and_eq_true, decide_eq_true_eq, Bool.not_eq_true'] at h
        obtain ⟨rfl, hg⟩ := h
        exact s_glc (fact_h f) (glB_inv c hg).1 (glB_inv c hg).2
      | _ => simp [chk] at h
  | appk fd ks pm es ihe =>
    refine SE.val (fun _ xs => by cases xs <;> rfl) (fun _ _ _ => rfl) rfl (fun sc x h => ⟨?_, ?_⟩) (fun {CXv X G sc lv x} c f h => ?_)
    · cases x with
      | Call zx0 zx1 kws p =>
        cases zx0 with
        | Name g pp =>
          cases zx1 with
          | nil =>
            simpa [chk] using h
          | cons _ _ => simp [chk] at h
        | _ => simp [chk] at h
      | _ => simp [chk] at h
    · cases x with
      | Call zx0 zx1 kws p =>
        cases zx0 with
        | Name g pp =>
          cases zx1 with
          | nil =>
            rfl
          | cons _ _ => simp [chk] at h
        | _ => simp [chk] at h
      | _ => simp [chk] at h
    · cases x with
      | Call zx0 zx1 kws p =>
        cases zx0 with
        | Name g pp =>
          cases zx1 with
          | nil =>
            simp only [chk, Bool.not_false, Bool.true_and, Bool.and_eq_true, decide_eq_true_eq, Bool.not_eq_true'] at h
            obtain ⟨⟨⟨rfl, hg⟩, hB⟩, h1⟩ := h
            exact s_appk (fact_h f) c.room c.pass (glB_inv c hg).1 (glB_inv c hg).2 hB (ihe.k c (fact_t f) h1)
          | cons _ _ => simp [chk] at h
        | _ => simp [chk] at h
      | _ => simp [chk] at h
  | mkk k fd ks pm es ihe =>
    refine SE.val (fun _ xs => by cases xs <;> rfl) (fun _ _ _ => rfl) rfl (fun sc x h => ⟨?_, ?_⟩) (fun {CXv X G sc lv x} c f h => ?_)
    · cases x with
      | Call zx0 zx1 kws p =>
        cases zx0 with
        | Name g pp =>
          cases zx1 with
          | nil =>
            simpa [chk] using h
          | cons _ _ => simp [chk] at h
        | _ => simp [chk] at h
      | _ => simp [chk] at h
    · cases x with
      | Call zx0 zx1 kws p =>
        cases zx0 with
        | Name g pp =>
          cases zx1 with
          | nil =>
            rfl
          | cons _ _ => simp [chk] at h
        | _ => simp [chk] at h
      | _ => simp [chk] at h
    · cases x with
      | Call zx0 zx1 kws p =>
        cases zx0 with
        | Name g pp =>
          cases zx1 with
          | nil =>
            simp only [chk, Bool.not_false, Bool.true_and, Bool.and_eq_true, decide_eq_true_eq, Bool.not_eq_true'] at h
            obtain ⟨⟨⟨rfl, hg⟩, hB⟩, h1⟩ := h
            exact s_mkk (fact_h f) c.room c.pass (glB_inv c hg).1 (glB_inv c hg).2 hB (ihe.k c (fact_t f) h1)
          | cons _ _ => simp [chk] at h
        | _ => simp [chk] at h
      | _ => simp [chk] at h
  | mthk k fd ks pm o es iho ihe =>
    refine SE.val (fun _ xs => by cases xs <;> rfl) (fun _ _ _ => rfl) rfl (fun sc x h => ⟨?_, ?_⟩) (fun {CXv X G sc lv x} c f h => ?_)
    · cases x with
      | Call zx0 zx1 kws p =>
        cases zx0 with
        | Attribute y g ap =>
          cases zx1 with
          | nil =>
            simpa [chk] using h
          | cons _ _ => simp [chk] at h
        | _ => simp [chk] at h
      | _ => simp [chk] at h
    · cases x with
      | Call zx0 zx1 kws p =>
        cases zx0 with
        | Attribute y g ap =>
          cases zx1 with
          | nil =>
            rfl
          | cons _ _ => simp [chk] at h
        | _ => simp [chk] at h
      | _ => simp [chk] at h
    · cases x with
      | Call zx0 zx1 kws p =>
        cases zx0 with
        | Attribute y g ap =>
          cases zx1 with
          | nil =>
            simp only [chk, Bool.not_false, Bool.true_and, Bool.and_eq_true, decide_eq_true_eq, Bool.not_eq_true'] at h
            obtain ⟨⟨⟨⟨⟨⟨rfl, hy⟩, hB⟩, hl⟩, hp⟩, h1⟩, h2⟩ := h
            exact s_mthk (fact_h f) c.room c.pass hy hB hl hp (iho.v c (fact_l (fact_t f)) h1) (ihe.k c (fact_r (fact_t f)) h2)
          | cons _ _ => simp [chk] at h
        | _ => simp [chk] at h
      | _ => simp [chk] at h
  | comp tg it u e ihi ihu ihe =>
    refine SE.own (fun _ xs => by cases xs <;> rfl) (fun _ _ _ => rfl) (fun sc x h => ?_) (fun {CXv X G sc lv x} c f h => ?_)
    · cases x with
      | ListComp elt zx1 scope p =>
        cases zx1 with
        | nil => simp [chk] at h
        | cons ezx1 tzx1 =>
          cases ezx1 with
          | mk tgt iter ifs asy =>
            cases tzx1 with
            | nil =>
              simp [chk] at h
            | cons _ _ => simp [chk] at h
      | _ => simp [chk] at h
    · cases x with
      | ListComp elt zx1 scope p =>
        cases zx1 with
        | nil => simp [chk] at h
        | cons ezx1 tzx1 =>
          cases ezx1 with
          | mk tgt iter ifs asy =>
            cases tzx1 with
            | nil =>
              skip
              simp only [chk, Bool.not_false, Bool.true_and, Bool.and_eq_true, decide_eq_true_eq, Bool.not_eq_true'] at h
              obtain ⟨⟨⟨⟨⟨⟨⟨rfl, hn⟩, hi⟩, hb⟩, ho⟩, hg⟩, ht⟩, he⟩ := h
              refine n_comp c.calm (by rw [c.hN]; exact c.nd) (ihi.i c (fact_l f) hi) (by rw [c.hN, c.sc]; exact blkOk_by hb) ho (fun s H C cl fp => ?_) (fun s H C cl fp => ?_) (fun s H C cl fp => ?_) (set_iter hn _)
              · have cb := c.blk s H scope C cl fp
                exact pg_tgtB (X := X.blk s H scope (compEnvC scope cl C X.env) fp) c.calm cb.hN c.nd cb.sc (fun x hx => hx) hg
              · have cb := c.blk s H scope C cl fp
                have fb : Facts CXv (X.blk s H scope (compEnvC scope cl C X.env) fp) G.M _ u.needs := fun g hg => factOk_blk (fact_l (fact_r f) g hg)
                cases ifs with
                | nil =>
                  cases u with
                  | nil => exact pts_imp pts_nil tst_nil
                  | _ => simp [isNilE] at ht
                | cons c0 cs =>
                  cases cs with
                  | cons _ _ => simp at ht
                  | nil =>
                    simp only [Bool.and_eq_true, Bool.not_eq_true'] at ht
                    rw [tst_evT ht.1]
                    exact pts_one (ihu.t cb fb ht.2)
              · have cb := c.blk s H scope C cl fp
                exact ihe.v cb (fun g hg => factOk_blk (fact_r (fact_r f) g hg)) he
            | cons _ _ => simp [chk] at h
      | _ => simp [chk] at h
  | ssc tg it u e ihi ihu ihe =>
    refine SE.own (fun _ xs => by cases xs <;> rfl) (fun _ _ _ => rfl) (fun sc x h => ?_) (fun {CXv X G sc lv x} c f h => ?_)
    · cases x with
      | Call zx0 zx1 zx2 p =>
        cases zx0 with
        | Name g pp =>
          cases zx1 with
          | nil => simp [chk] at h
          | cons ezx1 tzx1 =>
            cases ezx1 with
            | SetComp elt zezx11 scope p2 =>
              cases zezx11 with
              | nil => simp [chk] at h
              | cons ezezx11 tzezx11 =>
                cases ezezx11 with
                | mk tgt iter ifs asy =>
                  cases tzezx11 with
                  | nil =>
                    cases tzx1 with
                    | nil =>
                      cases zx2 with
                      | nil =>
                        simp [chk] at h
                      | cons _ _ => simp [chk] at h
                    | cons _ _ => simp [chk] at h
                  | cons _ _ => simp [chk] at h
            | _ => simp [chk] at h
        | _ => simp [chk] at h
      | _ => simp [chk] at h
    · cases x with
      | Call zx0 zx1 zx2 p =>
        cases zx0 with
        | Name g pp =>
          cases zx1 with
          | nil => simp [chk] at h
          | cons ezx1 tzx1 =>
            cases ezx1 with
            | SetComp elt zezx11 scope p2 =>
              cases zezx11 with
              | nil => simp [chk] at h
              | cons ezezx11 tzezx11 =>
                cases ezezx11 with
                | mk tgt iter ifs asy =>
                  cases tzezx11 with
                  | nil =>
                    cases tzx1 with
                    | nil =>
                      cases zx2 with
                      | nil =>
                        skip
                        simp only [chk, Bool.not_false, Bool.true_and, Bool.and_eq_true, decide_eq_true_eq, Bool.not_eq_true'] at h
                        obtain ⟨⟨⟨⟨⟨⟨⟨⟨⟨rfl, rfl⟩, hgl⟩, hn⟩, hi⟩, hb⟩, ho⟩, hg⟩, ht⟩, he⟩ := h
                        refine n_ssc c.calm (by rw [c.hN]; exact c.nd) (glB_inv c hgl).1 (c.nb .sorted) (ihi.i c (fact_l f) hi) (by rw [c.hN, c.sc]; exact blkOk_by hb) ho (fun s H C cl fp => ?_) (fun s H C cl fp => ?_) (fun s H C cl fp => ?_) (set_iter hn _)
                        · have cb := c.blk s H scope C cl fp
                          exact pg_tgtB (X := X.blk s H scope (compEnvC scope cl C X.env) fp) c.calm cb.hN c.nd cb.sc (fun x hx => hx) hg
                        · have cb := c.blk s H scope C cl fp
                          have fb : Facts CXv (X.blk s H scope (compEnvC scope cl C X.env) fp) G.M _ u.needs := fun g hg => factOk_blk (fact_l (fact_r f) g hg)
                          cases ifs with
                          | nil =>
                            cases u with
                            | nil => exact pts_imp pts_nil tst_nil
                            | _ => simp [isNilE] at ht
                          | cons c0 cs =>
                            cases cs with
                            | cons _ _ => simp at ht
                            | nil =>
                              simp only [Bool.and_eq_true, Bool.not_eq_true'] at ht
                              rw [tst_evT ht.1]
                              exact pts_one (ihu.t cb fb ht.2)
                        · have cb := c.blk s H scope C cl fp
                          exact ihe.v cb (fun g hg => factOk_blk (fact_r (fact_r f) g hg)) he
                      | cons _ _ => simp [chk] at h
                    | cons _ _ => simp [chk] at h
                  | cons _ _ => simp [chk] at h
            | _ => simp [chk] at h
        | _ => simp [chk] at h
      | _ => simp [chk] at h
  | sst a iha =>
    refine SE.own (fun _ xs => by cases xs <;> rfl) (fun _ _ _ => rfl) (fun sc x h => ?_) (fun {CXv X G sc lv x} c f h => ?_)
    · cases x with
      | Call zx0 zx1 zx2 p =>
        cases zx0 with
        | Name g pp =>
          cases zx1 with
          | nil => simp [chk] at h
          | cons ezx1 tzx1 =>
            cases ezx1 with
            | Call zezx10 zezx11 zezx12 p2 =>
              cases zezx10 with
              | Name hh hp =>
                cases zezx11 with
                | nil => simp [chk] at h
                | cons x tzezx11 =>
                  cases tzezx11 with
                  | nil =>
                    cases zezx12 with
                    | nil =>
                      cases tzx1 with
                      | nil =>
                        cases zx2 with
                        | nil =>
                          simp [chk] at h
                        | cons _ _ => simp [chk] at h
                      | cons _ _ => simp [chk] at h
                    | cons _ _ => simp [chk] at h
                  | cons _ _ => simp [chk] at h
              | _ => simp [chk] at h
            | _ => simp [chk] at h
        | _ => simp [chk] at h
      | _ => simp [chk] at h
    · cases x with
      | Call zx0 zx1 zx2 p =>
        cases zx0 with
        | Name g pp =>
          cases zx1 with
          | nil => simp [chk] at h
          | cons ezx1 tzx1 =>
            cases ezx1 with
            | Call zezx10 zezx11 zezx12 p2 =>
              cases zezx10 with
              | Name hh hp =>
                cases zezx11 with
                | nil => simp [chk] at h
                | cons x tzezx11 =>
                  cases tzezx11 with
                  | nil =>
                    cases zezx12 with
                    | nil =>
                      cases tzx1 with
                      | nil =>
                        cases zx2 with
                        | nil =>
                          simp only [chk, Bool.not_false, Bool.true_and, Bool.and_eq_true, decide_eq_true_eq, Bool.not_eq_true'] at h
                          obtain ⟨⟨⟨⟨⟨rfl, hg⟩, rfl⟩, hgc⟩, hs⟩, h1⟩ := h
                          exact n_sst c.K c.calm (glB_inv c hg).1 (c.nb .sorted) (glB_inv c hgc).1 (fact_h f) hs (iha.v c (fact_t f) h1)
                        | cons _ _ => simp [chk] at h
                      | cons _ _ => simp [chk] at h
                    | cons _ _ => simp [chk] at h
                  | cons _ _ => simp [chk] at h
              | _ => simp [chk] at h
            | _ => simp [chk] at h
        | _ => simp [chk] at h
      | _ => simp [chk] at h
  | froz is a iha =>
    exact ⟨fun c f h => s_froz (iha.v c f (Bool.and_eq_true_iff.mp (by simpa [chk] using h)).2), fun c f h => s_frozT (iha.t c f (Bool.and_eq_true_iff.mp (by simpa [chk] using h)).2), fun c f h => s_frozW (iha.w c f (Bool.and_eq_true_iff.mp (by simpa [chk] using h)).2), fun {_ _ _ _ _ xs} c f h => (by cases xs <;> exact absurd (show false = true from h) Bool.false_ne_true), fun c f h => (by simp [chkI] at h), fun c f o h => (by simp [ownL] at o), fun {_ _ _ _ _ kws} c f h => (by cases kws <;> exact absurd (show false = true from h) Bool.false_ne_true)⟩
  | ilst e ih =>
    refine SE.itr (fun _ xs => by cases xs <;> rfl) (fun _ _ x => by cases x <;> rfl) rfl fun {_ _ _ sc _ tg x} c f h => ?_
    simp only [chkI] at h
    exact s_ilst (ih.v c f h)
  | iscr e ih =>
    refine SE.itr (fun _ xs => by cases xs <;> rfl) (fun _ _ x => by cases x <;> rfl) rfl fun {_ _ _ sc _ tg x} c f h => ?_
    simp only [chkI] at h
    exact s_iscr c.K (ih.v c f h)
  | itup e ih =>
    refine SE.itr (fun _ xs => by cases xs <;> rfl) (fun _ _ x => by cases x <;> rfl) rfl fun {_ _ _ sc _ tg x} c f h => ?_
    simp only [chkI] at h
    exact s_itup (ih.v c f h)
  | irg1 a iha =>
    refine SE.itr (fun _ xs => by cases xs <;> rfl) (fun _ _ x => by cases x <;> rfl) rfl fun {_ _ _ sc _ tg x} c f h => ?_
    cases x with
    | Call zx0 zx1 zx2 p =>
      cases zx0 with
      | Name g pp =>
        cases zx1 with
        | nil => simp [chkI] at h
        | cons x tzx1 =>
          cases tzx1 with
          | nil =>
            cases zx2 with
            | nil =>
              simp only [chkI, Bool.and_eq_true, decide_eq_true_eq, Bool.not_eq_true'] at h
              obtain ⟨⟨⟨rfl, hg⟩, hs⟩, h1⟩ := h
              exact s_irg1 (glB_inv c hg).1 c.nr hs (iha.v c f h1)
            | cons _ _ => simp [chkI] at h
          | cons _ _ => simp [chkI] at h
      | _ => simp [chkI] at h
    | _ => simp [chkI] at h
  | irg2 a b iha ihb =>
    refine SE.itr (fun _ xs => by cases xs <;> rfl) (fun _ _ x => by cases x <;> rfl) rfl fun {_ _ _ sc _ tg x} c f h => ?_
    cases x with
    | Call zx0 zx1 zx2 p =>
      cases zx0 with
      | Name g pp =>
        cases zx1 with
        | nil => simp [chkI] at h
        | cons x tzx1 =>
          cases tzx1 with
          | nil => simp [chkI] at h
          | cons y ttzx1 =>
            cases ttzx1 with
            | nil =>
              cases zx2 with
              | nil =>
                simp only [chkI, Bool.and_eq_true, decide_eq_true_eq, Bool.not_eq_true'] at h
                obtain ⟨⟨⟨⟨⟨rfl, hg⟩, hs⟩, hs2⟩, h1⟩, h2⟩ := h
                exact s_irg2 (glB_inv c hg).1 c.nr hs hs2 (iha.v c (fact_l f) h1) (ihb.v c (fact_r f) h2)
              | cons _ _ => simp [chkI] at h
            | cons _ _ => simp [chkI] at h
      | _ => simp [chkI] at h
    | _ => simp [chkI] at h
  | irg3 a b d iha ihb ihd =>
    refine SE.itr (fun _ xs => by cases xs <;> rfl) (fun _ _ x => by cases x <;> rfl) rfl fun {_ _ _ sc _ tg x} c f h => ?_
    cases x with
    | Call zx0 zx1 zx2 p =>
      cases zx0 with
      | Name g pp =>
        cases zx1 with
        | nil => simp [chkI] at h
        | cons x tzx1 =>
          cases tzx1 with
          | nil => simp [chkI] at h
          | cons y ttzx1 =>
            cases ttzx1 with
            | nil => simp [chkI] at h
            | cons z tttzx1 =>
              cases tttzx1 with
              | nil =>
                cases zx2 with
                | nil =>
                  simp only [chkI, Bool.and_eq_true, decide_eq_true_eq, Bool.not_eq_true'] at h
                  obtain ⟨⟨⟨⟨⟨⟨⟨rfl, hg⟩, hs⟩, hs2⟩, hs3⟩, h1⟩, h2⟩, h3⟩ := h
                  exact s_irg3 (glB_inv c hg).1 c.nr hs hs2 hs3 (iha.v c (fact_l f) h1) (ihb.v c (fact_l (fact_r f)) h2) (ihd.v c (fact_r (fact_r f)) h3)
                | cons _ _ => simp [chkI] at h
              | cons _ _ => simp [chkI] at h
      | _ => simp [chkI] at h
    | _ => simp [chkI] at h
  | ienum a iha =>
    refine SE.itr (fun _ xs => by cases xs <;> rfl) (fun _ _ x => by cases x <;> rfl) rfl fun {_ _ _ sc _ tg x} c f h => ?_
    cases tg with
    | Tuple ts tk tp =>
      cases x with
      | Call zx0 zx1 zx2 p =>
        cases zx0 with
        | Name g pp =>
          cases zx1 with
          | nil => simp [chkI] at h
          | cons x tzx1 =>
            cases tzx1 with
            | nil =>
              cases zx2 with
              | nil =>
                simp only [chkI, Bool.and_eq_true, decide_eq_true_eq, Bool.not_eq_true'] at h
                obtain ⟨⟨⟨rfl, hg⟩, hs⟩, h1⟩ := h
                exact s_ienum (glB_inv c hg).1 c.ne hs (iha.v c f h1)
              | cons _ _ => simp [chkI] at h
            | cons _ _ => simp [chkI] at h
        | _ => simp [chkI] at h
      | _ => simp [chkI] at h
    | _ => simp [chkI] at h
  | ienumT a iha =>
    refine SE.itr (fun _ xs => by cases xs <;> rfl) (fun _ _ x => by cases x <;> rfl) rfl fun {_ _ _ sc _ tg x} c f h => ?_
    cases tg with
    | Tuple ts tk tp =>
      cases x with
      | Call zx0 zx1 zx2 p =>
        cases zx0 with
        | Name g pp =>
          cases zx1 with
          | nil => simp [chkI] at h
          | cons x tzx1 =>
            cases tzx1 with
            | nil =>
              cases zx2 with
              | nil =>
                simp only [chkI, Bool.and_eq_true, decide_eq_true_eq, Bool.not_eq_true'] at h
                obtain ⟨⟨⟨rfl, hg⟩, hs⟩, h1⟩ := h
                exact s_ienumT (glB_inv c hg).1 c.ne hs (iha.v c f h1)
              | cons _ _ => simp [chkI] at h
            | cons _ _ => simp [chkI] at h
        | _ => simp [chkI] at h
      | _ => simp [chkI] at h
    | _ => simp [chkI] at h
  | izip a b iha ihb =>
    refine SE.itr (fun _ xs => by cases xs <;> rfl) (fun _ _ x => by cases x <;> rfl) rfl fun {_ _ _ sc _ tg x} c f h => ?_
    cases tg with
    | Tuple ts tk tp =>
      cases x with
      | Call zx0 zx1 zx2 p =>
        cases zx0 with
        | Name g pp =>
          cases zx1 with
          | nil => simp [chkI] at h
          | cons x tzx1 =>
            cases tzx1 with
            | nil => simp [chkI] at h
            | cons y ttzx1 =>
              cases ttzx1 with
              | nil =>
                cases zx2 with
                | nil =>
                  simp only [chkI, Bool.and_eq_true, decide_eq_true_eq, Bool.not_eq_true'] at h
                  obtain ⟨⟨⟨⟨⟨rfl, hg⟩, hs⟩, hs2⟩, h1⟩, h2⟩ := h
                  exact s_izip (glB_inv c hg).1 c.nz hs hs2 (iha.v c (fact_l f) h1) (ihb.v c (fact_r f) h2)
                | cons _ _ => simp [chkI] at h
              | cons _ _ => simp [chkI] at h
        | _ => simp [chkI] at h
      | _ => simp [chkI] at h
    | _ => simp [chkI] at h
  | star a iha => exact SE.val (fun _ xs => by cases xs <;> rfl) (fun _ _ _ => rfl) rfl (fun sc x h => (by simp [chk] at h)) fun c f h => iha.v c f (by simpa [chk] using h)
  | ioa i => exact SE.itr (fun _ xs => by cases xs <;> rfl) (fun _ _ x => by cases x <;> rfl) rfl fun c f h => (by simp [chkI] at h)
  | wka i => exact SE.itr (fun _ xs => by cases xs <;> rfl) (fun _ _ x => by cases x <;> rfl) rfl fun c f h => (by simp [chkI] at h)
end DL

-- part DLl
set_option Elab.async false
set_option linter.all false
set_option maxRecDepth 100000
set_option maxHeartbeats 1000000
/-! DL, part l: statements. -/
namespace DL
open PySem PySem.Spec PyProof.Rows L2

/-- behind a statement; rk: how many levels of what the def gives back are new -/
def PSt (G : Fr) (rk : Nat) (Z : Ends) (F H : Hp) (fs : Ft) : Res Out → Prop
  | .ok (.nx env') => ∀ σ' F' H' fs', GS G.M F' H' G.io env' σ' fs' → Step F H fs.at F' H' fs'.at → Z.nx σ' H'
  | .ok (.brk env') => ∀ σ' F' H' fs', GS G.M F' H' G.io env' σ' fs' → Step F H fs.at F' H' fs'.at → Z.bk σ' H'
  | .ok (.cnt env') => ∀ σ' F' H' fs', GS G.M F' H' G.io env' σ' fs' → Step F H fs.at F' H' fs'.at → Z.ct σ' H'
  | .ok (.ret d env') => ∀ v σ' F' H' fs' fr, GS G.M F' H' G.io env' σ' fs' → Step F H fs.at F' H' (atW fs' fr) → Own G.M F' H' rk d v fr → fr.Nodup → Apart fs' fr → (∀ b ∈ fr, F' b = none) → Z.rt v H'
  | .exn c d => XP G.M G.E c d F H fs.at
  | .stuck => False
def tS (G : Fr) (rk : Nat) (r : Env → Res Out) : TS := fun Z σ H => ∃ env F fs, GS G.M F H G.io env σ fs ∧ PSt G rk Z F H fs (r env)

section
variable {X : Cx} {G : Fr} {rk : Nat} {σ : L2.St} {F H F1 H1 : Hp} {fs fs1 : Ft} {Z : Ends} {p : Bool}
theorem ps_imp {x : Stmt} {t t' : TS} (h : PS X x t) (i : ∀ Z σ H, t' Z σ H → t Z σ H) : PS X x t' := ⟨fun pins s σ H Z I q => h.run pins s σ H Z I (i Z σ H q)⟩
theorem pss_imp {x : List Stmt} {t t' : TS} (h : PSs X x t) (i : ∀ Z σ H, t' Z σ H → t Z σ H) : PSs X x t' := ⟨fun pins s σ H Z I q => h.run pins s σ H Z I (i Z σ H q)⟩
theorem PSt.step {r : Res Out} (h : PSt G rk Z F H fs r) (s : Step F H fs.at F1 H1 fs1.at) : PSt G rk Z F1 H1 fs1 r := by
  cases r with
  | stuck => exact h
  | exn c d => exact XP.step h s
  | ok o => cases o with
    | nx env => exact fun σ' F' H' fs' g s' => h σ' F' H' fs' g (s.trans s')
    | brk env => exact fun σ' F' H' fs' g s' => h σ' F' H' fs' g (s.trans s')
    | cnt env => exact fun σ' F' H' fs' g s' => h σ' F' H' fs' g (s.trans s')
    | ret d env => exact fun v σ' F' H' fs' fr g s' => h v σ' F' H' fs' fr g (s.trans s')
theorem PSt.bind {α : Type} {r : Res (α × Env)} {f : α × Env → Res Out} {k : α → Env → Hp → Hp → Ft → Prop} (h : PSt G rk Z F H fs (r.bind f))
    (next : ∀ x env1 F1 H1 fs1, r = .ok (x, env1) → GS G.M F1 H1 G.io env1 σ fs1 → Step F H fs.at F1 H1 fs1.at → (p = true → Same H H1) → PSt G rk Z F1 H1 fs1 (f (x, env1)) → k x env1 F1 H1 fs1) : Pst G p σ F H fs r k := by
  cases r with
  | stuck => exact h
  | exn c d => exact h
  | ok q =>
    obtain ⟨x, env1⟩ := q
    intro F1 H1 fs1 g s t
    exact next x env1 F1 H1 fs1 rfl g s t (PSt.step h s)
theorem PSt.str {x : Wk} {f : DL.D → Res Out} (h : PSt G rk Z F H fs ((str1 x).bind f)) : ∃ d, x = (0, d) ∧ PSt G rk Z F H fs (f d) := by
  obtain ⟨k, d⟩ := x
  cases k with
  | zero => exact ⟨d, rfl, h⟩
  | succ k => exact h.elim
theorem PSt.asI {d : DL.D} {f : Int → Res Out} (h : PSt G rk Z F H fs ((asI d).bind f)) : ∃ i, d = .int i ∧ PSt G rk Z F H fs (f i) := by
  cases d with
  | int i => exact ⟨i, rfl, h⟩
  | _ => exact h.elim
theorem PSt.asB {d : DL.D} {f : Bool → Res Out} (h : PSt G rk Z F H fs ((asB d).bind f)) : ∃ i, d = .bl i ∧ PSt G rk Z F H fs (f i) := by
  cases d with
  | bl i => exact ⟨i, rfl, h⟩
  | _ => exact h.elim
theorem PSt.ofO {α : Type} {o : Option α} {f : α → Res Out} (h : PSt G rk Z F H fs ((DL.ofO o).bind f)) : ∃ a, o = some a ∧ PSt G rk Z F H fs (f a) := by
  cases o with
  | none => exact h.elim
  | some a => exact ⟨a, rfl, h⟩
theorem PSt.env {r : Res Env} {f : Env → Res Out} (hr : ∀ c d, r ≠ .exn c d) (h : PSt G rk Z F H fs (r.bind f)) : ∃ e, r = .ok e ∧ PSt G rk Z F H fs (f e) := by
  cases r with
  | ok e => exact ⟨e, rfl, h⟩
  | exn c d => exact absurd rfl (hr c d)
  | stuck => exact h.elim
theorem setSl_fx {env : Env} {i : Nat} {s : Sl} (c : Nat) (d : DL.D) : setSl env i s ≠ .exn c d := by
  unfold setSl; split <;> intro h <;> cases h
theorem subAt_fx {env : Env} {i : Nat} {ix : Int} {x : DL.D} (c : Nat) (d : DL.D) : subAt env i ix x ≠ .exn c d := by
  intro h
  unfold subAt at h
  split at h
  · split at h <;> cases h
  · split at h <;> cases h
  · cases h
theorem setTi_fx {env : Env} {t : Ti} {x : DL.D} (c : Nat) (d : DL.D) : setTi env t x ≠ .exn c d := by
  unfold setTi
  split
  · exact setSl_fx c d
  · split
    · split <;> intro h <;> cases h
    · intro h; cases h
  · exact subAt_fx c d
theorem setTis_fx {c : Nat} {d : DL.D} : ∀ {env : Env} {ts : List Ti} {xs : List DL.D}, setTis env ts xs ≠ .exn c d
  | env, [], [] => by intro h; cases h
  | env, [], _ :: _ => by intro h; cases h
  | env, _ :: _, [] => by intro h; cases h
  | env, t :: ts, x :: xs => by
    unfold setTis
    cases e : setTi env t x with
    | ok e => exact setTis_fx
    | exn c' d' => exact absurd e (setTi_fx c' d')
    | stuck => intro h; cases h
theorem setTg_fx {env : Env} {t : Tg} {x : DL.D} (c : Nat) (d : DL.D) : setTg env t x ≠ .exn c d := by
  unfold setTg
  split
  · exact setTi_fx c d
  · exact setTis_fx
  · intro h; cases h
/-! ### rows of statements -/
theorem s_snil : PSs X [] (tS G rk (ex .nil)) := pss_imp pss_nil fun Z σ H ⟨env, F, fs, g, q⟩ => q σ F H fs g Step.refl
theorem seq_of {r : Env → Res Out} {u : Env → Res Out} (h : tS G rk (fun env => seqR (r env) u) Z σ H) : tS G rk r { Z with nx := tS G rk u Z } σ H := by
  obtain ⟨env, F, fs, g, q⟩ := h
  refine ⟨env, F, fs, g, ?_⟩
  cases e : r env with
  | stuck => simp only [e] at q; exact q
  | exn c d => simp only [e] at q; exact q
  | ok o =>
    simp only [e] at q
    cases o with
    | nx env1 => exact fun σ' F' H' fs' g' s' => ⟨env1, F', fs', g', PSt.step (show PSt G rk Z F H fs (u env1) from q) s'⟩
    | brk env1 => exact q
    | cnt env1 => exact q
    | ret d env1 => exact q
theorem s_scons {s ss : S} {st : Stmt} {rest : List Stmt} (h1 : PS X st (tS G rk (ex s))) (h2 : PSs X rest (tS G rk (ex ss))) : PSs X (st :: rest) (tS G rk (ex (.cons s ss))) :=
  pss_imp (pss_cons h1 h2) fun Z σ H h => seq_of h
theorem s_pass {pos : Pos} : PS X (.Pass pos) (tS G rk (ex .pass)) := ps_imp ps_pass fun Z σ H ⟨env, F, fs, g, q⟩ => q σ F H fs g Step.refl
theorem s_doc {x j pos pos'} : PS X (.Expr (.Constant (.str x) j pos) pos') (tS G rk (ex .pass)) := ps_imp ps_doc fun Z σ H ⟨env, F, fs, g, q⟩ => q σ F H fs g Step.refl
theorem s_brk {pos : Pos} : PS X (.Break pos) (tS G rk (ex .brk)) := ps_imp ps_break fun Z σ H ⟨env, F, fs, g, q⟩ => q σ F H fs g Step.refl
theorem s_cnt {pos : Pos} : PS X (.Continue pos) (tS G rk (ex .cnt)) := ps_imp ps_continue fun Z σ H ⟨env, F, fs, g, q⟩ => q σ F H fs g Step.refl
theorem s_never {sts : List Stmt} : PSs X sts (tS G rk (ex .never)) := pss_imp pss_never fun Z σ H ⟨env, F, fs, g, q⟩ => q
/-- what one owns from now on stands still -/
theorem s_frz {i : Nat} {ss : S} {rest : List Stmt} (h : PSs X rest (tS G rk (ex ss))) : PSs X rest (tS G rk (ex (.cons (.frz i) ss))) :=
  pss_imp h fun Z σ H ⟨env, F, fs, g, q⟩ => by
    have q : PSt G rk Z F H fs (seqR (match env[i]? with | some (.own _ d) => .ok (.nx (env.set i (.val d))) | _ => .stuck) (ex ss)) := q
    split at q
    · rename_i k d e
      have q : PSt G rk Z F H fs (ex ss (env.set i (.val d))) := q
      obtain ⟨v, ev, o⟩ := g.own (.inl e)
      -- the slot is emptied, what it owned is frozen
      have g1 : GS G.M F H G.io (env.set i .un) (σ.set i (some v)) (fs.set i []) := g.set e (by intro k d z; cases z) rfl List.nodup_nil (by simp) (by simp)
      rw [set_self ev] at g1
      have ap : Apart (fs.set i []) (fs i) := fun j b hb z => by
        by_cases w : j = i
        · subst w; rw [Ft.set_same] at hb; simp at hb
        · rw [Ft.set_ne w] at hb; exact g.dj j i b w hb z
      obtain ⟨g2, s2, r2⟩ := frz_state g1 ap o fun b hb => g.fn i b hb
      have s3 : Step F H fs.at (frz F H (fs i)) H (fs.set i []).at := s2.mono (fun b hb => by
        rcases hb with ⟨j, hb⟩ | hb
        · by_cases w : j = i
          · subst w; rw [Ft.set_same] at hb; simp at hb
          · rw [Ft.set_ne w] at hb; exact ⟨j, hb⟩
        · exact ⟨i, hb⟩) fun b hb => .inl hb
      have hl : i < (env.set i Sl.un).length := by rw [List.length_set]; exact lt_of_get e
      have g3 := g2.set (i := i) (s := .un) (s' := .val d) (v := v) (f := []) (by rw [List.getElem?_set_self (lt_of_get e)]) (by intro k d z; cases z) ⟨v, rfl, r2, rfl⟩ List.nodup_nil (by simp) (by simp)
      rw [set_self ev, List.set_set] at g3
      have s4 : Step F H fs.at (frz F H (fs i)) H ((fs.set i []).set i []).at := s3.less fun b ⟨j, hb⟩ => by
        by_cases w : j = i
        · subst w; rw [Ft.set_same] at hb; simp at hb
        · rw [Ft.set_ne w] at hb; exact ⟨j, hb⟩
      exact ⟨_, _, _, g3, q.step s4⟩
    · exact q.elim
/-! ### assignments -/
/-- the step to a slot's new value -/
theorem setSl_step {i : Nat} {fs : Ft} : Step F H fs.at F H (fs.set i []).at := Step.refl.less set_less
theorem pg_att {i : Nat} {x f : Str} {p pos : Pos} (hN : X.N[i]? = some x) (hv : Vis X.env.scope x) (hd : (x == ("__debug__" : Str)) = false) (hcd : (x == ("__classdict__" : Str)) = false) :
    PG X (.Attribute (.Name x p) f pos) (fun v σ H Q => ∃ a C dx fs, σ[i]? = some (some (.ref a)) ∧ H a = some (.ins C dx fs) ∧ Cls X.K C ∧ NoAttr X.K C f ∧ fs.length < 1000 ∧ Q σ (upd H a (.ins C dx (L2.putF f v fs)))) := by
  refine ⟨fun pins s σ H v u Q I r h => ?_⟩
  obtain ⟨a, C, dx, fs, e1, e2, c1, c2, l, q⟩ := h
  rw [assign_Attribute]
  refine wpAny_bind (wpAny_holding (thn ((pe_var hN hv hd hcd).run pins s σ H (fun w H' => w = .ref a ∧ H' = H) I ⟨_, e1, rfl, rfl⟩) fun ov s1 ⟨w, H1, I1, r1, hw, hh⟩ => ?_))
  subst hw hh
  obtain rfl : ov = Value.ref a := r1
  refine wpAny_bind (wpAny_standAt (wpAny_bind (wpAny_holding (setattr_ok I1 e2 c1 c2 l r fun s2 I2 => wpAny_release ⟨σ, _, I2, q⟩))))
end
end DL

-- part DLm
set_option Elab.async false
set_option linter.all false
set_option maxRecDepth 100000
set_option maxHeartbeats 1000000
/-! DL, part m: assignments. -/
namespace DL
open PySem PySem.Spec PyProof.Rows L2
section
variable {X : Cx} {G : Fr} {rk : Nat} {σ : L2.St} {F H F1 H1 : Hp} {fs fs1 : Ft} {Z : Ends} {p : Bool} {M : Mo} {io : List (Nat × V)} {env env' : Env}
theorem fa3_zero : ∀ {ds : List D} {vs : List V} {fp : List Addr}, Fa3 (Own M F H 0) ds vs fp ↔ Fa2 (Rep M F) ds vs ∧ fp = []
  | [], vs, fp => by simp [Fa3, Fa2]
  | d :: ds, vs, fp => by
    constructor
    · rintro ⟨v, vs', f1, f2, rfl, rfl, ⟨r, rfl⟩, h⟩
      obtain ⟨h1, rfl⟩ := fa3_zero.mp h
      exact ⟨⟨v, vs', rfl, r, h1⟩, rfl⟩
    · rintro ⟨⟨v, vs', rfl, r, h⟩, rfl⟩
      exact ⟨v, vs', [], [], rfl, rfl, ⟨r, rfl⟩, fa3_zero.mpr ⟨h, rfl⟩⟩
theorem wr_ok (g : GS M F H io env σ fs) {i : Nat} {ds : List D} (e : ownAt env i 1 (.lst ds)) : ∃ a vs, σ[i]? = some (some (.ref a)) ∧ H a = some (.lst vs) ∧ Fa2 (Rep M F) ds vs ∧
    ∀ ds' vs', Fa2 (Rep M F) ds' vs' → ∃ fs', GS M F (upd H a (.lst vs')) io (env.set i (match env[i]? with | some (.io _ _) => .io 1 (.lst ds') | _ => .own 1 (.lst ds'))) σ fs' ∧ Step F H fs.at F (upd H a (.lst vs')) fs'.at := by
  obtain ⟨v, ev, o⟩ := g.own e
  obtain ⟨a, vs, ex, fps, rfl, ⟨h1, rfl⟩, h2, h3⟩ := o
  obtain ⟨h4, rfl⟩ := fa3_zero.mp h2
  refine ⟨a, vs, ev, h1, h4, fun ds' vs' f => ?_⟩
  have hF : F a = none := g.fn i a (by rw [h3]; simp)
  have nd := g.nd i
  rw [h3] at nd
  have k := g.change e ev (H' := upd H a (.lst vs')) (k' := 1) (d' := .lst ds') (f := [a]) (fun b u q => ?_) (fun b u q n => ?_) ⟨a, vs', [], [], rfl, ⟨upd_same, rfl⟩, fa3_zero.mpr ⟨f, rfl⟩, rfl⟩ nd fun b hb => .inl (by rw [h3]; exact hb)
  · exact ⟨_, k.1, k.2⟩
  · rw [upd_ne (fun z => by rw [z, hF] at q; cases q)]; exact g.fh b u q
  · rw [upd_ne (fun z => n (by rw [h3, z]; simp))]; exact q
theorem subAt_ok {i : Nat} {ix : Int} {x : D} (h : subAt env i ix x = .ok env') : ∃ ds j, ownAt env i 1 (.lst ds) ∧ ixN ds.length ix = some j ∧ env' = env.set i (match env[i]? with | some (.io _ _) => .io 1 (.lst (ds.set j x)) | _ => .own 1 (.lst (ds.set j x))) := by
  unfold subAt at h
  split at h
  · rename_i ds e
    split at h
    · rename_i j hj
      cases h
      exact ⟨ds, j, .inl e, hj, by rw [e]⟩
    · cases h
  · rename_i ds e
    split at h
    · rename_i j hj
      cases h
      exact ⟨ds, j, .inr e, hj, by rw [e]⟩
    · cases h
  · cases h
theorem putF_fl {f : Str} {d : D} {v : V} (r : Rep M F d v) : ∀ {fs : List (Str × V)} {ds : List D}, Fa2 (Rep M F) ds (fs.map (·.2)) →
    (L2.putF f v fs).map (·.1) = (putFl f d (fs.map (·.1)) ds).1 ∧ Fa2 (Rep M F) (putFl f d (fs.map (·.1)) ds).2 ((L2.putF f v fs).map (·.2))
  | [], ds, h => by
    cases ds with
    | nil => exact ⟨by simp [L2.putF, putFl], v, [], rfl, r, rfl⟩
    | cons d ds => obtain ⟨_, _, e, _⟩ := h; cases e
  | (g, w) :: fs, ds, h => by
    cases ds with
    | nil => cases h
    | cons e ds =>
      obtain ⟨w', vs', e1, r1, h1⟩ := h
      cases e1
      by_cases z : g = f
      · subst z
        simp only [L2.putF, if_true, List.map_cons, putFl]
        exact ⟨trivial, v, _, rfl, r, h1⟩
      · obtain ⟨i1, i2⟩ := putF_fl r h1
        simp only [L2.putF, if_neg z, List.map_cons, putFl]
        exact ⟨by rw [i1], w, _, rfl, r1, i2⟩
def gTi (K : PySem.W.Frag) : Ti → TG
  | .sl i => gName i
  | .at _ i f => fun v σ H Q => ∃ a C dx fs, σ[i]? = some (some (.ref a)) ∧ H a = some (.ins C dx fs) ∧ Cls K C ∧ NoAttr K C f ∧ fs.length < 1000 ∧ Q σ (upd H a (.ins C dx (L2.putF f v fs)))
  | .it i j => fun v σ H Q => ∃ a vs n, σ[i]? = some (some (.ref a)) ∧ H a = some (.lst vs) ∧ ixN vs.length j = some n ∧ Q σ (upd H a (.lst (vs.set n v)))
def gTis (K : PySem.W.Frag) : List Ti → TGs
  | [] => gNil
  | t :: ts => gCons (gTi K t) (gTis K ts)
def gTgt (K : PySem.W.Frag) : Tg → TG
  | .one t => gTi K t
  | .tup ts => gTup K ts.length (gTis K ts)
/-- the class that a target's field is about -/
def TiF (X : Cx) (M : Mo) : Ti → Prop
  | .sl _ => True
  | .at c _ f => FdF X M c f
  | .it _ _ => True
theorem own_obj {c : Nat} {fl : List Str} {ds : List D} {v : V} {f : List Addr} (o : Own M F H 1 (.nd (.obj c fl) ds) v f) :
    ∃ a C dx fs, v = .ref a ∧ M.cl c = some C ∧ H a = some (.ins C dx fs) ∧ H dx = some (.own a) ∧ fs.map (·.1) = fl ∧ Fa2 (Rep M F) ds (fs.map (·.2)) ∧ f = [a, dx] := by
  obtain ⟨a, vs, ex, fps, rfl, ⟨C, dx, fs, h1, h2, h3, h4, h5, rfl⟩, h6, rfl⟩ := o
  obtain ⟨h7, rfl⟩ := fa3_zero.mp h6
  subst h5
  exact ⟨a, C, dx, fs, rfl, h1, h2, h3, h4, h7, rfl⟩
theorem setTi_ok {t : Ti} {d : D} {v : V} (tf : TiF X M t) (g : GS M F H io env σ fs) (r : Rep M F d v) (e : setTi env t d = .ok env') :
    ∃ σ' H' fs', GS M F H' io env' σ' fs' ∧ Step F H fs.at F H' fs'.at ∧ ∀ Q : L2.St → Hp → Prop, Q σ' H' → gTi X.K t v σ H Q := by
  cases t with
  | sl i => exact ⟨_, H, _, setSl_val g r e, setSl_step, fun Q q => q⟩
  | it i j =>
    obtain ⟨ds, n, ow, hn, rfl⟩ := subAt_ok (show subAt env i j d = .ok env' from e)
    obtain ⟨a, vs, ev, hH, fa, k⟩ := wr_ok g ow
    obtain ⟨fs3, g3, s3⟩ := k (ds.set n d) (vs.set n v) (Fa2.set r n fa)
    exact ⟨σ, _, fs3, g3, s3, fun Q q => ⟨a, vs, n, ev, hH, by rw [fa.length]; exact hn, q⟩⟩
  | «at» c0 i f =>
    unfold setTi at e
    dsimp only at e
    split at e
    · rename_i c fl ds he
      split at e
      · rename_i hc
        obtain ⟨rfl, hl⟩ := hc
        cases e
        obtain ⟨w, ew, o⟩ := g.own (.inr he)
        obtain ⟨a, C, dx, fs0, rfl, h1, h2, h3, rfl, h5, h6⟩ := own_obj o
        obtain ⟨C', q1, q2, q3⟩ := tf
        rw [h1] at q1; cases q1
        have hF : F a = none := g.fn i a (by rw [h6]; simp)
        obtain ⟨i1, i2⟩ := putF_fl (f := f) r h5
        have hne : dx ≠ a := fun z => by rw [z, h2] at h3; cases h3
        have nd := g.nd i
        rw [h6] at nd
        have k := g.change (.inr he) ew (H' := upd H a (.ins C dx (L2.putF f v fs0))) (k' := 1) (d' := .nd (.obj c0 (putFl f d (fs0.map (·.1)) ds).1) (putFl f d (fs0.map (·.1)) ds).2) (f := [a, dx]) (fun b u q => ?_) (fun b u q n => ?_) ?_ nd fun b hb => .inl (by rw [h6]; exact hb)
        · rw [he] at k
          exact ⟨σ, _, _, k.1, k.2, fun Q q => ⟨a, C, dx, fs0, ew, h2, q2, q3, by simp at hl; omega, q⟩⟩
        · rw [upd_ne (fun z => by rw [z, hF] at q; cases q)]; exact g.fh b u q
        · rw [upd_ne (fun z => n (by rw [h6, z]; simp))]; exact q
        · exact ⟨a, _, [dx], [], rfl, ⟨C, dx, _, h1, upd_same, by rw [upd_ne hne]; exact h3, i1, rfl, rfl⟩, fa3_zero.mpr ⟨i2, rfl⟩, rfl⟩
      · cases e
    · cases e
theorem setTis_ok : ∀ {ts : List Ti} {ds : List D} {vs : List V} {env : Env} {σ : L2.St} {H : Hp} {fs : Ft}, (∀ t ∈ ts, TiF X M t) → GS M F H io env σ fs → Fa2 (Rep M F) ds vs → setTis env ts ds = .ok env' →
    vs.length = ts.length ∧ ∃ σ' H' fs', GS M F H' io env' σ' fs' ∧ Step F H fs.at F H' fs'.at ∧ ∀ Q : L2.St → Hp → Prop, Q σ' H' → gTis X.K ts vs σ H Q
  | [], [], vs, env, σ, H, fs, _, g, h, e => by
    cases h; cases e
    exact ⟨rfl, σ, H, fs, g, Step.refl, fun Q q => ⟨rfl, q⟩⟩
  | [], _ :: _, _, _, _, _, _, _, _, _, e => by cases e
  | _ :: _, [], _, _, _, _, _, _, _, _, e => by cases e
  | t :: ts, d :: ds, vs, env, σ, H, fs, tf, g, h, e => by
    obtain ⟨v, vs', rfl, r, h⟩ := h
    unfold setTis at e
    cases e1 : setTi env t d with
    | stuck => rw [e1] at e; cases e
    | exn c d => rw [e1] at e; cases e
    | ok env1 =>
      rw [e1] at e
      obtain ⟨σ1, H1, fs1, g1, s1, k1⟩ := setTi_ok (tf t (by simp)) g r e1
      obtain ⟨l, σ2, H2, fs2, g2, s2, k2⟩ := setTis_ok (fun t ht => tf t (List.mem_cons_of_mem _ ht)) g1 h e
      exact ⟨by simp [l], σ2, H2, fs2, g2, s1.trans s2, fun Q q => ⟨v, vs', rfl, k1 _ (k2 _ q)⟩⟩
def TgF (X : Cx) (M : Mo) : Tg → Prop
  | .one t => TiF X M t
  | .tup ts => ∀ t ∈ ts, TiF X M t
theorem setTg_ok {t : Tg} {d : D} {v : V} (tf : TgF X M t) (g : GS M F H io env σ fs) (r : Rep M F d v) (e : setTg env t d = .ok env') :
    ∃ σ' H' fs', GS M F H' io env' σ' fs' ∧ Step F H fs.at F H' fs'.at ∧ ∀ Q : L2.St → Hp → Prop, Q σ' H' → gTgt X.K t v σ H Q := by
  cases t with
  | one t => exact setTi_ok tf g r e
  | tup ts =>
    cases d with
    | nd k ds =>
      cases k with
      | tup =>
        obtain ⟨a, vs, rfl, r1, f1⟩ := Rep.nd_iff.mp r
        obtain ⟨l, σ', H', fs', g', s', k'⟩ := setTis_ok tf g f1 e
        exact ⟨σ', H', fs', g', s', fun Q q => ⟨a, vs, rfl, SqT.of (g.fh _ _ r1), l, k' Q q⟩⟩
      | _ => cases e
    | _ => cases e
/-- target = value -/
theorem asg_imp {tg : Tg} {e : E} (tf : TgF X G.M tg) (h : tS G rk (ex (.set tg e)) Z σ H) : tAsg (tE G e.pure (ev e)) (gTgt X.K tg) Z σ H := by
  obtain ⟨env, F, fs, g, q⟩ := h
  refine ⟨env, F, fs, g, PSt.bind (σ := σ) (show PSt G rk Z F H fs ((ev e env).bind fun (x, env) => (str1 x).bind fun d => (setTg env tg d).bind fun env => .ok (.nx env)) from q) fun x env1 F1 H1 fs1 _ g1 s1 _ q1 v rv => ?_⟩
  obtain ⟨d, rfl, q1⟩ := PSt.str q1
  obtain ⟨env2, e2, q1⟩ := PSt.env setTg_fx q1
  obtain ⟨σ', H', fs', g', s', k⟩ := setTg_ok tf g1 (show Rep G.M F1 d v from rv) e2
  exact k _ (q1 σ' F1 H' fs' g' s')
/-- .. a new list of one's own -/
theorem asgL_imp {i k : Nat} {e : E} (h : tS G rk (ex (.seto k i e)) Z σ H) : ownL e = true ∧ tAsg (tL G e.pure (ev e)) (gName i) Z σ H := by
  obtain ⟨env, F, fs, g, q⟩ := h
  have q : PSt G rk Z F H fs (if ownL e = true ∧ k = 1 then (ev e env).bind fun (x, env) => (str1 x).bind fun d => match d with
      | .nd .lst ds => (setSl env i (.own 1 (.lst ds))).bind fun env => .ok (.nx env)
      | _ => .stuck
    else .stuck) := q
  split at q
  · rename_i hk
    refine ⟨hk.1, env, F, fs, g, ?_⟩
    cases e1 : ev e env with
    | stuck => rw [e1] at q; exact q
    | exn c d => rw [e1] at q; exact q
    | ok y =>
      obtain ⟨⟨j, d⟩, env1⟩ := y
      rw [e1] at q
      have q : PSt G rk Z F H fs ((str1 (j, d)).bind fun d => match d with
        | .nd .lst ds => (setSl env1 i (.own 1 (.lst ds))).bind fun env => .ok (.nx env)
        | _ => .stuck) := q
      obtain ⟨d, e2, q⟩ := PSt.str q
      cases e2
      cases d with
      | nd kd ds =>
        cases kd with
        | lst =>
          obtain ⟨env2, e2, q⟩ := PSt.env setSl_fx q
          refine ⟨ds, rfl, fun F' H' fs' v f g' s' _ o nd ap fn => ?_⟩
          unfold setSl at e2
          split at e2
          · cases e2
          · rename_i s hs he
            cases e2
            have g2 := g'.set he (fun k d z => by subst z; exact hs k d rfl) (s' := .own 1 (.lst ds)) ⟨v, rfl, o⟩ nd fn ap
            refine q _ F' H' _ g2 (s'.less fun b ⟨m, hb⟩ => ?_)
            by_cases w : m = i
            · subst w; rw [Ft.set_same] at hb; exact .inr hb
            · rw [Ft.set_ne w] at hb; exact .inl ⟨m, hb⟩
          · cases e2
        | _ => exact q.elim
      | _ => exact q.elim
  · exact q.elim
end
end DL

-- part DLn
set_option Elab.async false
set_option linter.all false
set_option maxRecDepth 100000
set_option maxHeartbeats 1000000
/-! DL, part n: loops, returns, writes. -/
namespace DL
open PySem PySem.Spec PyProof.Rows L2
section
variable {X : Cx} {G : Fr} {rk : Nat} {σ : L2.St} {F H F1 H1 : Hp} {fs fs1 : Ft} {Z : Ends} {p : Bool} {M : Mo} {io : List (Nat × V)} {env env' : Env}
theorem evT_bindO {e : E} {f : Bool × Env → Res Out} {env : Env} : (evT e env).bind f = (ev e env).bind fun (x, env) => (asB x.2).bind fun k => f (k, env) := by
  unfold evT
  cases ev e env with
  | stuck => rfl
  | exn c d => rfl
  | ok q =>
    obtain ⟨x, env1⟩ := q
    simp only [Res.bind_ok]
    cases asB x.2 <;> rfl
theorem setIs_fx {env : Env} {tg : List Nat} {x : D} (c : Nat) (d : D) : setIs env tg x ≠ .exn c d := by
  unfold setIs
  split
  · exact setSl_fx c d
  · exact setTis_fx
  · intro h; cases h
theorem s_ifS {t : E} {a b : S} {c : Expr} {xs ys : List Stmt} {pos : Pos} (ht : PT X c (tT G t.pure (evT t))) (ha : PSs X xs (tS G rk (ex a))) (hb : PSs X ys (tS G rk (ex b))) : PS X (.If c xs ys pos) (tS G rk (ex (.ife t a b))) :=
  ps_imp (ps_if ht ha hb) fun Z σ H ⟨env, F, fs, g, q⟩ => by
    have q : PSt G rk Z F H fs ((evT t env).bind fun (k, env) => if k then ex a env else ex b env) := by rw [evT_bindO]; exact q
    refine ⟨env, F, fs, g, PSt.bind (σ := σ) q fun k env1 F1 H1 fs1 _ g1 s1 _ q1 => ?_⟩
    cases k with
    | true => exact ⟨env1, F1, fs1, g1, q1⟩
    | false => exact ⟨env1, F1, fs1, g1, q1⟩
theorem s_for {tg : List Nat} {it : E} {b : S} {tgt iter : Expr} {body : List Stmt} {pos : Pos} (hp : PassesOwn (model X.prog X.w) X.A X.env X.xe) (hc : X.calm = true) (hi : PI X tgt iter (tI G it.pure (evi it))) (hg : PG X tgt (gTg X.K tg)) (hb : PSs X body (tS G rk (ex b)))
    (hs : ∀ x, foldedSetIterable iter X.env x = pure x) : PS X (.For tgt iter body [] pos) (tS G rk (ex (.for_ tg it b))) :=
  ps_imp (ps_for hp hc hi hg hb hs) fun Z σ H ⟨env, F, fs, g, q⟩ => by
    refine ⟨env, F, fs, g, PSt.bind (σ := σ) (show PSt G rk Z F H fs ((evi it env).bind fun (xs, env) => forL tg (ex b) xs env) from q) fun xs env1 F1 H1 fs1 _ g1 s1 _ q1 J hJ => ?_⟩
    refine ⟨fun i m σ H => m = xs.length - i ∧ i ≤ xs.length ∧ ∃ env F fs, GS G.M F H G.io env σ fs ∧ Same F1 F ∧ PSt G rk Z F H fs (forL tg (ex b) (xs.drop i) env), ⟨xs.length, by simp, Nat.zero_le _, env1, F1, fs1, g1, Same.refl F1, by simpa using q1⟩, ?_⟩
    rintro i m σ H ⟨rfl, hil, env, F, fs, g2, sF, q2⟩
    cases hx : xs[i]? with
    | none =>
      have hl : xs.length ≤ i := List.getElem?_eq_none_iff.mp hx
      refine .inl ⟨(hJ i F H sF g2.fh).2 hl, ?_⟩
      rw [List.drop_eq_nil_of_le hl] at q2
      exact q2 σ F H fs g2 Step.refl
    | some x =>
      have hlt : i < xs.length := lt_of_get hx
      obtain ⟨go, yl⟩ := (hJ i F H sF g2.fh).1 x hx
      have hd : xs.drop i = x :: xs.drop (i + 1) := by
        rw [List.drop_eq_getElem_cons hlt]
        congr 1
        exact (List.getElem?_eq_some_iff.mp hx).2
      rw [hd] at q2
      refine .inr ⟨go, fun σ' H' => ∃ env F fs, GS G.M F H' G.io env σ' fs ∧ Same F1 F ∧ PSt G rk Z F H' fs (forL tg (ex b) (xs.drop (i + 1)) env), fun σ' H' h => ⟨xs.length - (i + 1), by omega, rfl, hlt, h⟩, fun xv H' hy => ?_⟩
      obtain ⟨F2, a1, a2, a3, a4, a5⟩ := yl xv H' hy
      obtain ⟨g3, s3⟩ := g2.more a1 a2 a3 a4
      obtain ⟨env2, e2, q2⟩ := PSt.env setIs_fx q2
      obtain ⟨is, vs, fs', g4, l4, hi4, k4⟩ := setIs_ok (K := X.K) g3 a5 e2
      refine k4 _ ⟨env2, F2, fs', g4, ?_⟩
      have st : Step F H fs.at F2 H' fs'.at := s3.less l4
      cases eb : ex b env2 with
      | stuck => rw [eb] at q2; exact q2
      | exn c d => rw [eb] at q2; exact XP.step q2 st
      | ok o =>
        rw [eb] at q2
        cases o with
        | nx env3 => exact fun σ' F' H'' fs'' g' s' => ⟨env3, F', fs'', g', sF.trans (st.ff.trans s'.ff), PSt.step (show PSt G rk Z F H fs (forL tg (ex b) (xs.drop (i + 1)) env3) from q2) (st.trans s')⟩
        | cnt env3 => exact fun σ' F' H'' fs'' g' s' => ⟨env3, F', fs'', g', sF.trans (st.ff.trans s'.ff), PSt.step (show PSt G rk Z F H fs (forL tg (ex b) (xs.drop (i + 1)) env3) from q2) (st.trans s')⟩
        | brk env3 => exact PSt.step (show PSt G rk Z F H fs (.ok (.nx env3)) from q2) st
        | ret d env3 => exact PSt.step (show PSt G rk Z F H fs (.ok (.ret d env3)) from q2) st
theorem s_whl {t : E} {b : S} {c : Expr} {body : List Stmt} {pos : Pos} (hp : PassesOwn (model X.prog X.w) X.A X.env X.xe) (ht : PT X c (tT G t.pure (evT t))) (hb : PSs X body (tS G rk (ex b))) : PS X (.While c body [] pos) (tS G rk (ex (.whl t b))) :=
  ps_imp (ps_while hp ht hb) fun Z σ H ⟨env, F, fs, g, q⟩ => by
    have q : PSt G rk Z F H fs (whl (ev t) (ex b) env) := q
    unfold whl at q
    split at q
    · rename_i hn
      refine ⟨fun m σ H => ∃ env F fs, GS G.M F H G.io env σ fs ∧ PSt G rk Z F H fs (whlF (ev t) (ex b) m env), ⟨_, env, F, fs, g, q⟩, ?_⟩
      rintro m σ H ⟨env, F, fs, g, q⟩
      cases m with
      | zero => exact q.elim
      | succ m =>
        have q : PSt G rk Z F H fs ((evT t env).bind fun (k, env) => if k then (ex b env).bind fun o => match o with
          | .nx env => whlF (ev t) (ex b) m env
          | .cnt env => whlF (ev t) (ex b) m env
          | .brk env => .ok (.nx env)
          | .ret d env => .ok (.ret d env)
          else .ok (.nx env)) := by rw [evT_bindO]; exact q
        refine ⟨env, F, fs, g, PSt.bind (σ := σ) q fun k env1 F1 H1 fs1 _ g1 s1 _ q1 => ?_⟩
        cases k with
        | false =>
          show Z.nx σ H1
          exact q1 σ F1 H1 fs1 g1 Step.refl
        | true =>
          rw [if_pos rfl]
          refine ⟨fun σ' H' => ∃ env F fs, GS G.M F H' G.io env σ' fs ∧ PSt G rk Z F H' fs (whlF (ev t) (ex b) m env), fun σ' H' h => ⟨m, by omega, h⟩, env1, F1, fs1, g1, ?_⟩
          have q1 : PSt G rk Z F1 H1 fs1 ((ex b env1).bind fun o => match o with
            | .nx env => whlF (ev t) (ex b) m env
            | .cnt env => whlF (ev t) (ex b) m env
            | .brk env => .ok (.nx env)
            | .ret d env => .ok (.ret d env)) := q1
          cases eb : ex b env1 with
          | stuck => rw [eb] at q1; exact q1
          | exn c d => rw [eb] at q1; exact q1
          | ok o =>
            rw [eb] at q1
            cases o with
            | nx env3 => exact fun σ' F' H'' fs'' g' s' => ⟨env3, F', fs'', g', PSt.step (show PSt G rk Z F1 H1 fs1 (whlF (ev t) (ex b) m env3) from q1) s'⟩
            | cnt env3 => exact fun σ' F' H'' fs'' g' s' => ⟨env3, F', fs'', g', PSt.step (show PSt G rk Z F1 H1 fs1 (whlF (ev t) (ex b) m env3) from q1) s'⟩
            | brk env3 => exact (show PSt G rk Z F1 H1 fs1 (.ok (.nx env3)) from q1)
            | ret d env3 => exact (show PSt G rk Z F1 H1 fs1 (.ok (.ret d env3)) from q1)
    · exact q.elim
/-! ### what is given back -/
theorem s_ret {e : E} {x : Expr} {pos : Pos} (h0 : rk = 0) (h : PE X x (tE G e.pure (ev e))) : PS X (.Return (some x) pos) (tS G rk (ex (.ret e))) :=
  ps_imp (ps_ret h) fun Z σ H ⟨env, F, fs, g, q⟩ => by
    subst h0
    refine ⟨env, F, fs, g, PSt.bind (σ := σ) (show PSt G 0 Z F H fs ((ev e env).bind fun (x, env) => (str1 x).bind fun d => .ok (.ret d env)) from q) fun x env1 F1 H1 fs1 _ g1 s1 _ q1 v rv => ?_⟩
    obtain ⟨d, rfl, q1⟩ := PSt.str q1
    exact q1 v σ F1 H1 fs1 [] g1 (Step.refl.less fun b hb => hb.elim id fun z => by simp at z) ⟨rv, rfl⟩ List.nodup_nil (fun _ _ _ => by simp) (by simp)
theorem s_reto {e : E} {x : Expr} {pos : Pos} (h0 : rk = 1) (h : ownL e = true → PE X x (tL G e.pure (ev e))) (ho : ownL e = true) : PS X (.Return (some x) pos) (tS G rk (ex (.reto e))) :=
  ps_imp (ps_ret (h ho)) fun Z σ H ⟨env, F, fs, g, q⟩ => by
    subst h0
    have q : PSt G 1 Z F H fs (if ownL e = true then (ev e env).bind fun (x, env) => (str1 x).bind fun d => match d with | .nd .lst ds => .ok (.ret (.lst ds) env) | _ => .stuck else .stuck) := q
    rw [if_pos ho] at q
    refine ⟨env, F, fs, g, ?_⟩
    cases e1 : ev e env with
    | stuck => rw [e1] at q; exact q
    | exn c d => rw [e1] at q; exact q
    | ok y =>
      obtain ⟨⟨j, d⟩, env1⟩ := y
      rw [e1] at q
      have q : PSt G 1 Z F H fs ((str1 (j, d)).bind fun d => match d with | .nd .lst ds => .ok (.ret (.lst ds) env1) | _ => .stuck) := q
      obtain ⟨d, e2, q⟩ := PSt.str q
      cases e2
      cases d with
      | nd kd ds =>
        cases kd with
        | lst => exact ⟨ds, rfl, fun F' H' fs' v f g' s' _ o nd ap fn => q v σ F' H' fs' f g' s' o nd ap fn⟩
        | _ => exact q.elim
      | _ => exact q.elim
theorem s_retm {i : Nat} {x : Str} {p pos : Pos} (h0 : rk = 1) (hN : X.N[i]? = some x) (hv : Vis X.env.scope x) (hd : (x == ("__debug__" : Str)) = false) (hcd : (x == ("__classdict__" : Str)) = false) : PS X (.Return (some (.Name x p)) pos) (tS G rk (ex (.retm i))) :=
  ps_imp (ps_ret (pe_var hN hv hd hcd)) fun Z σ H ⟨env, F, fs, g, q⟩ => by
    subst h0
    have q : PSt G 1 Z F H fs (match env[i]? with | some (.own 1 (.nd .lst ds)) => .ok (.ret (.lst ds) (env.set i .un)) | _ => .stuck) := q
    split at q
    · rename_i ds e
      obtain ⟨v, ev, o⟩ := g.own (.inl e)
      have g1 : GS G.M F H G.io (env.set i .un) (σ.set i (some v)) (fs.set i []) := g.set e (by intro k d z; cases z) rfl List.nodup_nil (by simp) (by simp)
      rw [set_self ev] at g1
      refine ⟨v, ev, q v σ F H _ (fs i) g1 (Step.refl.less fun b hb => ?_) o (g.nd i) (fun j b hb z => ?_) fun b hb => g.fn i b hb⟩
      · rcases hb with ⟨j, hb⟩ | hb
        · by_cases w : j = i
          · subst w; rw [Ft.set_same] at hb; simp at hb
          · rw [Ft.set_ne w] at hb; exact ⟨j, hb⟩
        · exact ⟨i, hb⟩
      · by_cases w : j = i
        · subst w; rw [Ft.set_same] at hb; simp at hb
        · rw [Ft.set_ne w] at hb; exact g.dj j i b w hb z
    · exact q.elim
theorem s_retn {pos : Pos} : PS X (.Return none pos) (tS G rk (ex .retn)) :=
  ps_imp ps_retN fun Z σ H ⟨env, F, fs, g, q⟩ => q .non σ F H fs [] g (Step.refl.less fun b hb => hb.elim id fun z => by simp at z) (by cases rk <;> exact ⟨rfl, rfl⟩) List.nodup_nil (fun _ _ _ => by simp) (by simp)
theorem s_drop {e : E} {x : Expr} {pos : Pos} (h : PE X x (tE G e.pure (ev e))) (hs : swapsWith x none pos.line X.env = pure false) : PS X (.Expr x pos) (tS G rk (ex (.drop e))) :=
  ps_imp (ps_expr h hs) fun Z σ H ⟨env, F, fs, g, q⟩ =>
    ⟨env, F, fs, g, PSt.bind (σ := σ) (show PSt G rk Z F H fs ((ev e env).bind fun (_, env) => .ok (.nx env)) from q) fun x env1 F1 H1 fs1 _ g1 s1 _ q1 v rv => q1 σ F1 H1 fs1 g1 Step.refl⟩
/-! ### writes into a list of one's own -/
theorem isL_ref (g : GS M F H io env σ fs) {i : Nat} (h : isL env i = true) : ∃ a xs, σ[i]? = some (some (.ref a)) ∧ H a = some (.lst xs) := by
  unfold isL at h
  split at h
  · rename_i k ds e
    obtain ⟨v, ev, o⟩ := g.own (.inl e)
    obtain ⟨a, vs, rfl, r, _⟩ := RW.node g.fh o.rw
    exact ⟨a, vs, ev, r⟩
  · rename_i k ds e
    obtain ⟨v, ev, o⟩ := g.own (.inr e)
    obtain ⟨a, vs, rfl, r, _⟩ := RW.node g.fh o.rw
    exact ⟨a, vs, ev, r⟩
  · cases h
theorem growAt_ok {i : Nat} {more : List D} (h : growAt env i none more = .ok env') : ∃ ds, ownAt env i 1 (.lst ds) ∧ ds.length + more.length ≤ lim ∧ env' = env.set i (match env[i]? with | some (.io _ _) => .io 1 (.lst (ds ++ more)) | _ => .own 1 (.lst (ds ++ more))) := by
  unfold growAt at h
  split at h
  · rename_i k d e
    cases e2 : growAt.grow none more (k + 1) d with
    | stuck => rw [e2] at h; cases h
    | exn c d => rw [e2] at h; cases h
    | ok d' =>
      rw [e2] at h
      cases h
      unfold growAt.grow at e2
      split at e2
      · rename_i ds _ _ hk _
        split at e2
        · rename_i hl
          cases e2
          obtain rfl : k = 0 := by omega
          exact ⟨_, .inl e, hl, by rw [e]⟩
        · cases e2
      · exact nomatch ‹none = some _›
      · cases e2
  · rename_i k d e
    cases e2 : growAt.grow none more (k + 1) d with
    | stuck => rw [e2] at h; cases h
    | exn c d => rw [e2] at h; cases h
    | ok d' =>
      rw [e2] at h
      cases h
      unfold growAt.grow at e2
      split at e2
      · rename_i ds _ _ hk _
        split at e2
        · rename_i hl
          cases e2
          obtain rfl : k = 0 := by omega
          exact ⟨_, .inr e, hl, by rw [e]⟩
        · cases e2
      · exact nomatch ‹none = some _›
      · cases e2
  · cases h
theorem growAt_fx {i : Nat} {ix : Option Int} {more : List D} (c : Nat) (d : D) : growAt env i ix more ≠ .exn c d := by
  have gf : ∀ k x c d, growAt.grow ix more k x ≠ .exn c d := by
    intro k x c d h
    unfold growAt.grow at h
    split at h
    · split at h <;> cases h
    · split at h
      · split at h
        · split at h <;> cases h
        · cases h
      · cases h
    · cases h
  intro h
  unfold growAt at h
  split at h
  · rename_i k x e
    cases e2 : growAt.grow ix more (k + 1) x with
    | stuck => rw [e2] at h; cases h
    | exn c d => exact gf _ _ _ _ e2
    | ok d' => rw [e2] at h; cases h
  · rename_i k x e
    cases e2 : growAt.grow ix more (k + 1) x with
    | stuck => rw [e2] at h; cases h
    | exn c d => exact gf _ _ _ _ e2
    | ok d' => rw [e2] at h; cases h
  · cases h
theorem ly_list {K : PySem.W.Frag} {H : Hp} {a : Addr} {xs : List V} (h : H a = some (.lst xs)) : tyV K "list" (.ref a) H := .inl ⟨rfl, xs, SqL.of h⟩
theorem lim_sz {n : Nat} (h : n ≤ lim) : n ≤ sizeLine := Nat.le_trans h (by decide)
theorem s_append {i : Nat} {e : E} {x : Str} {y : Expr} {p ap cp pos : Pos} (hN : X.N[i]? = some x) (hv : Vis X.env.scope x) (hd : (x == ("__debug__" : Str)) = false) (hcd : (x == ("__classdict__" : Str)) = false)
    (hy : isStar y = false) (hl : (ap.endLine == cp.line) = true) (h : PE X y (tE G e.pure (ev e))) : PS X (.Expr (.Call (.Attribute (.Name x p) "append" ap) [y] [] cp) pos) (tS G rk (ex (.app i .nil e))) :=
  ps_imp (ps_expr (pe_bm PySem.F.plainAttrs_list PySem.F.slot_list_append PySem.F.type_list_append mt_append (pe_var hN hv hd hcd) (pa_cons h pa_nil (star_cons hy)) rfl (form_ok (by simp [hy]) (by simp)) hl (star_cons hy) rfl)) fun Z σ H ⟨env, F, fs, g, q⟩ => by
    have q : PSt G rk Z F H fs (if isL env i = true then (ev e env).bind fun (x, env) => (str1 x).bind fun d => (growAt env i none [d]).bind fun env => .ok (.nx env) else .stuck) := q
    split at q
    · rename_i hL
      obtain ⟨a0, xs0, e0, e1⟩ := isL_ref g hL
      refine ⟨_, e0, ly_list e1, env, F, fs, g, PSt.bind (σ := σ) q fun x env1 F1 H1 fs1 _ g1 s1 _ q1 v rv => ?_⟩
      obtain ⟨d, rfl, q1⟩ := PSt.str q1
      obtain ⟨env2, e2, q1⟩ := PSt.env growAt_fx q1
      obtain ⟨ds, ow, hl, rfl⟩ := growAt_ok e2
      obtain ⟨a, vs, ev, hH, fa, k⟩ := wr_ok g1 ow
      rw [e0] at ev; cases ev
      obtain ⟨fs2, g2, s2⟩ := k (ds ++ [d]) (vs ++ [v]) (fa.append ⟨v, [], rfl, rv, rfl⟩)
      exact ⟨a0, vs, v, rfl, rfl, hH, by rw [fa.length]; exact lim_sz (by simpa using hl), q1 σ F1 _ fs2 g2 s2⟩
    · exact q.elim
theorem s_extend {i : Nat} {e : E} {x : Str} {y : Expr} {p ap cp pos : Pos} (hN : X.N[i]? = some x) (hv : Vis X.env.scope x) (hd : (x == ("__debug__" : Str)) = false) (hcd : (x == ("__classdict__" : Str)) = false)
    (hy : isStar y = false) (hl : (ap.endLine == cp.line) = true) (h : PE X y (tE G e.pure (ev e))) : PS X (.Expr (.Call (.Attribute (.Name x p) "extend" ap) [y] [] cp) pos) (tS G rk (ex (.ext i .nil e))) :=
  ps_imp (ps_expr (pe_bm PySem.F.plainAttrs_list PySem.F.slot_list_extend PySem.F.type_list_extend mt_extend (pe_var hN hv hd hcd) (pa_cons h pa_nil (star_cons hy)) rfl (form_ok (by simp [hy]) (by simp)) hl (star_cons hy) rfl)) fun Z σ H ⟨env, F, fs, g, q⟩ => by
    have q : PSt G rk Z F H fs (if isL env i = true then (ev e env).bind fun (x, env) => (str1 x).bind fun d => match d with | .nd .lst ds => (growAt env i none ds).bind fun env => .ok (.nx env) | _ => .stuck else .stuck) := q
    split at q
    · rename_i hL
      obtain ⟨a0, xs0, e0, e1⟩ := isL_ref g hL
      refine ⟨_, e0, ly_list e1, env, F, fs, g, PSt.bind (σ := σ) q fun x env1 F1 H1 fs1 _ g1 s1 _ q1 v rv => ?_⟩
      obtain ⟨d, rfl, q1⟩ := PSt.str q1
      cases d with
      | nd kd es =>
        cases kd with
        | lst =>
          obtain ⟨env2, e2, q1⟩ := PSt.env growAt_fx q1
          obtain ⟨ds, ow, hl, rfl⟩ := growAt_ok e2
          obtain ⟨a, vs, ev, hH, fa, k⟩ := wr_ok g1 ow
          rw [e0] at ev; cases ev
          obtain ⟨b, ws, rfl, hb, fb⟩ := Rep.nd_iff.mp (show Rep G.M F1 (.lst es) v from rv)
          obtain ⟨fs2, g2, s2⟩ := k (ds ++ es) (vs ++ ws) (fa.append fb)
          exact ⟨a0, b, vs, ws, rfl, rfl, hH, g1.fh b _ hb, by rw [fa.length, fb.length]; exact lim_sz hl, q1 σ F1 _ fs2 g2 s2⟩
        | _ => exact q1.elim
      | _ => exact q1.elim
    · exact q.elim
theorem s_sub {i : Nat} {j e : E} {x : Str} {y z : Expr} {p sp pos : Pos} (hN : X.N[i]? = some x) (hv : Vis X.env.scope x) (hd : (x == ("__debug__" : Str)) = false) (hcd : (x == ("__classdict__" : Str)) = false)
    (hs : swapsWithSole [.Subscript (.Name x p) z sp] y pos.line X.env = pure false) (hsl : isSl z = false) (h : PE X y (tE G e.pure (ev e))) (hj : PE X z (tE G j.pure (ev j))) : PS X (.Assign [.Subscript (.Name x p) z sp] y pos) (tS G rk (ex (.sub i j e))) :=
  ps_imp (ps_asg h (pg_sub (pe_var hN hv hd hcd) hj set_list (by intro v; cases z <;> first | rfl | (simp [isSl] at hsl))) hs (by cases y <;> rfl)) fun Z σ H ⟨env, F, fs, g, q⟩ => by
    have q : PSt G rk Z F H fs (if isL env i = true then (ev e env).bind fun (x, env) => (str1 x).bind fun d => (ev j env).bind fun (y, env) => (asI y.2).bind fun ix => (subAt env i ix d).bind fun env => .ok (.nx env) else .stuck) := q
    split at q
    · rename_i hL
      obtain ⟨a0, xs0, e0, e1⟩ := isL_ref g hL
      refine ⟨env, F, fs, g, PSt.bind (σ := σ) q fun x env1 F1 H1 fs1 _ g1 s1 _ q1 v rv => ?_⟩
      obtain ⟨d, rfl, q1⟩ := PSt.str q1
      refine ⟨_, e0, env1, F1, fs1, g1, PSt.bind (σ := σ) q1 fun y env2 F2 H2 fs2 _ g2 s2 _ q2 w rw' => ?_⟩
      obtain ⟨ix, hix, q2⟩ := PSt.asI q2
      obtain ⟨env3, e3, q2⟩ := PSt.env subAt_fx q2
      obtain ⟨ds, jn, ow, hj, rfl⟩ := subAt_ok e3
      obtain ⟨a, vs, ev, hH, fa, k⟩ := wr_ok g2 ow
      rw [e0] at ev; cases ev
      rw [hix] at rw'
      obtain ⟨fs3, g3, s3⟩ := k (ds.set jn d) (vs.set jn v) (Fa2.set ((show Rep G.M F1 d v from rv).mono s2.ff) jn fa)
      exact ⟨a0, vs, ix, jn, rfl, rw'.int, hH, by rw [fa.length]; exact hj, q2 σ F2 _ fs3 g3 s3⟩
    · exact q.elim
end
end DL

-- part DLoa
set_option Elab.async false
set_option linter.all false
set_option maxRecDepth 100000
set_option maxHeartbeats 1000000
/-! DL, part oa: rows of values some of which are new lists of one's own. -/
namespace DL
open PySem PySem.Spec PyProof.Rows L2
def OwL (M : Mo) (F H : Hp) : List Bool → List D → List V → List (List Addr) → Prop
  | [], ds, vs, fo => ds = [] ∧ vs = [] ∧ fo = []
  | true :: os, ds, vs, fo => ∃ es r v vs' f fo', ds = .lst es :: r ∧ vs = v :: vs' ∧ fo = f :: fo' ∧ Own M F H 1 (.lst es) v f ∧ OwL M F H os r vs' fo'
  | false :: os, ds, vs, fo => ∃ d r v vs' fo', ds = d :: r ∧ vs = v :: vs' ∧ fo = [] :: fo' ∧ Rep M F d v ∧ OwL M F H os r vs' fo'
theorem OwL.len {M : Mo} {F H : Hp} : ∀ {os : List Bool} {ds : List D} {vs : List V} {fo : List (List Addr)}, OwL M F H os ds vs fo → vs.length = ds.length
  | [], _, _, _, h => by obtain ⟨rfl, rfl, _⟩ := h; rfl
  | true :: os, _, _, _, h => by
    obtain ⟨es, r, v, vs', f, fo', rfl, rfl, rfl, _, h⟩ := h
    simp [h.len]
  | false :: os, _, _, _, h => by
    obtain ⟨d, r, v, vs', fo', rfl, rfl, rfl, _, h⟩ := h
    simp [h.len]
theorem OwL.mono {M : Mo} {F F' H H' : Hp} (s : Same F F') : ∀ {os : List Bool} {ds : List D} {vs : List V} {fo : List (List Addr)}, (∀ b ∈ fo.flatten, H' b = H b) → OwL M F H os ds vs fo → OwL M F' H' os ds vs fo
  | [], _, _, _, _, h => h
  | true :: os, _, _, _, t, h => by
    obtain ⟨es, r, v, vs', f, fo', rfl, rfl, rfl, o, h⟩ := h
    exact ⟨es, r, v, vs', f, fo', rfl, rfl, rfl, o.mono s fun b hb => t b (by simp [hb]), h.mono s fun b hb => t b (by simp only [List.flatten_cons, List.mem_append]; exact .inr hb)⟩
  | false :: os, _, _, _, t, h => by
    obtain ⟨d, r, v, vs', fo', rfl, rfl, rfl, o, h⟩ := h
    exact ⟨d, r, v, vs', fo', rfl, rfl, rfl, Rep.mono s o, h.mono s fun b hb => t b (by simpa using hb)⟩
theorem OwL.there {M : Mo} {F H : Hp} : ∀ {os : List Bool} {ds : List D} {vs : List V} {fo : List (List Addr)}, OwL M F H os ds vs fo → ∀ b ∈ fo.flatten, H b ≠ none
  | [], _, _, _, h, b, hb => by obtain ⟨_, _, rfl⟩ := h; simp at hb
  | true :: os, _, _, _, h, b, hb => by
    obtain ⟨es, r, v, vs', f, fo', rfl, rfl, rfl, o, h⟩ := h
    rw [List.flatten_cons, List.mem_append] at hb
    rcases hb with hb | hb
    · exact o.there b hb
    · exact h.there b hb
  | false :: os, _, _, _, h, b, hb => by
    obtain ⟨d, r, v, vs', fo', rfl, rfl, rfl, o, h⟩ := h
    exact h.there b (by simpa using hb)
/-- a row's reading -/
def tO2 (G : Fr) (r : Env → Res (List D × Env)) (os : List Bool) : TA := fun σ H Q => ∃ env F fs, GS G.M F H G.io env σ fs ∧ match r env with
  | .ok (ds, env') => ∀ F' H' fs' vs fos, GS G.M F' H' G.io env' σ fs' → Step F H fs.at F' H' (atW fs' fos.flatten) → OwL G.M F' H' os ds vs fos → fos.flatten.Nodup → Apart fs' fos.flatten → (∀ b ∈ fos.flatten, F' b = none) → Q vs H'
  | .exn c d => XP G.M G.E c d F H fs.at
  | .stuck => False
theorem bind_inv {α β : Type} {r : Res α} {f : α → Res β} {b : β} (h : r.bind f = .ok b) : ∃ a, r = .ok a ∧ f a = .ok b := by
  cases r with
  | ok a => exact ⟨a, rfl, h⟩
  | exn c d => cases h
  | stuck => cases h
theorem if_inv {α : Type} {c : Prop} [Decidable c] {r : Res α} {b : α} (h : (if c then r else .stuck) = .ok b) : c ∧ r = .ok b := by
  by_cases z : c
  · rw [if_pos z] at h; exact ⟨z, h⟩
  · rw [if_neg z] at h; cases h
section
variable {CXv : CXT} {X : Cx} {G : Fr} {N : List Str} {sc : Scope} {lv rk : Nat} {σ : L2.St} {F H : Hp} {env env' : Env} {fs : Ft} {M : Mo} {io : List (Nat × V)}
theorem o2_nil : PA X [] (tO2 G (evsO [] .nil) []) := pa_imp pa_nil fun σ H Q ⟨env, F, fs, g, q⟩ => by
  exact q F H fs [] [] g (Step.refl.less fun b hb => hb.elim id fun z => by simp at z) ⟨rfl, rfl, rfl⟩ (by simp) (fun _ _ _ => by simp) (by simp)
theorem o2_val {a es : E} {x : Expr} {xs : List Expr} {os : List Bool} (hx : isStar x = false) (ha : PE X x (tE G a.pure (ev a))) (hb : PA X xs (tO2 G (evsO os es) os)) :
    PA X (x :: xs) (tO2 G (evsO (false :: os) (.cons a es)) (false :: os)) :=
  pa_imp (pa_cons ha hb (star_cons hx)) fun σ H Q ⟨env, F, fs, g, q⟩ => by
    have e0 : evsO (false :: os) (.cons a es) env = if plainA a = true then (ev a env).bind fun (x, env) => (str1 x).bind fun d => (evsO os es env).bind fun (r, env) => .ok (d :: r, env) else .stuck := rfl
    rw [e0] at q
    refine ⟨env, F, fs, g, ?_⟩
    by_cases hp : plainA a = true
    · rw [if_pos hp] at q
      cases e1 : ev a env with
      | stuck => rw [e1] at q; exact q
      | exn c d => rw [e1] at q; exact q
      | ok y =>
        obtain ⟨⟨k, d⟩, env1⟩ := y
        rw [e1] at q
        intro F1 H1 fs1 g1 s1 _ v rv
        cases k with
        | succ k => exact q.elim
        | zero =>
          refine ⟨env1, F1, fs1, g1, ?_⟩
          simp only [Res.bind_ok, str1] at q
          cases e2 : evsO os es env1 with
          | stuck => rw [e2] at q; exact q
          | exn c d => rw [e2] at q; exact XP.step q s1
          | ok y =>
            obtain ⟨ds, env2⟩ := y
            rw [e2] at q
            intro F2 H2 fs2 vs fos g2 s2 ow nd ap fn
            exact q F2 H2 fs2 (v :: vs) ([] :: fos) g2 (by simpa using s1.trans s2) ⟨_, _, _, _, _, rfl, rfl, rfl, Rep.mono s2.ff rv, ow⟩ (by simpa using nd) (by simpa using ap) (by simpa using fn)
    · rw [if_neg hp] at q; exact q.elim
theorem o2_own {a es : E} {x : Expr} {xs : List Expr} {os : List Bool} (hx : isStar x = false) (ha : PE X x (tL G a.pure (ev a))) (hb : PA X xs (tO2 G (evsO os es) os)) :
    PA X (x :: xs) (tO2 G (evsO (true :: os) (.cons a es)) (true :: os)) :=
  pa_imp (pa_cons ha hb (star_cons hx)) fun σ H Q ⟨env, F, fs, g, q⟩ => by
    have e0 : evsO (true :: os) (.cons a es) env = if ownL a = true then (ev a env).bind fun (x, env) => match x with
      | (0, .nd .lst ds) => (evsO os es env).bind fun (r, env) => .ok (D.lst ds :: r, env)
      | _ => .stuck
      else .stuck := rfl
    rw [e0] at q
    refine ⟨env, F, fs, g, ?_⟩
    by_cases hp : ownL a = true
    · rw [if_pos hp] at q
      cases e1 : ev a env with
      | stuck => rw [e1] at q; exact q
      | exn c d => rw [e1] at q; exact q
      | ok y =>
        obtain ⟨⟨k, d⟩, env1⟩ := y
        rw [e1] at q
        have fin : ∀ es', k = 0 → d = D.lst es' → (match (evsO os es env1).bind (fun (r, env) => Res.ok (D.lst es' :: r, env)) with
          | .ok (ds, env') => ∀ F' H' fs' vs fos, GS G.M F' H' G.io env' σ fs' → Step F H fs.at F' H' (atW fs' fos.flatten) → OwL G.M F' H' (true :: os) ds vs fos → fos.flatten.Nodup → Apart fs' fos.flatten → (∀ b ∈ fos.flatten, F' b = none) → Q vs H'
          | .exn c d => XP G.M G.E c d F H fs.at
          | .stuck => False) → ∃ ds, ((k, d) : Wk) = (0, D.lst ds) ∧ ∀ F' H' fs' v f, GS G.M F' H' G.io env1 σ fs' → Step F H fs.at F' H' (atW fs' f) → (a.pure = true → Same H H') → Own G.M F' H' 1 (.lst ds) v f → f.Nodup → Apart fs' f → (∀ b ∈ f, F' b = none) → tO2 G (evsO os es) os σ H' fun xs H2 => Q (v :: xs) H2 := by
          intro es' ek ed q5
          clear q
          subst ek ed
          have q := q5
          clear q5
          refine ⟨es', rfl, fun F1 H1 fs1 v f g1 s1 _ o nd1 ap1 fn1 => ⟨env1, F1, fs1, g1, ?_⟩⟩
          have off : ∀ b ∈ f, ¬ fs1.at b := fun b hb ⟨i, hi⟩ => ap1 i b hi hb
          cases e2 : evsO os es env1 with
          | stuck => rw [e2] at q; exact q.elim
          | exn c1 d1 =>
            rw [e2] at q
            exact XP.step q (s1.less fun b hb => .inl hb)
          | ok y =>
            obtain ⟨ds, env2⟩ := y
            rw [e2] at q
            intro F2 H2 fs2 vs fos g2 s2 ow nd ap fn
            have no2 : ∀ b ∈ f, ¬ atW fs2 fos.flatten b := fun b hb z => by
              rcases s2.own b z with w | w
              · exact off b hb w
              · exact o.there b hb w
            have keep : ∀ b ∈ f, H2 b = H1 b := fun b hb => by
              cases e : H1 b with
              | none => exact absurd e (o.there b hb)
              | some u => exact s2.fr b u e (off b hb)
            refine q F2 H2 fs2 (v :: vs) (f :: fos) g2 (s1.trans (s2.mono (fun b hb => .inl hb) fun b hb => ?_)) ⟨_, _, _, _, _, _, rfl, rfl, rfl, o.mono s2.ff keep, ow⟩ ?_ ?_ ?_
            · rcases hb with hb | hb
              · exact .inl (.inl hb)
              · rw [List.flatten_cons, List.mem_append] at hb
                rcases hb with hb | hb
                · exact .inr (.inl (.inr hb))
                · exact .inl (.inr hb)
            · rw [List.flatten_cons, List.nodup_append]
              exact ⟨nd1, nd, fun b hb c hc z => no2 b hb (.inr (z ▸ hc))⟩
            · intro i b hb z
              rw [List.flatten_cons, List.mem_append] at z
              rcases z with z | z
              · exact no2 b z (.inl ⟨i, hb⟩)
              · exact ap i b hb z
            · intro b hb
              rw [List.flatten_cons, List.mem_append] at hb
              rcases hb with hb | hb
              · cases e : F2 b with
                | none => rfl
                | some u =>
                  rcases s2.nw b (by rw [e]; simp) with w | w | w
                  · exact absurd (fn1 b hb) w
                  · exact absurd w (o.there b hb)
                  · exact absurd w (off b hb)
              · exact fn b hb
        cases k with
        | succ k => exact q.elim
        | zero =>
          cases d with
          | nd kd es' =>
            cases kd with
            | lst => exact fin es' rfl rfl q
            | _ => exact q.elim
          | _ => exact q.elim
    · rw [if_neg hp] at q; exact q.elim
/-- a slot is stored, as one's own or not -/
theorem setOwns_vals : ∀ {is : List Nat} {os : List Bool} {ds : List D} {vs : List V} {fos : List (List Addr)} {env : Env} {σ : L2.St} {fs : Ft}, GS M F H io env σ fs → OwL M F H os ds vs fos → fos.flatten.Nodup → Apart fs fos.flatten → (∀ b ∈ fos.flatten, F b = none) →
    setOwns env is os ds = .ok env' → is.length = vs.length ∧ ∃ fs', GS M F H io env' (setV σ is vs) fs' ∧ ∀ b, fs'.at b → fs.at b ∨ b ∈ fos.flatten
  | [], [], ds, vs, fos, env, σ, fs, g, ow, nd, ap, fn, e => by
    obtain ⟨rfl, rfl, rfl⟩ := ow
    cases e
    exact ⟨rfl, fs, g, fun b hb => .inl hb⟩
  | i :: is, [], ds, vs, fos, env, σ, fs, g, ow, nd, ap, fn, e => by cases e
  | [], o :: os, ds, vs, fos, env, σ, fs, g, ow, nd, ap, fn, e => by cases o <;> cases e
  | i :: is, true :: os, ds, vs, fos, env, σ, fs, g, ow, nd, ap, fn, e => by
    obtain ⟨es, r, v, vs', f, fo', rfl, rfl, rfl, o, ow⟩ := ow
    obtain ⟨env1, e1, e⟩ := bind_inv (show (setSl env i (.own 1 (.lst es))).bind (fun env => setOwns env is os r) = .ok env' from e)
    rw [List.flatten_cons] at nd ap fn
    obtain ⟨n1, n2, n3⟩ := List.nodup_append.mp nd
    unfold setSl at e1
    split at e1
    · cases e1
    · rename_i s hs he
      cases e1
      have g2 := g.set he (fun k d z => by subst z; exact hs k d rfl) (s' := .own 1 (.lst es)) ⟨v, rfl, o⟩ n1 (fun b hb => fn b (List.mem_append_left _ hb)) (fun j b hb z => ap j b hb (List.mem_append_left _ z))
      have less : ∀ b, (fs.set i f).at b → fs.at b ∨ b ∈ f := fun b ⟨m, hb⟩ => by
        by_cases w : m = i
        · subst w; rw [Ft.set_same] at hb; exact .inr hb
        · rw [Ft.set_ne w] at hb; exact .inl ⟨m, hb⟩
      obtain ⟨l, fs', g', s'⟩ := setOwns_vals (fs := fs.set i f) g2 ow n2 (fun j b hb z => by
        rcases less b ⟨j, hb⟩ with ⟨m, w⟩ | w
        · exact ap m b w (List.mem_append_right _ z)
        · exact n3 b w b z rfl) (fun b hb => fn b (List.mem_append_right _ hb)) e
      refine ⟨by simp [l], fs', g', fun b hb => ?_⟩
      rw [List.flatten_cons]
      rcases s' b hb with w | w
      · exact (less b w).imp id (List.mem_append_left _)
      · exact .inr (List.mem_append_right _ w)
    · cases e1
  | i :: is, false :: os, ds, vs, fos, env, σ, fs, g, ow, nd, ap, fn, e => by
    obtain ⟨d, r, v, vs', fo', rfl, rfl, rfl, o, ow⟩ := ow
    obtain ⟨env1, e1, e⟩ := bind_inv (show (setSl env i (.val d)).bind (fun env => setOwns env is os r) = .ok env' from e)
    rw [List.flatten_cons, List.nil_append] at nd ap fn
    obtain ⟨l, fs', g', s'⟩ := setOwns_vals (setSl_val g o e1) ow nd (fun j b hb z => by
      obtain ⟨m, w⟩ := set_less b ⟨j, hb⟩
      exact ap m b w z) fn e
    refine ⟨by simp [l], fs', g', fun b hb => ?_⟩
    rw [List.flatten_cons, List.nil_append]
    exact (s' b hb).imp (set_less b) id
theorem setOwns_fx : ∀ {is : List Nat} {os : List Bool} {ds : List D} {env : Env} {c : Nat} {d : D}, setOwns env is os ds ≠ .exn c d := by
  intro is
  induction is with
  | nil => intro os ds env c d h; cases os <;> (try rename_i o os; cases o) <;> cases ds <;> cases h
  | cons i is ih =>
    intro os ds env c d h
    have st : ∀ (s : Sl) (k : Env → Res Env), (∀ env c d, k env ≠ .exn c d) → (setSl env i s).bind k ≠ .exn c d := fun s k hk h => by
      cases e : setSl env i s with
      | ok env1 => rw [e] at h; exact hk _ _ _ h
      | stuck => rw [e] at h; cases h
      | exn c1 d1 => exact setSl_fx _ _ e
    cases os with
    | nil => cases ds <;> cases h
    | cons o os =>
      cases ds with
      | nil => cases o <;> cases h
      | cons d0 ds =>
        cases o with
        | false => exact st _ _ (fun _ _ _ => ih) h
        | true =>
          cases d0 with
          | nd kd es =>
            cases kd with
            | lst => exact st _ _ (fun _ _ _ => ih) h
            | _ => cases h
          | _ => cases h
/-- the row's reading, from the statement's -/
theorem paro_imp {is : List Nat} {os : List Bool} {es : E} {Z : Ends} (h : tS G rk (ex (.paro is os es)) Z σ H) : tO2 G (evsO os es) os σ H fun vs H1 => is.length = vs.length ∧ Z.nx (setV σ is vs) H1 := by
  obtain ⟨env, F, fs, g, q⟩ := h
  have q : PSt G rk Z F H fs ((evsO os es env).bind fun (ds, env) => (setOwns env is os ds).bind fun env => .ok (.nx env)) := q
  refine ⟨env, F, fs, g, ?_⟩
  cases e1 : evsO os es env with
  | stuck => rw [e1] at q; exact q
  | exn c d => rw [e1] at q; exact q
  | ok y =>
    obtain ⟨ds, env1⟩ := y
    rw [e1] at q
    have q : PSt G rk Z F H fs ((setOwns env1 is os ds).bind fun env => .ok (.nx env)) := q
    obtain ⟨env2, e3, q⟩ := PSt.env (fun _ _ => setOwns_fx) q
    intro F' H' fs' vs fos g' s' ow nd ap fn
    obtain ⟨l, fs2, g2, s2⟩ := setOwns_vals g' ow nd ap fn e3
    exact ⟨l, q _ F' H' fs2 g2 (s'.less fun b hb => s2 b hb)⟩
theorem paro_impT {is : List Nat} {os : List Bool} {es : E} {Z : Ends} (h : tS G rk (ex (.paro is os es)) Z σ H) : tO2 G (evsO os es) os σ H fun vs H1 => is.length = vs.length ∧ ∀ p, H1 p = none → Z.nx (setV σ is vs) (upd H1 p (.tup vs)) := by
  obtain ⟨env, F, fs, g, q⟩ := h
  have q : PSt G rk Z F H fs ((evsO os es env).bind fun (ds, env) => (setOwns env is os ds).bind fun env => .ok (.nx env)) := q
  refine ⟨env, F, fs, g, ?_⟩
  cases e1 : evsO os es env with
  | stuck => rw [e1] at q; exact q
  | exn c d => rw [e1] at q; exact q
  | ok y =>
    obtain ⟨ds, env1⟩ := y
    rw [e1] at q
    have q : PSt G rk Z F H fs ((setOwns env1 is os ds).bind fun env => .ok (.nx env)) := q
    obtain ⟨env2, e3, q⟩ := PSt.env (fun _ _ => setOwns_fx) q
    intro F' H' fs' vs fos g' s' ow nd ap fn
    refine ⟨(setOwns_vals g' ow nd ap fn e3).1, fun p hp => ?_⟩
    obtain ⟨gn, sn, an, _⟩ := g'.newO (o := .tup vs) hp
    have ow2 : OwL G.M F' (upd H' p (.tup vs)) os ds vs fos := ow.mono (Same.refl _) fun b hb => by
      have : b ≠ p := fun z => ow.there b hb (z ▸ hp)
      exact upd_ne this
    obtain ⟨l, fs2, g2, s2⟩ := setOwns_vals gn ow2 nd ap fn e3
    refine q _ F' (upd H' p (.tup vs)) fs2 g2 (s'.trans (sn.mono (fun b hb => .inl hb) fun b hb => ?_))
    rcases s2 b hb with w | w
    · exact .inl (.inl w)
    · exact .inr (.inl (.inr w))
/-! ### a call that gives a tuple of one's own lists -/
def tT2 (G : Fr) (r : Env → Res (Wk × Env)) : TE := fun σ H Q => ∃ env F fs, GS G.M F H G.io env σ fs ∧ match r env with
  | .ok (x, env') => ∃ ds, x = (0, D.tup ds) ∧ ∀ F' H' fs' v f, GS G.M F' H' G.io env' σ fs' → Step F H fs.at F' H' (atW fs' f) → Own G.M F' H' 2 (.tup ds) v f → f.Nodup → Apart fs' f → (∀ b ∈ f, F' b = none) → Q v H'
  | .exn c d => XP G.M G.E c d F H fs.at
  | .stuck => False
theorem t2_app {f : FnD} {fa : Addr} (D : FnF CXv X G.M lv f fa) (h1 : f.rk = 2) (hm : X.mg f.name = some (.ref fa)) (hk : PySem.W.keepIn X.K (.ref fa) = true) (hr : Room lv X.A) (hx : Passes CXv X G.E) (hg : Gl X f.name) (hd : (f.name == ("__debug__" : Str)) = false)
    {es : E} {x : Expr} {xs : List Expr} {pp pos : Pos} (hs : (x :: xs).all (fun e => !isStar e) = true) (hb : PA X (x :: xs) (tA G es.pure (evs es))) :
    PE X (.Call (.Name f.name pp) (x :: xs) [] pos) (tT2 G (ev (.app f es))) := by
  obtain ⟨k, fd, ps, F1, hk1, hb1⟩ := D
  have hs := Bool.and_eq_true_iff.mp (show ((!isStar x) && xs.all fun e => !isStar e) = true from hs)
  refine pe_imp (pe_call F1 (hr.mono (by omega)) hg hm hk hb1 .nil hx hb hd (star_cons (by simpa using hs.1)) (star_none hs.2)) fun σ H Q ⟨env, F, fs, g, q⟩ => ?_
  have e0 : ev (.app f es) env = (evs es env).bind fun (ars, env) => (callD f ars env).bind fun (d, env) => .ok ((0, d), env) := rfl
  rw [e0] at q
  refine ⟨env, F, fs, g, ?_⟩
  cases e : evs es env with
  | stuck => rw [e] at q; exact q
  | exn c d => rw [e] at q; exact q
  | ok ro =>
    obtain ⟨ars, env1⟩ := ro
    rw [e] at q
    intro F1 H1 fs1 g1 s1 t1 vs rv
    show Spec G.M f (vs ++ []) H1 Q G.E
    rw [List.append_nil]
    refine call_spec (r0 := .stuck) (k := fun _ _ _ _ _ => True) (p := true) g1 rv ?_
    cases e2 : callD f ars env1 with
    | stuck =>
      have q : (match (callD f ars env1).bind (fun (d, env) => Res.ok (((0 : Nat), d), env)) with
        | .ok (x, env') => _
        | .exn c d => _
        | .stuck => False) := q
      rw [e2] at q; exact q
    | exn c d =>
      have q : (match (callD f ars env1).bind (fun (d, env) => Res.ok (((0 : Nat), d), env)) with
        | .ok (x, env') => _
        | .exn c d => XP G.M G.E c d F H fs.at
        | .stuck => False) := q
      rw [e2] at q; exact XP.step q s1
    | ok ro =>
      obtain ⟨r, env'⟩ := ro
      simp only [Res.bind_ok, e2] at q
      obtain ⟨ds, er, q⟩ := q
      intro F' H' fs' v fr g' st _ own nd ap fn
      rw [h1] at own
      have er : r = D.tup ds := congrArg Prod.snd er
      subst er
      exact q F' H' fs' v fr g' (s1.trans st) own nd ap fn
theorem fa3_owl : ∀ {ds : List D} {vs : List V} {fps : List Addr}, Fa3 (Own M F H 1) ds vs fps → (ds.all fun d => isLst d || flat d) = true → ∃ fos, OwL M F H (ds.map isLst) ds vs fos ∧ fos.flatten = fps
  | [], vs, fps, h, _ => by
    obtain ⟨rfl, rfl⟩ := h
    exact ⟨[], ⟨rfl, rfl, rfl⟩, rfl⟩
  | d :: ds, _, _, h, al => by
    obtain ⟨v, vs', f1, f2, rfl, rfl, o, h⟩ := h
    simp only [List.all_cons, Bool.and_eq_true] at al
    obtain ⟨fos, ow, e⟩ := fa3_owl h al.2
    cases d with
    | nd kd es =>
      cases kd with
      | lst => exact ⟨f1 :: fos, ⟨es, ds, v, vs', f1, fos, rfl, rfl, rfl, o, ow⟩, by simp [e]⟩
      | _ => simp [isLst, flat] at al
    | _ =>
      obtain ⟨o1, rfl⟩ := (show _ ∧ f1 = [] from o)
      exact ⟨[] :: fos, ⟨_, ds, v, vs', fos, rfl, rfl, rfl, o1, ow⟩, by simp [e]⟩
theorem setm_imp {is : List Nat} {e : E} {Z : Ends} (h : tS G rk (ex (.setm is e)) Z σ H) (hF : X.K = G.M.K) : ownT e = true ∧ tAsg (tT2 G (ev e)) (gTup X.K is.length (gIs is)) Z σ H := by
  obtain ⟨env, F, fs, g, q⟩ := h
  have q : PSt G rk Z F H fs (if ownT e = true then (ev e env).bind fun (x, env) => match x with
    | (0, .nd .tup ds) => if (ds.all fun d => isLst d || flat d) = true then (setOwns env is (ds.map isLst) ds).bind fun env => .ok (.nx env) else .stuck
    | _ => .stuck
    else .stuck) := q
  split at q
  · rename_i ho
    refine ⟨ho, env, F, fs, g, ?_⟩
    cases e1 : ev e env with
    | stuck => rw [e1] at q; exact q
    | exn c d => rw [e1] at q; exact q
    | ok y =>
      obtain ⟨⟨j, d⟩, env1⟩ := y
      rw [e1] at q
      have q2 : PSt G rk Z F H fs (match (j, d) with
        | (0, .nd .tup ds) => if (ds.all fun d => isLst d || flat d) = true then (setOwns env1 is (ds.map isLst) ds).bind fun env => .ok (.nx env) else .stuck
        | _ => .stuck) := q
      clear q
      split at q2
      · rename_i ds ej
        cases ej
        split at q2
        · rename_i al
          obtain ⟨env2, e3, q⟩ := PSt.env (fun _ _ => setOwns_fx) q2
          refine ⟨ds, rfl, fun F' H' fs' v f g' s' o nd ap fn => ?_⟩
          obtain ⟨a, vs, ex, fps, rfl, ⟨h1, rfl⟩, h2, rfl⟩ := o
          obtain ⟨fos, ow, ef⟩ := fa3_owl h2 al
          rw [List.nil_append] at nd ap fn s'
          subst ef
          obtain ⟨l, fs2, g2, s2⟩ := setOwns_vals g' ow (List.nodup_cons.mp nd).2 (fun i b hb z => ap i b hb (List.mem_cons_of_mem _ z)) (fun b hb => fn b (List.mem_cons_of_mem _ hb)) e3
          refine ⟨a, vs, rfl, SqT.of h1, l.symm, gIs_of l (q _ F' H' fs2 g2 (s'.less fun b hb => ?_))⟩
          exact (s2 b hb).imp id (List.mem_cons_of_mem _)
        · exact q2.elim
      · exact q2.elim
  · exact q.elim
/-! ### a tuple of one's own lists is given away -/
theorem takeAll_ok : ∀ {ars : List Ar} {vs : List V} {env env2 : Env} {fs : Ft} {ds : List D}, GS M F H io env σ fs → ArR M F H σ ars vs → takeAll ars env = .ok (ds, env2) →
    ∃ fs2 fps, GS M F H io env2 σ fs2 ∧ Fa3 (Own M F H 1) ds vs fps ∧ fps.Nodup ∧ Apart fs2 fps ∧ (∀ b ∈ fps, F b = none) ∧ ∀ b, fs2.at b ∨ b ∈ fps → fs.at b
  | [], vs, env, env2, fs, ds, g, a, e => by
    cases e
    exact ⟨fs, [], g, ⟨a, rfl⟩, List.nodup_nil, fun _ _ _ => by simp, by simp, fun b hb => hb.elim id fun z => by simp at z⟩
  | .d k d :: ars, _, env, env2, fs, ds, g, a, e => by
    obtain ⟨v, vs', rfl, r, a⟩ := a
    cases k with
    | succ k => cases e
    | zero =>
      have e : (if flat d = true then (takeAll ars env).bind fun (ds, env) => Res.ok (d :: ds, env) else .stuck) = .ok (ds, env2) := e
      obtain ⟨hf, e⟩ := if_inv e
      obtain ⟨⟨ds', env1⟩, e1, e⟩ := bind_inv e
      cases e
      obtain ⟨fs2, fps, g2, h2, n2, a2, f2, s2⟩ := takeAll_ok g a e1
      have o : Own M F H 1 d v [] := by
        cases d with
        | nd kd es => simp [flat] at hf
        | _ => exact ⟨r, rfl⟩
      exact ⟨fs2, fps, g2, ⟨v, vs', [], fps, rfl, rfl, o, h2⟩, n2, a2, f2, s2⟩
  | .io i :: ars, _, env, env2, fs, ds, g, a, e => by cases e
  | .wk i :: ars, _, env, env2, fs, ds, g, a, e => by
    obtain ⟨v, vs', rfl, r, a⟩ := a
    have e : (match env[i]? with
      | some (.own 1 (.nd .lst ds)) => (takeAll ars (env.set i .un)).bind fun (es, env) => Res.ok (D.lst ds :: es, env)
      | _ => .stuck) = .ok (ds, env2) := e
    split at e
    · rename_i es he
      obtain ⟨⟨ds', env1⟩, e1, e⟩ := bind_inv e
      cases e
      obtain ⟨v', ev, o⟩ := g.own (.inl he)
      rw [r] at ev; cases ev
      have g1 : GS M F H io (env.set i .un) (σ.set i (some v)) (fs.set i []) := g.set he (by intro k d z; cases z) rfl List.nodup_nil (by simp) (by simp)
      rw [set_self r] at g1
      obtain ⟨fs2, fps, g2, h2, n2, a2, f2, s2⟩ := takeAll_ok g1 a e1
      have off : ∀ b, fs2.at b ∨ b ∈ fps → b ∉ fs i := fun b hb z => by
        obtain ⟨j, w⟩ := s2 b hb
        by_cases q : j = i
        · subst q; rw [Ft.set_same] at w; simp at w
        · rw [Ft.set_ne q] at w; exact g.dj j i b q w z
      refine ⟨fs2, fs i ++ fps, g2, ⟨v, vs', fs i, fps, rfl, rfl, o, h2⟩, List.nodup_append.mpr ⟨g.nd i, n2, fun b hb c hc z => off b (.inr (z ▸ hc)) hb⟩, fun j b hb z => ?_, fun b hb => ?_, fun b hb => ?_⟩
      · rcases List.mem_append.mp z with z | z
        · exact off b (.inl ⟨j, hb⟩) z
        · exact a2 j b hb z
      · rcases List.mem_append.mp hb with z | z
        · exact g.fn i b z
        · exact f2 b z
      · rcases hb with hb | hb
        · exact set_less b (s2 b (.inl hb))
        · rcases List.mem_append.mp hb with z | z
          · exact ⟨i, z⟩
          · exact set_less b (s2 b (.inr z))
    · cases e
theorem rett_imp {es : E} {Z : Ends} (h0 : rk = 2) (h : tS G rk (ex (.rett es)) Z σ H) : tTup (tA G es.pure (evs es)) σ H Z.rt := by
  subst h0
  obtain ⟨env, F, fs, g, q⟩ := h
  refine ⟨env, F, fs, g, PSt.bind (σ := σ) (show PSt G 2 Z F H fs ((evs es env).bind fun (ars, env) => (takeAll ars env).bind fun (ds, env) => if ds.length ≤ lim then .ok (.ret (.tup ds) env) else .stuck) from q) fun ars env1 F1 H1 fs1 _ g1 s1 _ q1 vs rv => ?_⟩
  have q1 : PSt G 2 Z F1 H1 fs1 ((takeAll ars env1).bind fun (ds, env) => if ds.length ≤ lim then .ok (.ret (.tup ds) env) else .stuck) := q1
  cases e1 : takeAll ars env1 with
  | stuck => rw [e1] at q1; exact q1.elim
  | exn c d =>
    exfalso
    have : ∀ {ars : List Ar} {env : Env} {c : Nat} {d : D}, takeAll ars env ≠ .exn c d := by
      intro ars
      induction ars with
      | nil => intro env c d h; cases h
      | cons a ars ih =>
        intro env c d h
        cases a with
        | d k x =>
          cases k with
          | succ k => cases h
          | zero =>
            have h : (if flat x = true then (takeAll ars env).bind fun (ds, env) => Res.ok (x :: ds, env) else .stuck) = .exn c d := h
            split at h
            · cases e : takeAll ars env with
              | ok y => rw [e] at h; cases h
              | stuck => rw [e] at h; cases h
              | exn c d => exact ih e
            · cases h
        | io i => cases h
        | wk i =>
          have h : (match env[i]? with
            | some (.own 1 (.nd .lst ds)) => (takeAll ars (env.set i .un)).bind fun (es, env) => Res.ok (D.lst ds :: es, env)
            | _ => .stuck) = .exn c d := h
          split at h
          · rename_i es _
            cases e : takeAll ars (env.set i .un) with
            | ok y => rw [e] at h; cases h
            | stuck => rw [e] at h; cases h
            | exn c d => exact ih e
          · cases h
    exact this e1
  | ok y =>
    obtain ⟨ds, env2⟩ := y
    rw [e1] at q1
    have q1 : PSt G 2 Z F1 H1 fs1 (if ds.length ≤ lim then .ok (.ret (.tup ds) env2) else .stuck) := q1
    split at q1
    · rename_i hl
      obtain ⟨fs2, fps, g2, h2, n2, a2, f2, s2⟩ := takeAll_ok g1 rv e1
      refine ⟨by rw [h2.length]; exact lim_ok hl, fun p hp => ?_⟩
      obtain ⟨gn, sn, an, hF⟩ := g2.newO (o := .tup vs) hp
      have there : ∀ b ∈ fps, H1 b ≠ none := fun b hb z => by
        obtain ⟨j, w⟩ := s2 b (.inr hb)
        exact g1.hd w z
      have hp2 : p ∉ fps := fun z => there p z hp
      refine q1 (.ref p) σ F1 (upd H1 p (.tup vs)) fs2 (p :: fps) gn ?_ ⟨p, vs, [], fps, rfl, ⟨upd_same, rfl⟩, h2.mono fun d _ v f hf o => o.mono (Same.refl _) fun b hb => upd_ne fun z => hp2 (z ▸ hf b hb), rfl⟩ (List.nodup_cons.mpr ⟨hp2, n2⟩) (fun j b hb z => ?_) fun b hb => ?_
      · refine sn.mono (fun b hb => s2 b (.inl hb)) fun b hb => ?_
        rcases hb with hb | hb
        · exact .inl (.inl hb)
        · rcases List.mem_cons.mp hb with z | z
          · exact .inl (.inr (by simp [z]))
          · exact .inr (.inl (s2 b (.inr z)))
      · rcases List.mem_cons.mp z with z | z
        · exact an j b hb (by simp [z])
        · exact a2 j b hb z
      · rcases List.mem_cons.mp hb with z | z
        · rw [z]; exact hF
        · exact f2 b z
    · exact q1.elim
/-! ### a new list is written to and forgotten -/
theorem appd_imp {o e : E} {Z : Ends} (h : tS G rk (ex (.appd o e)) Z σ H) : ownL o = true ∧ tL G o.pure (ev o) σ H fun v H1 => ∃ a vs, v = .ref a ∧ H1 a = some (.lst vs) ∧ tE G e.pure (ev e) σ H1 fun w H2 => ∃ vs2, H2 a = some (.lst vs2) ∧ vs2.length < sizeLine ∧ Z.nx σ (upd H2 a (.lst (vs2 ++ [w]))) := by
  obtain ⟨env, F, fs, g, q⟩ := h
  have q : PSt G rk Z F H fs (if ownL o = true then (ev o env).bind fun (x, env) => match x with
    | (0, .nd .lst ds) => if ds.length + 1 ≤ lim then (ev e env).bind fun (y, env) => (str1 y).bind fun _ => .ok (.nx env) else .stuck
    | _ => .stuck
    else .stuck) := q
  split at q
  · rename_i ho
    refine ⟨ho, env, F, fs, g, ?_⟩
    cases e1 : ev o env with
    | stuck => rw [e1] at q; exact q
    | exn c d => rw [e1] at q; exact q
    | ok y =>
      obtain ⟨⟨k, d⟩, env1⟩ := y
      rw [e1] at q
      have q2 : PSt G rk Z F H fs (match (k, d) with
        | (0, .nd .lst ds) => if ds.length + 1 ≤ lim then (ev e env1).bind fun (y, env) => (str1 y).bind fun _ => .ok (.nx env) else .stuck
        | _ => .stuck) := q
      clear q
      split at q2
      · rename_i ds ez
        cases ez
        have q := q2
        clear q2
        split at q
        · rename_i hl
          refine ⟨ds, rfl, fun F1 H1 fs1 v f g1 s1 _ ow nd1 ap1 fn1 => ?_⟩
          obtain ⟨a, vs, ex, fps, rfl, ⟨h1, rfl⟩, h2, rfl⟩ := ow
          obtain ⟨h4, rfl⟩ := fa3_zero.mp h2
          refine ⟨a, vs, rfl, h1, env1, F1, fs1, g1, ?_⟩
          have off : ¬ fs1.at a := fun ⟨i, hi⟩ => ap1 i a hi (by simp)
          cases e2 : ev e env1 with
          | stuck => rw [e2] at q; exact q
          | exn c d => rw [e2] at q; exact XP.step q (s1.less fun b hb => .inl hb)
          | ok y =>
            obtain ⟨⟨k, d2⟩, env2⟩ := y
            rw [e2] at q
            intro F2 H2 fs2 g2 s2 _ w rw
            cases k with
            | succ k => exact q.elim
            | zero =>
              have q : PSt G rk Z F H fs (.ok (.nx env2)) := q
              have k2 : H2 a = some (.lst vs) := s2.fr a _ h1 off
              refine ⟨vs, k2, by rw [h4.length]; exact Nat.lt_of_lt_of_le (Nat.lt_of_succ_le hl) (by decide), ?_⟩
              have off2 : ¬ fs2.at a := fun z => by
                rcases s2.own a z with w | w
                · exact off w
                · rw [h1] at w; cases w
              have fa : F2 a = none := by
                cases e : F2 a with
                | none => rfl
                | some u =>
                  rcases s2.nw a (by rw [e]; simp) with w | w | w
                  · exact absurd (fn1 a (by simp)) w
                  · rw [h1] at w; cases w
                  · exact absurd w off
              have s3 : Step F1 H1 (atW fs1 (a :: ([] ++ []))) F2 (upd H2 a (.lst (vs ++ [w]))) fs2.at :=
                ⟨s2.ff, fun b u e hb => by
                  have : b ≠ a := fun z => hb (.inr (by simp [z]))
                  rw [upd_ne this]
                  exact s2.fr b u e fun z => hb (.inl z), fun b hb => (s2.nw b hb).imp id (·.imp id .inl), fun b hb => (s2.own b hb).imp .inl id⟩
              refine q σ F2 _ fs2 (g2.keep (Same.refl _) (fun i b hb => upd_ne fun z => off2 (z ▸ ⟨i, hb⟩)) (fun b u e => ?_) g2.fn) (s1.trans s3)
              have : b ≠ a := fun z => by rw [z, fa] at e; cases e
              rw [upd_ne this]
              exact g2.fh b u e
        · exact q.elim
      · exact q2.elim
  · exact q.elim
end
end DL

-- part DLob
set_option Elab.async false
set_option linter.all false
set_option maxRecDepth 100000
set_option maxHeartbeats 1000000
/-! DL, part ob: dicts with texts as keys, in statements. -/
namespace DL
open PySem PySem.Spec PyProof.Rows L2
section
variable {M : Mo} {F H : Hp}
theorem flat_own {k : Nat} {d : D} {v : V} {fp : List Addr} (f : flat d = true) (h : Own M F H k d v fp) : Rep M F d v ∧ fp = [] := by
  cases k with
  | zero => exact h
  | succ k => cases d <;> first | exact h | simp [flat] at f
theorem own_flat {k : Nat} {d : D} {v : V} (f : flat d = true) (h : Rep M F d v) : Own M F H k d v [] := by
  cases k with
  | zero => exact ⟨h, rfl⟩
  | succ k => cases d <;> first | exact ⟨h, rfl⟩ | simp [flat] at f
/-- the entries behind a write -/
theorem dic_put {k : Nat} {s : Str} {x : D} {w : V} (fx : flat x = true) (hx : Rep M F x w) : ∀ {ks : List Str} {ds ds' : List D} {kvs : List (Key × V)} {fps : List Addr}, kvs.map (·.1) = ks.map Sum.inr → ks.Nodup →
    Fa3 (Own M F H k) ds (kvs.map (·.2)) fps → dicPut ks ds s x = some ds' →
    ∃ kvs', kvs.map (fun kv => if kv.1 = (Sum.inr s : Key) then (kv.1, w) else kv) = kvs' ∧ kvs'.map (·.1) = ks.map Sum.inr ∧ Fa3 (Own M F H k) ds' (kvs'.map (·.2)) fps ∧ (kvs.any fun kv => decide (kv.1 = (Sum.inr s : Key))) = true
  | [], _, _, _, _, _, _, _, e => by simp [dicPut] at e
  | _ :: _, [], _, _, _, _, _, _, e => by simp [dicPut] at e
  | _ :: _, _ :: _, _, [], _, h, _, _, _ => by simp at h
  | k0 :: ks, d :: ds, ds', kv :: kvs, fps, h, nd, f, e => by
    simp only [List.map_cons, List.cons.injEq] at h
    obtain ⟨v, vs', f1, f2, e1, e2, p1, p2⟩ := f
    simp only [List.map_cons, List.cons.injEq] at e1
    obtain ⟨n1, n2⟩ := List.nodup_cons.mp nd
    unfold dicPut at e
    by_cases c : k0 = s
    · subst c
      rw [if_pos rfl] at e
      split at e
      · rename_i fd
        cases e
        obtain ⟨_, ef⟩ := flat_own fd p1
        have same : kvs.map (fun kv => if kv.1 = (Sum.inr k0 : Key) then (kv.1, w) else kv) = kvs := by
          have : ∀ kv ∈ kvs, (if kv.1 = (Sum.inr k0 : Key) then (kv.1, w) else kv) = kv := fun kv hkv => by
            refine if_neg fun z => n1 ?_
            have : kv.1 ∈ kvs.map (·.1) := List.mem_map.mpr ⟨kv, hkv, rfl⟩
            rw [h.2, z] at this
            obtain ⟨y, hy, ey⟩ := List.mem_map.mp this
            cases ey
            exact hy
          exact (List.map_congr_left this).trans (List.map_id' kvs)
        refine ⟨_, rfl, ?_, ?_, ?_⟩
        · simp only [List.map_cons, same, if_pos h.1]
          rw [h.1, h.2]
        · simp only [List.map_cons, same, if_pos h.1]
          exact ⟨w, _, [], f2, rfl, by rw [e2, ef], own_flat fx hx, e1.2 ▸ p2⟩
        · simp [h.1]
      · cases e
    · rw [if_neg c] at e
      obtain ⟨r, er, rfl⟩ := Option.map_eq_some_iff.mp e
      obtain ⟨kvs', q1, q2, q3, q4⟩ := dic_put fx hx (kvs := kvs) h.2 n2 (e1.2 ▸ p2) er
      have hne : ¬ kv.1 = (Sum.inr s : Key) := by rw [h.1]; intro z; cases z; exact c rfl
      refine ⟨kv :: kvs', by rw [List.map_cons, if_neg hne, q1], by rw [List.map_cons, q2, h.1, List.map_cons], ?_, by simp [q4]⟩
      exact ⟨v, _, f1, f2, by rw [List.map_cons, e1.1], e2, p1, q3⟩
/-- a dict of one's own with an entry anew -/
theorem own_put {k : Nat} {a : Addr} {ks : List Str} {ds ds' : List D} {s : Str} {x : D} {w : V} {fp : List Addr} (fx : flat x = true) (hx : Rep M F x w) (nk : ks.Nodup) (h : Own M F H (k + 1) (.nd (.dic ks) ds) (.ref a) fp) (nf : fp.Nodup) (e : dicPut ks ds s x = some ds') :
    ∃ kvs, H a = some (.dK kvs) ∧ kvs.length = ks.length ∧ a ∈ fp ∧ Own M F (upd H a (.dK (putK kvs (Sum.inr s : Key) w))) (k + 1) (.nd (.dic ks) ds') (.ref a) fp := by
  obtain ⟨a', vs, ex, fps, e1, ⟨kvs, h1, h2, h3, rfl⟩, f, rfl⟩ := h
  cases e1
  rw [← h3] at f
  obtain ⟨kvs', q1, q2, q3, q4⟩ := dic_put fx hx h2 nk f e
  refine ⟨kvs, h1, by simpa using congrArg List.length h2, by simp, a, kvs'.map (·.2), [], fps, rfl, ⟨kvs', ?_, q2, rfl, rfl⟩, ?_, rfl⟩
  · rw [upd_same]
    unfold putK
    rw [if_pos q4, q1]
  · have na : a ∉ fps := (List.nodup_cons.mp nf).1
    refine q3.mono fun d hd v g hg o => Own.mono (fun _ _ z => z) (fun b hb => ?_) o
    have : b ≠ a := fun z => na (z ▸ hg b hb)
    simp [upd, this]
/-- an entry of a dict that is a list of one's own: read, and written to -/
theorem dic_sub {s : Str} {es es' : List D} : ∀ {ks : List Str} {ds : List D} {vs : List V} {kvs : List (Key × V)} {fps : List Addr}, kvs.map (·.1) = ks.map Sum.inr → kvs.map (·.2) = vs → fps.Nodup →
    Fa3 (Own M F H 1) ds vs fps → dicAt ks ds s = some (.lst es) →
    ∃ b ws, valV kvs (Sum.inr s : Key) = some (.ref b) ∧ b ∈ fps ∧ H b = some (.lst ws) ∧ Fa2 (Rep M F) es ws ∧ ∀ ws', Fa2 (Rep M F) es' ws' → Fa3 (Own M F (upd H b (.lst ws')) 1) (dicRep ks ds s (.lst es')) vs fps
  | [], _, _, _, _, _, _, _, _, e => by simp [dicAt] at e
  | _ :: _, [], _, _, _, _, _, _, _, e => by simp [dicAt] at e
  | _ :: _, _ :: _, _, [], _, h, _, _, _, _ => by simp at h
  | k0 :: ks, d :: ds, vs, kv :: kvs, fps, h, hv, nf, f, e => by
    simp only [List.map_cons, List.cons.injEq] at h
    obtain ⟨v, vs', f1, f2, e1, rfl, p1, p2⟩ := f
    subst e1
    simp only [List.map_cons, List.cons.injEq] at hv
    obtain ⟨n1, n2, n3⟩ := List.nodup_append.mp nf
    unfold dicAt at e
    by_cases c : k0 = s
    · subst c
      rw [if_pos rfl] at e
      cases e
      obtain ⟨b, ws, ex, g, rfl, ⟨h1, rfl⟩, q1, rfl⟩ := p1
      obtain ⟨q0, rfl⟩ := fa3_zero.mp q1
      refine ⟨b, ws, ?_, by simp, h1, q0, fun ws' q' => ?_⟩
      · unfold valV
        rw [List.find?_cons_of_pos (by simp [h.1]), ← hv.1]
        rfl
      · show Fa3 _ (if k0 = k0 then _ else _) _ _
        rw [if_pos rfl]
        refine ⟨.ref b, vs', [b], f2, rfl, rfl, ⟨b, ws', [], [], rfl, ⟨upd_same, rfl⟩, fa3_zero.mpr ⟨q', rfl⟩, rfl⟩, p2.mono fun d hd v g hg o => Own.mono (fun _ _ z => z) (fun b' hb' => ?_) o⟩
        have : b' ≠ b := fun z => n3 b (by simp) b' (hg b' hb') z.symm
        simp [upd, this]
    · rw [if_neg c] at e
      obtain ⟨b, ws, q1, q2, q3, q4, q5⟩ := dic_sub (es' := es') (kvs := kvs) h.2 hv.2 n2 p2 e
      refine ⟨b, ws, ?_, List.mem_append_right _ q2, q3, q4, fun ws' q' => ?_⟩
      · unfold valV at *
        rw [List.find?_cons_of_neg (by rw [h.1]; simpa using c)]
        exact q1
      · show Fa3 _ (if k0 = s then _ else _) _ _
        rw [if_neg c]
        refine ⟨v, vs', f1, f2, rfl, rfl, Own.mono (fun _ _ z => z) (fun b' hb' => ?_) p1, q5 ws' q'⟩
        have : b' ≠ b := fun z => n3 b' hb' b q2 z
        simp [upd, this]
end
section
variable {CXv : CXT} {X : Cx} {G : Fr} {N : List Str} {sc : Scope} {lv rk : Nat} {σ : L2.St} {F H : Hp} {env env' : Env} {fs : Ft} {M : Mo} {io : List (Nat × V)} {Z : Ends}
theorem okKs_inv {ks : List Str} (h : okKs ks = true) : ks.Nodup ∧ ks.length ≤ 15 := by simpa [okKs] using h
theorem dicSet_inv {i k : Nat} {b : Bool} {ks : List Str} {r : Option (List D)} (h : dicSet env i ks r k b = .ok env') : okKs ks = true ∧ ∃ ds, r = some ds ∧ env' = env.set i (if b = true then .own (k + 1) (.nd (.dic ks) ds) else .io (k + 1) (.nd (.dic ks) ds)) := by
  unfold dicSet at h
  obtain ⟨h1, h⟩ := if_inv h
  cases r with
  | none => cases h
  | some ds => cases h; exact ⟨h1, ds, rfl, rfl⟩
theorem dicSet_fx {i k : Nat} {b : Bool} {ks : List Str} {r : Option (List D)} (c : Nat) (d : D) : dicSet env i ks r k b ≠ .exn c d := by
  unfold dicSet
  split
  · cases r <;> intro h <;> cases h
  · intro h; cases h
theorem putAt_fx {i : Nat} {s : Str} {x : D} (c : Nat) (d : D) : putAt env i s x ≠ .exn c d := by
  unfold putAt
  split
  · split
    · exact dicSet_fx c d
    · exact dicSet_fx c d
    · intro h; cases h
  · intro h; cases h
theorem popAt_fx {i : Nat} {s s2 : Str} (c : Nat) (d : D) : popAt env i s s2 ≠ .exn c d := by
  unfold popAt
  split
  · exact dicSet_fx c d
  · exact dicSet_fx c d
  · intro h; cases h
theorem putAt_inv {i : Nat} {s : Str} {x : D} (h : putAt env i s x = .ok env') : flat x = true ∧ ∃ k ks ds ds', ownAt env i (k + 1) (.nd (.dic ks) ds) ∧ okKs ks = true ∧ dicPut ks ds s x = some ds' ∧
    env' = env.set i (match env[i]? with | some (.io _ _) => .io (k + 1) (.nd (.dic ks) ds') | _ => .own (k + 1) (.nd (.dic ks) ds')) := by
  unfold putAt at h
  obtain ⟨h1, h⟩ := if_inv h
  refine ⟨h1, ?_⟩
  split at h
  · rename_i k ks ds e
    obtain ⟨h2, ds', e2, rfl⟩ := dicSet_inv h
    exact ⟨k, ks, ds, ds', .inl e, h2, e2, by rw [e]; rfl⟩
  · rename_i k ks ds e
    obtain ⟨h2, ds', e2, rfl⟩ := dicSet_inv h
    exact ⟨k, ks, ds, ds', .inr e, h2, e2, by rw [e]; rfl⟩
  · cases h
/-- an entry is written, in the slot -/
theorem put_ok (g : GS M F H io env σ fs) {i : Nat} {s : Str} {x : D} {w : V} (hx : Rep M F x w) (e : putAt env i s x = .ok env') : ∃ a kvs, σ[i]? = some (some (.ref a)) ∧ H a = some (.dK kvs) ∧ kvs.length ≤ 15 ∧
    ∃ fs', GS M F (upd H a (.dK (putK kvs (Sum.inr s : Key) w))) io env' σ fs' ∧ Step F H fs.at F (upd H a (.dK (putK kvs (Sum.inr s : Key) w))) fs'.at := by
  obtain ⟨fx, k, ks, ds, ds', ow, ok, ep, rfl⟩ := putAt_inv e
  obtain ⟨nk, l15⟩ := okKs_inv ok
  obtain ⟨v, ev, o⟩ := g.own ow
  have ⟨a, ea⟩ : ∃ a, v = .ref a := by obtain ⟨a, _, _, _, e1, _⟩ := o; exact ⟨a, e1⟩
  subst ea
  obtain ⟨kvs, h1, h2, h3, o2⟩ := own_put fx hx nk o (g.nd i) ep
  have hF : F a = none := g.fn i a h3
  obtain ⟨g2, s2⟩ := g.change ow ev (H' := upd H a (.dK (putK kvs (Sum.inr s : Key) w))) (k' := k + 1) (d' := .nd (.dic ks) ds') (f := fs i) (fun b u q => by
      rw [upd_ne (fun z => by rw [z, hF] at q; cases q)]; exact g.fh b u q) (fun b u q n => by rw [upd_ne (fun z => n (by rw [z]; exact h3))]; exact q) o2 (g.nd i) fun b hb => .inl hb
  exact ⟨a, kvs, ev, h1, by omega, _, g2, s2⟩
theorem lt15 {n : Nat} (h : n ≤ 15) : n < sizeLine := Nat.lt_of_le_of_lt h (by decide)
/-! ### d[s] = e -/
theorem s_dset {i : Nat} {s : Str} {e : E} {x : Str} {y : Expr} {p sp pos kp : Pos} {k : Nat} (hu : X.A.units + 64 < cLine) (hN : X.N[i]? = some x) (hv : Vis X.env.scope x) (hd : (x == ("__debug__" : Str)) = false) (hcd : (x == ("__classdict__" : Str)) = false)
    (hs : swapsWith y (some (.Subscript (.Name x p) (.Constant (.str s) k kp) sp)) pos.line X.env = pure false) (h : PE X y (tE G e.pure (ev e))) : PS X (.Assign [.Subscript (.Name x p) (.Constant (.str s) k kp) sp] y pos) (tS G rk (ex (.dset i s e))) :=
  ps_imp (ps_dput (by omega) (pe_var hN hv hd hcd) pe_str h hs) fun Z σ H ⟨env, F, fs, g, q⟩ => by
    refine ⟨env, F, fs, g, PSt.bind (σ := σ) (show PSt G rk Z F H fs ((ev e env).bind fun (x, env) => (str1 x).bind fun d => (putAt env i s d).bind fun env => .ok (.nx env)) from q) fun x env1 F1 H1 fs1 _ g1 s1 _ q1 v rv => ?_⟩
    obtain ⟨d, rfl, q1⟩ := PSt.str q1
    obtain ⟨env2, e2, q1⟩ := PSt.env putAt_fx q1
    obtain ⟨a, kvs, ea, eh, l, fs', g', s'⟩ := put_ok g1 (show Rep G.M F1 d v from rv) e2
    exact ⟨.ref a, ea, a, _, rfl, DPut.k (k := Sum.inr s) eh (lt15 l), q1 σ F1 _ fs' g' s'⟩
/-! ### d[s] op= n -/
theorem s_daug {i : Nat} {s : Str} {op : Bop} {o : Operator} {n : Int} {x : Str} {p sp pos kp np : Pos} {k k2 : Nat} (hu : X.A.units + 64 < cLine) (ho : (op = .add ∧ o = .Add) ∨ (op = .sub ∧ o = .Sub)) (hN : X.N[i]? = some x) (hv : Vis X.env.scope x) (hd : (x == ("__debug__" : Str)) = false) (hcd : (x == ("__classdict__" : Str)) = false) :
    PS X (.AugAssign (.Subscript (.Name x p) (.Constant (.str s) k kp) sp) o (.Constant (.int n) k2 np) pos) (tS G rk (ex (.daug i s op n))) := by
  have key : ∀ {Z : Ends} {σ : L2.St} {H : Hp}, tS G rk (ex (.daug i s op n)) Z σ H → ∃ a kvs m, σ[i]? = some (some (.ref a)) ∧ H a = some (.dK kvs) ∧ kvs.length ≤ 15 ∧ valV kvs (Sum.inr s : Key) = some (.int m) ∧
      ∃ r, dBin op (0, .int m) (0, .int n) = .ok (.int r) ∧ Z.nx σ (upd H a (.dK (putK kvs (Sum.inr s : Key) (.int r)))) := by
    rintro Z σ H ⟨env, F, fs, g, q⟩
    have q : PSt G rk Z F H fs (match dicGet env i s with
      | some (.int x) => (dBin op (0, .int x) (0, .int n)).bind fun d => (putAt env i s d).bind fun env => .ok (.nx env)
      | _ => .stuck) := q
    split at q
    · rename_i m em
      have ⟨r, er⟩ : ∃ r, dBin op (0, .int m) (0, .int n) = .ok (.int r) := by
        rcases ho with ⟨rfl, _⟩ | ⟨rfl, _⟩
        · exact ⟨_, rfl⟩
        · exact ⟨_, rfl⟩
      rw [er, Res.bind_ok] at q
      obtain ⟨env2, e2, q1⟩ := PSt.env putAt_fx q
      obtain ⟨fx, j, ks, ds, ds', ow, ok, ep, ev2⟩ := putAt_inv e2
      obtain ⟨a, kvs, ea, eh, l, fs', g', s'⟩ := put_ok g (w := .int r) (Rep.int (F := F)) e2
      obtain ⟨v, ev, o⟩ := g.own ow
      obtain ⟨a', vs, exx, fps, e1, ⟨kvs', h1, h2, h3, rfl⟩, f, _⟩ := o
      subst e1
      rw [ea] at ev
      cases ev
      rw [eh] at h1
      cases h1
      have em2 : dicAt ks ds s = some (.int m) := by
        unfold dicGet at em
        rcases ow with ow | ow <;> · rw [ow] at em; exact em
      have f2 : Fa2 (RW G.M F H j) ds (kvs.map (·.2)) := by
        rw [h3]
        exact f.fa2 fun d _ v f x => x.rw
      obtain ⟨w, hw, rw'⟩ := dicAt_val h2 f2 em2
      rw [rw'.int] at hw
      exact ⟨a, kvs, m, ea, eh, l, hw, r, er, q1 σ F _ fs' g' s'⟩
    · exact q.elim
  rcases ho with ⟨rfl, rfl⟩ | ⟨rfl, rfl⟩
  · refine ps_imp (ps_daug (by omega) (pe_var hN hv hd hcd) pe_str pe_int in_add (fun _ _ _ => rfl)) fun Z σ H q => ?_
    obtain ⟨a, kvs, m, ea, eh, l, hv, r, er, q⟩ := key q
    cases er
    exact ⟨.ref a, ea, a, .int m, rfl, hv ▸ DGet.k (k := Sum.inr s) eh, m, n, rfl, rfl, _, DPut.k (k := Sum.inr s) eh (lt15 l), q⟩
  · refine ps_imp (ps_daug (by omega) (pe_var hN hv hd hcd) pe_str pe_int in_sub (fun _ _ _ => rfl)) fun Z σ H q => ?_
    obtain ⟨a, kvs, m, ea, eh, l, hv, r, er, q⟩ := key q
    cases er
    exact ⟨.ref a, ea, a, .int m, rfl, hv ▸ DGet.k (k := Sum.inr s) eh, m, n, rfl, rfl, _, DPut.k (k := Sum.inr s) eh (lt15 l), q⟩
/-! ### d[s] = d[s2].pop(0) -/
theorem popAt_inv {i : Nat} {s s2 : Str} (h : popAt env i s s2 = .ok env') : ∃ ks ds ds', ownAt env i 2 (.nd (.dic ks) ds) ∧ okKs ks = true ∧ popD ks ds s s2 = some ds' ∧
    env' = env.set i (match env[i]? with | some (.io _ _) => .io 2 (.nd (.dic ks) ds') | _ => .own 2 (.nd (.dic ks) ds')) := by
  unfold popAt at h
  split at h
  · rename_i ks ds e
    obtain ⟨h2, ds', e2, rfl⟩ := dicSet_inv h
    exact ⟨ks, ds, ds', .inl e, h2, e2, by rw [e]; rfl⟩
  · rename_i ks ds e
    obtain ⟨h2, ds', e2, rfl⟩ := dicSet_inv h
    exact ⟨ks, ds, ds', .inr e, h2, e2, by rw [e]; rfl⟩
  · cases h
theorem s_dpop {i : Nat} {s s2 : Str} {x : Str} {p sp pos kp p2 sp2 kp2 ap cp zp : Pos} {k k2 k3 : Nat} (hu : X.A.units + 64 < cLine) (hN : X.N[i]? = some x) (hv : Vis X.env.scope x) (hd : (x == ("__debug__" : Str)) = false) (hcd : (x == ("__classdict__" : Str)) = false)
    (hl : (ap.endLine == cp.line) = true) :
    PS X (.Assign [.Subscript (.Name x p) (.Constant (.str s) k kp) sp] (.Call (.Attribute (.Subscript (.Name x p2) (.Constant (.str s2) k2 kp2) sp2) "pop" ap) [.Constant (.int 0) k3 zp] [] cp) pos) (tS G rk (ex (.dpop i s s2))) :=
  ps_imp (ps_dput (by omega) (pe_var hN hv hd hcd) pe_str (pe_bm PySem.F.plainAttrs_list PySem.F.slot_list_pop PySem.F.type_list_pop mt_popAt (pe_dget (by omega) (pe_var hN hv hd hcd) pe_str (fun _ _ => rfl)) (pa_cons pe_int pa_nil rfl) rfl (form_ok (by simp [isStar]) (by simp)) hl rfl rfl) rfl) fun Z σ H ⟨env, F, fs, g, q⟩ => by
    obtain ⟨env2, e2, q1⟩ := PSt.env popAt_fx (show PSt G rk Z F H fs ((popAt env i s s2).bind fun env => .ok (.nx env)) from q)
    obtain ⟨ks, ds, ds', ow, ok, ep, rfl⟩ := popAt_inv e2
    obtain ⟨nk, l15⟩ := okKs_inv ok
    obtain ⟨v, ev, o⟩ := g.own ow
    have nf := g.nd i
    obtain ⟨a, vs, exx, fps, e1, ⟨kvs, h1, h2, h3, rfl⟩, f, efs⟩ := o
    subst e1
    rw [List.nil_append] at efs
    rw [efs] at nf
    obtain ⟨na, nf2⟩ := List.nodup_cons.mp nf
    unfold popD at ep
    split at ep
    · rename_i x0 xs e3
      have ⟨fx, ep⟩ : flat x0 = true ∧ dicPut ks (dicRep ks ds s2 (.lst xs)) s x0 = some ds' := by
        by_cases c : flat x0 = true
        · rw [if_pos c] at ep; exact ⟨c, ep⟩
        · rw [if_neg c] at ep; cases ep
      obtain ⟨b, ws, q2, q3, q4, q5, q6⟩ := dic_sub (es' := xs) h2 h3 nf2 f e3
      obtain ⟨w, ws', rfl, rw0, rws⟩ := q5
      have q6 := q6 ws' rws
      have hab : a ≠ b := fun z => na (z ▸ q3)
      have hba : b ≠ a := fun z => hab z.symm
      have o2 : Own G.M F (upd H b (.lst ws')) 2 (.nd (.dic ks) (dicRep ks ds s2 (.lst xs))) (.ref a) (a :: fps) := ⟨a, vs, [], fps, rfl, ⟨kvs, by rw [upd_ne hab]; exact h1, h2, h3, rfl⟩, q6, rfl⟩
      obtain ⟨kvs2, k1, k2', k3', o3⟩ := own_put fx rw0 nk o2 nf ep
      rw [upd_ne hab, h1] at k1
      cases k1
      have hFa : F a = none := g.fn i a (by rw [efs]; simp)
      have hFb : F b = none := g.fn i b (by rw [efs]; simp [q3])
      obtain ⟨g2, s2'⟩ := g.change ow ev (H' := upd (upd H b (.lst ws')) a (.dK (putK kvs (Sum.inr s : Key) w))) (k' := 2) (d' := .nd (.dic ks) ds') (f := a :: fps) (fun c u qq => by
          rw [upd_ne (fun z => by rw [z, hFa] at qq; cases qq), upd_ne (fun z => by rw [z, hFb] at qq; cases qq)]; exact g.fh c u qq) (fun c u qq n => by
          rw [efs] at n
          rw [upd_ne (fun z => n (by simp [z])), upd_ne (fun z => n (by simp [z, q3]))]; exact qq) o3 nf fun c hc => .inl (by rw [efs]; exact hc)
      refine ⟨.ref a, ev, a, .ref b, rfl, q2 ▸ DGet.k (k := Sum.inr s2) h1, ly_list q4, b, w :: ws', 0, 0, w, rfl, rfl, q4, by decide, by decide, ?_, rfl, ?_⟩
      · simp [seqIndex?]
      · refine ⟨.ref a, ev, a, _, rfl, DPut.k (k := Sum.inr s) (by rw [upd_ne hab]; exact h1) (lt15 (by omega)), q1 σ F _ _ g2 s2'⟩
    · cases ep
/-! ### displays -/
def litV : D → V
  | .bl b => .bl b
  | .int i => .int i
  | .str x => .str x
  | _ => .non
/-- what stands in a display: a name, something written -/
def dvB (N : List Str) (sc : Scope) : E → Expr → Bool
  | .wka i, v => nmB N sc i v
  | .name i, v => nmB N sc i v
  | .lit d, .Constant c _ _ => litB d c
  | _, _ => false
def dspB (N : List Str) (sc : Scope) : List Str → E → List (Option Expr) → List Expr → Bool
  | [], .nil, [], [] => true
  | k :: ks, .cons e es, some (.Constant (.str k') _ _) :: keys, v :: values => decide (k' = k) && dvB N sc e v && dspB N sc ks es keys values
  | _, _, _, _ => false
theorem lit_pe {d : D} {c : Const} {k : Nat} {pos : Pos} (h : litB d c = true) : PE X (.Constant c k pos) (tC (litV d)) ∧ Rep M F d (litV d) := by
  unfold litB at h
  split at h
  · exact ⟨pe_non, Rep.non⟩
  · have h := beq_iff_eq.mp h; subst h; exact ⟨pe_bl, Rep.bl⟩
  · have h := of_decide_eq_true h; subst h; exact ⟨pe_int, Rep.int⟩
  · have h := of_decide_eq_true h; subst h; exact ⟨pe_str, Rep.str⟩
  · cases h
/-- one of them: its reading, and what it gives -/
theorem dv_ok (c : CO CXv X G N sc lv) {e : E} {v : Expr} (h : dvB N sc e v = true) : ∃ t : TE, PE X v t ∧ ∀ {σ : L2.St} {F H : Hp} {fs : Ft} {env env1 : Env} {es : E} {ars : List Ar}, GS G.M F H G.io env σ fs → evs (.cons e es) env = .ok (ars, env1) →
    ∃ a r w, ars = a :: r ∧ evs es env = .ok (r, env1) ∧ (∀ {vs : List V}, ArR G.M F H σ r vs → ArR G.M F H σ (a :: r) (w :: vs)) ∧ ∀ H' Q, Q w H' → t σ H' Q := by
  cases e with
  | wka i =>
    obtain ⟨n, p, rfl, a1, a2, a3, a4⟩ := nmB_inv c h
    refine ⟨tVar i, pe_var a1 a2 a3 a4, fun {σ F H fs env env1 es ars} g e1 => ?_⟩
    have e1 : (if held env i = true then (evs es env).bind fun (r, env) => Res.ok (Ar.wk i :: r, env) else .stuck) = .ok (ars, env1) := e1
    obtain ⟨h1, e1⟩ := if_inv e1
    obtain ⟨⟨r, env2⟩, e2, e1⟩ := bind_inv e1
    cases e1
    have ⟨w, hw⟩ : ∃ w, σ[i]? = some (some w) := by
      unfold held at h1
      split at h1
      · rename_i k d e3
        obtain ⟨w, hw, _⟩ := g.own (.inl e3); exact ⟨w, hw⟩
      · rename_i k d e3
        obtain ⟨w, hw, _⟩ := g.own (.inr e3); exact ⟨w, hw⟩
      · cases h1
    exact ⟨_, _, w, rfl, e2, fun q => ⟨w, _, rfl, hw, q⟩, fun H' Q q => ⟨w, hw, q⟩⟩
  | name i =>
    obtain ⟨n, p, rfl, a1, a2, a3, a4⟩ := nmB_inv c h
    refine ⟨tVar i, pe_var a1 a2 a3 a4, fun {σ F H fs env env1 es ars} g e1 => ?_⟩
    have e1 : ((ev (.name i) env).bind fun (x, env) => if x.1 = 0 ∨ es.pure = true then (evs es env).bind fun (r, env) => Res.ok (Ar.d x.1 x.2 :: r, env) else .stuck) = .ok (ars, env1) := e1
    obtain ⟨⟨x, env2⟩, e0, e1⟩ := bind_inv e1
    obtain ⟨h1, e1⟩ := if_inv e1
    obtain ⟨⟨r, env3⟩, e2, e1⟩ := bind_inv e1
    cases e1
    have e0 : (match env[i]? with
      | some (.val d) => Res.ok ((0, d), env)
      | some (.own k d) => .ok ((k, d), env)
      | some (.io k d) => .ok ((k, d), env)
      | _ => .stuck) = .ok (x, env2) := e0
    have ⟨w, hw, rw, ee⟩ : ∃ w, σ[i]? = some (some w) ∧ RW G.M F H x.1 x.2 w ∧ env2 = env := by
      split at e0
      · rename_i d e3
        cases e0
        obtain ⟨w, hw, rr⟩ := g.val e3; exact ⟨w, hw, rr, rfl⟩
      · rename_i k d e3
        cases e0
        obtain ⟨w, hw, rr⟩ := g.own (.inl e3); exact ⟨w, hw, rr.rw, rfl⟩
      · rename_i k d e3
        cases e0
        obtain ⟨w, hw, rr⟩ := g.own (.inr e3); exact ⟨w, hw, rr.rw, rfl⟩
      · cases e0
    subst ee
    exact ⟨_, _, w, rfl, e2, fun q => ⟨w, _, rfl, rw, q⟩, fun H' Q q => ⟨w, hw, q⟩⟩
  | lit d =>
    cases v with
    | Constant cc k p =>
      have h : litB d cc = true := h
      refine ⟨tC (litV d), (lit_pe (M := G.M) (F := fun _ => none) h).1, fun {σ F H fs env env1 es ars} g e1 => ?_⟩
      have e1 : ((ev (.lit d) env).bind fun (x, env) => if x.1 = 0 ∨ es.pure = true then (evs es env).bind fun (r, env) => Res.ok (Ar.d x.1 x.2 :: r, env) else .stuck) = .ok (ars, env1) := e1
      obtain ⟨⟨x, env2⟩, e0, e1⟩ := bind_inv e1
      cases e0
      obtain ⟨h1, e1⟩ := if_inv e1
      obtain ⟨⟨r, env3⟩, e2, e1⟩ := bind_inv e1
      cases e1
      exact ⟨_, _, litV d, rfl, e2, fun q => ⟨litV d, _, rfl, (lit_pe (X := X) (k := k) (pos := p) h).2, q⟩, fun H' Q q => q⟩
    | _ => simp [dvB] at h
  | _ => simp [dvB] at h
def pairsV : List Str → List V → List (V × V)
  | k :: ks, v :: vs => (.str k, v) :: pairsV ks vs
  | _, _ => []
def pairsK : List Str → List V → List (Key × V)
  | k :: ks, v :: vs => (Sum.inr k, v) :: pairsK ks vs
  | _, _ => []
theorem pairsK_map : ∀ {ks : List Str} {vs : List V}, pairsV ks vs = (pairsK ks vs).map fun kv => (kV kv.1, kv.2)
  | [], _ => by simp [pairsV, pairsK]
  | _ :: _, [] => by simp [pairsV, pairsK]
  | k :: ks, v :: vs => by simp [pairsV, pairsK, pairsK_map (ks := ks) (vs := vs), kV]
theorem pairsK_1 : ∀ {ks : List Str} {vs : List V}, ks.length = vs.length → (pairsK ks vs).map (·.1) = ks.map Sum.inr
  | [], _, _ => by simp [pairsK]
  | _ :: _, [], h => by simp at h
  | k :: ks, v :: vs, h => by simp [pairsK, pairsK_1 (ks := ks) (vs := vs) (by simpa using h)]
theorem pairsK_2 : ∀ {ks : List Str} {vs : List V}, ks.length = vs.length → (pairsK ks vs).map (·.2) = vs
  | [], [], _ => by simp [pairsK]
  | [], _ :: _, h => by simp at h
  | _ :: _, [], h => by simp at h
  | k :: ks, v :: vs, h => by simp [pairsK, pairsK_2 (ks := ks) (vs := vs) (by simpa using h)]
theorem mergeK_new : ∀ {more acc : List (Key × V)}, ((acc ++ more).map (·.1)).Nodup → mergeK acc more = acc ++ more
  | [], acc, _ => by simp [mergeK]
  | p :: more, acc, h => by
    have e : putK acc p.1 p.2 = acc ++ [p] := by
      unfold putK
      rw [if_neg]
      intro z
      obtain ⟨q, hq, e⟩ := List.any_eq_true.mp z
      have e := of_decide_eq_true e
      simp only [List.map_append, List.map_cons] at h
      have := (List.nodup_append.mp h).2.2 q.1 (List.mem_map.mpr ⟨q, hq, rfl⟩) p.1 (by simp)
      exact this e
    show mergeK (putK acc p.1 p.2) more = _
    rw [e, mergeK_new (by simpa using h), List.append_assoc, List.singleton_append]
theorem dsp_inv0 {es : E} {keys : List (Option Expr)} {values : List Expr} (h : dspB N sc [] es keys values = true) : es = .nil ∧ keys = [] ∧ values = [] := by
  cases es with
  | nil =>
    cases keys with
    | nil =>
      cases values with
      | nil => exact ⟨rfl, rfl, rfl⟩
      | cons _ _ => simp [dspB] at h
    | cons _ _ => simp [dspB] at h
  | _ => simp [dspB] at h
theorem dsp_inv {k : Str} {ks : List Str} {es : E} {keys : List (Option Expr)} {values : List Expr} (h : dspB N sc (k :: ks) es keys values = true) :
    ∃ e es' j kp keys' v values', es = .cons e es' ∧ keys = some (.Constant (.str k) j kp) :: keys' ∧ values = v :: values' ∧ dvB N sc e v = true ∧ dspB N sc ks es' keys' values' = true := by
  cases es with
  | cons e es =>
    cases keys with
    | nil => simp [dspB] at h
    | cons k0 keys =>
      cases k0 with
      | none => simp [dspB] at h
      | some x =>
        cases x with
        | Constant c j kp =>
          cases c with
          | str k' =>
            cases values with
            | nil => simp [dspB] at h
            | cons v values =>
              simp only [dspB, Bool.and_eq_true, decide_eq_true_eq] at h
              obtain ⟨⟨rfl, h1⟩, h2⟩ := h
              exact ⟨e, es, j, kp, keys, v, values, rfl, rfl, rfl, h1, h2⟩
          | _ => simp [dspB] at h
        | _ => simp [dspB] at h
  | _ => simp [dspB] at h
theorem dsp_ok (c : CO CXv X G N sc lv) {pos : Pos} : ∀ {ks : List Str} {es : E} {keys : List (Option Expr)} {values : List Expr}, dspB N sc ks es keys values = true →
    ∃ trs, PPs X pos keys values trs ∧ keys.all (·.isSome) = true ∧ keys.length = values.length ∧ keys.length = ks.length ∧ ∀ {σ : L2.St} {F H : Hp} {fs : Ft} {env env1 : Env} {ars : List Ar}, GS G.M F H G.io env σ fs → evs es env = .ok (ars, env1) →
      env1 = env ∧ ∃ vs, ArR G.M F H σ ars vs ∧ vs.length = ks.length ∧ ∀ H' Q, Q (pairsV ks vs) H' → tPairs trs σ H' Q
  | [], es, keys, values, h => by
    obtain ⟨rfl, rfl, rfl⟩ := dsp_inv0 h
    exact ⟨[], pps_nil, rfl, rfl, rfl, fun g e => by cases e; exact ⟨rfl, [], rfl, rfl, fun H' Q q => q⟩⟩
  | k :: ks, es, keys, values, h => by
    obtain ⟨e, es, j, kp, keys, v, values, rfl, rfl, rfl, h1, h2⟩ := dsp_inv h
    obtain ⟨t, pe, ok⟩ := dv_ok c h1
    obtain ⟨trs, pps, a1, a2, a3, a4⟩ := dsp_ok c (pos := pos) h2
    refine ⟨(tC (.str k), t) :: trs, pps_cons pe_str pe pps, by simpa using a1, by simp [a2], by simp [a3], fun {σ F H fs env env1 ars} g e1 => ?_⟩
    obtain ⟨a, r, w, rfl, e2, q1, q2⟩ := ok g e1
    obtain ⟨rfl, vs, r1, r2, r3⟩ := a4 g e2
    exact ⟨rfl, w :: vs, q1 r1, by simp [r2], fun H' Q q => q2 H' _ (r3 H' _ q)⟩
theorem dsp_fx {c : Nat} {d : D} : ∀ {ks : List Str} {es : E} {keys : List (Option Expr)} {values : List Expr} {env : Env}, dspB N sc ks es keys values = true → evs es env ≠ .exn c d
  | [], es, keys, values, env, h => by
    obtain ⟨rfl, rfl, rfl⟩ := dsp_inv0 h
    intro e; cases e
  | k :: ks, es, keys, values, env, h => by
    obtain ⟨a, es, j, kp, keys, v, values, rfl, rfl, rfl, h1, h2⟩ := dsp_inv h
    intro e
    have fin : ∀ x : Wk, (if x.1 = 0 ∨ es.pure = true then (evs es env).bind fun (r, env) => Res.ok (Ar.d x.1 x.2 :: r, env) else .stuck) ≠ .exn c d := by
      intro x e
      split at e
      · cases e2 : evs es env with
        | ok y => rw [e2] at e; cases e
        | stuck => rw [e2] at e; cases e
        | exn c d => rw [e2] at e; cases e; exact dsp_fx h2 e2
      · cases e
    cases a with
    | wka i =>
      have e : (if held env i = true then (evs es env).bind fun (r, env) => Res.ok (Ar.wk i :: r, env) else .stuck) = .exn c d := e
      split at e
      · cases e2 : evs es env with
        | ok y => rw [e2] at e; cases e
        | stuck => rw [e2] at e; cases e
        | exn c d => rw [e2] at e; cases e; exact dsp_fx h2 e2
      · cases e
    | name i =>
      have e : ((ev (.name i) env).bind fun (x, env) => if x.1 = 0 ∨ es.pure = true then (evs es env).bind fun (r, env) => Res.ok (Ar.d x.1 x.2 :: r, env) else .stuck) = .exn c d := e
      have e0 : ev (.name i) env = (match env[i]? with
        | some (.val d) => Res.ok ((0, d), env)
        | some (.own k d) => .ok ((k, d), env)
        | some (.io k d) => .ok ((k, d), env)
        | _ => .stuck) := rfl
      rw [e0] at e
      split at e
      · rename_i x _; exact fin (0, x) e
      · rename_i j x _; exact fin (j, x) e
      · rename_i j x _; exact fin (j, x) e
      · cases e
    | lit x => exact fin (0, x) e
    | _ => simp [dvB] at h1
theorem takeAll_fx : ∀ {ars : List Ar} {env : Env} {c : Nat} {d : D}, takeAll ars env ≠ .exn c d := by
  intro ars
  induction ars with
  | nil => intro env c d h; cases h
  | cons a ars ih =>
    intro env c d h
    cases a with
    | d k x =>
      cases k with
      | succ k => cases h
      | zero =>
        have h : (if flat x = true then (takeAll ars env).bind fun (ds, env) => Res.ok (x :: ds, env) else .stuck) = .exn c d := h
        split at h
        · cases e : takeAll ars env with
          | ok y => rw [e] at h; cases h
          | stuck => rw [e] at h; cases h
          | exn c d => exact ih e
        · cases h
    | io i => cases h
    | wk i =>
      have h : (match env[i]? with
        | some (.own 1 (.nd .lst ds)) => (takeAll ars (env.set i .un)).bind fun (es, env) => Res.ok (D.lst ds :: es, env)
        | _ => .stuck) = .exn c d := h
      split at h
      · rename_i es _
        cases e : takeAll ars (env.set i .un) with
        | ok y => rw [e] at h; cases h
        | stuck => rw [e] at h; cases h
        | exn c d => exact ih e
      · cases h
/-- return {..} -/
theorem s_retd (c : CO CXv X G N sc lv) {ks : List Str} {es : E} {keys : List (Option Expr)} {values : List Expr} {dp pos : Pos} (h0 : rk = 2) (hk : okKs ks = true) (hn : ks ≠ []) (h : dspB N sc ks es keys values = true) :
    PS X (.Return (some (.Dict keys values dp)) pos) (tS G rk (ex (.retd ks es))) := by
  subst h0
  obtain ⟨nk, l15⟩ := okKs_inv hk
  obtain ⟨trs, pps, a1, a2, a3, a4⟩ := dsp_ok c (pos := dp) h
  refine ps_imp (ps_ret (pe_disp pps a1 a2 (fun z => hn (by rw [z] at a3; exact List.length_eq_zero_iff.mp a3.symm)) (by omega))) fun Z σ H ⟨env, F, fs, g, q0⟩ => ?_
  have q : PSt G 2 Z F H fs ((evs es env).bind fun (ars, env) => (takeAll ars env).bind fun (ds, env) => if okKs ks = true ∧ ks.length = ds.length then .ok (.ret (.nd (.dic ks) ds) env) else .stuck) := q0
  clear q0
  cases e1 : evs es env with
  | stuck => rw [e1] at q; exact q.elim
  | exn c d => exact absurd e1 (dsp_fx h)
  | ok y =>
    obtain ⟨ars, env1⟩ := y
    rw [e1, Res.bind_ok] at q
    obtain ⟨rfl, vs, r1, r2, r3⟩ := a4 g e1
    have q : PSt G 2 Z F H fs ((takeAll ars env1).bind fun (ds, env) => if okKs ks = true ∧ ks.length = ds.length then .ok (.ret (.nd (.dic ks) ds) env) else .stuck) := q
    cases e2 : takeAll ars env1 with
    | stuck => rw [e2] at q; exact q.elim
    | exn c d => exact absurd e2 takeAll_fx
    | ok y =>
      obtain ⟨ds, env2⟩ := y
      rw [e2, Res.bind_ok] at q
      have q : PSt G 2 Z F H fs (if okKs ks = true ∧ ks.length = ds.length then .ok (.ret (.nd (.dic ks) ds) env2) else .stuck) := q
      split at q
      · rename_i hl
        obtain ⟨fs2, fps, g2, h2, n2, a2', f2, s2⟩ := takeAll_ok g r1 e2
        intro p hp
        refine r3 _ _ ⟨upd_same, pairsK ks vs, pairsK_map, by rw [← List.length_map (f := fun x => x.1), pairsK_1 r2.symm, List.length_map]; exact l15, ?_⟩
        have em : mergeK [] (pairsK ks vs) = pairsK ks vs := by
          refine mergeK_new ?_
          rw [List.nil_append, pairsK_1 r2.symm]
          exact List.Pairwise.map _ (fun a b hab z => hab (by cases z; rfl)) nk
        rw [em, upd_upd]
        obtain ⟨gn, sn, an, hF⟩ := g2.newO (o := .dK (pairsK ks vs)) hp
        have there : ∀ b ∈ fps, H b ≠ none := fun b hb z => by
          obtain ⟨j, w⟩ := s2 b (.inr hb)
          exact g.hd w z
        have hp2 : p ∉ fps := fun z => there p z hp
        refine q (.ref p) σ F (upd H p (.dK (pairsK ks vs))) fs2 (p :: fps) gn ?_ ⟨p, vs, [], fps, rfl, ⟨pairsK ks vs, upd_same, pairsK_1 r2.symm, pairsK_2 r2.symm, rfl⟩, h2.mono fun d _ v f hf o => o.mono (Same.refl _) fun b hb => upd_ne fun z => hp2 (z ▸ hf b hb), rfl⟩ (List.nodup_cons.mpr ⟨hp2, n2⟩) (fun j b hb z => ?_) fun b hb => ?_
        · refine sn.mono (fun b hb => s2 b (.inl hb)) fun b hb => ?_
          rcases hb with hb | hb
          · exact .inl (.inl hb)
          · rcases List.mem_cons.mp hb with z | z
            · exact .inl (.inr (by simp [z]))
            · exact .inr (.inl (s2 b (.inr z)))
        · rcases List.mem_cons.mp z with z | z
          · exact an j b hb (by simp [z])
          · exact a2' j b hb z
        · rcases List.mem_cons.mp hb with z | z
          · rw [z]; exact hF
          · exact f2 b z
      · exact q.elim
def litsE : List Int → E
  | [] => .nil
  | n :: ns => .cons (.lit (.int n)) (litsE ns)
theorem litsE_evs : ∀ {ns : List Int} {env : Env}, evs (litsE ns) env = .ok (ns.map fun n => Ar.d 0 (.int n), env)
  | [], _ => rfl
  | n :: ns, env => by
    show (if (0 : Nat) = 0 ∨ (litsE ns).pure = true then (evs (litsE ns) env).bind fun (r, env) => Res.ok (Ar.d 0 (.int n) :: r, env) else .stuck) = _
    rw [if_pos (.inl rfl), litsE_evs]
    rfl
theorem litsE_arR : ∀ {ns : List Int} {vs : List V}, ArR M F H σ (ns.map fun n => Ar.d 0 (.int n)) vs → Fa3 (Own M F H 0) (ns.map D.int) vs []
  | [], _, h => ⟨h, rfl⟩
  | n :: ns, _, h => by
    obtain ⟨v, vs', rfl, r, h⟩ := h
    exact ⟨v, vs', [], [], rfl, rfl, ⟨r, rfl⟩, litsE_arR h⟩
/-! ### a call that gives a dict of one's own -/
def tD2 (G : Fr) (r : Env → Res (Wk × Env)) : TE := fun σ H Q => ∃ env F fs, GS G.M F H G.io env σ fs ∧ match r env with
  | .ok (x, env') => ∃ ks ds, x = (0, .nd (.dic ks) ds) ∧ ∀ F' H' fs' v f, GS G.M F' H' G.io env' σ fs' → Step F H fs.at F' H' (atW fs' f) → Own G.M F' H' 2 (.nd (.dic ks) ds) v f → f.Nodup → Apart fs' f → (∀ b ∈ f, F' b = none) → Q v H'
  | .exn c d => XP G.M G.E c d F H fs.at
  | .stuck => False
theorem t2d_app {f : FnD} {fa : Addr} (D : FnF CXv X G.M lv f fa) (h1 : f.rk = 2) (hm : X.mg f.name = some (.ref fa)) (hk : PySem.W.keepIn X.K (.ref fa) = true) (hr : Room lv X.A) (hx : Passes CXv X G.E) (hg : Gl X f.name) (hd : (f.name == ("__debug__" : Str)) = false)
    {es : E} {x : Expr} {xs : List Expr} {pp pos : Pos} (hs : (x :: xs).all (fun e => !isStar e) = true) (hb : PA X (x :: xs) (tA G es.pure (evs es))) :
    PE X (.Call (.Name f.name pp) (x :: xs) [] pos) (tD2 G (ev (.app f es))) := by
  obtain ⟨k, fd, ps, F1, hk1, hb1⟩ := D
  have hs := Bool.and_eq_true_iff.mp (show ((!isStar x) && xs.all fun e => !isStar e) = true from hs)
  refine pe_imp (pe_call F1 (hr.mono (by omega)) hg hm hk hb1 .nil hx hb hd (star_cons (by simpa using hs.1)) (star_none hs.2)) fun σ H Q ⟨env, F, fs, g, q⟩ => ?_
  have e0 : ev (.app f es) env = (evs es env).bind fun (ars, env) => (callD f ars env).bind fun (d, env) => .ok ((0, d), env) := rfl
  rw [e0] at q
  refine ⟨env, F, fs, g, ?_⟩
  cases e : evs es env with
  | stuck => rw [e] at q; exact q
  | exn c d => rw [e] at q; exact q
  | ok ro =>
    obtain ⟨ars, env1⟩ := ro
    rw [e] at q
    intro F1 H1 fs1 g1 s1 t1 vs rv
    show Spec G.M f (vs ++ []) H1 Q G.E
    rw [List.append_nil]
    refine call_spec (r0 := .stuck) (k := fun _ _ _ _ _ => True) (p := true) g1 rv ?_
    cases e2 : callD f ars env1 with
    | stuck =>
      have q : (match (callD f ars env1).bind (fun (d, env) => Res.ok (((0 : Nat), d), env)) with
        | .ok (x, env') => _
        | .exn c d => _
        | .stuck => False) := q
      rw [e2] at q; exact q
    | exn c d =>
      have q : (match (callD f ars env1).bind (fun (d, env) => Res.ok (((0 : Nat), d), env)) with
        | .ok (x, env') => _
        | .exn c d => XP G.M G.E c d F H fs.at
        | .stuck => False) := q
      rw [e2] at q; exact XP.step q s1
    | ok ro =>
      obtain ⟨r, env'⟩ := ro
      simp only [Res.bind_ok, e2] at q
      obtain ⟨ks, ds, er, q⟩ := q
      intro F' H' fs' v fr g' st _ own nd ap fn
      rw [h1] at own
      have er : r = .nd (.dic ks) ds := congrArg Prod.snd er
      subst er
      exact q F' H' fs' v fr g' (s1.trans st) own nd ap fn
theorem setd_imp {i : Nat} {e : E} (h : tS G rk (ex (.setd i e)) Z σ H) : ownT e = true ∧ tAsg (tD2 G (ev e)) (gName i) Z σ H := by
  obtain ⟨env, F, fs, g, q⟩ := h
  have q : PSt G rk Z F H fs (if ownT e = true then (ev e env).bind fun (x, env) => match x with
    | (0, .nd (.dic ks) ds) => (setSl env i (.own 2 (.nd (.dic ks) ds))).bind fun env => .ok (.nx env)
    | _ => .stuck
    else .stuck) := q
  split at q
  · rename_i ho
    refine ⟨ho, env, F, fs, g, ?_⟩
    cases e1 : ev e env with
    | stuck => rw [e1] at q; exact q
    | exn c d => rw [e1] at q; exact q
    | ok y =>
      obtain ⟨⟨j, d⟩, env1⟩ := y
      rw [e1] at q
      have q2 : PSt G rk Z F H fs (match (j, d) with
        | (0, .nd (.dic ks) ds) => (setSl env1 i (.own 2 (.nd (.dic ks) ds))).bind fun env => .ok (.nx env)
        | _ => .stuck) := q
      clear q
      split at q2
      · rename_i ks ds ej
        cases ej
        obtain ⟨env2, e2, q⟩ := PSt.env setSl_fx q2
        refine ⟨ks, ds, rfl, fun F' H' fs' v f g' s' o nd ap fn => ?_⟩
        unfold setSl at e2
        split at e2
        · cases e2
        · rename_i s hs he
          cases e2
          have g2 := g'.set he (fun k d z => by subst z; exact hs k d rfl) (s' := .own 2 (.nd (.dic ks) ds)) ⟨v, rfl, o⟩ nd fn ap
          refine q _ F' H' _ g2 (s'.less fun b ⟨m, hb⟩ => ?_)
          by_cases w : m = i
          · subst w; rw [Ft.set_same] at hb; exact .inr hb
          · rw [Ft.set_ne w] at hb; exact .inl ⟨m, hb⟩
        · cases e2
      · exact q2.elim
  · exact q.elim
end
end DL

-- part DLo
set_option Elab.async false
set_option linter.all false
set_option maxRecDepth 100000
set_option maxHeartbeats 1000000
/-! DL, part o: the check of statements, and that it is sound. -/
namespace DL
open PySem PySem.Spec PyProof.Rows L2

def isCompE : Expr → Bool
  | .ListComp _ _ _ _ => true
  | .SetComp _ _ _ _ => true
  | .DictComp _ _ _ _ _ => true
  | _ => false
def notStarE : E → Bool
  | .star _ => false
  | _ => true
def nmL (N : List Str) (sc : Scope) (i : Nat) : Expr → Bool
  | .Name x _ => decide (N[i]? = some x) && (decide (sc.names.lookup x = some .local) || decide (sc.names.lookup x = some .cell))
  | _ => false
def nmsB (sc : Scope) : List Expr → Cls2 → Bool
  | [], [] => true
  | .Name x _ :: xs, p :: ps => decide (x = p.2) && glB sc x && nmsB sc xs ps
  | _, _ => false
def isE (N : List Str) (sc : Scope) (i : Nat) (g : Str) (e : Expr) : Bool := decide (g = ("isinstance" : Str)) && glB sc g && nmB N sc i e
/-- the suite of four statements -/
def chkA (N : List Str) (sc : Scope) (i j : Nat) (cs1 cs2 : Cls2) (p0 : Nat × Str) (l : Bool) : List Stmt → Bool
  | [.Assign [.Name y1 q1] (.Call (.Name g1 _) [e1, .Tuple t1 _ _] [] _) _, .Assign [.Name y2 q2] (.BoolOp .Or [o2, .Call (.Name g2 _) [e2, .Tuple t2 _ _] [] _] _) _,
     .If (.BoolOp .Or [o3, .UnaryOp .Not (.Call (.Name g3 _) [e3, .Name n3 _] [] _) _, .UnaryOp .Not (.Call (.Name g4 _) [e4, .Name n4 _] [] _) _] _) [.Return (some (.Constant (.str z) _ _)) _] [] _, .Return (some r) _] =>
    (isE N sc i g1 e1 && nmsB sc t1 cs1 && nmL N sc j (.Name y1 q1)) && (isE N sc i g2 e2 && nmsB sc t2 cs2 && nmL N sc j (.Name y2 q2) && nmB N sc j o2) &&
    (nmB N sc j o3 && isE N sc i g3 e3 && decide (n3 = p0.2) && glB sc n3 && isE N sc i g4 e4 && decide (n4 = ("ValueError" : Str)) && glB sc n4 && decide (z = ("odd" : Str))) &&
    (match l, r with
      | false, .Attribute e f _ => nmB N sc i e && decide (f = ("value" : Str))
      | true, .List [.Attribute e f _] _ => nmB N sc i e && decide (f = ("value" : Str))
      | _, _ => false)
  | _ => false
/-- an except suite, e in the slot i -/
def chkX (N : List Str) (sc : Scope) (i : Nat) : Xh → List Stmt → Bool
  | .four j cs1 cs2 p0 l, b => (decide (i ≠ j) && decide (cs1.length ≤ 100) && decide (cs2.length ≤ 100)) && chkA N sc i j cs1 cs2 p0 l b
  | .call g, [.Return (some (.Call (.Name f _) [x] [] _)) _] => decide (f = g.name) && glB sc f && nmB N sc i x
  | _, _ => false
def Xh.needs : Xh → List Fact
  | .four _ cs1 cs2 p0 _ => [.xs (cs1 ++ (cs2 ++ [p0]))]
  | .call g => [.hn g]
def tiB (N : List Str) (sc : Scope) : Ti → Expr → Bool
  | .sl i, e => nmL N sc i e
  | .at c i f, .Attribute y g _ => nmB N sc i y && decide (g = f)
  | .it i j, .Subscript x (.Constant (.int k) _ _) _ => nmB N sc i x && decide (k = j)
  | _, _ => false
def tisB (N : List Str) (sc : Scope) : List Ti → List Expr → Bool
  | [], [] => true
  | t :: ts, e :: es => tiB N sc t e && tisB N sc ts es
  | _, _ => false
def tgeB (N : List Str) (sc : Scope) : Tg → Expr → Bool
  | .one t, e => tiB N sc t e
  | .tup ts, .Tuple es _ _ => tisB N sc ts es
  | _, _ => false
/-- a target that is no plain local name -/
def notLoc (sc : Scope) : Expr → Bool
  | .Name x _ => !decide (sc.names.lookup x = some .local)
  | _ => true
/-- the stores are not swapped -/
def isNm : Expr → Bool
  | .Name _ _ => true
  | _ => false
/-- no comprehension, or one whose target is no plain local name -/
def noSw (sc : Scope) (tgt value : Expr) : Bool := !isCompE value || (isNm tgt && notLoc sc tgt)
def swB (sc : Scope) (tgt value : Expr) : Bool := noSw sc tgt value && match tgt with
  | .Name _ _ => true
  | .Attribute _ _ _ => true
  | .Tuple ts _ _ => match value with
    | .Tuple vs _ _ => decide (4 ≤ ts.length) || vs.all (foldedForSure 8) || ts.any (notLoc sc)
    | _ => true
  | _ => false
/-- a comprehension whose list goes into a name of the same line -/
def lcB (sc : Scope) (tgt value : Expr) : Bool := match tgt, value with
  | .Name y py, .ListComp _ _ scope pos => decide (sc.kind = .function) && decide (sc.names.lookup y = some .local) && (py.line == pos.line) && !(scope.names.any fun (n, k) => n == y && (k == .local || k == .cell))
  | _, _ => false
/-- a, b = x, y between plain names -/
def namL (N : List Str) (sc : Scope) : List Nat → List Expr → Bool
  | [], [] => true
  | i :: is, .Name x p :: ts => decide (N[i]? = some x) && decide (sc.names.lookup x = some .local) && namL N sc is ts
  | _, _ => false
def parB (N : List Str) (sc : Scope) (is : List Nat) (ts vs : List Expr) : Bool :=
  decide (sc.kind = .function) && namL N sc is ts && decide is.Nodup && !(vs.all (foldedForSure 8)) && !(vs.all (constantsAlone 8)) && noStars vs &&
    (match ts with
      | [.Name _ p, .Name _ q] => (p.line == q.line) && decide (vs.length = 2)
      | [.Name _ p, .Name _ q, .Name _ r] => (p.line == q.line) && (p.line == r.line) && decide (vs.length = 3)
      | _ => false)
def Ti.needs : Ti → List Fact
  | .sl _ => []
  | .at c _ f => [.fd c f]
  | .it _ _ => []
def Tg.needs : Tg → List Fact
  | .one t => t.needs
  | .tup ts => (ts.map Ti.needs).flatten
def S.needs : S → List Fact
  | .nil => []
  | .cons s ss => s.needs ++ ss.needs
  | .pass => []
  | .set tg e => tg.needs ++ e.needs
  | .seto _ _ e => e.needs
  | .aug _ _ e => e.needs
  | .par _ es => es.needs
  | .paro _ _ es => es.needs
  | .setm _ e => e.needs
  | .rett es => es.needs
  | .ife t a b => t.needs ++ (a.needs ++ b.needs)
  | .for_ _ it b => it.needs ++ b.needs
  | .whl t b => t.needs ++ b.needs
  | .ret e => e.needs
  | .reto e => e.needs
  | .retm _ => []
  | .retn => []
  | .drop e => e.needs
  | .appd o e => o.needs ++ e.needs
  | .app _ _ e => e.needs
  | .ext _ _ e => e.needs
  | .sub _ j e => e.needs ++ j.needs
  | .frz _ => []
  | .brk => []
  | .cnt => []
  | .never => []
  | .setd _ e => e.needs
  | .pard _ _ _ _ => []
  | .retd _ _ => []
  | .dset _ _ e => e.needs
  | .daug _ _ _ _ => []
  | .dpop _ _ _ => []
  | .rse c nm e => .xc c nm :: e.needs
  | .tryc b cls nm _ h => .xh cls nm :: (h.needs ++ b.needs)
def rseB (N : List Str) (sc : Scope) (nm : Str) (e : E) : Option Expr → Option Expr → Bool
  | some (.Call (.Name g _) [x] [] _), none => decide (g = nm) && glB sc g && !isStar x && chk N false sc e x
  | _, _ => false
def hdB (N : List Str) (sc : Scope) (rk : Nat) (nm : Str) (i : Nat) (h : Xh) : List ExceptHandler → Bool
  | [.ExceptHandler (some (.Name g _)) (some n) (b0 :: bs) _] => (decide (rk = 0) && decide (g = nm) && glB sc g) && (decide (N[i]? = some n) && decide (sc.names.lookup n = some .local)) && chkX N sc i h (b0 :: bs)
  | _ => false
mutual
def chk1 (N : List Str) (sc : Scope) (rk : Nat) : S → Stmt → Bool
  | .pass, .Pass _ => true
  | .pass, .Expr (.Constant (.str _) _ _) _ => true
  | .set tg e, .Assign [t] v _ => (notStarE e && chk N false sc e v) && tgeB N sc tg t && (swB sc t v || lcB sc t v)
  | .seto _ i e, .Assign [.Name y py] v _ => ownL e && chk N false sc e v && nmL N sc i (.Name y py) && (noSw sc (.Name y py) v || lcB sc (.Name y py) v)
  | .par is es, .Assign [.Tuple ts _ _] (.Tuple vs _ _) _ => parB N sc is ts vs && chks N sc es vs
  | .paro is os es, .Assign [.Tuple ts k p] (.Tuple vs k2 p2) _ => okOs os es && chks N sc es vs && (parB N sc is ts vs || (swB sc (.Tuple ts k p) (.Tuple vs k2 p2) && decide (is.length ≤ 20) && tisB N sc (is.map .sl) ts))
  | .setm is e, .Assign [.Tuple ts _ _] v _ => ownT e && chk N false sc e v && tisB N sc (is.map .sl) ts
  | .rett es, .Return (some (.Tuple xs _ _)) _ => decide (rk = 2) && chks N sc es xs
  | .ife t a b, .If c xs ys _ => chk N true sc t c && chkS N sc rk a xs && chkS N sc rk b ys
  | .for_ tg it b, .For t iter body [] _ => notSet iter && chkI N sc it t iter && tgtB (fun _ => true) N sc tg t && chkS N sc rk b body
  | .whl t b, .While c body [] _ => chk N true sc t c && chkS N sc rk b body
  | .ret e, .Return (some x) _ => decide (rk = 0) && chk N false sc e x
  | .reto e, .Return (some x) _ => decide (rk = 1) && ownL e && chk N false sc e x
  | .retm i, .Return (some x) _ => decide (rk = 1) && nmB N sc i x
  | .retn, .Return none _ => true
  | .drop e, .Expr x _ => !isCompE x && chk N false sc e x
  | .appd o e, .Expr (.Call (.Attribute x m ap) [y] [] cp) _ => decide (m = ("append" : Str)) && ownL o && noCall x && !isStar y && (ap.endLine == cp.line) && chk N false sc o x && chk N false sc e y
  | .app i p e, .Expr (.Call (.Attribute x m ap) [y] [] cp) _ => decide (m = ("append" : Str)) && isNilE p && nmB N sc i x && !isStar y && (ap.endLine == cp.line) && chk N false sc e y
  | .ext i p e, .Expr (.Call (.Attribute x m ap) [y] [] cp) _ => decide (m = ("extend" : Str)) && isNilE p && nmB N sc i x && !isStar y && (ap.endLine == cp.line) && chk N false sc e y
  | .sub i j e, .Assign [.Subscript x z _] y _ => nmB N sc i x && !isSl z && !isCompE y && chk N false sc e y && chk N false sc j z
  | .brk, .Break _ => true
  | .cnt, .Continue _ => true
  | .setd i e, .Assign [.Name y py] v _ => ownT e && chk N false sc e v && nmL N sc i (.Name y py)
  | .pard i j ks ns, .Assign [.Tuple ts _ _] (.Tuple [.Dict keys values p, .List [] p2] _ _) _ => okKs ks && !ks.isEmpty && parB N sc [i, j] ts [.Dict keys values p, .List [] p2] && dspB N sc ks (litsE ns) keys values
  | .retd ks es, .Return (some (.Dict keys values _)) _ => decide (rk = 2) && okKs ks && !ks.isEmpty && dspB N sc ks es keys values
  | .dset i s e, .Assign [.Subscript x (.Constant (.str s') _ _) _] y _ => nmB N sc i x && decide (s' = s) && !isCompE y && chk N false sc e y
  | .daug i s op n, .AugAssign (.Subscript x (.Constant (.str s') _ _) _) o (.Constant (.int m) _ _) _ => nmB N sc i x && decide (s' = s) && decide (m = n) && (decide (op = .add ∧ o = .Add) || decide (op = .sub ∧ o = .Sub))
  | .dpop i s s2, .Assign [.Subscript x (.Constant (.str s') _ _) _] (.Call (.Attribute (.Subscript y (.Constant (.str t') _ _) _) m ap) [.Constant (.int z) _ _] [] cp) _ => nmB N sc i x && nmB N sc i y && decide (s' = s) && decide (t' = s2) && decide (m = ("pop" : Str)) && decide (z = 0) && (ap.endLine == cp.line)
  | .rse c nm e, .Raise x y _ => rseB N sc nm e x y
  | .tryc b cls nm i h, .Try body hds els fin _ => (els.isEmpty && fin.isEmpty) && chkS N sc rk b body && hdB N sc rk nm i h hds
  | _, _ => false
def chkS (N : List Str) (sc : Scope) (rk : Nat) : S → List Stmt → Bool
  | .nil, [] => true
  | .never, _ => true
  | .cons (.frz _) ss, sts => chkS N sc rk ss sts
  | .cons s ss, st :: sts => chk1 N sc rk s st && chkS N sc rk ss sts
  | _, _ => false
end

/-- the context of a def's body -/
structure CS (CXv : CXT) (X : Cx) (G : Fr) (N : List Str) (sc : Scope) (lv : Nat) : Prop extends CO CXv X G N sc lv where
  po : PassesOwn (model X.prog X.w) X.A X.env X.xe
  fn : ∀ x, X.fn x = true
  tk : CXv = L2N.CX X.prog X.w → L2N.Takes X (fun cls d _ H => G.E cls d H)
  hs : X.stack = X.env :: X.outer
  hf : X.env.frame = some X.env.locals
section
variable {CXv : CXT} {X : Cx} {G : Fr} {N : List Str} {sc : Scope} {lv rk : Nat}
theorem swap_none {v : Expr} (h : isCompE v = false) (t : Option Expr) (l : Nat) (env : PySem.Env) : swapsWith v t l env = pure false := by
  cases v <;> first | rfl | (simp [isCompE] at h)
theorem swap_nosw {sc : Scope} {t v : Expr} {l : Nat} {env : PySem.Env} (hc : env.scope = sc) (h : noSw sc t v = true) : swapsWith v (some t) l env = pure false := by
  subst hc
  rcases Bool.or_eq_true_iff.mp h with h | h
  · exact swap_none (by simpa using h) _ _ _
  · have h := Bool.and_eq_true_iff.mp h
    cases t with
    | Name x p =>
      have hx : (env.kindOf x == some .local) = false := by
        rw [beq_eq_false_iff_ne]
        show env.scope.names.lookup x ≠ _
        simpa [notLoc] using h.2
      unfold swapsWith
      cases v <;> simp [hx]
    | _ => simp [isNm] at h
theorem sw_long {ts vs : List Expr} {k p k2 p2} {env : PySem.Env} (h : 4 ≤ ts.length) : swappedStores [.Tuple ts k p] (.Tuple vs k2 p2) env = pure none := by
  have h2 : (ts.length == 2) = false := by simp; omega
  have h3 : (ts.length == 3) = false := by simp; omega
  simp [swappedStores, h2, h3]
theorem sw_fold {ts vs : List Expr} {k p k2 p2} {env : PySem.Env} (h : vs.all (foldedForSure 8) = true) : swappedStores [.Tuple ts k p] (.Tuple vs k2 p2) env = pure none := by
  simp only [swappedStores, h, if_true]
  repeat' split
  all_goals first | rfl | skip
theorem filterMap_lt {α β : Type} {f : α → Option β} {e : α} (hf : f e = none) : ∀ {l : List α}, e ∈ l → (l.filterMap f).length < l.length
  | a :: l, h => by
    have le := List.length_filterMap_le f l
    rcases List.mem_cons.mp h with rfl | h
    · rw [List.filterMap_cons_none hf, List.length_cons]; omega
    · have := filterMap_lt hf h
      cases q : f a with
      | none => rw [List.filterMap_cons_none q, List.length_cons]; omega
      | some b => rw [List.filterMap_cons_some q, List.length_cons, List.length_cons]; omega
theorem sw_cell {ts vs : List Expr} {k p k2 p2} {env : PySem.Env} (h : ts.any (notLoc env.scope) = true) : swappedStores [.Tuple ts k p] (.Tuple vs k2 p2) env = pure none := by
  obtain ⟨e, he, hn⟩ := List.any_eq_true.mp h
  simp only [swappedStores]
  repeat' split
  all_goals first | rfl | skip
  all_goals
    exfalso
    rename_i _ _ q _ _
    have := filterMap_lt (f := fun x => match x with
      | .Name id pos => if (env.kindOf id == some .local && pos.line == (ts.head?.map (·.pos.line)).getD 0) = true then some id else none
      | _ => none) (e := e) (by
        cases e with
        | Name x q =>
          have hx : env.kindOf x ≠ some .local := by
            show env.scope.names.lookup x ≠ _
            simpa [notLoc] using hn
          have : (env.kindOf x == some .local) = false := by
            rw [beq_eq_false_iff_ne]; exact hx
          simp [this]
        | _ => rfl) he
    simp only [Bool.or_eq_true, bne_iff_ne, not_or, ne_eq, Decidable.not_not] at q
    exact absurd q.1 (Nat.ne_of_lt this)
theorem noStar_any {vs : List Expr} (h : noStars vs = true) : (vs.any fun | .Starred .. => true | _ => false) = false := by
  rw [List.any_eq_false]
  intro e he
  have := List.all_eq_true.mp h e he
  cases e <;> first | (simp; done) | (exact absurd this (by simp [isStar]))
theorem sw_two {x y : Str} {p q : Pos} {a b : Expr} {k pt k2 p2} {env : PySem.Env} (hk : env.scope.kind = .function) (hx : env.scope.names.lookup x = some .local) (hy : env.scope.names.lookup y = some .local) (hp : (p.line == q.line) = true) (hn : x ≠ y)
    (h1 : [a, b].all (foldedForSure 8) = false) (h2 : [a, b].all (constantsAlone 8) = false) (h3 : noStars [a, b] = true) : swappedStores [.Tuple [.Name x p, .Name y q] k pt] (.Tuple [a, b] k2 p2) env = pure (some [x, y]) := by
  have hb : env.blockKind = .function := by unfold Env.blockKind; rw [hk]; rfl
  have kx : env.kindOf x = some .local := hx
  have ky : env.kindOf y = some .local := hy
  have hq : q.line = p.line := (eq_of_beq hp).symm
  have h4 := noStar_any h3
  have he : [x, y].eraseDups = [x, y] := by
    have : (y == x) = false := by simpa using fun z => hn z.symm
    simp [List.eraseDups, List.eraseDupsBy, List.eraseDupsBy.loop, this]
  simp only [swappedStores, h1, h2, h4, hb, List.filterMap_cons, List.filterMap_nil, kx, ky, hq, List.head?_cons, Option.map_some, Option.getD_some, Expr.pos]
  simp only [List.any_cons, List.any_nil, Bool.or_false, Bool.or_eq_false_iff] at h4
  simp [he]
  rintro (hh | hh)
  · exact Bool.noConfusion (hh.symm.trans h4.1)
  · exact Bool.noConfusion (hh.symm.trans h4.2)
theorem sw_three {x y z : Str} {p q r : Pos} {a b c : Expr} {k pt k2 p2} {env : PySem.Env} (hk : env.scope.kind = .function) (hx : env.scope.names.lookup x = some .local) (hy : env.scope.names.lookup y = some .local) (hz : env.scope.names.lookup z = some .local) (hp : (p.line == q.line) = true) (hr : (p.line == r.line) = true) (hn : x ≠ y) (hn2 : x ≠ z) (hn3 : y ≠ z)
    (h1 : [a, b, c].all (foldedForSure 8) = false) (h2 : [a, b, c].all (constantsAlone 8) = false) (h3 : noStars [a, b, c] = true) : swappedStores [.Tuple [.Name x p, .Name y q, .Name z r] k pt] (.Tuple [a, b, c] k2 p2) env = pure (some [x, y, z]) := by
  have hb : env.blockKind = .function := by unfold Env.blockKind; rw [hk]; rfl
  have kx : env.kindOf x = some .local := hx
  have ky : env.kindOf y = some .local := hy
  have kz : env.kindOf z = some .local := hz
  have hq : q.line = p.line := (eq_of_beq hp).symm
  have hr : r.line = p.line := (eq_of_beq hr).symm
  have h4 := noStar_any h3
  have he : [x, y, z].eraseDups = [x, y, z] := by
    have e1 : (y == x) = false := by simpa using fun z => hn z.symm
    have e2 : (z == x) = false := by simpa using fun z => hn2 z.symm
    have e3 : (z == y) = false := by simpa using fun z => hn3 z.symm
    simp [List.eraseDups, List.eraseDupsBy, List.eraseDupsBy.loop, e1, e2, e3]
  simp only [swappedStores, h1, h2, h4, hb, List.filterMap_cons, List.filterMap_nil, kx, ky, kz, hq, hr, List.head?_cons, Option.map_some, Option.getD_some, Expr.pos]
  simp only [List.any_cons, List.any_nil, Bool.or_false, Bool.or_eq_false_iff] at h4
  simp [he]
  rintro (hh | hh | hh)
  · exact Bool.noConfusion (hh.symm.trans h4.1)
  · exact Bool.noConfusion (hh.symm.trans h4.2.1)
  · exact Bool.noConfusion (hh.symm.trans h4.2.2)
/-! ### targets -/
theorem nmL_inv {i : Nat} {e : Expr} (c : CO CXv X G N sc lv) (h : nmL N sc i e = true) : ∃ x p, e = .Name x p ∧ X.N[i]? = some x ∧ Loc X.env.scope x := by
  cases e with
  | Name x p =>
    simp only [nmL, Bool.and_eq_true, Bool.or_eq_true, decide_eq_true_eq] at h
    exact ⟨x, p, rfl, by rw [c.hN]; exact h.1, by rw [c.sc]; exact h.2⟩
  | _ => simp [nmL] at h
theorem pg_tiB (c : CS CXv X G N sc lv) {t : Ti} {e : Expr} (h : tiB N sc t e = true) : PG X e (gTi X.K t) ∧ (∀ es, (assignEach (e :: es) X.env).map (·.2) = assign e X.env :: (assignEach es X.env).map (·.2)) ∧ (∀ es, assignEach (e :: es) X.env = (false, assign e X.env) :: assignEach es X.env) := by
  cases t with
  | sl i =>
    obtain ⟨x, p, rfl, h1, h2⟩ := nmL_inv c.toCO h
    exact ⟨pg_name (by rw [c.hN]; exact c.nd) h1 h2 (.inl (c.fn x)), fun _ => rfl, fun _ => rfl⟩
  | «at» k i f =>
    cases e with
    | Attribute y g p =>
      simp only [tiB, Bool.and_eq_true, decide_eq_true_eq] at h
      obtain ⟨h1, rfl⟩ := h
      obtain ⟨n, q, rfl, a1, a2, a3, a4⟩ := nmB_inv c.toCO h1
      exact ⟨pg_att a1 a2 a3 a4, fun _ => rfl, fun _ => rfl⟩
    | _ => simp [tiB] at h
  | it i j =>
    have : ∃ x k m p q, e = .Subscript x (.Constant (.int k) m p) q ∧ nmB N sc i x = true ∧ k = j := by
      cases e with
      | Subscript x z q =>
        cases z with
        | Constant c m p =>
          cases c with
          | int k =>
            simp only [tiB, Bool.and_eq_true, decide_eq_true_eq] at h
            exact ⟨x, k, m, p, q, rfl, h.1, h.2⟩
          | _ => simp [tiB] at h
        | _ => simp [tiB] at h
      | _ => simp [tiB] at h
    obtain ⟨x, k, m, p, q, rfl, h1, rfl⟩ := this
    obtain ⟨n, q2, rfl, a1, a2, a3, a4⟩ := nmB_inv c.toCO h1
    refine ⟨?_, fun _ => rfl, fun _ => rfl⟩
    have pg := pg_sub (pos := q) (pe_var a1 a2 a3 a4 (pos := q2)) (pe_int (X := X) (i := k) (j := m) (pos := p)) set_list (by intro _; rfl)
    refine ⟨fun pins s σ H v u Q I r h => pg.run pins s σ H v u Q I r ?_⟩
    obtain ⟨a, vs, n', e1, e2, e3, q'⟩ := h
    exact ⟨.ref a, e1, a, vs, k, n', rfl, rfl, e2, e3, q'⟩
theorem pgs_tisB (c : CS CXv X G N sc lv) : ∀ {ts : List Ti} {es : List Expr}, tisB N sc ts es = true → PGs X es (gTis X.K ts) ∧ (assignEach es X.env).length = ts.length ∧ (assignEach es X.env).findIdx? (·.1) = none
  | [], [], _ => ⟨pgs_nil, rfl, rfl⟩
  | [], _ :: _, h => by simp [tisB] at h
  | _ :: _, [], h => by simp [tisB] at h
  | i :: is, e :: es, h => by
    have h := Bool.and_eq_true_iff.mp (show (tiB N sc i e && tisB N sc is es) = true from h)
    obtain ⟨a1, a3, a4⟩ := pg_tiB c h.1
    obtain ⟨b1, b2, b3⟩ := pgs_tisB c h.2
    refine ⟨pgs_cons a1 b1 (a3 es), by rw [a4, List.length_cons, b2, List.length_cons], ?_⟩
    rw [a4, List.findIdx?_cons, b3]
    rfl
theorem pg_tgeB (c : CS CXv X G N sc lv) {t : Tg} {e : Expr} (h : tgeB N sc t e = true) : PG X e (gTgt X.K t) ∧ (assignEach [e] X.env).map (·.2) = [assign e X.env] := by
  cases t with
  | one t =>
    obtain ⟨a, b, _⟩ := pg_tiB c (show tiB N sc t e = true from h)
    exact ⟨a, b []⟩
  | tup ts =>
    cases e with
    | Tuple es k p =>
      obtain ⟨b1, b2, b3⟩ := pgs_tisB c (show tisB N sc ts es = true from h)
      exact ⟨pg_tup c.calm b1 b2 b3, rfl⟩
    | _ => simp [tgeB] at h
theorem tif_of {M : Mo} (t : Ti) (h : Facts CXv X M lv t.needs) : TiF X M t := by
  cases t with
  | sl i => trivial
  | «at» c i f => exact fact_h h
  | it i j => trivial
theorem tgf_of {M : Mo} (t : Tg) (h : Facts CXv X M lv t.needs) : TgF X M t := by
  cases t with
  | one t => exact tif_of t h
  | tup ts => exact fun t ht => tif_of t fun f hf => h f (List.mem_flatten.mpr ⟨_, List.mem_map.mpr ⟨t, ht, rfl⟩, hf⟩)
/-! ### assignments -/
theorem lc_asg (c : CO CXv X G N sc lv) {i : Nat} {e : E} {y : Str} {py pos : Pos} {v : Expr} (hns : notStarE e = true) (f : Facts CXv X G.M lv e.needs) (h : chk N false sc e v = true) (hl : lcB sc (.Name y py) v = true) (hi0 : X.N[i]? = some y) :
    PS X (.Assign [.Name y py] v pos) (tAsg (tN G e.pure (ev e)) (gName i)) := by
  cases v with
  | ListComp elt gs scope p =>
    simp only [lcB, Bool.and_eq_true, decide_eq_true_eq, Bool.not_eq_true'] at hl
    obtain ⟨⟨⟨l1, l2⟩, l3⟩, l4⟩ := hl
    cases e with
    | comp tg it u e =>
      cases gs with
      | nil => simp [chk] at h
      | cons g0 gs =>
        cases g0 with
        | mk tgt iter ifs asy =>
          cases gs with
          | cons _ _ => simp [chk] at h
          | nil =>
            simp only [chk, Bool.not_false, Bool.true_and, Bool.and_eq_true, decide_eq_true_eq, Bool.not_eq_true'] at h
            obtain ⟨⟨⟨⟨⟨⟨⟨rfl, hn⟩, hi⟩, hb⟩, ho⟩, hg⟩, ht⟩, he⟩ := h
            have q := ps_setLc (elt := elt) (ifs := ifs) (spos := pos) (py := py) (pos := p) c.calm (by rw [c.hN]; exact c.nd) hi0 (by rw [c.sc]; exact l2) (sw_true (by rw [c.sc]; exact l1) (by rw [c.sc]; exact l2) l3 l4) ((sound N it).i c (fact_l f) hi) (by rw [c.hN, c.sc]; exact blkOk_by hb) (g := gTg X.K tg) (tt := tT { G with E := E0 } u.pure (tstOf u (ev u))) (te := tE { G with E := E0 } e.pure (ev e))
              (fun s H C cl fp => ?_) (fun s H C cl fp => ?_) (fun s H C cl fp => ?_) (set_iter hn _)
            · rw [ho] at q
              exact ps_imp q fun Z σ H h => lc_imp σ H _ h
            · have cb := c.blk s H scope C cl fp
              exact pg_tgtB (X := X.blk s H scope (compEnvC scope cl C X.env) fp) c.calm cb.hN c.nd cb.sc (fun x hx => hx) hg
            · have cb := c.blk s H scope C cl fp
              have fb : Facts CXv (X.blk s H scope (compEnvC scope cl C X.env) fp) G.M _ u.needs := fun g hg => factOk_blk (fact_l (fact_r f) g hg)
              cases ifs with
              | nil =>
                cases u with
                | nil => exact pts_imp pts_nil tst_nil
                | _ => simp [isNilE] at ht
              | cons c0 cs =>
                cases cs with
                | cons _ _ => simp at ht
                | nil =>
                  simp only [Bool.and_eq_true, Bool.not_eq_true'] at ht
                  rw [tst_evT ht.1]
                  exact pts_one ((sound N u).t cb fb ht.2)
            · have cb := c.blk s H scope C cl fp
              exact (sound N e).v cb (fun g hg => factOk_blk (fact_r (fact_r f) g hg)) he
    | star a => simp [notStarE] at hns
    | _ => simp [chk, nmB, notComp] at h
  | _ => simp [lcB] at hl
theorem s_asg (c : CS CXv X G N sc lv) {tg : Tg} {e : E} {t v : Expr} {pos : Pos} (hns : notStarE e = true) (f : Facts CXv X G.M lv (S.set tg e).needs) (h : chk N false sc e v = true) (ht : tgeB N sc tg t = true) (hs : (swB sc t v || lcB sc t v) = true) : PS X (.Assign [t] v pos) (tS G rk (ex (.set tg e))) := by
  rcases Bool.or_eq_true_iff.mp hs with hs | hs
  · have h1 := pg_tgeB c ht
    simp only [swB, Bool.and_eq_true] at hs
    refine ps_imp (ps_asg ((sound N e).v c.toCO (fact_r f) h) h1.1 (swap_nosw c.sc hs.1) ?_ h1.2) fun Z σ H q => asg_imp (tgf_of tg (fact_l f)) q
    have hs := hs.2
    cases t with
    | Name _ _ => cases v <;> rfl
    | Attribute _ _ _ => cases v <;> rfl
    | Tuple ts k p =>
      cases v with
      | Tuple vs k2 p2 =>
        simp only [Bool.or_eq_true, decide_eq_true_eq] at hs
        rcases hs with (hs | hs) | hs
        · exact sw_long hs
        · exact sw_fold hs
        · exact sw_cell (by rw [← c.sc] at hs; exact hs)
      | _ => rfl
    | _ => simp at hs
  · cases t with
    | Name y py =>
      cases tg with
      | one t =>
        cases t with
        | sl i =>
          obtain ⟨x, p, e1, a1, a2⟩ := nmL_inv c.toCO (show nmL N sc i (.Name y py) = true from ht)
          cases e1
          exact ps_imp (lc_asg c.toCO hns (fact_r f) h hs a1) fun Z σ H q => tE_N (asg_imp (X := X) (tgf_of _ (fact_l f)) q)
        | «at» _ _ _ => simp [tgeB, tiB] at ht
        | it _ _ => simp [tgeB, tiB] at ht
      | tup _ => simp [tgeB] at ht
    | _ => simp [lcB] at hs
theorem s_asgL (c : CS CXv X G N sc lv) {i k : Nat} {e : E} {y : Str} {py : Pos} {v : Expr} {pos : Pos} (f : Facts CXv X G.M lv e.needs) (ho : ownL e = true) (h : chk N false sc e v = true) (ht : nmL N sc i (.Name y py) = true) (hs : (noSw sc (.Name y py) v || lcB sc (.Name y py) v) = true) :
    PS X (.Assign [.Name y py] v pos) (tS G rk (ex (.seto k i e))) := by
  obtain ⟨x, p, e1, a1, a2⟩ := nmL_inv c.toCO ht
  cases e1
  rcases Bool.or_eq_true_iff.mp hs with hs | hs
  · exact ps_imp (ps_set (by rw [c.hN]; exact c.nd) a1 a2 ((sound N e).l c.toCO f ho h) (swap_nosw c.sc hs) (.inl (c.fn _))) fun Z σ H q => (asgL_imp q).2
  · exact ps_imp (lc_asg c.toCO (by cases e <;> first | rfl | (simp [ownL] at ho)) f h hs a1) fun Z σ H q => tL_N (asgL_imp q).2
theorem namL_inv (c : CO CXv X G N sc lv) {i : Nat} {is : List Nat} {t : Expr} {ts : List Expr} (h : namL N sc (i :: is) (t :: ts) = true) : ∃ x p, t = .Name x p ∧ X.N[i]? = some x ∧ X.env.scope.names.lookup x = some .local ∧ namL N sc is ts = true := by
  cases t with
  | Name x p =>
    simp only [namL, Bool.and_eq_true, decide_eq_true_eq] at h
    exact ⟨x, p, rfl, by rw [c.hN]; exact h.1.1, by rw [c.sc]; exact h.1.2, h.2⟩
  | _ => simp [namL] at h
theorem nodup_ne {α : Type} {l : List α} (nd : l.Nodup) {i j : Nat} {x y : α} (hi : l[i]? = some x) (hj : l[j]? = some y) (h : i ≠ j) : x ≠ y := by
  obtain ⟨a1, a2⟩ := List.getElem?_eq_some_iff.mp hi
  obtain ⟨b1, b2⟩ := List.getElem?_eq_some_iff.mp hj
  rw [← a2, ← b2]
  rcases Nat.lt_or_gt_of_ne h with l | l
  · exact List.pairwise_iff_getElem.mp nd i j a1 b1 l
  · exact (List.pairwise_iff_getElem.mp nd j i b1 a1 l).symm
theorem tA_mono {p : Bool} {r : Env → Res (List Ar × Env)} {σ : L2.St} {H : Hp} {Q Q' : List V → Hp → Prop} (h : tA G p r σ H Q) (i : ∀ vs H, Q vs H → Q' vs H) : tA G p r σ H Q' := by
  obtain ⟨env, F, fs, g, q⟩ := h
  exact ⟨env, F, fs, g, q.weak (fun z => z) fun x env1 F1 H1 fs1 _ _ _ _ k vs rv => i _ _ (k vs rv)⟩
theorem par_imp {is : List Nat} {es : E} {Z : Ends} {σ : L2.St} {H : Hp} (h : tS G rk (ex (.par is es)) Z σ H) : tA G es.pure (evs es) σ H fun vs H1 => is.length = vs.length ∧ Z.nx (setV σ is vs) H1 := by
  obtain ⟨env, F, fs, g, q⟩ := h
  refine ⟨env, F, fs, g, PSt.bind (σ := σ) (show PSt G rk Z F H fs ((evs es env).bind fun (ars, env) => (ofO (strong ars)).bind fun ds => (setTis env (is.map .sl) ds).bind fun env => .ok (.nx env)) from q) fun ars env1 F1 H1 fs1 _ g1 s1 _ q1 vs rv => ?_⟩
  obtain ⟨ds, e, q1⟩ := PSt.ofO q1
  obtain ⟨env2, e2, q1⟩ := PSt.env (fun _ _ => setTis_fx) q1
  obtain ⟨l, fs', g', s'⟩ := setTis_vals g1 (strong_vs e rv) e2
  exact ⟨l, q1 _ F1 H1 fs' g' (Step.refl.less s')⟩
theorem s_o2 (c : CO CXv X G N sc lv) : ∀ {os : List Bool} {es : E} {xs : List Expr}, Facts CXv X G.M lv es.needs → okOs os es = true → chks N sc es xs = true → PA X xs (tO2 G (evsO os es) os) := by
  intro os es
  induction es generalizing os with
  | nil =>
    intro xs f ho h
    cases os with
    | nil =>
      cases xs with
      | nil => exact o2_nil
      | cons _ _ => simp [chks] at h
    | cons o os => cases o <;> simp [okOs] at ho
  | cons a es _ ih =>
    intro xs f ho h
    have key : (∀ i, a ≠ .ioa i ∧ a ≠ .wka i) → (∀ b, a ≠ .star b) → ∃ x ys, xs = x :: ys ∧ isStar x = false ∧ chk N false sc a x = true ∧ chks N sc es ys = true := by
      intro h1 h2
      cases xs with
      | nil => exfalso; cases a <;> simp [chks] at h
      | cons x ys =>
        have h : (!isStar x && chk N false sc a x && chks N sc es ys) = true := by
          cases a <;> first | exact h | exact absurd rfl (h1 _).1 | exact absurd rfl (h1 _).2 | exact absurd rfl (h2 _)
        simp only [Bool.and_eq_true, Bool.not_eq_true'] at h
        exact ⟨x, ys, rfl, h.1.1, h.1.2, h.2⟩
    cases os with
    | nil => simp [okOs] at ho
    | cons o os =>
      cases o with
      | true =>
        have ho := Bool.and_eq_true_iff.mp (show (ownL a && okOs os es) = true from ho)
        obtain ⟨x, ys, rfl, hx, k1, k2⟩ := key (fun i => by cases a <;> simp [ownL] at ho ⊢) (fun b => by cases a <;> simp [ownL] at ho ⊢)
        exact o2_own hx ((sound N a).l c (fact_l f) ho.1 k1) (ih (fact_r f) ho.2 k2)
      | false =>
        have ho := Bool.and_eq_true_iff.mp (show (plainA a && okOs os es) = true from ho)
        have h1 : ∀ i, a ≠ .ioa i ∧ a ≠ .wka i := fun i => by cases a <;> simp [plainA] at ho ⊢
        have h2 : ∀ b, a ≠ .star b := fun b => by cases a <;> simp [plainA] at ho ⊢
        obtain ⟨x, ys, rfl, hx, k1, k2⟩ := key h1 h2
        exact o2_val hx ((sound N a).v c (fact_l f) k1) (ih (fact_r f) ho.2 k2)
  | _ =>
    intro xs f ho h
    cases os with
    | nil => simp [okOs] at ho
    | cons o os => cases o <;> simp [okOs] at ho
theorem gTis_sl {K : PySem.W.Frag} : ∀ {is : List Nat}, gTis K (is.map .sl) = gIs is
  | [] => rfl
  | i :: is => by
    show gCons (gName i) (gTis K (is.map .sl)) = gCons (gName i) (gIs is)
    rw [gTis_sl]
theorem tO2_mono {os : List Bool} {r : Env → Res (List D × Env)} {σ : L2.St} {H : Hp} {Q Q' : List V → Hp → Prop} (h : tO2 G r os σ H Q) (i : ∀ vs H1, Q vs H1 → Q' vs H1) : tO2 G r os σ H Q' := by
  obtain ⟨env, F, fs, g, q⟩ := h
  refine ⟨env, F, fs, g, ?_⟩
  cases e : r env with
  | stuck => rw [e] at q; exact q
  | exn c d => rw [e] at q; exact q
  | ok y =>
    obtain ⟨ds, env1⟩ := y
    rw [e] at q
    exact fun F' H' fs' vs fos g' s' ow nd ap fn => i _ _ (q F' H' fs' vs fos g' s' ow nd ap fn)
theorem s_parl (c : CS CXv X G N sc lv) {is : List Nat} {os : List Bool} {es : E} {ts vs : List Expr} {k pt k2 p2} {pos : Pos} (f : Facts CXv X G.M lv es.needs) (ho : okOs os es = true) (h4 : swB sc (.Tuple ts k pt) (.Tuple vs k2 p2) = true) (h20 : is.length ≤ 20) (ht : tisB N sc (is.map .sl) ts = true) (h : chks N sc es vs = true) :
    PS X (.Assign [.Tuple ts k pt] (.Tuple vs k2 p2) pos) (tS G rk (ex (.paro is os es))) := by
  obtain ⟨b1, b2, b3⟩ := pgs_tisB c ht
  have hw : swappedStores [.Tuple ts k pt] (.Tuple vs k2 p2) X.env = pure none := by
    simp only [swB, noSw, isCompE, Bool.not_false, Bool.true_or, Bool.true_and, Bool.or_eq_true, decide_eq_true_eq] at h4
    rcases h4 with (hs | hs) | hs
    · exact sw_long hs
    · exact sw_fold hs
    · exact sw_cell (by rw [← c.sc] at hs; exact hs)
  refine ps_imp (ps_asg (pe_tup (s_o2 c.toCO f ho h)) (pg_tup c.calm b1 b2 b3) rfl hw rfl) fun Z σ H q => ?_
  refine tO2_mono (paro_impT q) fun xs H1 ⟨l, q⟩ => ⟨by rw [← l]; exact Nat.le_trans h20 (by decide), fun p hp => ?_⟩
  refine ⟨p, xs, rfl, SqT.of upd_same, by rw [List.length_map]; exact l.symm, ?_⟩
  rw [gTis_sl]
  exact gIs_of l (q p hp)
theorem s_setm (c : CS CXv X G N sc lv) {is : List Nat} {e : E} {ts : List Expr} {v : Expr} {k pt} {pos : Pos} (f : Facts CXv X G.M lv e.needs) (ho : ownT e = true) (h : chk N false sc e v = true) (ht : tisB N sc (is.map .sl) ts = true) :
    PS X (.Assign [.Tuple ts k pt] v pos) (tS G rk (ex (.setm is e))) := by
  obtain ⟨b1, b2, b3⟩ := pgs_tisB c ht
  rw [gTis_sl, List.length_map] at *
  cases e with
  | app fd es =>
    have h1 : fd.rk = 2 := by simpa [ownT] using ho
    have : ∃ g pp x xs p, v = .Call (.Name g pp) (x :: xs) [] p := by
      cases v <;> first | (simp [chk] at h; done) | skip
      rename_i fn as ks p
      cases fn <;> first | (simp [chk] at h; done) | skip
      cases as <;> first | (simp [chk] at h; done) | skip
      cases ks <;> first | (simp [chk] at h; done) | skip
      exact ⟨_, _, _, _, _, rfl⟩
    obtain ⟨g, pp, x, xs, p, rfl⟩ := this
    simp only [chk, Bool.and_eq_true, decide_eq_true_eq, Bool.not_eq_true'] at h
    obtain ⟨⟨⟨rfl, hg⟩, hs⟩, h2⟩ := h
    obtain ⟨fa, F1, hm, hk⟩ := (fact_h f).ex
    refine ps_imp (ps_asg (t2_app F1 h1 hm hk c.room c.pass (glB_inv c.toCO hg).1 (glB_inv c.toCO hg).2 hs ((sound N es).a c.toCO (fact_t f) h2)) (pg_tup c.calm b1 b2 b3) rfl rfl rfl) fun Z σ H q => (setm_imp q c.K).2
  | _ => simp [ownT] at ho
theorem s_rett (c : CS CXv X G N sc lv) {es : E} {xs : List Expr} {k p} {pos : Pos} (f : Facts CXv X G.M lv es.needs) (h0 : rk = 2) (h : chks N sc es xs = true) : PS X (.Return (some (.Tuple xs k p)) pos) (tS G rk (ex (.rett es))) :=
  ps_imp (ps_ret (pe_tup ((sound N es).a c.toCO f h))) fun Z σ H q => rett_imp h0 q
theorem tL_mono {p : Bool} {r : Env → Res (Wk × Env)} {σ : L2.St} {H : Hp} {Q Q' : VK} (h : tL G p r σ H Q) (i : ∀ v H, Q v H → Q' v H) : tL G p r σ H Q' := by
  obtain ⟨env, F, fs, g, q⟩ := h
  refine ⟨env, F, fs, g, ?_⟩
  cases e : r env with
  | stuck => rw [e] at q; exact q
  | exn c d => rw [e] at q; exact q
  | ok y =>
    obtain ⟨x, env1⟩ := y
    rw [e] at q
    obtain ⟨ds, ex, q⟩ := q
    exact ⟨ds, ex, fun F' H' fs' v f g' s' t o nd ap fn => i _ _ (q F' H' fs' v f g' s' t o nd ap fn)⟩
theorem s_appd (c : CS CXv X G N sc lv) {o e : E} {x y : Expr} {ap cp pos : Pos} (f : Facts CXv X G.M lv (o.needs ++ e.needs)) (ho : ownL o = true) (hn : noCall x = true) (hy : isStar y = false) (hl : (ap.endLine == cp.line) = true) (h : chk N false sc o x = true) (h2 : chk N false sc e y = true) :
    PS X (.Expr (.Call (.Attribute x "append" ap) [y] [] cp) pos) (tS G rk (ex (.appd o e))) :=
  ps_imp (ps_expr (pe_bm PySem.F.plainAttrs_list PySem.F.slot_list_append PySem.F.type_list_append mt_append ((sound N o).l c.toCO (fact_l f) ho h) (pa_cons ((sound N e).v c.toCO (fact_r f) h2) pa_nil (star_cons hy)) (ab_ok hn _ _) (form_ok (by simp [hy]) (by simp)) hl (star_cons hy) rfl)) fun Z σ H q => by
    obtain ⟨_, q⟩ := appd_imp q
    refine tL_mono q fun v H1 ⟨a, vs, ev, h1, q⟩ => ?_
    subst ev
    refine ⟨ly_list h1, tE_mono _ _ _ _ q fun w H2 ⟨vs2, k2, hl, q⟩ => ?_⟩
    exact ⟨a, vs2, w, rfl, rfl, k2, hl, q⟩
theorem s_par (c : CS CXv X G N sc lv) {is : List Nat} {es : E} {ts vs : List Expr} {k pt k2 p2} {pos : Pos} (f : Facts CXv X G.M lv es.needs) (hp : parB N sc is ts vs = true) (h : chks N sc es vs = true) : PS X (.Assign [.Tuple ts k pt] (.Tuple vs k2 p2) pos) (tS G rk (ex (.par is es))) := by
  simp only [parB, Bool.and_eq_true, decide_eq_true_eq, Bool.not_eq_true'] at hp
  obtain ⟨⟨⟨⟨⟨⟨hk, hn⟩, hd⟩, hf⟩, hc⟩, hs⟩, hp⟩ := hp
  have hk : X.env.scope.kind = .function := by rw [c.sc]; exact hk
  have nd : X.N.Nodup := by rw [c.hN]; exact c.nd
  split at hp
  · rename_i x p y q
    cases is with
    | nil => simp [namL] at hn
    | cons i is =>
      obtain ⟨_, _, e1, i1, i2, hn⟩ := namL_inv c.toCO hn
      cases e1
      cases is with
      | nil => simp [namL] at hn
      | cons j is =>
        obtain ⟨_, _, e1, j1, j2, hn⟩ := namL_inv c.toCO hn
        cases e1
        cases is with
        | cons _ _ => simp [namL] at hn
        | nil =>
          simp only [Bool.and_eq_true, decide_eq_true_eq] at hp
          match vs, hp.2 with
          | [a, b], _ =>
            have hij : i ≠ j := by simpa using hd
            refine ps_imp (ps_par c.calm nd i1 j1 hij i2 j2 ((sound N es).a c.toCO f h) (sw_two hk i2 j2 hp.1 (nodup_ne nd i1 j1 hij) hf hc hs)) fun Z σ H q => ?_
            refine tA_mono (par_imp q) fun vs H1 ⟨l, q⟩ => ?_
            match vs, l with
            | [v, w], _ => exact ⟨v, w, rfl, q⟩
  · rename_i x p y q z r
    cases is with
    | nil => simp [namL] at hn
    | cons i is =>
      obtain ⟨_, _, e1, i1, i2, hn⟩ := namL_inv c.toCO hn
      cases e1
      cases is with
      | nil => simp [namL] at hn
      | cons j is =>
        obtain ⟨_, _, e1, j1, j2, hn⟩ := namL_inv c.toCO hn
        cases e1
        cases is with
        | nil => simp [namL] at hn
        | cons m is =>
          obtain ⟨_, _, e1, m1, m2, hn⟩ := namL_inv c.toCO hn
          cases e1
          cases is with
          | cons _ _ => simp [namL] at hn
          | nil =>
            simp only [Bool.and_eq_true, decide_eq_true_eq] at hp
            match vs, hp.2 with
            | [a, b, d], _ =>
              simp only [List.nodup_cons, List.mem_cons, List.not_mem_nil, or_false, not_or] at hd
              obtain ⟨⟨hij, him⟩, hjm, _⟩ := hd
              refine ps_imp (ps_par3 c.calm nd i1 j1 m1 hij him hjm i2 j2 m2 ((sound N es).a c.toCO f h) (sw_three hk i2 j2 m2 hp.1.1 hp.1.2 (nodup_ne nd i1 j1 hij) (nodup_ne nd i1 m1 him) (nodup_ne nd j1 m1 hjm) hf hc hs)) fun Z σ H q => ?_
              refine tA_mono (par_imp q) fun vs H1 ⟨l, q⟩ => ?_
              match vs, l with
              | [v, w, u], _ => exact ⟨v, w, u, rfl, q⟩
  · cases hp
theorem s_paro (c : CS CXv X G N sc lv) {is : List Nat} {os : List Bool} {es : E} {ts vs : List Expr} {k pt k2 p2} {pos : Pos} (f : Facts CXv X G.M lv es.needs) (ho : okOs os es = true) (hp : parB N sc is ts vs = true) (h : chks N sc es vs = true) : PS X (.Assign [.Tuple ts k pt] (.Tuple vs k2 p2) pos) (tS G rk (ex (.paro is os es))) := by
  simp only [parB, Bool.and_eq_true, decide_eq_true_eq, Bool.not_eq_true'] at hp
  obtain ⟨⟨⟨⟨⟨⟨hk, hn⟩, hd⟩, hf⟩, hc⟩, hs⟩, hp⟩ := hp
  have hk : X.env.scope.kind = .function := by rw [c.sc]; exact hk
  have nd : X.N.Nodup := by rw [c.hN]; exact c.nd
  split at hp
  · rename_i x p y q
    cases is with
    | nil => simp [namL] at hn
    | cons i is =>
      obtain ⟨_, _, e1, i1, i2, hn⟩ := namL_inv c.toCO hn
      cases e1
      cases is with
      | nil => simp [namL] at hn
      | cons j is =>
        obtain ⟨_, _, e1, j1, j2, hn⟩ := namL_inv c.toCO hn
        cases e1
        cases is with
        | cons _ _ => simp [namL] at hn
        | nil =>
          simp only [Bool.and_eq_true, decide_eq_true_eq] at hp
          match vs, hp.2 with
          | [a, b], _ =>
            have hij : i ≠ j := by simpa using hd
            refine ps_imp (ps_par c.calm nd i1 j1 hij i2 j2 (s_o2 c.toCO f ho h) (sw_two hk i2 j2 hp.1 (nodup_ne nd i1 j1 hij) hf hc hs)) fun Z σ H q => ?_
            refine tO2_mono (paro_imp q) fun vs H1 ⟨l, q⟩ => ?_
            match vs, l with
            | [v, w], _ => exact ⟨v, w, rfl, q⟩
  · rename_i x p y q z r
    cases is with
    | nil => simp [namL] at hn
    | cons i is =>
      obtain ⟨_, _, e1, i1, i2, hn⟩ := namL_inv c.toCO hn
      cases e1
      cases is with
      | nil => simp [namL] at hn
      | cons j is =>
        obtain ⟨_, _, e1, j1, j2, hn⟩ := namL_inv c.toCO hn
        cases e1
        cases is with
        | nil => simp [namL] at hn
        | cons m is =>
          obtain ⟨_, _, e1, m1, m2, hn⟩ := namL_inv c.toCO hn
          cases e1
          cases is with
          | cons _ _ => simp [namL] at hn
          | nil =>
            simp only [Bool.and_eq_true, decide_eq_true_eq] at hp
            match vs, hp.2 with
            | [a, b, d], _ =>
              simp only [List.nodup_cons, List.mem_cons, List.not_mem_nil, or_false, not_or] at hd
              obtain ⟨⟨hij, him⟩, hjm, _⟩ := hd
              refine ps_imp (ps_par3 c.calm nd i1 j1 m1 hij him hjm i2 j2 m2 (s_o2 c.toCO f ho h) (sw_three hk i2 j2 m2 hp.1.1 hp.1.2 (nodup_ne nd i1 j1 hij) (nodup_ne nd i1 m1 him) (nodup_ne nd j1 m1 hjm) hf hc hs)) fun Z σ H q => ?_
              refine tO2_mono (paro_imp q) fun vs H1 ⟨l, q⟩ => ?_
              match vs, l with
              | [v, w, u], _ => exact ⟨v, w, u, rfl, q⟩
  · cases hp
end
end DL

-- part DLoc
set_option Elab.async false
set_option linter.all false
set_option maxRecDepth 100000
set_option maxHeartbeats 1000000
/-! DL, part oc: dicts in statements, by the check. -/
namespace DL
open PySem PySem.Spec PyProof.Rows L2
section
variable {CXv : CXT} {X : Cx} {G : Fr} {N : List Str} {sc : Scope} {lv rk : Nat}
/-- i, j = {..}, [] -/
theorem s_pard (c : CS CXv X G N sc lv) {i j : Nat} {ks : List Str} {ns : List Int} {ts : List Expr} {keys : List (Option Expr)} {values : List Expr} {dp lp : Pos} {k pt k2 p2} {pos : Pos} (hk : okKs ks = true) (hne : ks ≠ [])
    (hp : parB N sc [i, j] ts [.Dict keys values dp, .List [] lp] = true) (h : dspB N sc ks (litsE ns) keys values = true) :
    PS X (.Assign [.Tuple ts k pt] (.Tuple [.Dict keys values dp, .List [] lp] k2 p2) pos) (tS G rk (ex (.pard i j ks ns))) := by
  simp only [parB, Bool.and_eq_true, decide_eq_true_eq, Bool.not_eq_true'] at hp
  obtain ⟨⟨⟨⟨⟨⟨hkk, hn⟩, hd⟩, hf⟩, hc⟩, hs⟩, hp⟩ := hp
  have hkk : X.env.scope.kind = .function := by rw [c.sc]; exact hkk
  have nd : X.N.Nodup := by rw [c.hN]; exact c.nd
  obtain ⟨nk, l15⟩ := okKs_inv hk
  obtain ⟨trs, pps, a1, a2, a3, a4⟩ := dsp_ok c.toCO (pos := dp) h
  split at hp
  · rename_i x p y q
    obtain ⟨_, _, e1, i1, i2, hn⟩ := namL_inv c.toCO hn
    cases e1
    obtain ⟨_, _, e1, j1, j2, hn⟩ := namL_inv c.toCO hn
    cases e1
    simp only [Bool.and_eq_true, decide_eq_true_eq] at hp
    have hij : i ≠ j := by simpa using hd
    refine ps_imp (ps_par c.calm nd i1 j1 hij i2 j2 (pa_cons (pe_disp pps a1 a2 (fun z => hne (by rw [z] at a3; exact List.length_eq_zero_iff.mp a3.symm)) (by omega)) (pa_cons (pe_lst pa_nil) pa_nil rfl) rfl) (sw_two hkk i2 j2 hp.1 (nodup_ne nd i1 j1 hij) hf hc hs)) fun Z σ H ⟨env, F, fs, g, q⟩ => ?_
    have q : PSt G rk Z F H fs (if okKs ks = true ∧ ks.length = ns.length then (setSl env i (.own 1 (.nd (.dic ks) (ns.map .int)))).bind fun env => (setSl env j (.own 1 (.lst []))).bind fun env => .ok (.nx env) else .stuck) := q
    split at q
    · rename_i hl
      obtain ⟨env2, e2, q⟩ := PSt.env setSl_fx q
      obtain ⟨env3, e3, q⟩ := PSt.env setSl_fx q
      obtain ⟨_, vs, r1, r2, r3⟩ := a4 g litsE_evs
      intro p hp
      refine r3 _ _ ⟨upd_same, pairsK ks vs, pairsK_map, by rw [← List.length_map (f := fun x => x.1), pairsK_1 r2.symm, List.length_map]; exact l15, ?_⟩
      have em : mergeK [] (pairsK ks vs) = pairsK ks vs := by
        refine mergeK_new ?_
        rw [List.nil_append, pairsK_1 r2.symm]
        exact List.Pairwise.map _ (fun a b hab z => hab (by cases z; rfl)) nk
      rw [em, upd_upd]
      refine ⟨by decide, fun p2 hp2 => ⟨.ref p, .ref p2, rfl, ?_⟩⟩
      obtain ⟨gn, sn, an, hF⟩ := g.newO (o := .dK (pairsK ks vs)) hp
      obtain ⟨gm, sm, am, hF2⟩ := gn.newO (o := .lst []) hp2
      have hpp : p ≠ p2 := fun z => by rw [← z, upd_same] at hp2; cases hp2
      have own1 : Own G.M F (upd (upd H p (.dK (pairsK ks vs))) p2 (.lst [])) 1 (.nd (.dic ks) (ns.map .int)) (.ref p) [p] :=
        ⟨p, vs, [], [], rfl, ⟨pairsK ks vs, by rw [upd_ne hpp, upd_same], pairsK_1 r2.symm, pairsK_2 r2.symm, rfl⟩, (litsE_arR r1).mono fun d _ v f _ o => ⟨o.1, o.2⟩, rfl⟩
      have own2 : Own G.M F (upd (upd H p (.dK (pairsK ks vs))) p2 (.lst [])) 1 (.lst []) (.ref p2) [p2] := ⟨p2, [], [], [], rfl, ⟨upd_same, rfl⟩, ⟨rfl, rfl⟩, rfl⟩
      unfold setSl at e2
      split at e2
      · cases e2
      · rename_i s1 hs1 he1
        cases e2
        have g2 := gm.set he1 (fun k d z => by subst z; exact hs1 k d rfl) (s' := .own 1 (.nd (.dic ks) (ns.map .int))) ⟨_, rfl, own1⟩ (by simp) (by simpa using hF) (fun m b hb z => by
          rw [List.mem_singleton] at z; subst z; exact an m b hb (by simp))
        unfold setSl at e3
        split at e3
        · cases e3
        · rename_i s2 hs2 he2
          cases e3
          have g3 := g2.set he2 (fun k d z => by subst z; exact hs2 k d rfl) (s' := .own 1 (.lst [])) ⟨_, rfl, own2⟩ (by simp) (by simpa using hF2) (fun m b hb z => by
            rw [List.mem_singleton] at z; subst z
            by_cases w : m = i
            · subst w; rw [Ft.set_same, List.mem_singleton] at hb; exact hpp hb.symm
            · rw [Ft.set_ne w] at hb; exact am m b hb (by simp))
          refine q _ F _ _ g3 ?_
          have st : Step F H fs.at F (upd (upd H p (.dK (pairsK ks vs))) p2 (.lst [])) fun b => fs.at b ∨ b = p ∨ b = p2 := by
            refine ⟨Same.refl F, fun b u e n => ?_, fun b h => .inl h, fun b hb => ?_⟩
            · have h1 : b ≠ p := fun z => by rw [z, hp] at e; cases e
              have h2 : b ≠ p2 := fun z => by
                have : H p2 = none := by rw [upd_ne (fun z => hpp z.symm)] at hp2; exact hp2
                rw [z, this] at e; cases e
              rw [upd_ne h2, upd_ne h1]; exact e
            · rcases hb with hb | hb | hb
              · exact .inl hb
              · subst hb; exact .inr hp
              · subst hb
                rw [upd_ne (fun z => hpp z.symm)] at hp2; exact .inr hp2
          refine st.less fun b ⟨m, hb⟩ => ?_
          by_cases w : m = j
          · subst w; rw [Ft.set_same, List.mem_singleton] at hb; exact .inr (.inr hb)
          · rw [Ft.set_ne w] at hb
            by_cases w2 : m = i
            · subst w2; rw [Ft.set_same, List.mem_singleton] at hb; exact .inr (.inl hb)
            · rw [Ft.set_ne w2] at hb; exact .inl ⟨m, hb⟩
        · cases e3
      · cases e2
    · exact q.elim
  · rename_i x p y q z r
    obtain ⟨_, _, e1, i1, i2, hn⟩ := namL_inv c.toCO hn
    cases e1
    obtain ⟨_, _, e1, j1, j2, hn⟩ := namL_inv c.toCO hn
    cases e1
    simp [namL] at hn
  · cases hp

theorem s_setd (c : CS CXv X G N sc lv) {i : Nat} {e : E} {y : Str} {py : Pos} {v : Expr} {pos : Pos} (f : Facts CXv X G.M lv e.needs) (ho : ownT e = true) (h : chk N false sc e v = true) (ht : nmL N sc i (.Name y py) = true) :
    PS X (.Assign [.Name y py] v pos) (tS G rk (ex (.setd i e))) := by
  obtain ⟨x, p, e1, a1, a2⟩ := nmL_inv c.toCO ht
  cases e1
  cases e with
  | app fd es =>
    have h1 : fd.rk = 2 := by simpa [ownT] using ho
    have : ∃ g pp x xs p, v = .Call (.Name g pp) (x :: xs) [] p := by
      cases v <;> first | (simp [chk] at h; done) | skip
      rename_i fn as ks p
      cases fn <;> first | (simp [chk] at h; done) | skip
      cases as <;> first | (simp [chk] at h; done) | skip
      cases ks <;> first | (simp [chk] at h; done) | skip
      exact ⟨_, _, _, _, _, rfl⟩
    obtain ⟨g, pp, x, xs, p, rfl⟩ := this
    simp only [chk, Bool.and_eq_true, decide_eq_true_eq, Bool.not_eq_true'] at h
    obtain ⟨⟨⟨rfl, hg⟩, hs⟩, h2⟩ := h
    obtain ⟨fa, F1, hm, hk⟩ := (fact_h f).ex
    exact ps_imp (ps_set (by rw [c.hN]; exact c.nd) a1 a2 (t2d_app F1 h1 hm hk c.room c.pass (glB_inv c.toCO hg).1 (glB_inv c.toCO hg).2 hs ((sound N es).a c.toCO (fact_t f) h2)) rfl (.inl (c.fn _))) fun Z σ H q => (setd_imp q).2
  | _ => simp [ownT] at ho
end
end DL

-- part DLy
set_option Elab.async false
set_option linter.all false
set_option maxRecDepth 100000
set_option maxHeartbeats 2000000
/-! DL, part y: raise C(value). -/
namespace DL
open PySem PySem.Spec PyProof.Rows L2
section
variable {X : Cx}
theorem mkN_end {pins : List (Addr × Obj)} {σ : L2.St} {H1 H2 : Hp} {Q : XK} {hp hp2 h2 : Heap} {g1 g2 : Array GenState} {d1 d2 : Drawn} {t1 t2 : Nat} {os1 os2 : OsState} {a C d : Addr} {fs : List (Str × V)} (T : Raises X (.ref C)) (I1 : Inv X pins σ H1 ⟨hp, g1, d1, t1, os1⟩)
    (ha : hp.objs.size ≤ a) (k : ∀ b o, hp.get? b = some o → hp2.get? b = some o) (un : Un (frs X.stack) [] (upd H1 a (exo a C none)) H2 hp2 h2) (hok : HOk X.prog X.w H2 h2) (ho : os2 = os1) (hb : AllBare g2)
    (ea : H2 a = some (exo a C (some d))) (ed : H2 d = some (exd d fs)) (hd1 : H1 d = none) (q : Q (.ref C) (some d) (upd (del H2 a) d (.xd fs))) : L2N.MkP X pins σ Q (.ref a) ⟨h2, g2, d2, t2, os2⟩ := by
  obtain ⟨t0, G, J, kG, ge, hoe, na⟩ := mk_end0 (d2 := d2) (t2 := t2) I1 ha k un hok ho hb ea ed hd1
  exact ⟨a, _, _, ⟨G, g2, d2, t2, os2⟩, _, .ref C, some d, rfl, J, kG, ge, hoe, ⟨rfl, rfl, fun vs e => by cases e; rfl⟩, rfl, rfl, na, rfl, hb, T, q⟩
theorem pmkN {CX : CXT} {x : Str} {C fI : Addr} {k : Nat} {fd : FuncData} {ps : List Str} {sp : Sp} {ds : List Value} {dvs : List V} {e : Expr} {es : List Expr} {ta : TA} {p pos : Pos} (T : OexC X.K C) (iC : PySem.W.findIn X.K (.ref C) "__init__" = some (some (.ref fI))) (tI : PySem.W.typeIn X.K (.ref fI) = some (.type "function"))
    (F1 : FnOk X.prog X.w X.K X.mg X.base CX k fI fd ps sp) (hr : Room (k + 1) X.A) (hb : Binds X.K fd ps ds) (hd : Vals dvs ds) (hx : Passes CX X (fun _ _ _ => False)) (hg : Gl X x) (hm : X.mg x = some (.ref C)) (ha : PA X (e :: es) ta)
    (hdb : (x == ("__debug__" : Str)) = false) (he : starEach (e :: es) X.env = (false, eval e X.env) :: starEach es X.env) (hpl : (backTo pos (starEach es X.env)).any (·.1) = false) :
    L2N.PMk X (.Call (.Name x p) (e :: es) [] pos) (tMkO C sp dvs ta) := by
  intro pins s σ H Q I h
  obtain ⟨nm, q, N, bs, bm, sn, sub, ab, col, dd, k0, k1, k2, k3, k5, hC, hbm⟩ := T.cls
  refine wpAny_Call_Name_kw (ld_glob I hg hm ?_ hdb)
  refine PySem.W.callWith_K (h₀ := X.base) I.ok.mod.kin T.kC (thn (ha.run pos pins s σ H _ I h) fun us s1 ⟨vs, H1, I1, r1, hz, q1⟩ => ⟨I1.kIn, ?_⟩) he hpl
  show wpAny _ _ (call (.ref C) us) _ _ _
  obtain ⟨hp, g, dr, tk, os⟩ := s1
  have hsz : hp.objs.size ≤ hp.objs.size + 1 := Nat.le_succ _
  have hn : H1 (hp.objs.size + 1) = none := I1.hok.fresh hsz
  have hq := q1 (hp.objs.size + 1) hn
  have kk : ∀ b o, hp.get? b = some o → ((hp.push (PySem.W.kdv_tup us)).push (PySem.HandSPX.excO C hp.objs.size)).get? b = some o := fun b o e => Heap.get?_push_of_some _ (Heap.get?_push_of_some _ e)
  have hget : ((hp.push (PySem.W.kdv_tup us)).push (PySem.HandSPX.excO C hp.objs.size)).get? (hp.objs.size + 1) = some (PySem.HandSPX.excO C hp.objs.size) := by heap_get
  have I2 : Inv X pins σ (upd H1 (hp.objs.size + 1) (exo (hp.objs.size + 1) C none)) ⟨(hp.push (PySem.W.kdv_tup us)).push (PySem.HandSPX.excO C hp.objs.size), g, dr, tk, os⟩ :=
    I1.laid (t' := tk) (a := hp.objs.size + 1) (o := exo (hp.objs.size + 1) C none) (h' := (hp.push (PySem.W.kdv_tup us)).push (PySem.HandSPX.excO C hp.objs.size)) kk hsz (exo_ok hget)
  have r2 : Vals (V.ref (hp.objs.size + 1) :: (vs ++ dvs)) (Value.ref (hp.objs.size + 1) :: (us ++ ds)) := .cons rfl (r1.append hd)
  have hl : (Value.ref (hp.objs.size + 1) :: us ++ ds).length = ps.length := by
    have e := r2.length
    rw [F1.len _ _ _ _ hq] at e
    exact e.symm
  have hus : us.length ≤ sizeLine := by
    rw [← Paired.length r1, sizeLine_eq]
    omega
  refine wpAny_call (PySem.HandSPX.call_own PySem.F.excBase_ValueError (fun Y => PySem.HandSPX.refsVE_contains Y bm hbm) (I1.kIn _ _ hC) (PySem.W.looks_findIn I1.kIn iC) (fun self => PySem.W.bind_fn I1.kIn self tI) hus
    (codeAny_mono (F1.run _ X.stack _ _ ⟨Value.ref (hp.objs.size + 1) :: us, []⟩ (Value.ref (hp.objs.size + 1) :: (us ++ ds)) _ _ (fun _ _ _ => False) (hr.make C us []) (I2.env0.make C us []) (hb _ (Value.ref (hp.objs.size + 1) :: us) I2.kIn hl) r2 hq) fun r s' hq' => ?_))
  cases r with
  | error er => exact hx pins σ _ _ er s' I2 hq'
  | ok fl =>
    cases fl with
    | ret u =>
      obtain ⟨v, H2, os2, bare2, un2, hok2, rv, ev, d, fs, ea, ed, hd1, q2⟩ := hq'
      subst ev
      obtain ⟨h2, g2, d2, t2, os'⟩ := s'
      exact ⟨rv, mkN_end (raises_own T.exC T.tyC) I1 hsz kk un2 hok2 os2 bare2 ea ed hd1 q2⟩
    | next => exact False.elim hq'
    | brk => exact False.elim hq'
    | cont => exact False.elim hq'
end
end DL

-- part DLz
set_option Elab.async false
set_option linter.all false
set_option maxRecDepth 100000
set_option maxHeartbeats 2000000
/-! DL, part z: an except suite. -/
namespace DL
open PySem PySem.Spec PyProof.Rows L2
section
variable {Y : Cx} {a dx C : Addr} {oe : Obj}
/-- the exception at a, of the class C, its dict at dx, is borne by the context -/
structure Bears (Y : Cx) (a dx C : Addr) : Prop where
  ex : ∃ oe : Obj, (a, oe) ∈ Y.pn ∧ Zc (.ref C) (some dx) oe ∧ ∃ vs, oe.data = .fields vs
  A : ExcC Y.K C
theorem Bears.inst (B : Bears Y a dx C) {pins : List (Addr × Obj)} {σ : L2.St} {H : Hp} {s : Shared} {fs : List (Str × V)} (I : Inv Y pins σ H s) (hd : H dx = some (.xd fs)) : ∃ oe od, PySem.W.InstAt s.heap a oe C (some od) := by
  obtain ⟨oe, hp, hz, vs, hv⟩ := B.ex
  obtain ⟨hget, _⟩ := I.pin (a, oe) (List.mem_append_left _ hp)
  have hx : ObjOk Y.prog Y.w H s.heap dx (.xd fs) := I.hok dx _ hd
  obtain ⟨mA, hns, _⟩ := hx
  obtain ⟨od, ho, _⟩ := lookIn_ns hns
  exact ⟨oe, od, hget, hz.1, by unfold PySem.W.notCls; rw [hv] <;> rfl, by rw [hz.2]; exact ho⟩
theorem Bears.kit (B : Bears Y a dx C) {oe od : Obj} : PySem.W.KitX Y.K (.ref a) (.ref C) (fun h => PySem.W.InstAt h a oe C (some od)) :=
  PySem.W.kitx_exc (by obtain ⟨cd, hc, _⟩ := PySem.W.any_some B.A.hd; rw [hc]; rfl) B.A.hg B.A.hk B.A.hs B.A.ha B.A.hn B.A.ht B.A.hm
def rX1 (K : PySem.W.Frag) (C a dx : Addr) : List V → Hp → VK → Prop := fun xs H Q => ∃ (c : V) (u : Value) (b : Bool) (fs : List (Str × V)), xs = [.ref a, c] ∧ ClsV c u ∧ H dx = some (.xd fs) ∧ PySem.W.kitOne K (.ref C) u = some b ∧ Q (.bl b) H
def rXT (K : PySem.W.Frag) (C a dx : Addr) : List V → Hp → VK → Prop := fun xs H Q => ∃ (tp : Addr) (cs : List V) (us : List Value) (b : Bool) (fs : List (Str × V)), xs = [.ref a, .ref tp] ∧ H tp = some (.tup cs) ∧ Paired ClsV cs us ∧ H dx = some (.xd fs) ∧ PySem.W.kitAny K (.ref C) us = some b ∧ Q (.bl b) H
theorem call_x1 (B : Bears Y a dx C) : CallR Y (.builtin "isinstance") (rX1 Y.K C a dx) := by
  intro pins s σ H xs us Q I r h
  obtain ⟨c, u, b, fs, rfl, k, hd, e, q⟩ := h
  obtain ⟨u1, u2, rfl, r1, r2⟩ := vals2 r
  have e2 := k.eq r2
  subst e2
  obtain rfl : u1 = Value.ref a := r1
  obtain ⟨oe, od, J⟩ := B.inst I hd
  exact PySem.W.kia_one B.kit I.kIn J e (fun z => nomatch z) fun tk => ⟨.bl b, H, I.tok tk, rfl, q⟩
theorem call_xT (B : Bears Y a dx C) : CallR Y (.builtin "isinstance") (rXT Y.K C a dx) := by
  intro pins s σ H xs us Q I r h
  obtain ⟨tp, cs, ws, b, fs, rfl, hT, k, hd, e, q⟩ := h
  obtain ⟨u1, u2, rfl, r1, r2⟩ := vals2 r
  cases (show u2 = Value.ref tp from r2)
  obtain rfl : u1 = Value.ref a := r1
  obtain ⟨oe, od, J⟩ := B.inst I hd
  obtain ⟨_, its, rv, o, h1, h2, n, h3⟩ := (show ObjOk Y.prog Y.w H s.heap tp (.tup cs) from I.hok tp _ hT)
  have e3 := ClsV.all k rv
  subst e3
  obtain ⟨oc, od', dt, sl⟩ := o
  simp only at h2 h3
  subst h2 h3
  exact PySem.W.kia_tup B.kit I.kIn J h1 e (fun z => nomatch z) fun tk => ⟨.bl b, H, I.tok tk, rfl, q⟩
/-- e.value -/
theorem pe_xval (B : Bears Y a dx C) (hno : PySem.W.findIn Y.K (.ref C) "value" = some none) {e : Expr} {te : TE} {pos : Pos} (he : PE Y e te) (hb : attributeBase e "value" Y.env (eval e Y.env) = eval e Y.env) :
    PE Y (.Attribute e "value" pos) (fun σ H Q => te σ H fun x H1 => x = .ref a ∧ ∃ (fs : List (Str × V)) (v : V), H1 dx = some (.xd fs) ∧ fs.lookup ("value" : Str) = some v ∧ Q v H1) := by
  refine ⟨fun pins s σ H Q I h => ?_⟩
  refine attr_of hb (thn (he.run pins s σ H _ I h) fun u s1 hh => ?_)
  obtain ⟨x, H1, I1, rx, ex, fs, v, hd, l, q⟩ := hh
  subst ex
  obtain rfl : u = Value.ref a := rx
  obtain ⟨oe, hp, hz, vs, hv⟩ := B.ex
  obtain ⟨hget, _⟩ := I1.pin (a, oe) (List.mem_append_left _ hp)
  have hx : ObjOk Y.prog Y.w H1 s1.heap dx (.xd fs) := I1.hok dx _ hd
  obtain ⟨mA, hns, hr⟩ := hx
  obtain ⟨od, ho, hl⟩ := lookIn_ns hns
  obtain ⟨u, hu, ru⟩ := RelO.some_of (v := v) (o := mA ("value" : Str)) (by rw [← l]; exact hr _)
  have J : PySem.W.InstAt s1.heap a oe C (some od) := ⟨hget, hz.1, by unfold PySem.W.notCls; rw [hv] <;> rfl, by rw [hz.2]; exact ho⟩
  exact HandSPX.exc_get I1.kIn J B.A.hg B.A.hk B.A.hs (PySem.W.findObj_own B.A.hd hno rfl (by rw [hl, hu])) (handed_of ru) ⟨v, H1, I1.tok _, ru, q⟩
end
end DL

namespace DL
open PySem PySem.Spec PyProof.Rows L2
structure YF (Y : Cx) (N : List Str) (sc : Scope) : Prop where
  hN : Y.N = N
  sc : Y.env.scope = sc
  nd : N.Nodup
  fn : ∀ x, Y.fn x = true
section
variable {Y : Cx} {M : Mo} {N : List Str} {sc : Scope} {a dx C : Addr} {c i j : Nat}
theorem YF.nm (y : YF Y N sc) {i : Nat} {x : Expr} (h : nmB N sc i x = true) : ∃ n p, x = .Name n p ∧ PE Y x (tVar i) := by
  cases x with
  | Name n p =>
    simp only [nmB, dbg, Bool.and_eq_true, Bool.or_eq_true, decide_eq_true_eq, Bool.not_eq_true'] at h
    obtain ⟨⟨⟨h1, h2⟩, h3⟩, h4⟩ := h
    refine ⟨n, p, rfl, pe_var (by rw [y.hN]; exact h1) ?_ h3 h4⟩
    rw [y.sc]
    rcases h2 with (h2 | h2) | h2
    · exact .inl h2
    · exact .inr (.inl h2)
    · exact .inr (.inr h2)
  | _ => simp [nmB] at h
theorem YF.gl (y : YF Y N sc) {x : Str} (h : glB sc x = true) : Gl Y x ∧ (x == ("__debug__" : Str)) = false := by
  simp only [glB, dbg, Bool.and_eq_true, decide_eq_true_eq, Bool.not_eq_true'] at h
  refine ⟨?_, h.2⟩
  show Y.env.kindOf x = _
  unfold Env.kindOf
  rw [y.sc]; exact h.1
theorem YF.st (y : YF Y N sc) {i : Nat} {x : Str} {q : Pos} (h : nmL N sc i (.Name x q) = true) : Y.N[i]? = some x ∧ Loc Y.env.scope x := by
  simp only [nmL, Bool.and_eq_true, Bool.or_eq_true, decide_eq_true_eq] at h
  exact ⟨by rw [y.hN]; exact h.1, by rw [y.sc]; exact h.2⟩
/-- the classes' values -/
def tRefs (cs : List Addr) : TA := fun _ H Q => Q (cs.map V.ref) H
theorem pa_names (y : YF Y N sc) : ∀ {xs : List Expr} {cs : Cls2}, (∀ p ∈ cs, ∃ C, M.cl p.1 = some C ∧ Y.mg p.2 = some (.ref C)) → nmsB sc xs cs = true → ∃ Cs : List Addr, cs.map (fun p => M.cl p.1) = Cs.map some ∧ PA Y xs (tRefs Cs) := by
  intro xs
  induction xs with
  | nil =>
    intro cs h k
    cases cs with
    | nil => exact ⟨[], rfl, ⟨fun pos pins s σ H Q I q => pa_nil.run pos pins s σ H Q I q⟩⟩
    | cons _ _ => simp [nmsB] at k
  | cons x xs ih =>
    intro cs h k
    cases x with
    | Name n q =>
      cases cs with
      | nil => simp [nmsB] at k
      | cons p ps =>
        simp only [nmsB, Bool.and_eq_true, decide_eq_true_eq] at k
        obtain ⟨⟨rfl, k1⟩, k2⟩ := k
        obtain ⟨D, d1, d2⟩ := h p (by simp)
        obtain ⟨Cs, e, pa⟩ := ih (fun q hq => h q (by simp [hq])) k2
        obtain ⟨g1, g2⟩ := y.gl k1
        refine ⟨D :: Cs, by simp [d1, e], ?_⟩
        have z := pa_cons (pe_glob (X := Y) (pos := q) g1 d2 (v := .ref D) rfl g2) pa (star_cons rfl)
        exact ⟨fun pos pins s σ H Q I q => z.run pos pins s σ H Q I q⟩
    | _ => simp [nmsB] at k
theorem kit_any {K : PySem.W.Frag} {t : Value} {c : Nat} : ∀ {cs : Cls2} {Cs : List Addr}, cs.map (fun p => M.cl p.1) = Cs.map some → (∀ p ∈ cs, ∀ C, M.cl p.1 = some C → PySem.W.kitOne K t (.ref C) = some (decide (c = p.1))) → PySem.W.kitAny K t (Cs.map .ref) = some (cs.any fun p => decide (c = p.1)) := by
  intro cs
  induction cs with
  | nil =>
    intro Cs e h
    cases Cs with
    | nil => rfl
    | cons _ _ => simp at e
  | cons p ps ih =>
    intro Cs e h
    cases Cs with
    | nil => simp at e
    | cons D Cs =>
      simp only [List.map_cons, List.cons.injEq] at e
      have h1 := h p (by simp) D e.1
      have h2 := ih e.2 fun q hq => h q (by simp [hq])
      show (match PySem.W.kitOne K t (.ref D) with | some true => some true | some false => PySem.W.kitAny K t (Cs.map .ref) | none => none) = _
      rw [h1, List.any_cons]
      cases decide (c = p.1) with
      | true => rfl
      | false => simpa using h2
theorem paired_refs : ∀ (Cs : List Addr), Paired ClsV (Cs.map V.ref) (Cs.map Value.ref)
  | [] => .nil
  | C :: Cs => .cons (.own C) (paired_refs Cs)
/-- isinstance(e, (..)) -/
def tIsT (c i a dx : Nat) (cs : Cls2) : TE := fun σ H Q => σ[i]? = some (some (.ref a)) ∧ (∃ fs, H dx = some (.xd fs)) ∧ ∀ H', Same H H' → Q (.bl (cs.any fun p => decide (c = p.1))) H'
theorem pe_isT (y : YF Y N sc) (B : Bears Y a dx C) {cs l : Cls2} (F : XsF Y M l) (hl : ∀ p ∈ cs, p ∈ l) (hn : cs.length ≤ 100) (hc : M.cl c = some C) (h20 : 20 ≤ c) {g : Str} {e : Expr} {ts : List Expr} {p q q2 : Pos} {k} (he : isE N sc i g e = true) (ht : nmsB sc ts cs = true) :
    PE Y (.Call (.Name g p) [e, .Tuple ts k q] [] q2) (tIsT c i a dx cs) := by
  simp only [isE, Bool.and_eq_true, decide_eq_true_eq] at he
  obtain ⟨⟨rfl, h1⟩, h2⟩ := he
  obtain ⟨n, q3, rfl, pe⟩ := y.nm h2
  obtain ⟨Cs, ec, pa⟩ := pa_names y (fun p hp => F.cl p (hl p hp)) ht
  obtain ⟨g1, g2⟩ := y.gl h1
  obtain ⟨_, _, _, hk⟩ := F.all c C h20 hc
  refine pe_imp (pe_callB (call_xT B) g1 F.isn rfl (pa_cons pe (pa_cons (pe_tup pa) pa_nil (star_cons rfl)) (star_cons rfl)) (by decide) (by decide) (star_cons rfl) rfl) fun σ H Q h => ?_
  obtain ⟨e1, ⟨fs, hd⟩, hq⟩ := h
  have lc : Cs.length = cs.length := by have := congrArg List.length ec; simpa using this.symm
  refine ⟨_, e1, ?_⟩
  show (Cs.map V.ref).length ≤ sizeLine ∧ _
  refine ⟨by rw [List.length_map, sizeLine_eq]; omega, fun tp hp => ?_⟩
  have nd : dx ≠ tp := ne_of_none hd hp
  exact ⟨tp, Cs.map V.ref, Cs.map Value.ref, _, fs, rfl, upd_same, paired_refs Cs, by rw [upd_ne nd]; exact hd, kit_any ec fun p hp => hk p (hl p hp), hq _ (new_same hp)⟩
/-- isinstance(e, D) -/
def tIs1 (i a dx : Nat) (b : Bool) : TE := fun σ H Q => σ[i]? = some (some (.ref a)) ∧ (∃ fs, H dx = some (.xd fs)) ∧ Q (.bl b) H
theorem pe_is1 (y : YF Y N sc) (B : Bears Y a dx C) {p0 : Nat × Str} {l : Cls2} (F : XsF Y M l) (hl : p0 ∈ l) (hc : M.cl c = some C) (h20 : 20 ≤ c) {g n0 : Str} {e : Expr} {p q q2 : Pos} (he : isE N sc i g e = true) (h0 : n0 = p0.2) (ht : glB sc n0 = true) :
    PE Y (.Call (.Name g p) [e, .Name n0 q] [] q2) (tIs1 i a dx (decide (c = p0.1))) := by
  simp only [isE, Bool.and_eq_true, decide_eq_true_eq] at he
  obtain ⟨⟨rfl, h1⟩, h2⟩ := he
  obtain ⟨n, q3, rfl, pe⟩ := y.nm h2
  subst h0
  obtain ⟨D, d1, d2⟩ := F.cl p0 hl
  obtain ⟨g1, g2⟩ := y.gl h1
  obtain ⟨g3, g4⟩ := y.gl ht
  obtain ⟨_, _, _, hk⟩ := F.all c C h20 hc
  refine pe_imp (pe_callB (call_x1 B) g1 F.isn rfl (pa_cons pe (pa_cons (pe_glob (X := Y) (pos := q) g3 d2 (v := .ref D) rfl g4) pa_nil (star_cons rfl)) (star_cons rfl)) (by decide) (by decide) (star_cons rfl) rfl) fun σ H Q h => ?_
  obtain ⟨e1, ⟨fs, hd⟩, hq⟩ := h
  exact ⟨_, e1, _, _, _, fs, rfl, .own D, hd, hk p0 hl D d1, hq⟩
theorem pe_isV (y : YF Y N sc) (B : Bears Y a dx C) {l : Cls2} (F : XsF Y M l) (hc : M.cl c = some C) (h20 : 20 ≤ c) {g n0 : Str} {e : Expr} {p q q2 : Pos} (he : isE N sc i g e = true) (h0 : n0 = ("ValueError" : Str)) (ht : glB sc n0 = true) :
    PE Y (.Call (.Name g p) [e, .Name n0 q] [] q2) (tIs1 i a dx true) := by
  simp only [isE, Bool.and_eq_true, decide_eq_true_eq] at he
  obtain ⟨⟨rfl, h1⟩, h2⟩ := he
  obtain ⟨n, q3, rfl, pe⟩ := y.nm h2
  subst h0
  obtain ⟨g1, g2⟩ := y.gl h1
  obtain ⟨g3, g4⟩ := y.gl ht
  obtain ⟨_, _, hv, _⟩ := F.all c C h20 hc
  refine pe_imp (pe_callB (call_x1 B) g1 F.isn rfl (pa_cons pe (pa_cons (pe_bltn (X := Y) (pos := q) g3 F.ven boot_ValueError (v := .ty "ValueError") rfl (by decide) g4) pa_nil (star_cons rfl)) (star_cons rfl)) (by decide) (by decide) (star_cons rfl) rfl) fun σ H Q h => ?_
  obtain ⟨e1, ⟨fs, hd⟩, hq⟩ := h
  exact ⟨_, e1, _, _, _, fs, rfl, .ty _, hd, hv, hq⟩
end
end DL

namespace DL
open PySem PySem.Spec PyProof.Rows L2
section
variable {Y : Cx} {M : Mo} {N : List Str} {sc : Scope} {a dx C : Addr} {c i j : Nat}
/-- what the suite of four statements gives back -/
def tSA (i j a dx : Nat) (odd l : Bool) : TS := fun Z σ H => σ[i]? = some (some (.ref a)) ∧ j < σ.length ∧ ∃ (fs : List (Str × V)) (v : V), H dx = some (.xd fs) ∧ fs.lookup ("value" : Str) = some v ∧
  ∀ H', Same H H' → if odd = true then Z.rt (.str "odd") H' else if l = true then ∀ p, H' p = none → Z.rt (.ref p) (upd H' p (.lst [v])) else Z.rt v H'
theorem suiteA (y : YF Y N sc) (B : Bears Y a dx C) {cs1 cs2 : Cls2} {p0 : Nat × Str} {l : Bool} (F : XsF Y M (cs1 ++ (cs2 ++ [p0]))) (hn1 : cs1.length ≤ 100) (hn2 : cs2.length ≤ 100) (hc : M.cl c = some C) (h20 : 20 ≤ c) (hij : i ≠ j)
    {b : List Stmt} (h : chkA N sc i j cs1 cs2 p0 l b = true) : PSs Y b (tSA i j a dx (oddA cs1 cs2 p0.1 c) l) := by
  unfold chkA at h
  split at h
  · rename_i y1 q1 g1 _ e1 t1 _ _ _ _ y2 q2 o2 g2 _ e2 t2 _ _ _ _ _ o3 g3 _ e3 n3 _ _ _ g4 _ e4 n4 _ _ _ _ z _ _ _ _ r _
    simp only [Bool.and_eq_true, decide_eq_true_eq] at h
    obtain ⟨⟨⟨⟨⟨a1, a2⟩, a3⟩, ⟨⟨b1, b2⟩, b3⟩, b4⟩, ⟨⟨⟨⟨⟨⟨c1, c2⟩, c3⟩, c4⟩, c5⟩, c6⟩, c7⟩, c8⟩, r0⟩ := h
    subst c8
    obtain ⟨s1, s2⟩ := y.st a3
    obtain ⟨s3, s4⟩ := y.st b3
    obtain ⟨_, _, rfl, pv2⟩ := y.nm b4
    obtain ⟨_, _, rfl, pv3⟩ := y.nm c1
    have nd : Y.N.Nodup := by rw [y.hN]; exact y.nd
    have m1 : ∀ p ∈ cs1, p ∈ cs1 ++ (cs2 ++ [p0]) := fun p hp => by simp [hp]
    have m2 : ∀ p ∈ cs2, p ∈ cs1 ++ (cs2 ++ [p0]) := fun p hp => by simp [hp]
    have m0 : p0 ∈ cs1 ++ (cs2 ++ [p0]) := by simp
    have nov := (F.all c C h20 hc).2.1
    have PR : PE Y r (fun σ H Q => σ[i]? = some (some (.ref a)) ∧ ∃ (fs : List (Str × V)) (v : V), H dx = some (.xd fs) ∧ fs.lookup ("value" : Str) = some v ∧ if l = true then ∀ p, H p = none → Q (.ref p) (upd H p (.lst [v])) else Q v H) := by
      split at r0
      · simp only [Bool.and_eq_true, decide_eq_true_eq] at r0
        obtain ⟨r1, rfl⟩ := r0
        obtain ⟨_, _, rfl, pv⟩ := y.nm r1
        refine pe_imp (pe_xval B nov pv rfl) fun σ H Q hh => ?_
        obtain ⟨f1, fs, v, f2, f3, f4⟩ := hh
        exact ⟨_, f1, rfl, fs, v, f2, f3, f4⟩
      · simp only [Bool.and_eq_true, decide_eq_true_eq] at r0
        obtain ⟨r1, rfl⟩ := r0
        obtain ⟨_, _, rfl, pv⟩ := y.nm r1
        refine pe_imp (pe_lst (pa_cons (pe_xval B nov pv rfl) pa_nil (star_cons rfl))) fun σ H Q hh => ?_
        obtain ⟨f1, fs, v, f2, f3, f4⟩ := hh
        exact ⟨_, f1, rfl, fs, v, f2, f3, by rw [sizeLine_eq]; simp, f4⟩
      · cases r0
    refine pss_imp (pss_cons (ps_set nd s1 s2 (pe_isT y B F m1 hn1 hc h20 a1 a2) rfl (.inl (y.fn _))) (pss_cons (ps_set nd s3 s4 (pe_or pv2 (pe_one (pe_isT y B F m2 hn2 hc h20 b1 b2))) rfl (.inl (y.fn _)))
      (pss_cons (ps_if (pw_or (pt_val pv3) (pw_or (pt_not (pt_val (pe_is1 y B F m0 hc h20 c2 c3 c4))) (pw_or1 (pt_not (pt_val (pe_isV y B F hc h20 c5 c6 c7)))))).pt (pss_cons (ps_ret pe_str) pss_nil) pss_nil) (pss_cons (ps_ret PR) pss_nil)))) fun Z σ H hh => ?_
    obtain ⟨e1, hj, fs, v, hd, hv, q⟩ := hh
    have fin : ∀ {σ' : L2.St} {H' : Hp} {o : Bool}, σ'[i]? = some (some (.ref a)) → Same H H' → σ'[j]? = some (some (.bl o)) → (o = true ∨ (cs1.any (fun p => decide (c = p.1)) = false ∧ cs2.any (fun p => decide (c = p.1)) = false)) → (o = true → oddA cs1 cs2 p0.1 c = true) →
        tSeq (tIfS (tOr (tB (tVar j)) (tOr (tNot (tB (tIs1 i a dx (decide (c = p0.1))))) (tNot (tB (tIs1 i a dx true))))) (tSeq (tRet (tC (.str "odd"))) tNext) tNext) (tSeq (tRet (fun σ H Q => σ[i]? = some (some (.ref a)) ∧ ∃ (fs : List (Str × V)) (v : V), H dx = some (.xd fs) ∧ fs.lookup ("value" : Str) = some v ∧ if l = true then ∀ p, H p = none → Q (.ref p) (upd H p (.lst [v])) else Q v H)) tNext) Z σ' H' := by
      intro σ' H' o f1 f2 f3 f4 f5
      refine ⟨_, f3, o, rfl, ?_⟩
      cases o with
      | true =>
        have := q H' f2
        rw [f5 rfl] at this
        exact this
      | false =>
        rcases f4 with f4 | ⟨f4, f6⟩
        · cases f4
        refine ⟨f1, ⟨fs, f2 _ _ hd⟩, _, rfl, ?_⟩
        have := q H' f2
        unfold oddA at this
        rw [f4, f6] at this
        cases d : decide (c = p0.1) with
        | false =>
          rw [d] at this
          exact this
        | true =>
          rw [d] at this
          refine ⟨f1, ⟨fs, f2 _ _ hd⟩, _, rfl, f1, fs, v, f2 _ _ hd, hv, ?_⟩
          exact this
    refine ⟨e1, ⟨fs, hd⟩, fun H1 k1 => ?_⟩
    have g1 : (σ.set j (some (V.bl (cs1.any fun p => decide (c = p.1)))))[i]? = some (some (.ref a)) := by rw [List.getElem?_set_ne (Ne.symm hij)]; exact e1
    refine ⟨_, List.getElem?_set_self hj, _, rfl, ?_⟩
    cases b1 : cs1.any (fun p => decide (c = p.1)) with
    | true =>
      rw [b1] at g1
      refine fin (o := true) ?_ k1 (List.getElem?_set_self (by simpa using hj)) (.inl rfl) (fun _ => by unfold oddA; rw [b1]; rfl)
      rw [List.getElem?_set_ne (Ne.symm hij)]; exact g1
    | false =>
      rw [b1] at g1
      refine ⟨g1, ⟨fs, k1 _ _ hd⟩, fun H2 k2 => ?_⟩
      refine fin (o := cs2.any fun p => decide (c = p.1)) ?_ (k1.trans k2) (List.getElem?_set_self (by simpa using hj)) ?_ (fun o => by unfold oddA; rw [b1, o]; rfl)
      · rw [List.getElem?_set_ne (Ne.symm hij)]; exact g1
      · cases b2 : cs2.any (fun p => decide (c = p.1)) with
        | true => exact .inl rfl
        | false => exact .inr ⟨b1, rfl⟩
  · cases h
end
end DL

-- part DLw
set_option Elab.async false
set_option linter.all false
set_option maxRecDepth 100000
set_option maxHeartbeats 2000000
/-! DL, part w: raise, try. -/
namespace DL
open PySem PySem.Spec PyProof.Rows L2
section
variable {CXv : CXT} {X : Cx} {G : Fr} {N : List Str} {sc : Scope} {lv rk : Nat}
theorem s_rse (c : CS CXv X G N sc lv) {k : Nat} {nm g : Str} {e : E} {x : Expr} {p q q2 : Pos} (f : Facts CXv X G.M lv (S.rse k nm e).needs) (hg : g = nm) (hgl : glB sc g = true) (hst : isStar x = false) (h : chk N false sc e x = true) :
    PS X (.Raise (some (.Call (.Name g p) [x] [] q)) none q2) (tS G rk (ex (.rse k nm e))) := by
  subst hg
  have F : XcF CXv X G.M lv k g := fact_h f
  obtain ⟨C, D, fI, fd, n, e1, e2, e3, e4, e5, e6, e7, e8⟩ := F.ex
  obtain ⟨g1, g2⟩ := glB_inv c.toCO hgl
  have tk := c.tk F.cx
  have hr : Room (n + 1) X.A := c.room.mono e5
  have pm := pmkN (X := X) (x := g) (p := p) (pos := q) e3.ox e7 e8 e4 hr e6 .nil (fun _ _ _ _ _ _ I hc => c.pass0 X _ _ _ _ _ _ I hc) g1 e2 (pa_cons ((sound N e).v c.toCO (fact_t f) h) pa_nil (star_cons hst)) g2 (star_cons hst) rfl
  refine ps_imp (L2N.ps_raise c.calm tk pm) fun Z σ H ⟨env, F0, fs, g0, q0⟩ => ?_
  have q0 : PSt G rk Z F0 H fs ((ev e env).bind fun (x, env) => (str1 x).bind fun d => .exn k d) := q0
  refine ⟨env, F0, fs, g0, PSt.bind (p := e.pure) q0 fun x1 env1 F1 H1 fs1 _ g1 s1 t1 q1 v rv => ?_⟩
  obtain ⟨d, rfl, q1⟩ := PSt.str q1
  have q1 : XP G.M G.E k d F1 H1 fs1.at := q1
  refine ⟨by simp, fun a ha => ⟨a, C, v, rfl, e3, upd_same, fun dx hd hda => ⟨rfl, dx, [("value", v)], upd_same, ?_, ?_, ?_⟩⟩⟩
  · rw [upd_ne hda, upd_same]
  · rw [upd_ne hda] at hd; exact hd
  · have hd1 : H1 dx = none := by rw [upd_ne hda] at hd; exact hd
    have e0 : upd (del (upd (upd (upd H1 a (exo a C none)) dx (exd dx [("value", v)])) a (exo a C (some dx))) a) dx (.xd [("value", v)]) = upd H1 dx (.xd [("value", v)]) := by
      funext b
      by_cases hb : b = dx
      · rw [hb, upd_same, upd_same]
      · rw [upd_ne hb, upd_ne hb]
        by_cases hb2 : b = a
        · rw [hb2, del_same, ha]
        · rw [del_ne hb2, upd_ne hb2, upd_ne hb, upd_ne hb2]
    rw [e0]
    have hs := new_same hd1 (o := HO.xd [("value", v)])
    have fH := g1.fh.trans hs
    refine q1 (.ref C) dx F1 (upd H1 dx (.xd [("value", v)])) fs1.at ⟨Same.refl F1, fun b o e _ => hs b o e, fun b h => .inl h, fun b h => .inl h⟩ fH ⟨C, v, e1, rfl, upd_same, rv⟩
theorem factOk_tr {M : Mo} {pn : List (Addr × Obj)} {xe : Value → Shared → Prop} {f : Fact} (h : FactOk CXv X M lv f) : FactOk CXv (X.tr pn xe) M lv f := by
  cases f with
  | xc c nm => exact ⟨h.cx, h.ex⟩
  | xh c nm => exact ⟨h.cx, h.ex⟩
  | xs l => exact ⟨h.isn, h.ven, h.cl, h.all⟩
  | hn g => exact ⟨h.ex⟩
  | ng nm => exact h
  | is c x => exact ⟨h.ex⟩
  | gl f => exact ⟨h.ex⟩
  | mt c f => exact ⟨h.ex⟩
  | pr c f => exact ⟨h.ex⟩
  | ln c f => exact ⟨h.ex⟩
  | ad c f => exact ⟨h.ex⟩
  | eq c f => exact ⟨h.ex⟩
  | fd c x => exact h
  | mk c f => exact ⟨h.ex⟩
  | gk f ks pm => exact ⟨h.ex⟩
  | mtk c f ks pm => exact ⟨h.ex⟩
  | mkk c f ks pm => exact ⟨h.ex⟩
  | gc nm d => exact ⟨h.ex⟩
  | dg nm kvs => exact ⟨h.ex⟩
/-- what the suite makes of the exception at a -/
def tXs (M : Mo) (N : List Str) (i : Nat) (h : Xh) (a : Addr) (cls : Value) (d : Option Addr) : TS := fun Z σ H => ∃ (c : Nat) (C dx : Addr) (v : V) (F : Hp) (dd : DL.D), cls = .ref C ∧ d = some dx ∧ M.cl c = some C ∧ 20 ≤ c ∧ H dx = some (.xd [("value", v)]) ∧ Rep M F dd v ∧ Same F H ∧ σ.length = N.length ∧ σ[i]? = some (some (.ref a)) ∧
  match xrun h c dd with
  | some r => ∀ v F' H', Same F F' → Same H H' → Same F' H' → (∀ b, F' b ≠ none → F b ≠ none ∨ H b = none) → Rep M F' r v → Z.rt v H'
  | none => False
theorem s_suite (c : CS CXv X G N sc lv) {i : Nat} {h : Xh} {b : List Stmt} (f : Facts CXv X G.M lv h.needs) (hx : chkX N sc i h b = true) (a : Addr) (oe : Obj) (cls : Value) (d : Option Addr) (pn : List (Addr × Obj)) (hz : L2N.Zn cls d oe) (hd : ∃ vs, oe.data = .fields vs) :
    PSs (X.suite a ((a, oe) :: pn)) b (tXs G.M N i h a cls d) := by
  have y : YF (X.suite a ((a, oe) :: pn)) N sc := ⟨c.hN, c.sc, c.nd, c.fn⟩
  have hK : (X.suite a ((a, oe) :: pn)).K = G.M.K := c.K
  refine ⟨fun pins s σ H Z I ⟨k, C, dx, v, F, dd, e1, e2, e3, e4, e5, e6, e7, e8, e9, q⟩ => ?_⟩
  subst e1 e2
  cases h with
  | four j cs1 cs2 p0 l =>
    have XF : XsF X G.M (cs1 ++ (cs2 ++ [p0])) := fact_h f
    have XF' : XsF (X.suite a ((a, oe) :: pn)) G.M (cs1 ++ (cs2 ++ [p0])) := ⟨XF.isn, XF.ven, XF.cl, XF.all⟩
    simp only [chkX, Bool.and_eq_true, decide_eq_true_eq] at hx
    obtain ⟨⟨⟨h1, h2⟩, h3⟩, h4⟩ := hx
    have B : Bears (X.suite a ((a, oe) :: pn)) a dx C := ⟨⟨oe, List.mem_cons_self, hz.zc, hd⟩, (XF'.all k C e4 e3).1⟩
    have hj : j < σ.length := by
      rw [e8]
      unfold chkA at h4
      split at h4
      · simp only [Bool.and_eq_true, decide_eq_true_eq] at h4
        have := h4.1.1.1.2
        simp only [nmL, Bool.and_eq_true, decide_eq_true_eq] at this
        exact lt_of_get this.1
      · cases h4
    refine (suiteA y B XF' h2 h3 e3 e4 h1 h4).run pins s σ H Z I ⟨e9, hj, _, v, e5, rfl, fun H' s' => ?_⟩
    have q : ∀ u F' H', Same F F' → Same H H' → Same F' H' → (∀ b, F' b ≠ none → F b ≠ none ∨ H b = none) → Rep G.M F' (if oddA cs1 cs2 p0.1 k = true then .str "odd" else if l = true then .lst [dd] else dd) u → Z.rt u H' := q
    have fH := e7.trans s'
    split
    · rename_i ho
      rw [if_pos ho] at q
      exact q _ F H' (Same.refl F) s' fH (fun b h => .inl h) (by simp [Rep])
    · rename_i ho
      rw [if_neg ho] at q
      split
      · rename_i hl
        rw [if_pos hl] at q
        intro p hp
        have hF : F p = none := by
          cases e : F p with
          | none => rfl
          | some u => rw [fH p u e] at hp; cases hp
        refine q _ (upd F p (.lst [v])) (upd H' p (.lst [v])) (new_same hF) (s'.trans (new_same hp)) (fun b u e => ?_) (fun x hx => ?_) (Rep.nd_iff.mpr ⟨p, [v], rfl, upd_same, v, [], rfl, e6.mono (new_same hF), rfl⟩)
        · by_cases z : b = p
          · subst z; rw [upd_same] at e ⊢; exact e
          · rw [upd_ne z] at e ⊢; exact fH b u e
        · by_cases z : x = p
          · subst z
            right
            cases e : H x with
            | none => rfl
            | some u => rw [s' x u e] at hp; cases hp
          · rw [upd_ne z] at hx; exact .inl hx
      · rename_i hl
        rw [if_neg hl] at q
        exact q _ F H' (Same.refl F) s' fH (fun b h => .inl h) e6
  | call g =>
    have HF : HnF CXv X G.M lv g := fact_h f
    obtain ⟨fa, fd, x, n, FX, hn, hm, hk, hb⟩ := HF.ex
    unfold chkX at hx
    split at hx
    · rename_i e; cases e
    · rename_i g' f' p1 x' p2 p3 e
      cases e
      simp only [Bool.and_eq_true, decide_eq_true_eq] at hx
      obtain ⟨⟨rfl, h1⟩, h2⟩ := hx
      obtain ⟨_, _, rfl, pv⟩ := y.nm h2
      obtain ⟨g1, g2⟩ := y.gl h1
      obtain ⟨vs0, hv0⟩ := hd
      refine wpAny_execs_cons (wpAny_Return_some (wpAny_Call_Name_kw (ld_glob I g1 hm ?_ g2)))
      refine PySem.W.callWith_K (h₀ := X.base) I.ok.mod.kin hk (thn ((pa_cons pv pa_nil (star_cons rfl)).run p2 pins s σ H (fun vs H' => vs = [.ref a] ∧ H' = H) I ⟨_, e9, rfl, rfl⟩) fun us s1 ⟨vs, H1, I1, r, ev, eH⟩ => ⟨I1.kIn, ?_⟩) (star_cons rfl) rfl
      subst ev eH
      obtain ⟨u1, rfl, r1⟩ : ∃ u1, us = [u1] ∧ RelV (.ref a) u1 := by
        cases r with
        | cons r rr => cases rr; exact ⟨_, rfl, r⟩
      obtain rfl : u1 = Value.ref a := r1
      have hot : L2H.Hot1 (X.suite a ((a, oe) :: pn)).A (a, oe) := ⟨rfl, vs0, hv0, hz.2.2 vs0 hv0⟩
      have P1 := I1.pin (a, oe) (List.mem_append_left _ List.mem_cons_self)
      have hpin : L2H.PinOk (X.suite a ((a, oe) :: pn)).stack H1 s1 (a, oe) := ⟨P1.1, P1.2.1, fun hm => (List.mem_cons.mp (I1.stkSub a hm)).elim P1.2.2.1 P1.2.2.2.1, P1.2.2.2.2⟩
      have b := hb s1 [.ref a] I1.kIn rfl
      have rm : L2H.RoomH n (X.suite a ((a, oe) :: pn)).A := ⟨(c.room.mono hn).dp, (c.room.mono hn).un⟩
      refine wpAny_call (codeAny_mono (FX (X.suite a ((a, oe) :: pn)).A (X.suite a ((a, oe) :: pn)).stack s1 H1 ⟨[.ref a], []⟩ Z.rt (fun _ _ _ => False) (a, oe) C dx k F v dd rm hot hpin hz.zc I1.env0 b e3 e4 e5 e6 e7 q) fun r s' hq => ?_)
      cases r with
      | error e => exact c.pass0 _ pins σ H1 s1 e s' I1 hq
      | ok fl =>
        cases fl with
        | ret u =>
          obtain ⟨v', H', I', rv, qv⟩ := I1.after hq
          exact ⟨v', σ, H', I', rv, qv⟩
        | next => exact False.elim hq
        | brk => exact False.elim hq
        | cont => exact False.elim hq
    · cases hx
theorem notIo_nil {M : Mo} {F H : Hp} {io : List (Nat × V)} {env : Env} {σ : L2.St} {fs : Ft} (g : GS M F H io env σ fs) (h : env.all notIo = true) : io = [] := by
  cases io with
  | nil => rfl
  | cons p r =>
    obtain ⟨_, k, d, e⟩ := g.io p (by simp)
    have := List.all_eq_true.mp h _ (List.mem_of_getElem? e)
    cases this
theorem s_tryc (c : CS CXv X G N sc lv) {b : S} {cls : Nat} {nm g n : Str} {i : Nat} {h : Xh} {body hb : List Stmt} {b0 : Stmt} {np pos pos' : Pos} (f : Facts CXv X G.M lv (S.tryc b cls nm i h).needs) (hg : g = nm) (hgl : glB sc g = true) (hi : N[i]? = some n) (hln : sc.names.lookup n = some .local)
    (ihb : ∀ (pn : List (Addr × Obj)) (xe : Value → Shared → Prop) (G' : Fr), G'.M = G.M → CS CXv (X.tr pn xe) G' N sc lv → Facts CXv (X.tr pn xe) G'.M lv b.needs → PSs (X.tr pn xe) body (tS G' 0 (ex b))) (hx : chkX N sc i h (b0 :: hb) = true) :
    PS X (.Try body [.ExceptHandler (some (.Name g np)) (some n) (b0 :: hb) pos'] [] [] pos) (tS G 0 (ex (.tryc b cls nm i h))) := by
  subst hg
  have XH : XhF CXv X G.M cls g := fact_h f
  obtain ⟨CC, m1, m2⟩ := XH.ex
  obtain ⟨g1, g2⟩ := glB_inv c.toCO hgl
  have hlk : X.env.kindOf n = some .local := by unfold Env.kindOf; rw [c.sc]; exact hln
  have P := L2N.ps_try_as (X := X) (x := g) (n := n) (c := .ref CC) (i := i) (body := body) (suite := hb) (b₀ := b0) (np := np) (pos := pos) (pos' := pos')
    (tb := fun W => tS { G with E := fun cls d H => ∀ σ' : L2.St, σ'.length = N.length → W cls d σ' H } 0 (ex b)) (ts := tXs G.M N i h) (Wout := fun cls d _ H => G.E cls d H)
    c.hs c.hf (by rw [c.hN]; exact c.nd) (by rw [c.hN]; exact hi) hlk ⟨g1, g2, .inl m1⟩ (c.tk XH.cx) (fun W pn xe tkW po => ?_) fun a oe cls d pn hz hd => s_suite c (fact_l (fact_t f)) hx a oe cls d pn hz hd
  · refine ps_imp P fun D σ H ⟨env, F, fs, gs, q⟩ => ?_
    have q : PSt G 0 D F H fs (tryR cls h env (ex b env)) := q
    unfold tryR at q
    by_cases hio : env.all notIo = true
    · rw [if_pos hio] at q
      have hnil := notIo_nil gs hio
      refine ⟨env, F, fs, ⟨gs.len, gs.sl, gs.nd, gs.dj, gs.fn, gs.out, gs.fh, gs.io⟩, ?_⟩
      cases e : ex b env with
      | stuck => rw [e] at q; exact q
      | ok o =>
        rw [e] at q
        cases o with
        | nx env1 => exact q
        | brk env1 => exact q
        | cnt env1 => exact q
        | ret d env1 => exact q
      | exn k d =>
        rw [e] at q
        dsimp only at q
        by_cases h20 : 20 ≤ k
        · rw [if_pos h20] at q
          intro ccls dx F1 H1 P1 st sm exr
          show ∀ σ' : L2.St, σ'.length = N.length → wAs X.K (.ref CC) i (tXs G.M N i h) (fun cls d _ H => G.E cls d H) D ccls (some dx) σ' H1
          intro σ' hσ
          obtain ⟨C', v, e1, e2, e3, e4⟩ := id exr
          subst e2
          refine ⟨_, m2 k C' h20 e1, fun hb a ha => ?_, fun hb => ?_⟩
          · have hc : cls = 20 ∨ cls = k := by simpa using hb
            rw [if_pos hc] at q
            have hl : i < σ'.length := by rw [hσ]; exact lt_of_get hi
            refine ⟨k, C', dx, v, F1, d, rfl, rfl, e1, h20, e3, e4, sm, by rw [List.length_set]; exact hσ, List.getElem?_set_self hl, ?_⟩
            cases ex2 : xrun h k d with
            | none => rw [ex2] at q; exact q
            | some r =>
              rw [ex2] at q
              intro w F' H' a1 a2 a3 a4 a5
              have q : PSt G 0 D F H fs (.ok (.ret r (List.replicate env.length .un))) := q
              refine q w (List.replicate env.length none) F' H' (fun _ => []) [] ?_ ?_ ⟨a5, rfl⟩ List.nodup_nil (fun _ _ _ => by simp) (by simp)
              · refine ⟨by simp, fun j s es => ?_, fun _ => List.nodup_nil, fun _ _ _ _ hb => by simp at hb, fun _ _ hb => by simp at hb, fun _ _ => rfl, a3, fun p hp => by rw [hnil] at hp; cases hp⟩
                rw [List.getElem?_replicate] at es
                split at es
                · rename_i hl
                  cases es
                  exact ⟨none, by rw [List.getElem?_replicate, if_pos hl], rfl⟩
                · cases es
              · have s2 : Step F1 H1 P1 F' H' (fun _ => False) := ⟨a1, fun b o e _ => a2 b o e, fun b hb => (a4 b hb).imp id .inl, fun b hb => hb.elim⟩
                exact (st.trans s2).less fun b hb => by
                  rcases hb with ⟨_, hb⟩ | hb
                  · simp at hb
                  · simp at hb
          · have hc : ¬ (cls = 20 ∨ cls = k) := by simpa using hb
            rw [if_neg hc] at q
            exact q (.ref C') dx F1 H1 P1 st sm exr
        · rw [if_neg h20] at q
          exact q.elim
    · rw [if_neg hio] at q
      exact q.elim
  · have tk2 : L2N.Takes (X.tr pn xe) (fun cls d σ H => σ.length = N.length → W cls d σ H) := fun u s' ⟨a, B, sI, pins, σ, H, cls, d, e, I, nb, up, sky, na, os, ag, w⟩ =>
      tkW u s' ⟨a, B, sI, pins, σ, H, cls, d, e, I, nb, up, sky, na, os, ag, w (by rw [I.len]; exact congrArg List.length c.hN)⟩
    refine ihb pn xe { G with E := fun cls d H => ∀ σ' : L2.St, σ'.length = N.length → W cls d σ' H } rfl ?_ fun f' hf' => factOk_tr (fact_r (fact_t f) f' hf')
    have cx := XH.cx
    refine ⟨⟨c.K, c.calm, c.hN, c.sc, c.nd, c.room, c.nb, c.nr, c.ne, c.nz, ?_, c.pass0⟩, po, c.fn, fun _ => tk2.imp fun cls d σ H hh hl => hh σ hl, c.hs, c.hf⟩
    subst cx
    exact L2N.passes_call tk2 fun cls d σ H hh hl => hh σ hl
end
end DL

-- part DLp
set_option Elab.async false
set_option linter.all false
set_option maxRecDepth 100000
set_option maxHeartbeats 1000000
/-! DL, part p: the check of statements is sound. -/
namespace DL
open PySem PySem.Spec PyProof.Rows L2
theorem sole_none {t v : Expr} {l : Nat} {env : PySem.Env} (h : isCompE v = false) : swapsWithSole [t] v l env = pure false := swap_none h (some t) l env
structure SS (N : List Str) (rk : Nat) (s : S) : Prop where
  a : ∀ {CXv : CXT} {X : Cx} {G : Fr} {sc : Scope} {lv : Nat} {st : Stmt}, CS CXv X G N sc lv → Facts CXv X G.M lv s.needs → chk1 N sc rk s st = true → PS X st (tS G rk (ex s))
  b : ∀ {CXv : CXT} {X : Cx} {G : Fr} {sc : Scope} {lv : Nat} {sts : List Stmt}, CS CXv X G N sc lv → Facts CXv X G.M lv s.needs → chkS N sc rk s sts = true → PSs X sts (tS G rk (ex s))
theorem SS.one {N : List Str} {rk : Nat} {s : S} (hb : ∀ {sc : Scope} {sts : List Stmt}, ¬ chkS N sc rk s sts = true)
    (a : ∀ {CXv : CXT} {X : Cx} {G : Fr} {sc : Scope} {lv : Nat} {st : Stmt}, CS CXv X G N sc lv → Facts CXv X G.M lv s.needs → chk1 N sc rk s st = true → PS X st (tS G rk (ex s))) : SS N rk s := ⟨a, fun _ _ h => absurd h hb⟩
theorem soundS (N : List Str) (rk : Nat) : ∀ s : S, SS N rk s := by
  intro s
  induction s with
  | nil =>
    refine ⟨fun c f h => (by simp [chk1] at h), fun {_ _ _ _ _ sts} c f h => ?_⟩
    cases sts with
    | nil => exact s_snil
    | cons _ _ => simp [chkS] at h
  | never => exact ⟨fun c f h => (by simp [chk1] at h), fun c f h => s_never⟩
  | frz i => exact ⟨fun c f h => (by simp [chk1] at h), fun {_ _ _ _ _ sts} c f h => (by cases sts <;> simp [chkS] at h)⟩
  | cons s ss ihs ihss =>
    refine ⟨fun c f h => (by simp [chk1] at h), fun {_ _ _ sc _ sts} c f h => ?_⟩
    by_cases hz : ∃ i, s = .frz i
    · obtain ⟨i, rfl⟩ := hz
      have h : chkS N sc rk ss sts = true := (by cases sts <;> exact h)
      exact s_frz (ihss.b c (fact_r f) h)
    · cases sts with
      | nil => cases s <;> first | (simp [chkS] at h; done) | exact absurd ⟨_, rfl⟩ hz
      | cons st sts =>
        have h : (chk1 N sc rk s st && chkS N sc rk ss sts) = true := by
          cases s <;> first | exact h | exact absurd ⟨_, rfl⟩ hz
        have h := Bool.and_eq_true_iff.mp h
        exact s_scons (ihs.a c (fact_l f) h.1) (ihss.b c (fact_r f) h.2)
  | pass =>
    refine SS.one (fun {_ sts} h => by cases sts <;> simp [chkS] at h) fun {CXv X G sc lv st} c f h => ?_
    cases st with
    | Pass _ => exact s_pass
    | Expr x p => cases x with
      | Constant k j q => cases k with
        | str _ => exact s_doc
        | _ => simp [chk1] at h
      | _ => simp [chk1] at h
    | _ => simp [chk1] at h
  | set tg e  =>
    refine SS.one (fun {_ sts} h => by cases sts <;> simp [chkS] at h) fun {CXv X G sc lv st} c f h => ?_
    cases st with
    | Assign zst0 v p =>
      cases zst0 with
      | nil => simp [chk1] at h
      | cons t tzst0 =>
        cases tzst0 with
        | nil =>
          simp only [chk1, Bool.and_eq_true, decide_eq_true_eq, Bool.not_eq_true'] at h
          simp only [Bool.or_eq_true] at h
          exact s_asg c h.1.1.1 f h.1.1.2 h.1.2 (by simpa using h.2)
        | cons _ _ => simp [chk1] at h
    | _ => simp [chk1] at h
  | seto k i e  =>
    refine SS.one (fun {_ sts} h => by cases sts <;> simp [chkS] at h) fun {CXv X G sc lv st} c f h => ?_
    cases st with
    | Assign zst0 v p =>
      cases zst0 with
      | nil => simp [chk1] at h
      | cons ezst0 tzst0 =>
        cases ezst0 with
        | Name y py =>
          cases tzst0 with
          | nil =>
            simp only [chk1, Bool.and_eq_true] at h
            exact s_asgL c f h.1.1.1 h.1.1.2 h.1.2 h.2
          | cons _ _ => simp [chk1] at h
        | _ => simp [chk1] at h
    | _ => simp [chk1] at h
  | aug op i e => exact SS.one (fun {_ sts} h => by cases sts <;> simp [chkS] at h) fun c f h => (by simp [chk1] at h)
  | par is es  =>
    refine SS.one (fun {_ sts} h => by cases sts <;> simp [chkS] at h) fun {CXv X G sc lv st} c f h => ?_
    cases st with
    | Assign zst0 zst1 p =>
      cases zst0 with
      | nil => simp [chk1] at h
      | cons ezst0 tzst0 =>
        cases ezst0 with
        | Tuple ts k pt =>
          cases tzst0 with
          | nil =>
            cases zst1 with
            | Tuple vs k2 p2 =>
              simp only [chk1, Bool.and_eq_true, decide_eq_true_eq, Bool.not_eq_true'] at h
              exact s_par c f h.1 h.2
            | _ => simp [chk1] at h
          | cons _ _ => simp [chk1] at h
        | _ => simp [chk1] at h
    | _ => simp [chk1] at h
  | paro is os es  =>
    refine SS.one (fun {_ sts} h => by cases sts <;> simp [chkS] at h) fun {CXv X G sc lv st} c f h => ?_
    cases st with
    | Assign zst0 zst1 p =>
      cases zst0 with
      | nil => simp [chk1] at h
      | cons ezst0 tzst0 =>
        cases ezst0 with
        | Tuple ts k pt =>
          cases tzst0 with
          | nil =>
            cases zst1 with
            | Tuple vs k2 p2 =>
              simp only [chk1, Bool.and_eq_true] at h
              rcases Bool.or_eq_true_iff.mp h.2 with h2 | h2
              · exact s_paro c f h.1.1 h2 h.1.2
              · simp only [Bool.and_eq_true, decide_eq_true_eq] at h2
                exact s_parl c f h.1.1 h2.1.1 h2.1.2 h2.2 h.1.2
            | _ => simp [chk1] at h
          | cons _ _ => simp [chk1] at h
        | _ => simp [chk1] at h
    | _ => simp [chk1] at h
  | setm is e  =>
    refine SS.one (fun {_ sts} h => by cases sts <;> simp [chkS] at h) fun {CXv X G sc lv st} c f h => ?_
    cases st with
    | Assign zst0 v p =>
      cases zst0 with
      | nil => simp [chk1] at h
      | cons ezst0 tzst0 =>
        cases ezst0 with
        | Tuple ts k pt =>
          cases tzst0 with
          | nil =>
            simp only [chk1, Bool.and_eq_true, decide_eq_true_eq, Bool.not_eq_true'] at h
            exact s_setm c f h.1.1 h.1.2 h.2
          | cons _ _ => simp [chk1] at h
        | _ => simp [chk1] at h
    | _ => simp [chk1] at h
  | rett es =>
    refine SS.one (fun {_ sts} h => by cases sts <;> simp [chkS] at h) fun {CXv X G sc lv st} c f h => ?_
    cases st with
    | Return o p => cases o with
      | none => simp [chk1] at h
      | some x => cases x with
        | Tuple xs k p2 =>
          simp only [chk1, Bool.and_eq_true, decide_eq_true_eq] at h
          exact s_rett c f h.1 h.2
        | _ => simp [chk1] at h
    | _ => simp [chk1] at h
  | ife t a b iha ihb =>
    refine SS.one (fun {_ sts} h => by cases sts <;> simp [chkS] at h) fun {CXv X G sc lv st} c f h => ?_
    cases st with
    | If x xs ys p =>
      simp only [chk1, Bool.and_eq_true, decide_eq_true_eq, Bool.not_eq_true'] at h
      exact s_ifS ((sound N t).t c.toCO (fact_l f) h.1.1) (iha.b c (fact_l (fact_r f)) h.1.2) (ihb.b c (fact_r (fact_r f)) h.2)
    | _ => simp [chk1] at h
  | for_ tg it b ihb =>
    refine SS.one (fun {_ sts} h => by cases sts <;> simp [chkS] at h) fun {CXv X G sc lv st} c f h => ?_
    cases st with
    | For t iter body zst3 p =>
      cases zst3 with
      | nil =>
        simp only [chk1, Bool.and_eq_true, decide_eq_true_eq, Bool.not_eq_true'] at h
        exact s_for c.po c.calm ((sound N it).i c.toCO (fact_l f) h.1.1.2) (pg_tgtB c.calm c.hN c.nd c.sc (fun x _ => c.fn x) h.1.2) (ihb.b c (fact_r f) h.2) (set_iter h.1.1.1 _)
      | cons _ _ => simp [chk1] at h
    | _ => simp [chk1] at h
  | whl t b ihb =>
    refine SS.one (fun {_ sts} h => by cases sts <;> simp [chkS] at h) fun {CXv X G sc lv st} c f h => ?_
    cases st with
    | While x body zst2 p =>
      cases zst2 with
      | nil =>
        simp only [chk1, Bool.and_eq_true, decide_eq_true_eq, Bool.not_eq_true'] at h
        exact s_whl c.po ((sound N t).t c.toCO (fact_l f) h.1) (ihb.b c (fact_r f) h.2)
      | cons _ _ => simp [chk1] at h
    | _ => simp [chk1] at h
  | ret e =>
    refine SS.one (fun {_ sts} h => by cases sts <;> simp [chkS] at h) fun {CXv X G sc lv st} c f h => ?_
    cases st with
    | Return o p => cases o with
      | none => simp [chk1] at h
      | some x =>
        simp only [chk1, Bool.and_eq_true, decide_eq_true_eq] at h
        exact s_ret h.1 ((sound N e).v c.toCO f h.2)
    | _ => simp [chk1] at h
  | reto e =>
    refine SS.one (fun {_ sts} h => by cases sts <;> simp [chkS] at h) fun {CXv X G sc lv st} c f h => ?_
    cases st with
    | Return o p => cases o with
      | none => simp [chk1] at h
      | some x =>
        simp only [chk1, Bool.and_eq_true, decide_eq_true_eq] at h
        exact s_reto h.1.1 (fun ho => (sound N e).l c.toCO f ho h.2) h.1.2
    | _ => simp [chk1] at h
  | retm i =>
    refine SS.one (fun {_ sts} h => by cases sts <;> simp [chkS] at h) fun {CXv X G sc lv st} c f h => ?_
    cases st with
    | Return o p => cases o with
      | none => simp [chk1] at h
      | some x =>
        simp only [chk1, Bool.and_eq_true, decide_eq_true_eq] at h
        obtain ⟨n, q, rfl, a1, a2, a3, a4⟩ := nmB_inv c.toCO h.2
        exact s_retm h.1 a1 a2 a3 a4
    | _ => simp [chk1] at h
  | retn =>
    refine SS.one (fun {_ sts} h => by cases sts <;> simp [chkS] at h) fun {CXv X G sc lv st} c f h => ?_
    cases st with
    | Return o p => cases o with
      | none => exact s_retn
      | some x => simp [chk1] at h
    | _ => simp [chk1] at h
  | drop e =>
    refine SS.one (fun {_ sts} h => by cases sts <;> simp [chkS] at h) fun {CXv X G sc lv st} c f h => ?_
    cases st with
    | Expr x p =>
      simp only [chk1, Bool.and_eq_true, Bool.not_eq_true'] at h
      exact s_drop ((sound N e).v c.toCO f h.2) (swap_none h.1 _ _ _)
    | _ => simp [chk1] at h
  | appd o e  =>
    refine SS.one (fun {_ sts} h => by cases sts <;> simp [chkS] at h) fun {CXv X G sc lv st} c f h => ?_
    cases st with
    | Expr zst0 p =>
      cases zst0 with
      | Call zzst00 zzst01 zzst02 cp =>
        cases zzst00 with
        | Attribute x m ap =>
          cases zzst01 with
          | nil => simp [chk1] at h
          | cons y tzzst01 =>
            cases tzzst01 with
            | nil =>
              cases zzst02 with
              | nil =>
                simp only [chk1, Bool.and_eq_true, decide_eq_true_eq, Bool.not_eq_true'] at h
                obtain ⟨⟨⟨⟨⟨⟨rfl, ho⟩, hn⟩, hy⟩, hl⟩, h1⟩, h2⟩ := h
                exact s_appd c f ho hn hy hl h1 h2
              | cons _ _ => simp [chk1] at h
            | cons _ _ => simp [chk1] at h
        | _ => simp [chk1] at h
      | _ => simp [chk1] at h
    | _ => simp [chk1] at h
  | app i pp e  =>
    refine SS.one (fun {_ sts} h => by cases sts <;> simp [chkS] at h) fun {CXv X G sc lv st} c f h => ?_
    cases st with
    | Expr zst0 p =>
      cases zst0 with
      | Call zzst00 zzst01 zzst02 cp =>
        cases zzst00 with
        | Attribute x m ap =>
          cases zzst01 with
          | nil => simp [chk1] at h
          | cons y tzzst01 =>
            cases tzzst01 with
            | nil =>
              cases zzst02 with
              | nil =>
                simp only [chk1, Bool.and_eq_true, decide_eq_true_eq, Bool.not_eq_true'] at h
                obtain ⟨⟨⟨⟨⟨rfl, hp⟩, hn⟩, hy⟩, hl⟩, h1⟩ := h
                obtain ⟨n, q, rfl, a1, a2, a3, a4⟩ := nmB_inv c.toCO hn
                cases pp with
                | nil => exact s_append a1 a2 a3 a4 hy hl ((sound N e).v c.toCO f h1)
                | _ => simp [isNilE] at hp
              | cons _ _ => simp [chk1] at h
            | cons _ _ => simp [chk1] at h
        | _ => simp [chk1] at h
      | _ => simp [chk1] at h
    | _ => simp [chk1] at h
  | ext i pp e  =>
    refine SS.one (fun {_ sts} h => by cases sts <;> simp [chkS] at h) fun {CXv X G sc lv st} c f h => ?_
    cases st with
    | Expr zst0 p =>
      cases zst0 with
      | Call zzst00 zzst01 zzst02 cp =>
        cases zzst00 with
        | Attribute x m ap =>
          cases zzst01 with
          | nil => simp [chk1] at h
          | cons y tzzst01 =>
            cases tzzst01 with
            | nil =>
              cases zzst02 with
              | nil =>
                simp only [chk1, Bool.and_eq_true, decide_eq_true_eq, Bool.not_eq_true'] at h
                obtain ⟨⟨⟨⟨⟨rfl, hp⟩, hn⟩, hy⟩, hl⟩, h1⟩ := h
                obtain ⟨n, q, rfl, a1, a2, a3, a4⟩ := nmB_inv c.toCO hn
                cases pp with
                | nil => exact s_extend a1 a2 a3 a4 hy hl ((sound N e).v c.toCO f h1)
                | _ => simp [isNilE] at hp
              | cons _ _ => simp [chk1] at h
            | cons _ _ => simp [chk1] at h
        | _ => simp [chk1] at h
      | _ => simp [chk1] at h
    | _ => simp [chk1] at h
  | sub i j e  =>
    refine SS.one (fun {_ sts} h => by cases sts <;> simp [chkS] at h) fun {CXv X G sc lv st} c f h => ?_
    cases st with
    | Assign zst0 y p =>
      cases zst0 with
      | nil => simp [chk1] at h
      | cons ezst0 tzst0 =>
        cases ezst0 with
        | Subscript x z sp =>
          cases tzst0 with
          | nil =>
            simp only [chk1, Bool.and_eq_true, decide_eq_true_eq, Bool.not_eq_true'] at h
            obtain ⟨⟨⟨⟨hn, hz⟩, hy⟩, h1⟩, h2⟩ := h
            obtain ⟨n, q, rfl, a1, a2, a3, a4⟩ := nmB_inv c.toCO hn
            exact s_sub a1 a2 a3 a4 (sole_none hy) hz ((sound N e).v c.toCO (fact_l f) h1) ((sound N j).v c.toCO (fact_r f) h2)
          | cons _ _ => simp [chk1] at h
        | _ => simp [chk1] at h
    | _ => simp [chk1] at h
  | brk  =>
    refine SS.one (fun {_ sts} h => by cases sts <;> simp [chkS] at h) fun {CXv X G sc lv st} c f h => ?_
    cases st with
    | Break p =>
      exact s_brk
    | _ => simp [chk1] at h
  | cnt  =>
    refine SS.one (fun {_ sts} h => by cases sts <;> simp [chkS] at h) fun {CXv X G sc lv st} c f h => ?_
    cases st with
    | Continue p =>
      exact s_cnt
    | _ => simp [chk1] at h
  | setd i e  =>
    refine SS.one (fun {_ sts} h => by cases sts <;> simp [chkS] at h) fun {CXv X G sc lv st} c f h => ?_
    cases st with
    | Assign zst0 v p =>
      cases zst0 with
      | nil => simp [chk1] at h
      | cons ezst0 tzst0 =>
        cases ezst0 with
        | Name y py =>
          cases tzst0 with
          | nil =>
            simp only [chk1, Bool.and_eq_true] at h
            exact s_setd c f h.1.1 h.1.2 h.2
          | cons _ _ => simp [chk1] at h
        | _ => simp [chk1] at h
    | _ => simp [chk1] at h
  | pard i j ks ns  =>
    refine SS.one (fun {_ sts} h => by cases sts <;> simp [chkS] at h) fun {CXv X G sc lv st} c f h => ?_
    cases st with
    | Assign zst0 zst1 p =>
      cases zst0 with
      | nil => simp [chk1] at h
      | cons ezst0 tzst0 =>
        cases ezst0 with
        | Tuple ts k pt =>
          cases tzst0 with
          | nil =>
            cases zst1 with
            | Tuple zzst10 k2 p2 =>
              cases zzst10 with
              | nil => simp [chk1] at h
              | cons ezzst10 tzzst10 =>
                cases ezzst10 with
                | Dict keys values dp =>
                  cases tzzst10 with
                  | nil => simp [chk1] at h
                  | cons etzzst10 ttzzst10 =>
                    cases etzzst10 with
                    | List zetzzst100 lp =>
                      cases zetzzst100 with
                      | nil =>
                        cases ttzzst10 with
                        | nil =>
                          simp only [chk1, Bool.and_eq_true, decide_eq_true_eq, Bool.not_eq_true'] at h
                          exact s_pard c h.1.1.1 (by simpa using h.1.1.2) h.1.2 h.2
                        | cons _ _ => simp [chk1] at h
                      | cons _ _ => simp [chk1] at h
                    | _ => simp [chk1] at h
                | _ => simp [chk1] at h
            | _ => simp [chk1] at h
          | cons _ _ => simp [chk1] at h
        | _ => simp [chk1] at h
    | _ => simp [chk1] at h
  | retd ks es =>
    refine SS.one (fun {_ sts} h => by cases sts <;> simp [chkS] at h) fun {CXv X G sc lv st} c f h => ?_
    cases st with
    | Return o p => cases o with
      | none => simp [chk1] at h
      | some x => cases x with
        | Dict keys values dp =>
          simp only [chk1, Bool.and_eq_true, decide_eq_true_eq, Bool.not_eq_true'] at h
          exact s_retd c.toCO h.1.1.1 h.1.1.2 (by simpa using h.1.2) h.2
        | _ => simp [chk1] at h
    | _ => simp [chk1] at h
  | dset i s e  =>
    refine SS.one (fun {_ sts} h => by cases sts <;> simp [chkS] at h) fun {CXv X G sc lv st} c f h => ?_
    cases st with
    | Assign zst0 y p =>
      cases zst0 with
      | nil => simp [chk1] at h
      | cons ezst0 tzst0 =>
        cases ezst0 with
        | Subscript x zezst01 sp =>
          cases zezst01 with
          | Constant zzezst010 k1 kp =>
            cases zzezst010 with
            | str s1 =>
              cases tzst0 with
              | nil =>
                simp only [chk1, Bool.and_eq_true, decide_eq_true_eq, Bool.not_eq_true'] at h
                obtain ⟨⟨⟨hn, rfl⟩, hy⟩, h1⟩ := h
                obtain ⟨n, q, rfl, a1, a2, a3, a4⟩ := nmB_inv c.toCO hn
                exact s_dset c.toCO.hu a1 a2 a3 a4 (swap_none hy _ _ _) ((sound N e).v c.toCO f h1)
              | cons _ _ => simp [chk1] at h
            | _ => simp [chk1] at h
          | _ => simp [chk1] at h
        | _ => simp [chk1] at h
    | _ => simp [chk1] at h
  | daug i s op n  =>
    refine SS.one (fun {_ sts} h => by cases sts <;> simp [chkS] at h) fun {CXv X G sc lv st} c f h => ?_
    cases st with
    | AugAssign zst0 o zst2 p =>
      cases zst0 with
      | Subscript x zzst01 sp =>
        cases zzst01 with
        | Constant zzzst010 k1 kp =>
          cases zzzst010 with
          | str s1 =>
            cases zst2 with
            | Constant zzst20 k2 np =>
              cases zzst20 with
              | int m =>
                simp only [chk1, Bool.and_eq_true, decide_eq_true_eq, Bool.not_eq_true'] at h
                simp only [Bool.or_eq_true, decide_eq_true_eq] at h
                obtain ⟨⟨⟨hn, rfl⟩, rfl⟩, ho⟩ := h
                obtain ⟨n, q, rfl, a1, a2, a3, a4⟩ := nmB_inv c.toCO hn
                exact s_daug c.toCO.hu ho a1 a2 a3 a4
              | _ => simp [chk1] at h
            | _ => simp [chk1] at h
          | _ => simp [chk1] at h
        | _ => simp [chk1] at h
      | _ => simp [chk1] at h
    | _ => simp [chk1] at h
  | dpop i s s2  =>
    refine SS.one (fun {_ sts} h => by cases sts <;> simp [chkS] at h) fun {CXv X G sc lv st} c f h => ?_
    cases st with
    | Assign zst0 zst1 p =>
      cases zst0 with
      | nil => simp [chk1] at h
      | cons ezst0 tzst0 =>
        cases ezst0 with
        | Subscript x zezst01 sp =>
          cases zezst01 with
          | Constant zzezst010 k1 kp =>
            cases zzezst010 with
            | str s1 =>
              cases tzst0 with
              | nil =>
                cases zst1 with
                | Call zzst10 zzst11 zzst12 cp =>
                  cases zzst10 with
                  | Attribute zzzst100 m ap =>
                    cases zzzst100 with
                    | Subscript y zzzzst1001 sp2 =>
                      cases zzzzst1001 with
                      | Constant zzzzzst10010 k2 kp2 =>
                        cases zzzzzst10010 with
                        | str t1 =>
                          cases zzst11 with
                          | nil => simp [chk1] at h
                          | cons ezzst11 tzzst11 =>
                            cases ezzst11 with
                            | Constant zezzst110 k3 zp =>
                              cases zezzst110 with
                              | int z =>
                                cases tzzst11 with
                                | nil =>
                                  cases zzst12 with
                                  | nil =>
                                    simp only [chk1, Bool.and_eq_true, decide_eq_true_eq, Bool.not_eq_true'] at h
                                    obtain ⟨⟨⟨⟨⟨⟨hn, hn2⟩, rfl⟩, rfl⟩, rfl⟩, rfl⟩, hl⟩ := h
                                    obtain ⟨n, q, rfl, a1, a2, a3, a4⟩ := nmB_inv c.toCO hn
                                    obtain ⟨n2, q2, rfl, b1, b2, b3, b4⟩ := nmB_inv c.toCO hn2
                                    rw [a1] at b1
                                    cases b1
                                    exact s_dpop c.toCO.hu a1 a2 a3 a4 hl
                                  | cons _ _ => simp [chk1] at h
                                | cons _ _ => simp [chk1] at h
                              | _ => simp [chk1] at h
                            | _ => simp [chk1] at h
                        | _ => simp [chk1] at h
                      | _ => simp [chk1] at h
                    | _ => simp [chk1] at h
                  | _ => simp [chk1] at h
                | _ => simp [chk1] at h
              | cons _ _ => simp [chk1] at h
            | _ => simp [chk1] at h
          | _ => simp [chk1] at h
        | _ => simp [chk1] at h
    | _ => simp [chk1] at h
  | rse k nm e =>
    refine SS.one (fun {_ sts} h => by cases sts <;> simp [chkS] at h) fun {CXv X G sc lv st} c f h => ?_
    cases st with
    | Raise o1 o2 q2 =>
      have h : rseB N sc nm e o1 o2 = true := h
      unfold rseB at h
      split at h
      · simp only [Bool.and_eq_true, decide_eq_true_eq, Bool.not_eq_true'] at h
        obtain ⟨⟨⟨h1, h2⟩, h3⟩, h4⟩ := h
        exact s_rse c f h1 h2 h3 h4
      · cases h
    | _ => cases h
  | tryc b cls nm i xh ihb =>
    refine SS.one (fun {_ sts} h => by cases sts <;> simp [chkS] at h) fun {CXv X G sc lv st} c f h => ?_
    cases st with
    | Try body hds els fin pos =>
      have h : ((els.isEmpty && fin.isEmpty) && chkS N sc rk b body && hdB N sc rk nm i xh hds) = true := h
      simp only [Bool.and_eq_true, List.isEmpty_iff] at h
      obtain ⟨⟨⟨rfl, rfl⟩, h6⟩, h8⟩ := h
      unfold hdB at h8
      split at h8
      · simp only [Bool.and_eq_true, decide_eq_true_eq] at h8
        obtain ⟨⟨⟨⟨h1, h2⟩, h3⟩, h4, h5⟩, h7⟩ := h8
        subst h1
        exact s_tryc c f h2 h3 h4 h5 (fun pn xe G' hM c' f' => ihb.b c' f' h6) h7
      · cases h8
    | _ => cases h
end DL

-- part DLq
set_option Elab.async false
set_option linter.all false
set_option maxRecDepth 100000
set_option maxHeartbeats 1000000
/-! DL, part q: a def as a whole. -/
namespace DL
open PySem PySem.Spec PyProof.Rows L2

/-- the footprints by the slots -/
def fpL : List Nat → List (List Addr) → List (List Addr)
  | 0 :: ms, fo => [] :: fpL ms fo
  | (_ + 1) :: ms, f :: fo => f :: fpL ms fo
  | _, _ => []
def iosL : Nat → List Nat → List V → List (Nat × V)
  | i, 0 :: ms, _ :: vs => iosL (i + 1) ms vs
  | i, (_ + 1) :: ms, v :: vs => (i, v) :: iosL (i + 1) ms vs
  | _, _, _ => []
def ioI : Nat → List Nat → List Nat
  | i, 0 :: ms => ioI (i + 1) ms
  | i, (_ + 1) :: ms => i :: ioI (i + 1) ms
  | _, [] => []
section
variable {M : Mo} {F H F' H' : Hp} {io : List (Nat × V)} {env env' : Env} {σ : L2.St} {fs fs' : Ft}
theorem fpL_flat : ∀ {ms : List Nat} {ds : List D} {vs : List V} {fo : List (List Addr)}, ArgsR M F H ms ds vs fo → (fpL ms fo).flatten = fo.flatten ∧ (fpL ms fo).length = ms.length
  | [], _, _, _, ⟨_, _, rfl⟩ => ⟨rfl, rfl⟩
  | 0 :: ms, _, _, _, ⟨d, ds', v, vs', _, _, _, h⟩ => by
    obtain ⟨a, b⟩ := fpL_flat h
    exact ⟨by simp [fpL, a], by simp [fpL, b]⟩
  | (k + 1) :: ms, _, _, _, ⟨d, ds', v, vs', f, fo', _, _, rfl, _, h⟩ => by
    obtain ⟨a, b⟩ := fpL_flat h
    exact ⟨by simp [fpL, a], by simp [fpL, b]⟩
theorem args_slot : ∀ {ms : List Nat} {ds : List D} {vs : List V} {fo : List (List Addr)} {i : Nat} {s : Sl}, ArgsR M F H ms ds vs fo → (initS ms ds)[i]? = some s →
    ∃ v f, vs[i]? = some v ∧ (fpL ms fo)[i]? = some f ∧ SlR M F H s (some v) f
  | [], _, _, _, i, s, h, e => by simp [initS] at e
  | 0 :: ms, _, _, _, i, s, ⟨d, ds', v, vs', rfl, rfl, r, h⟩, e => by
    cases i with
    | zero =>
      simp [initS] at e
      subst e
      exact ⟨v, [], rfl, rfl, v, rfl, r, rfl⟩
    | succ i =>
      simp [initS] at e
      obtain ⟨v', f, a, b, c⟩ := args_slot h e
      exact ⟨v', f, by simpa using a, by simpa [fpL] using b, c⟩
  | (k + 1) :: ms, _, _, _, i, s, ⟨d, ds', v, vs', f, fo', rfl, rfl, rfl, r, h⟩, e => by
    cases i with
    | zero =>
      simp [initS] at e
      subst e
      exact ⟨v, f, rfl, rfl, v, rfl, r⟩
    | succ i =>
      simp [initS] at e
      obtain ⟨v', f, a, b, c⟩ := args_slot h e
      exact ⟨v', f, by simpa using a, by simpa [fpL] using b, c⟩
theorem initS_len : ∀ {ms : List Nat} {ds : List D}, ds.length = ms.length → (initS ms ds).length = ms.length
  | [], [], _ => rfl
  | [], _ :: _, h => by simp at h
  | _ :: _, [], h => by simp at h
  | 0 :: ms, d :: ds, h => by simp [initS, initS_len (ms := ms) (ds := ds) (by simpa using h)]
  | (k + 1) :: ms, d :: ds, h => by simp [initS, initS_len (ms := ms) (ds := ds) (by simpa using h)]
theorem ios_slot : ∀ {ms : List Nat} {ds : List D} {vs : List V} {j : Nat} {p : Nat × V}, ds.length = ms.length → p ∈ iosL j ms vs → ∃ i k d, p.1 = j + i ∧ vs[i]? = some p.2 ∧ (initS ms ds)[i]? = some (.io k d)
  | [], _, vs, j, p, _, h => by cases vs <;> simp [iosL] at h
  | _ :: _, [], vs, j, p, l, h => by simp at l
  | m :: ms, d :: ds, [], j, p, l, h => by cases m <;> simp [iosL] at h
  | 0 :: ms, d :: ds, v :: vs, j, p, l, h => by
    obtain ⟨i, k, d', a, b, c⟩ := ios_slot (ds := ds) (by simpa using l) (show p ∈ iosL (j + 1) ms vs from h)
    exact ⟨i + 1, k, d', by omega, by simpa using b, by simpa [initS] using c⟩
  | (m + 1) :: ms, d :: ds, v :: vs, j, p, l, h => by
    rcases List.mem_cons.mp (show p ∈ (j, v) :: iosL (j + 1) ms vs from h) with e | h
    · subst e
      exact ⟨0, m + 1, d, rfl, rfl, rfl⟩
    · obtain ⟨i, k, d', a, b, c⟩ := ios_slot (ds := ds) (by simpa using l) h
      exact ⟨i + 1, k, d', by omega, by simpa using b, by simpa [initS] using c⟩
/-- the state at a def's entry -/
theorem gs_start {N : List Str} {ms : List Nat} {ds : List D} {vs : List V} {fo : List (List Addr)} (a : ArgsR M F H ms ds vs fo) (hN : ms.length ≤ N.length) (nd : fo.flatten.Nodup) (fn : ∀ b ∈ fo.flatten, F b = none) (fh : Same F H) :
    ∃ fs, GS M F H (iosL 0 ms vs) (initS ms ds ++ List.replicate (N.length - ms.length) .un) (start N vs) fs ∧ ∀ b, fs.at b ↔ inL fo b := by
  obtain ⟨l1, l2⟩ := a.len
  obtain ⟨e1, e2⟩ := fpL_flat a
  have li := initS_len l2
  let fs : Ft := fun i => ((fpL ms fo)[i]?).getD []
  have fsg : ∀ i b, b ∈ fs i → ∃ f, (fpL ms fo)[i]? = some f ∧ b ∈ f ∧ fs i = f := fun i b hb => by
    cases q : (fpL ms fo)[i]? with
    | none => simp [fs, q] at hb
    | some f => exact ⟨f, rfl, by simpa [fs, q] using hb, by simp [fs, q]⟩
  have nd2 : (fpL ms fo).flatten.Nodup := by rw [e1]; exact nd
  refine ⟨fs, ⟨?_, fun i s e => ?_, fun i => ?_, fun i j b ne hi hj => ?_, fun i b hb => ?_, fun i e => ?_, fh, fun p hp => ?_⟩, fun b => ⟨fun ⟨i, hb⟩ => ?_, fun hb => ?_⟩⟩
  · simp [L2.start, li, l1]
  · by_cases hi : i < ms.length
    · rw [List.getElem?_append_left (by omega)] at e
      obtain ⟨v, f, b1, b2, b3⟩ := args_slot a e
      refine ⟨some v, ?_, ?_⟩
      · unfold L2.start
        rw [List.getElem?_append_left (by simp; omega), List.getElem?_map, b1]; rfl
      · have : fs i = f := by simp [fs, b2]
        rw [this]; exact b3
    · rw [List.getElem?_append_right (by omega)] at e
      rw [List.getElem?_replicate] at e
      split at e
      · rename_i h
        cases e
        refine ⟨none, ?_, ?_⟩
        · unfold L2.start
          rw [List.getElem?_append_right (by simp; omega), List.getElem?_replicate, if_pos (by simp; omega)]
        · show fs i = []
          simp only [fs]
          rw [List.getElem?_eq_none (by omega)]; rfl
      · cases e
  · cases q : (fpL ms fo)[i]? with
    | none => simp [fs, q]
    | some f => simp only [fs, q, Option.getD_some]; exact nodup_part nd2 q
  · obtain ⟨f, a1, a2, _⟩ := fsg i b hi
    obtain ⟨g, b1, b2, _⟩ := fsg j b hj
    exact nodup_two nd2 ne a1 b1 b a2 b2
  · obtain ⟨f, a1, a2, _⟩ := fsg i b hb
    exact fn b (by rw [← e1]; exact flat_get a1 a2)
  · have : ms.length ≤ i := by
      have := List.getElem?_eq_none_iff.mp e
      simp [li] at this
      omega
    simp only [fs]
    rw [List.getElem?_eq_none (by omega)]; rfl
  · obtain ⟨i, k, d, h1, h2, h3⟩ := ios_slot l2 hp
    have hi : i < ms.length := by have := lt_of_get h3; omega
    have : p.1 = i := by omega
    rw [this]
    refine ⟨?_, k, d, by rw [List.getElem?_append_left (by omega)]; exact h3⟩
    unfold L2.start
    rw [List.getElem?_append_left (by simp; omega), List.getElem?_map, h2]; rfl
  · obtain ⟨f, a1, a2, _⟩ := fsg i b hb
    show b ∈ fo.flatten
    rw [← e1]; exact flat_get a1 a2
  · have hb : b ∈ (fpL ms fo).flatten := by rw [e1]; exact hb
    obtain ⟨f, hf, hb⟩ := List.mem_flatten.mp hb
    obtain ⟨i, hi⟩ := List.getElem?_of_mem hf
    exact ⟨i, by simp only [fs, hi]; exact hb⟩
theorem ioI_ge : ∀ {ms : List Nat} {i j : Nat}, j ∈ ioI i ms → i ≤ j
  | [], _, _, h => by simp [ioI] at h
  | 0 :: ms, i, j, h => by have := ioI_ge (show j ∈ ioI (i + 1) ms from h); omega
  | (k + 1) :: ms, i, j, h => by
    rcases List.mem_cons.mp (show j ∈ i :: ioI (i + 1) ms from h) with e | h
    · omega
    · have := ioI_ge h; omega
theorem ioI_nd : ∀ {ms : List Nat} {i : Nat}, (ioI i ms).Nodup
  | [], _ => List.nodup_nil
  | 0 :: ms, i => ioI_nd (ms := ms)
  | (k + 1) :: ms, i => List.nodup_cons.mpr ⟨fun h => by have := ioI_ge h; omega, ioI_nd⟩
theorem outs_fin (g : GS M F H io env σ fs) : ∀ {ms : List Nat} {vs : List V} {i : Nat}, vs.length = ms.length → okOuts ms (env.drop i) = true → (∀ p ∈ iosL i ms vs, p ∈ io) → OutsR M F H ms vs (outsOf ms (env.drop i)) ((ioI i ms).map fs)
  | [], [], i, _, _, _ => ⟨rfl, rfl, rfl⟩
  | [], _ :: _, _, h, _, _ => by simp at h
  | _ :: _, [], _, h, _, _ => by simp at h
  | 0 :: ms, v :: vs, i, l, ho, hp => by
    cases e : env.drop i with
    | nil => rw [e] at ho; simp [okOuts] at ho
    | cons s r =>
      have hr : r = env.drop (i + 1) := by rw [← List.tail_drop, e]; rfl
      rw [e, hr] at ho
      rw [hr]
      exact ⟨v, vs, rfl, outs_fin g (by simpa using l) ho hp⟩
  | (k + 1) :: ms, v :: vs, i, l, ho, hp => by
    cases e : env.drop i with
    | nil => rw [e] at ho; simp [okOuts] at ho
    | cons s r =>
      have hr : r = env.drop (i + 1) := by rw [← List.tail_drop, e]; rfl
      rw [e, hr] at ho
      cases s with
      | io j d =>
        have ho := Bool.and_eq_true_iff.mp (show (decide (j = k + 1) && okOuts ms (env.drop (i + 1))) = true from ho)
        have hj : j = k + 1 := by simpa using ho.1
        subst hj
        have he : env[i]? = some (.io (k + 1) d) := by
          have : (env.drop i)[0]? = some (.io (k + 1) d) := by rw [e]; rfl
          rw [List.getElem?_drop] at this
          simpa using this
        obtain ⟨w, ew, o⟩ := g.own (.inr he)
        have hv := (g.io (i, v) (hp _ (by simp [iosL]))).1
        rw [ew] at hv; cases hv
        rw [hr]
        exact ⟨d, _, _, vs, fs i, _, rfl, rfl, rfl, o, outs_fin g (by simpa using l) ho.2 fun p h => hp p (List.mem_cons_of_mem _ h)⟩
      | _ => simp [okOuts] at ho
end
/-- what a frame lets pass -/
structure PassOk (CXv : CXT) (P : Program) (w : World) : Prop where
  p : ∀ (K : PySem.W.Frag) (mg : Str → Option Value) (base : Heap) (N : List Str) (qual : Str) (scope : Scope) (f : Addr) (cd : Value) (A : Around) (outer : List PySem.Env) (s : Shared) (H : Hp) (E : XK), Passes CXv (cxOf CXv P w K mg base N qual scope f cd A outer s H E) E
  z : ∀ X', Passes CXv X' E0
theorem pass_CX0 {P : Program} {w : World} : PassOk CX0 P w := ⟨fun _ _ _ _ _ _ _ _ _ _ _ _ _ _ _ _ _ _ _ _ h => h.elim, fun _ _ _ _ _ _ _ _ h => h.elim⟩
theorem tk_cx {CXv : CXT} {P : Program} {w : World} {K : PySem.W.Frag} {mg : Str → Option Value} {base : Heap} {N : List Str} {qual : Str} {scope : Scope} {f : Addr} {cd : Value} {A : Around} {outer : List PySem.Env} {s : Shared} {H : Hp} {E : XK} (e : CXv = L2N.CX P w) :
    L2N.Takes (cxOf CXv P w K mg base N qual scope f cd A outer s H E) (fun cls d _ H => E cls d H) := by
  subst e
  exact L2N.takes_of rfl rfl rfl rfl
theorem pass_CXN {P : Program} {w : World} : PassOk (L2N.CX P w) P w where
  p := fun K mg base N qual scope f cd A outer s H E => L2N.passes_call (X := cxOf (L2N.CX P w) P w K mg base N qual scope f cd A outer s H E) (L2N.takes_of rfl rfl rfl rfl) fun _ _ _ _ h => h
  z := fun X' pins σ H s e s' _ h => by
    obtain ⟨_, _, _, _, _, _, _, _, _, _, _, _, z⟩ := h
    exact z.elim
/-- the names of the model that no def of the text takes -/
structure Blts (mg : Str → Option Value) : Prop where
  nb : ∀ b : Blt, mg b.nm = none
  nr : mg "range" = none
  ne : mg "enumerate" = none
  nz : mg "zip" = none
/-- A DEF: its code is checked against a body of the small language -/
theorem fn_sound {CXv : CXT} {P : Program} {w : World} {K : PySem.W.Frag} {mg : Str → Option Value} {base : Heap} {M : Mo} {x qual : Str} {params : Arguments} {body : List Stmt} {scope : Scope} {kws : List (Str × V)} {fa : Addr} {fd : FuncData} {N ps : List Str} {lv : Nat} {f : FnD} {b : S}
    (hM : M.K = K) (po : PassOk CXv P w) (B : Blts mg) (F : FunD K x qual params body scope [] kws fa fd) (hs : C8.scC N ps scope = true) (hl : ps.length = f.ms.length) (hc : chkS N scope f.rk b body = true)
    (hf : ∀ X : Cx, X.prog = P → X.w = w → X.K = K → X.mg = mg → X.base = base → Facts CXv X M lv b.needs) (hd : ∀ ds, f.den ds = run f.ms N.length b ds) :
    FnOk P w K mg base CXv (lv + 1) fa fd ps (Spec M f) := by
  have S := C8.fnScope_by hs
  refine F.ok S (fun vs H Q E ⟨ds, F, fo, h, _⟩ => by rw [h.len.1, hl]) fun cdv A outer s H vs Q E hr h => ?_
  obtain ⟨ds, Fz, fo, ha, nd, fn, fh, q⟩ := h
  let G : Fr := ⟨M, iosL 0 f.ms vs, E⟩
  have hn : f.ms.length ≤ N.length := by
    have := congrArg List.length S.pre
    rw [List.length_take] at this
    omega
  have cs : CS CXv (cxOf CXv P w K mg base N qual scope fa cdv A outer s H E) G N scope lv :=
    ⟨⟨hM.symm, rfl, rfl, rfl, S.nd, hr, B.nb, B.nr, B.ne, B.nz, po.p _ _ _ _ _ _ _ _ _ _ _ _ _, po.z⟩, passes_of rfl, fun _ => rfl, fun e => tk_cx (show CXv = L2N.CX P w from e), rfl, rfl⟩
  refine ⟨tS G f.rk (ex b), (soundS N f.rk b).b cs (hf _ rfl rfl rfl rfl rfl) hc, ?_⟩
  obtain ⟨fs, g, iff⟩ := gs_start (N := N) ha hn nd fn fh
  refine ⟨_, Fz, fs, g, ?_⟩
  obtain ⟨l1, l2⟩ := ha.len
  rw [hd, run, if_pos l2] at q
  have fin : ∀ {σ' : L2.St} {F' H' : Hp} {fs' : Ft} {env' : Env} {d : D} {v : V} {fr : List Addr}, GS M F' H' G.io env' σ' fs' → Step Fz H fs.at F' H' (atW fs' fr) → Own M F' H' f.rk d v fr → fr.Nodup → Apart fs' fr → (∀ b ∈ fr, F' b = none) →
      (match (if okOuts f.ms env' = true then Res.ok (d, outsOf f.ms env') else .stuck) with
        | .ok (r, outs) => ∀ v F' H' fo' fr, Step Fz H (inL fo) F' H' (fun b => b ∈ fo'.flatten ∨ b ∈ fr) → Same F' H' → OutsR M F' H' f.ms vs outs fo' → Own M F' H' f.rk r v fr → (fo'.flatten ++ fr).Nodup → (∀ b ∈ fo'.flatten ++ fr, F' b = none) → Q v H'
        | .exn c d => XP M E c d Fz H (inL fo)
        | .stuck => False) → Q v H' := by
    intro σ' F' H' fs' env' d v fr g' st o ndr ap fnr q
    split at q
    · rename_i r outs e
      split at e
      · rename_i ho
        cases e
        refine q v F' H' ((ioI 0 f.ms).map fs') fr (st.mono (fun b hb => (iff b).mp hb) fun b hb => ?_) g'.fh (outs_fin g' l1 (by simpa using ho) fun p hp => hp) o ?_ fun b hb => ?_
        · refine .inl ?_
          rcases hb with hb | hb
          · obtain ⟨i, _, hi⟩ := mem_ios (G := g') hb
            exact .inl ⟨i, hi⟩
          · exact .inr hb
        · rw [List.nodup_append]
          refine ⟨nodup_ios g' ioI_nd, ndr, fun a ha b hb z => ?_⟩
          subst z
          obtain ⟨i, _, hi⟩ := mem_ios (G := g') ha
          exact ap i a hi hb
        · rcases List.mem_append.mp hb with hb | hb
          · obtain ⟨i, _, hi⟩ := mem_ios (G := g') hb
            exact g'.fn i b hi
          · exact fnr b hb
      · cases e
    · rename_i e
      split at e <;> cases e
    · exact q.elim
  cases e : ex b (initS f.ms ds ++ List.replicate (N.length - f.ms.length) Sl.un) with
  | stuck => rw [e] at q; exact q
  | exn c d =>
    rw [e] at q
    have q : XP M E c d Fz H (inL fo) := q
    intro cls dx F' H' P' st s2 ex
    exact q cls dx F' H' P' (st.mono (fun b hb => (iff b).mp hb) fun b hb => .inl hb) s2 ex
  | ok o =>
    rw [e] at q
    cases o with
    | nx env' => exact fun σ' F' H' fs' g' st => fin (d := .non) (v := .non) (fr := []) g' (st.less fun b hb => hb.elim id fun z => by simp at z) (by cases f.rk <;> exact ⟨rfl, rfl⟩) List.nodup_nil (fun _ _ _ => by simp) (by simp) q
    | ret d env' => exact fun v σ' F' H' fs' fr g' st o ndr ap fnr => fin g' st o ndr ap fnr q
    | brk env' => exact q.elim
    | cnt env' => exact q.elim
end DL

-- part DLr
set_option Elab.async false
set_option linter.all false
set_option maxRecDepth 100000
set_option maxHeartbeats 1000000
/-! DL, part r: what the top leaves behind; the law's end. -/
namespace DL
open PySem PySem.Spec PyProof.Rows L2

/-- a def of the text: where its object stands, what the object says -/
structure Df where
  pl : PySem.W.Frag → Addr
  nm : Str
  ql : Str
  pr : Arguments
  bd : List Stmt
  sc : Scope
abbrev Says : Type := Addr × Addr × List (Str × Addr) × (Str × Str) × Scope × FuncBody × Arguments
def Df.want (d : Df) : Says := (mainGlobals, builtinsNs, [], (d.nm, d.ql), d.sc, .stmts d.bd, d.pr)
def saysOf (g : FuncData) : Says := (g.globals, g.builtins, g.closure, (g.name, g.qualname), g.scope, g.body, g.params)
def funAt (K : PySem.W.Frag) (a : Addr) : Option FuncData := match K.lookup a with
  | some o => (match o.data with
    | .func g => some g
    | _ => none)
  | none => none
def isNo : Value → Bool
  | .none => true
  | _ => false
def Df.sure (K : PySem.W.Frag) (d : Df) : Bool := match funAt K (d.pl K) with
  | some g => isNo g.defaults && (PySem.W.keepIn K (.ref (d.pl K)) && PySem.W.codeIn K g.code d.ql)
  | none => false
def Df.look (K : PySem.W.Frag) (d : Df) : Option Says := (funAt K (d.pl K)).map saysOf
abbrev Df.Has (K : PySem.W.Frag) (d : Df) : Prop := ∃ fd, FunD K d.nm d.ql d.pr d.bd d.sc [] [] (d.pl K) fd
theorem Df.has {K : PySem.W.Frag} {d : Df} (e : d.look K = some d.want) (c : d.sure K = true) : d.Has K := by
  unfold Df.sure at c
  unfold Df.look at e
  cases q : funAt K (d.pl K) with
  | none => rw [q] at c; cases c
  | some g =>
    rw [q] at c e
    obtain ⟨c1, c2⟩ := Bool.and_eq_true_iff.mp c
    obtain ⟨c4, c3⟩ := Bool.and_eq_true_iff.mp c2
    unfold funAt at q
    cases z : K.lookup (d.pl K) with
    | none => rw [z] at q; cases q
    | some o =>
      rw [z] at q
      obtain ⟨oc, od, dt, sl⟩ := o
      cases dt with
      | func g' =>
        cases q
        have e2 : saysOf g = d.want := Option.some.inj e
        obtain ⟨xa, xb, xc, xd, xe, xf, xg, dV, kV, xj, xk, xl, xm, xo, xp⟩ := g
        simp only [saysOf, Df.want, Prod.mk.injEq] at e2
        obtain ⟨a1, a2, a3, ⟨a4, a5⟩, a6, a7, a8⟩ := e2
        subst a1 a2 a3 a4 a5 a6 a7 a8
        have hd : dV = Value.none := by
          cases dV <;> first | rfl | (simp [isNo] at c1)
        exact ⟨_, ⟨oc, od, dV, _, _, _, _, _, _, sl, rfl, z, c3, .inl ⟨rfl, hd⟩, .inl rfl⟩, c4⟩
      | _ => cases q
/-- the watch -/
def watchK (n : Nat) (g : Addr → Option Obj) : PySem.W.Frag := He.frG g (cStatics :: He.asD g n)
def sees (ck : PySem.W.Frag → Bool) (ds : List Df) (K : PySem.W.Frag) : Bool × List (Option Says) := (ck K && ds.all fun d => d.sure K, ds.map fun d => d.look K)
def wants (ds : List Df) : Bool × List (Option Says) := (true, ds.map fun d => some d.want)
theorem sees_has {ck : PySem.W.Frag → Bool} {ds : List Df} {K : PySem.W.Frag} (e : sees ck ds K = wants ds) : ck K = true ∧ ∀ d ∈ ds, d.Has K := by
  obtain ⟨h1, h2⟩ := Bool.and_eq_true_iff.mp (show (ck K && ds.all fun d => d.sure K) = true from congrArg Prod.fst e)
  have h3 : ds.map (fun d => d.look K) = ds.map fun d => some d.want := congrArg Prod.snd e
  refine ⟨h1, fun d hd => ?_⟩
  exact Df.has (List.map_inj_left.mp h3 d hd) (List.all_eq_true.mp h2 d hd)
abbrev Seen : Type := (Bool × List (Option Says)) × List (Option (List (Option (Str × Int))))
def seesT (ck : PySem.W.Frag → Bool) (ds : List Df) (ts : List He.Tab) (K : PySem.W.Frag) : Seen := (sees ck ds K, ts.map fun t => He.dicW K (t.1 K))
def wantsT (ds : List Df) (ts : List He.Tab) (w : World) : Seen := (wants ds, ts.map fun t => some (He.keysIn w.params t.2))
def TabsOk (w : World) (K : PySem.W.Frag) (ts : List He.Tab) : Prop := ∀ t ∈ ts, He.dicW K (t.1 K) = some (He.keysIn w.params t.2)
def watch (n : Nat) (ck : PySem.W.Frag → Bool) (ds : List Df) (ts : List He.Tab) : PySem.W.Hook where
  α := Seen
  obs s := seesT ck ds ts (watchK n s.heap.get?)
  val w := wantsT ds ts w
  says w h := ∃ K : PySem.W.Frag, K.In h ∧ ck K = true ∧ (∀ d ∈ ds, d.Has K) ∧ TabsOk w K ts
  of _ _ e := ⟨_, He.frG_in, (sees_has (congrArg Prod.fst e)).1, (sees_has (congrArg Prod.fst e)).2, fun t ht => List.map_inj_left.mp (congrArg Prod.snd e) t ht⟩
  keeps _ _ _ := fun ⟨K, i, c⟩ k => ⟨K, i.keeps k, c⟩
def watchT (n : Nat) (ck : PySem.W.Frag → Bool) (ds : List Df) (ts : List He.Tab) (s : PySem.W.SharedT) : Seen := seesT ck ds ts (watchK n (HandSHeadRun.getT s))
theorem watchT_eq {n : Nat} {ck : PySem.W.Frag → Bool} {ds : List Df} {ts : List He.Tab} (s : PySem.W.SharedT) : watchT n ck ds ts s = (watch n ck ds ts).obs s.abs := by
  show seesT ck ds ts (watchK n _) = seesT ck ds ts (watchK n _)
  rw [show HandSHeadRun.getT s = s.abs.heap.get? from funext (HandSHeadRun.getT_eq s)]
/-! ### classes: properties, operators -/
def propA (K : PySem.W.Frag) (C : Addr) (f : Str) : Addr := He.ma K C f
def getA (K : PySem.W.Frag) (C : Addr) (f : Str) : Addr := match PySem.W.recIn K (propA K C f) "property" with
  | some (.ref g :: _) => g
  | _ => 0
def propB (K : PySem.W.Frag) (C : Addr) (f : Str) : Bool :=
  decide (PySem.W.findIn K (.ref C) f = some (some (.ref (propA K C f)))) && decide (PySem.W.specialIn K (.ref (propA K C f)) "__get__" = some (some (.builtin "property.__get__"))) &&
  decide (PySem.W.takesIn K (.ref (propA K C f)) = some true) && (match PySem.W.recIn K (propA K C f) "property" with
    | some (.ref _ :: _) => true
    | _ => false)
theorem propB_ok {K : PySem.W.Frag} {C : Addr} {f : Str} (h : propB K C f = true) : PropOf K C f (propA K C f) (getA K C f) := by
  simp only [propB, Bool.and_eq_true, decide_eq_true_eq] at h
  obtain ⟨⟨⟨h1, h2⟩, h3⟩, h4⟩ := h
  refine ⟨h1, h2, h3, ?_⟩
  unfold getA
  split at h4
  · rename_i g r e
    rw [e]; exact ⟨r, rfl⟩
  · cases h4
def opB (K : PySem.W.Frag) (C : Addr) (m : Str) : Bool := decide (PySem.W.findIn K (.ref C) m = some (some (.ref (He.ma K C m)))) && PySem.W.isFn K (.ref (He.ma K C m))
theorem opB_ok {K : PySem.W.Frag} {C : Addr} {m : Str} (h : opB K C m = true) : PySem.W.findIn K (.ref C) m = some (some (.ref (He.ma K C m))) ∧ PySem.W.isFn K (.ref (He.ma K C m)) = true := by
  simpa [opB] using h
/-! ### the facts that a body leans on -/
/-- so much is at hand, in every frame -/
def Avl (CXv : CXT) (P : Program) (w : World) (K : PySem.W.Frag) (mg : Str → Option Value) (base : Heap) (M : Mo) (lv : Nat) (f : Fact) : Prop := ∀ X : Cx, X.prog = P → X.w = w → X.K = K → X.mg = mg → X.base = base → FactOk CXv X M lv f
section
variable {CXv : CXT} {P : Program} {w : World} {K : PySem.W.Frag} {mg : Str → Option Value} {base : Heap} {M : Mo} {lv k c : Nat} {f : FnD} {fa C : Addr} {fd : FuncData} {ps : List Str}
theorem fnF_of {X : Cx} (h1 : X.prog = P) (h2 : X.w = w) (h3 : X.K = K) (h4 : X.mg = mg) (h5 : X.base = base) (F : FnOk P w K mg base CXv k fa fd ps (Spec M f)) (hk : k + 2 ≤ lv) (b : Binds K fd ps []) : FnF CXv X M lv f fa := by
  subst h1 h2 h3 h4 h5
  exact ⟨k, fd, ps, F, hk, b⟩
theorem av_gl (F : FnOk P w K mg base CXv k fa fd ps (Spec M f)) (hk : k + 2 ≤ lv) (b : Binds K fd ps []) (hm : mg f.name = some (.ref fa)) (hp : PySem.W.keepIn K (.ref fa) = true) : Avl CXv P w K mg base M lv (.gl f) := fun X h1 h2 h3 h4 h5 =>
  ⟨fa, fnF_of h1 h2 h3 h4 h5 F hk b, by rw [h4]; exact hm, by rw [h3]; exact hp⟩
theorem av_mt (F : FnOk P w K mg base CXv k fa fd ps (Spec M f)) (hk : k + 2 ≤ lv) (b : Binds K fd ps []) (hc : M.cl c = some C) (cl : Cls K C) (me : Meth K C f.name fa) : Avl CXv P w K mg base M lv (.mt c f) := fun X h1 h2 h3 h4 h5 =>
  ⟨C, fa, hc, by rw [h3]; exact cl, by rw [h3]; exact me, fnF_of h1 h2 h3 h4 h5 F hk b⟩
theorem av_pr {pp : Addr} (F : FnOk P w K mg base CXv k fa fd ps (Spec M f)) (hk : k + 2 ≤ lv) (b : Binds K fd ps []) (hc : M.cl c = some C) (cl : Cls K C) (me : PropOf K C f.name pp fa) : Avl CXv P w K mg base M lv (.pr c f) := fun X h1 h2 h3 h4 h5 =>
  ⟨C, pp, fa, hc, by rw [h3]; exact cl, by rw [h3]; exact me, fnF_of h1 h2 h3 h4 h5 F hk b⟩
theorem av_ln (F : FnOk P w K mg base CXv k fa fd ps (Spec M f)) (hk : k + 2 ≤ lv) (b : Binds K fd ps []) (hc : M.cl c = some C) (me : PySem.W.findIn K (.ref C) "__len__" = some (some (.ref fa))) (fn : PySem.W.isFn K (.ref fa) = true) : Avl CXv P w K mg base M lv (.ln c f) := fun X h1 h2 h3 h4 h5 =>
  ⟨C, fa, hc, by rw [h3]; exact me, by rw [h3]; exact fn, fnF_of h1 h2 h3 h4 h5 F hk b⟩
theorem av_ad (F : FnOk P w K mg base CXv k fa fd ps (Spec M f)) (hk : k + 2 ≤ lv) (b : Binds K fd ps []) (hc : M.cl c = some C) (sf : PySem.W.selfFirst K C = true) (me : PySem.W.findIn K (.ref C) (PySem.dunder Operator.Add.info.2) = some (some (.ref fa))) (fn : PySem.W.isFn K (.ref fa) = true) : Avl CXv P w K mg base M lv (.ad c f) := fun X h1 h2 h3 h4 h5 =>
  ⟨C, fa, hc, by rw [h3]; exact sf, by rw [h3]; exact me, by rw [h3]; exact fn, fnF_of h1 h2 h3 h4 h5 F hk b⟩
theorem av_eq (F : FnOk P w K mg base CXv k fa fd ps (Spec M f)) (hk : k + 2 ≤ lv) (b : Binds K fd ps []) (hc : M.cl c = some C) (ic : IsC K C) (me : PySem.W.findIn K (.ref C) "__eq__" = some (some (.ref fa))) (fn : PySem.W.isFn K (.ref fa) = true) : Avl CXv P w K mg base M lv (.eq c f) := fun X h1 h2 h3 h4 h5 =>
  ⟨C, fa, hc, by rw [h3]; exact ic, by rw [h3]; exact me, by rw [h3]; exact fn, fnF_of h1 h2 h3 h4 h5 F hk b⟩
theorem av_mk (F : FnOk P w K mg base CXv k fa fd ps (Spec M f)) (hk : k + 2 ≤ lv) (b : Binds K fd ps []) (hc : M.cl c = some C) (mk : Mk K C fa) (hm : mg f.name = some (.ref C)) : Avl CXv P w K mg base M lv (.mk c f) := fun X h1 h2 h3 h4 h5 =>
  ⟨C, fa, hc, by rw [h3]; exact mk, by rw [h4]; exact hm, fnF_of h1 h2 h3 h4 h5 F hk b⟩
/-- isinstance of an own class, as a check -/
def isB (K : PySem.W.Frag) (C : Addr) : Bool :=
  decide (PySem.W.findIn K (.ref C) "__class__" = some (some (.builtin "object.__class__"))) && (decide (PySem.W.specialIn K (.builtin "object.__class__") "__get__" = some (some (.builtin "getset_descriptor.__get__"))) && (decide (PySem.W.takesIn K (.builtin "object.__class__") = some true) && (decide (PySem.W.mroIn K C (.type "object") = some true) &&
    (decide (PySem.W.kitOne K (.ref C) (.ref C) = some true) && bTys.all fun T => decide (PySem.W.kitOne K (.type T) (.ref C) = some false)))))
theorem isB_ok (cl : Cls K C) (h : isB K C = true) : IsC K C := by
  simp only [isB, Bool.and_eq_true, decide_eq_true_eq, List.all_eq_true] at h
  exact ⟨⟨cl, h.1, h.2.1, h.2.2.1, h.2.2.2.1, h.2.2.2.2.1⟩, h.2.2.2.2.2⟩
theorem av_ng {x : Str} (h : mg x = none) : Avl CXv P w K mg base M lv (.ng x) := fun X h1 h2 h3 h4 h5 => by
  show X.mg x = none
  rw [h4]; exact h
theorem av_is {x : Str} (hc : M.cl c = some C) (ic : IsC K C) (hm : mg "isinstance" = none) (hg : mg x = some (.ref C)) : Avl CXv P w K mg base M lv (.is c x) := fun X h1 h2 h3 h4 h5 =>
  ⟨C, hc, by rw [h3]; exact ic, by rw [h4]; exact hm, by rw [h4]; exact hg⟩
theorem av_gci {x : Str} {i : Int} (h : ∃ t, mg x = some (.int i t)) : Avl CXv P w K mg base M lv (.gc x (.int i)) := fun X h1 h2 h3 h4 h5 => by
  obtain ⟨t, e⟩ := h
  exact ⟨_, .int i, by rw [h4]; exact e, ⟨t, rfl⟩, fun _ _ => by simp [Rep]⟩
theorem av_gcs {x z : Str} (h : ∃ t, mg x = some (.str z t)) : Avl CXv P w K mg base M lv (.gc x (.str z)) := fun X h1 h2 h3 h4 h5 => by
  obtain ⟨t, e⟩ := h
  exact ⟨_, .str z, by rw [h4]; exact e, ⟨t, rfl⟩, fun _ _ => by simp [Rep]⟩
/-- an entry: a text, a number -/
def entOf (e : DictEntry) : Option (Str × Int) := match e.key, e.val with
  | .str x _, .int i _ => some (x, i)
  | _, _ => none
def tabB (K : PySem.W.Frag) (a : Addr) (kvs : List (Str × Int)) : Bool := match K.lookup a with
  | some ⟨_, _, .dict es _, _⟩ => decide (es.toList.map entOf = kvs.map some)
  | _ => false
theorem ent_find {z : Str} : ∀ {l : List DictEntry} {kvs : List (Str × Int)}, l.map entOf = kvs.map some → (match l.find? (·.key.isStr z) with
    | some e => ∃ i t, kvs.lookup z = some i ∧ e.val = .int i t
    | none => kvs.lookup z = none) ∧ l.any (·.refKey) = false
  | [], [], _ => ⟨rfl, rfl⟩
  | [], _ :: _, h => by cases h
  | _ :: _, [], h => by cases h
  | e :: l, (x, i) :: kvs, h => by
    simp only [List.map_cons, List.cons.injEq] at h
    obtain ⟨h1, h2⟩ := h
    obtain ⟨i1, i2⟩ := ent_find (z := z) h2
    unfold entOf at h1
    split at h1
    · rename_i x' t i' t' q1 q2
      have h1 := Option.some.inj h1
      obtain ⟨rfl, rfl⟩ := Prod.mk.inj h1
      have hk : e.key.isStr z = (x' == z) := by rw [q1]; rfl
      refine ⟨?_, ?_⟩
      · rw [List.find?_cons, hk, List.lookup_cons]
        by_cases c : x' = z
        · subst c
          have c1 : (x' == x') = true := beq_self_eq_true x'
          rw [c1]
          exact ⟨_, _, rfl, q2⟩
        · have c1 : (x' == z) = false := beq_eq_false_iff_ne.mpr c
          have c2 : (z == x') = false := beq_eq_false_iff_ne.mpr fun w => c w.symm
          rw [c1, c2]
          exact i1
      · rw [List.any_cons, i2]
        have : e.refKey = false := by
          show (match e.key with | .ref _ => true | _ => false) = false
          rw [q1]
        rw [this]; rfl
    · cases h1
theorem av_dg {x : Str} {a : Addr} {kvs : List (Str × Int)} {ks : List Str} (hm : mg x = some (.ref a)) (ht : He.dicW K a = some (He.keysIn w.params ks)) (hv : tabB K a kvs = true) : Avl CXv P w K mg base M lv (.dg x kvs) := fun X h1 h2 h3 h4 h5 => by
  subst h2 h3
  obtain ⟨es, n, D⟩ := He.dicW_ok ht
  have hv2 : es.toList.map entOf = kvs.map some := by
    unfold tabB at hv
    rw [D.at_] at hv
    exact of_decide_eq_true hv
  refine ⟨a, es, n, by rw [h4]; exact hm, D, fun z => ?_⟩
  obtain ⟨f1, f2⟩ := ent_find (z := z) hv2
  unfold PySem.W.nsIn
  rw [D.at_]
  dsimp only
  cases q : es.toList.find? (·.key.isStr z) with
  | some e =>
    rw [q] at f1
    obtain ⟨i, t, g1, g2⟩ := f1
    refine ⟨some e.val, rfl, ?_⟩
    rw [g1]
    exact ⟨_, rfl, by rw [g2]; exact ⟨t, rfl⟩⟩
  | none =>
    rw [q] at f1
    refine ⟨none, by rw [f2]; rfl, ?_⟩
    have f1 : kvs.lookup z = none := f1
    rw [f1]
theorem av_fd {x : Str} (hc : M.cl c = some C) (cl : Cls K C) (na : NoAttr K C x) : Avl CXv P w K mg base M lv (.fd c x) := fun X h1 h2 h3 h4 h5 =>
  ⟨C, hc, by rw [h3]; exact cl, by rw [h3]; exact na⟩
theorem kb_of {x ql : Str} {pr : Arguments} {bd : List Stmt} {sc : Scope} {kws : List (Str × V)} (F : FunD K x ql pr bd sc [] kws fa fd) (n : Nat) (ks : List Str) (pm : List Nat)
    (h : ∀ (kV doc pm' : Value) (an : Option Addr) (cdv ct : Value) (us ws : List Value), us.length = n → ws.length = ks.length → bindArgs (PySem.W.fnOf x ql pr bd sc .none kV doc pm' an cdv ct) ⟨us, ks.zip ws⟩ = pure (ps.zip (us ++ permL pm ws))) :
    KBn K fd ps n ks (fun us ws => us ++ permL pm ws) (fun vs zs => vs ++ permL pm zs) := by
  obtain ⟨oc, od, dV, kV, doc, pm', an, cdv, ct, osl, rfl, lk, hcd, hD, hK⟩ := F.ex
  rcases hD with ⟨_, rfl⟩ | ⟨e, _⟩
  · exact ⟨fun s us ws _ l1 l2 => .of_eq (h kV doc pm' an cdv ct us ws l1 l2), fun r1 r2 => r1.append (permL_vals r2)⟩
  · exact absurd rfl e
section
variable {n : Nat} {ks : List Str} {pm : List Nat}
theorem kwF_of {X : Cx} (h1 : X.prog = P) (h2 : X.w = w) (h3 : X.K = K) (h4 : X.mg = mg) (h5 : X.base = base) (F : FnOk P w K mg base CXv k fa fd ps (Spec M f)) (hk : k + 2 ≤ lv) (b : KBn K fd ps n ks (fun us ws => us ++ permL pm ws) (fun vs zs => vs ++ permL pm zs)) : KwF CXv X M lv f n ks pm fa := by
  subst h1 h2 h3 h4 h5
  exact ⟨k, fd, ps, F, hk, b⟩
theorem av_gk (F : FnOk P w K mg base CXv k fa fd ps (Spec M f)) (hk : k + 2 ≤ lv) (b : KBn K fd ps 0 ks (fun us ws => us ++ permL pm ws) (fun vs zs => vs ++ permL pm zs)) (hm : mg f.name = some (.ref fa)) (hp : PySem.W.keepIn K (.ref fa) = true) : Avl CXv P w K mg base M lv (.gk f ks pm) := fun X h1 h2 h3 h4 h5 =>
  ⟨fa, kwF_of h1 h2 h3 h4 h5 F hk b, by rw [h4]; exact hm, by rw [h3]; exact hp⟩
theorem av_mtk (F : FnOk P w K mg base CXv k fa fd ps (Spec M f)) (hk : k + 2 ≤ lv) (b : KBn K fd ps 1 ks (fun us ws => us ++ permL pm ws) (fun vs zs => vs ++ permL pm zs)) (hc : M.cl c = some C) (cl : Cls K C) (me : Meth K C f.name fa) : Avl CXv P w K mg base M lv (.mtk c f ks pm) := fun X h1 h2 h3 h4 h5 =>
  ⟨C, fa, hc, by rw [h3]; exact cl, by rw [h3]; exact me, kwF_of h1 h2 h3 h4 h5 F hk b⟩
theorem av_mkk (F : FnOk P w K mg base CXv k fa fd ps (Spec M f)) (hk : k + 2 ≤ lv) (b : KBn K fd ps 1 ks (fun us ws => us ++ permL pm ws) (fun vs zs => vs ++ permL pm zs)) (hc : M.cl c = some C) (mk : Mk K C fa) (hm : mg f.name = some (.ref C)) : Avl CXv P w K mg base M lv (.mkk c f ks pm) := fun X h1 h2 h3 h4 h5 =>
  ⟨C, fa, hc, by rw [h3]; exact mk, by rw [h4]; exact hm, kwF_of h1 h2 h3 h4 h5 F hk b⟩
end
def Avls (CXv : CXT) (P : Program) (w : World) (K : PySem.W.Frag) (mg : Str → Option Value) (base : Heap) (M : Mo) (lv : Nat) (l : List Fact) : Prop := ∀ f ∈ l, Avl CXv P w K mg base M lv f
theorem avn : Avls CXv P w K mg base M lv [] := fun _ h => by cases h
theorem avc {x : Fact} {l : List Fact} (h : Avl CXv P w K mg base M lv x) (t : Avls CXv P w K mg base M lv l) : Avls CXv P w K mg base M lv (x :: l) := fun f hf => by
  rcases List.mem_cons.mp hf with e | hf
  · subst e; exact h
  · exact t f hf
/-- the def of a datum -/
theorem df_ok {d : Df} {N : List Str} {b : S} (po : PassOk CXv P w) (B : Blts mg) (hM : M.K = K) (F : FunD K d.nm d.ql d.pr d.bd d.sc [] [] (d.pl K) fd) (hs : C8.scC N ps d.sc = true) (hl : ps.length = f.ms.length) (hc : chkS N d.sc f.rk b d.bd = true)
    (hf : Avls CXv P w K mg base M lv b.needs) (hd : ∀ ds, f.den ds = run f.ms N.length b ds) : FnOk P w K mg base CXv (lv + 1) (d.pl K) fd ps (Spec M f) :=
  fn_sound hM po B F hs hl hc (fun X h1 h2 h3 h4 h5 g hg => hf g hg X h1 h2 h3 h4 h5) hd
end
/-! ### the law -/
theorem rep_ints {M : Mo} {F : Hp} : ∀ {ns : List Int}, Fa2 (Rep M F) (ns.map .int) (ns.map V.int)
  | [] => rfl
  | n :: ns => ⟨_, _, rfl, rfl, rep_ints⟩
theorem law_end {K : PySem.W.Frag} {M : Mo} {f : FnD} (hM : M.K = K) (hm : f.ms = [0]) (h : ∀ ns : List Int, ns.length ≤ 63 → f.den [.nd .scr (ns.map .int)] = .ok (.bl true, [])) (H : Hp) (a : Addr) (ns : List Int) (hl : ns.length ≤ 63) (hS : SqL K H a (ns.map V.int)) :
    Spec M f [.ref a] H (fun v _ => v = .bl true) fun _ _ _ => False := by
  refine ⟨[.nd .scr (ns.map .int)], H, [], ?_, List.nodup_nil, by simp, Same.refl H, ?_⟩
  · rw [hm]
    exact ⟨_, [], _, [], rfl, rfl, Rep.nd_iff.mpr ⟨a, _, rfl, by subst hM; exact hS, rep_ints⟩, rfl, rfl, rfl⟩
  · rw [h ns hl]
    intro v F' H' fo' fr _ s2 _ o _ _
    exact (o.rw).bl
end DL

-- part DLrx
set_option Elab.async false
set_option linter.all false
set_option maxRecDepth 100000
set_option maxHeartbeats 1000000
/-! DL, part rx: own classes of exceptions, by what the top leaves behind. -/
namespace DL
open PySem PySem.Spec PyProof.Rows L2
def slB : List (Option Value) → Bool
  | [_, _, _, _, some (.builtin i), _] => i == "ValueError.__new__"
  | _ => false
def mroB (C : Addr) : List Value → Bool
  | .ref C' :: bm => decide (C' = C) && HandSPX.refsVE bm
  | _ => false
def clsB (K : PySem.W.Frag) (C : Addr) : Bool := match K.lookup C with
  | some ⟨.type t, _, .cls cd, sl⟩ => (t == "type") && (mroB C cd.mro && (cd.hasDict && !cd.hasDel)) && slB sl.toList
  | _ => false
def oexB (K : PySem.W.Frag) (C : Addr) : Bool := clsB K C && (decide (PySem.W.findIn K (.ref C) "__setattr__" = some (some (.builtin "object.__setattr__"))) && (decide (PySem.W.subIn K (.ref C) (.type "BaseException") = some true) && (decide (PySem.W.typeIn K (.ref C) = some (.type "type")) && PySem.W.keepIn K (.ref C))))
theorem oexB_ok {K : PySem.W.Frag} {C : Addr} (h : oexB K C = true) : OexC K C := by
  simp only [oexB, Bool.and_eq_true, decide_eq_true_eq] at h
  obtain ⟨h0, h1, h2, h3, h4⟩ := h
  refine ⟨?_, h1, h2, h3, h4⟩
  unfold clsB at h0
  split at h0
  · rename_i t dd cd sl e
    simp only [Bool.and_eq_true, beq_iff_eq, Bool.not_eq_true'] at h0
    obtain ⟨⟨rfl, h5, h6, h7⟩, h8⟩ := h0
    obtain ⟨nm, bs, mro, ns, qn, hd, sn, sb, ab, col, del⟩ := cd
    simp only at h5 h6 h7
    subst h6 h7
    unfold mroB at h5
    split at h5
    · rename_i C' bm
      simp only [Bool.and_eq_true, decide_eq_true_eq] at h5
      obtain ⟨rfl, h5⟩ := h5
      obtain ⟨l⟩ := sl
      have h8 : slB l = true := h8
      unfold slB at h8
      split at h8
      · rename_i k0 k1 k2 k3 i k5 _
        have h8 := beq_iff_eq.mp h8
        subst h8
        exact ⟨nm, qn, ns, bs, bm, sn, sb, ab, col, dd, k0, k1, k2, k3, k5, e, h5⟩
      · cases h8
    · cases h5
  · cases h0
def excB (K : PySem.W.Frag) (C : Addr) : Bool := decide (PySem.W.findIn K (.ref C) "__getattribute__" = some (some (.builtin "BaseException.__getattribute__"))) && (decide (PySem.W.findIn K (.ref C) "__getattr__" = some none) && (decide (PySem.W.subIn K (.ref C) (.type "BaseException") = some true) && (PySem.W.hasDictIn K C &&
  (decide (PySem.W.findIn K (.ref C) "__class__" = some (some (.builtin "object.__class__"))) && (decide (PySem.W.specialIn K (.builtin "object.__class__") "__get__" = some (some (.builtin "getset_descriptor.__get__"))) && (decide (PySem.W.takesIn K (.builtin "object.__class__") = some true) && decide (PySem.W.mroIn K C (.type "object") = some true)))))))
theorem excB_ok {K : PySem.W.Frag} {C : Addr} (h : excB K C = true) : ExcC K C := by
  simp only [excB, Bool.and_eq_true, decide_eq_true_eq] at h
  obtain ⟨h1, h2, h3, h4, h5, h6, h7, h8⟩ := h
  exact ⟨h1, h2, h3, h4, h5, h6, h7, h8⟩
/-- the def of __init__ -/
def bodyB : List Stmt → Bool
  | [.Expr (.Call (.Attribute (.Call (.Name a _) [] [] _) b p2) [.Name c _] [] p4) _, .Assign [.Attribute (.Name d _) e _] (.Name f _) _] =>
    decide (a = ("super" : Str)) && decide (b = ("__init__" : Str)) && decide (c = ("value" : Str)) && decide (d = ("self" : Str)) && decide (e = ("value" : Str)) && decide (f = ("value" : Str)) && (p2.endLine == p4.line)
  | _ => false
def parsB : Arguments → Bool
  | ⟨[], [⟨a, none, _⟩, ⟨b, none, _⟩], none, [], [], none, []⟩ => decide (a = ("self" : Str)) && decide (b = ("value" : Str))
  | _ => false
def fileB (file : Str) (K : PySem.W.Frag) (cda : Addr) : Bool := match K.lookup cda with
  | some ⟨_, _, .fields vs, _⟩ => (match (vs[2]? : Option Value) with
    | some (.str f _) => file == f
    | _ => false)
  | _ => false
def cellB (K : PySem.W.Frag) (cc D : Addr) : Bool := match K.lookup cc with
  | some ⟨_, _, .cell (some (.ref D')), _⟩ => decide (D' = D)
  | _ => false
def fdB (file : Str) (K : PySem.W.Frag) (D : Addr) (fd : FuncData) : Bool := match fd.closure, fd.code, fd.body with
  | [(n, cc)], .ref cda, .stmts b => (decide (n = ("__class__" : Str)) && decide (fd.globals = mainGlobals) && decide (fd.builtins = builtinsNs)) && (isNo fd.defaults && isNo fd.kwdefaults && fd.annotations.isNone) && (bodyB b && parsB fd.params) &&
    (NdefX.nscB ["self", "value", "__class__"] ["self", "value"] ["__class__"] fd.scope && decide (fd.scope.names.lookup ("super" : Str) = some .globalImplicit)) && (PySem.W.codeIn K fd.code fd.qualname && fileB file K cda && cellB K cc D)
  | _, _, _ => false
def iniB (file : Str) (K : PySem.W.Frag) (D : Addr) : Bool := (match K.lookup (He.ma K D "__init__") with
  | some ⟨_, _, .func fd, _⟩ => fdB file K D fd
  | _ => false) && ((PySem.W.clsIn K D).isSome && decide (PySem.W.nsIn K cStatics "thirdparty.any" = some none))
theorem isNo_eq {v : Value} (h : isNo v = true) : v = .none := by
  cases v <;> first | rfl | (simp [isNo] at h)
theorem iniB_ok {P : Program} {K : PySem.W.Frag} {mg : Str → Option Value} {D : Addr} {file : Str} (h : iniB file K D = true) (hf : (P.main.file : Str) = file) (ht : (P.main.scope.names.lookup ("super" : Str)).isSome = false) (hm : mg "super" = none) :
    ∃ fd, IniF P K mg D (He.ma K D "__init__") fd ∧ Binds K fd ["self", "value"] [] := by
  simp only [iniB, Bool.and_eq_true, decide_eq_true_eq] at h
  obtain ⟨h0, h1, h2⟩ := h
  split at h0
  · rename_i oc od fd osl e
    obtain ⟨name, qual, params, body, scope, globals, closure, defaults, kwdefaults, doc, pm, an, code, ctv, builtins⟩ := fd
    unfold fdB at h0
    dsimp only at h0
    split at h0
    · rename_i n cc cda b
      simp only [Bool.and_eq_true, decide_eq_true_eq] at h0
      obtain ⟨⟨⟨⟨⟨⟨rfl, rfl⟩, rfl⟩, ⟨a4, a5⟩, a6⟩, a7, a8⟩, a9, a10⟩, ⟨a11, a12⟩, a13⟩ := h0
      have e4 := isNo_eq a4
      have e5 := isNo_eq a5
      subst e4 e5
      have e6 : an = none := by
        cases an with
        | none => rfl
        | some _ => cases a6
      subst e6
      unfold bodyB at a7
      split at a7
      · rename_i q1 q2 q3 q4 q5 q6 q7 q8 q9 q10 q11 q12 q13 q14 q15 q16
        simp only [Bool.and_eq_true, decide_eq_true_eq] at a7
        unfold parsB at a8
        split at a8
        · rename_i r1 r2 r3 r4
          simp only [Bool.and_eq_true, decide_eq_true_eq] at a8
          obtain ⟨rfl, rfl⟩ := a8
          obtain ⟨⟨⟨⟨⟨⟨b1, b2⟩, b3⟩, b4⟩, b5⟩, b6⟩, b7⟩ := a7
          subst b1 b2 b3 b4 b5 b6
          refine ⟨_, ⟨⟨oc, od, osl, name, qual, _, scope, doc, pm, ctv, cc, cda, _, _, _, _, _, _, _, _, _, _, _, _, rfl, e, rfl, a9, a10, a11, ?_, ?_, b7⟩, Option.isSome_iff_exists.mp h1, hm, h2, ht⟩, Binds.all fun us hl => match us, hl with | [_, _], _ => rfl⟩
          · unfold fileB at a12
            split at a12
            · rename_i ccl cdd vs ccs e2
              split at a12
              · rename_i f tf e3
                exact ⟨_, _, vs, _, f, tf, e2, e3, by rw [hf]; exact a12⟩
              · cases a12
            · cases a12
          · unfold cellB at a13
            split at a13
            · rename_i cl cld D' csl e2
              have := of_decide_eq_true a13
              subst this
              exact ⟨_, _, _, e2⟩
            · cases a13
        · cases a8
      · cases a7
    · cases h0
  · cases h0
/-! ### all classes of exceptions -/
def oneX (K : PySem.W.Frag) (D : Addr) (xs : Cls2) (p : Nat × Str) : Bool :=
  (oexB K (He.ga K p.2) && (decide (PySem.W.mroIn K (He.ga K p.2) (.ref D) = some true) && (decide (PySem.W.ks_superIn K (He.ga K p.2) D "__init__" = some (some (.builtin "ValueError.__init__"))) && (decide (PySem.W.subIn K (.ref (He.ga K p.2)) (.type "ValueError") = some true) &&
    (decide (PySem.W.findIn K (.ref (He.ga K p.2)) "value" = some none) && (decide (PySem.W.findIn K (.ref (He.ga K p.2)) "__init__" = some (some (.ref (He.ma K D "__init__")))) && (excB K (He.ga K p.2) && decide (PySem.W.kitOne K (.ref (He.ga K p.2)) (.type "ValueError") = some true)))))))) &&
  ((xs.all fun q => decide (q.1 = 20) || decide (PySem.W.kitOne K (.ref (He.ga K p.2)) (.ref (He.ga K q.2)) = some (decide (p.1 = q.1)))) && (xs.all fun q => decide (PySem.W.exmOne K (.ref (He.ga K p.2)) (.ref (He.ga K q.2)) = some (decide (q.1 = 20) || decide (q.1 = p.1)))))
def xsB (file : Str) (xs : Cls2) (K : PySem.W.Frag) : Bool := iniB file K (He.ga K "SizeError") && (decide (PySem.W.typeIn K (.ref (He.ma K (He.ga K "SizeError") "__init__")) = some (.type "function")) && xs.all fun p => oneX K (He.ga K "SizeError") xs p)
def clX (K : PySem.W.Frag) (xs : Cls2) (c : Nat) : Option Addr := (xs.find? fun p => p.1 == c).map fun p => He.ga K p.2
/-- the classes of exceptions of a text -/
structure XsOk (P : Program) (K : PySem.W.Frag) (mg : Str → Option Value) (M : Mo) (file : Str) (xs : Cls2) : Prop where
  b : xsB file xs K = true
  file : (P.main.file : Str) = file
  top : (P.main.scope.names.lookup ("super" : Str)).isSome = false
  sup : mg "super" = none
  isn : mg "isinstance" = none
  ven : mg "ValueError" = none
  mg : ∀ p ∈ xs, mg p.2 = some (.ref (He.ga K p.2))
  cl : ∀ p ∈ xs, M.cl p.1 = some (He.ga K p.2)
  all : ∀ c C', 20 ≤ c → M.cl c = some C' → ∃ p ∈ xs, p.1 = c ∧ C' = He.ga K p.2
theorem clX_all {K : PySem.W.Frag} {xs : Cls2} {c : Nat} {C' : Addr} (h : clX K xs c = some C') : ∃ p ∈ xs, p.1 = c ∧ C' = He.ga K p.2 := by
  unfold clX at h
  obtain ⟨p, hp, rfl⟩ := Option.map_eq_some_iff.mp h
  exact ⟨p, List.mem_of_find?_eq_some hp, by simpa using List.find?_some hp, rfl⟩
section
variable {P : Program} {w : World} {K : PySem.W.Frag} {mg : Str → Option Value} {base : Heap} {M : Mo} {lv : Nat} {file : Str} {xs : Cls2}
theorem XsOk.one (x : XsOk P K mg M file xs) {p : Nat × Str} (hp : p ∈ xs) : oneX K (He.ga K "SizeError") xs p = true := by
  have h := x.b
  simp only [xsB, Bool.and_eq_true] at h
  exact List.all_eq_true.mp h.2.2 p hp
theorem av_xc {c : Nat} {nm : Str} (x : XsOk P K mg M file xs) (hp : (c, nm) ∈ xs) (hl : 2 ≤ lv) : Avl (L2N.CX P w) P w K mg base M lv (.xc c nm) := fun X h1 h2 h3 h4 h5 => by
  subst h1 h2 h3 h4 h5
  have h := x.b
  simp only [xsB, Bool.and_eq_true, decide_eq_true_eq] at h
  obtain ⟨hi, ht, _⟩ := h
  obtain ⟨fd, F, hb⟩ := iniB_ok hi x.file x.top x.sup
  have ho := x.one hp
  simp only [oneX, Bool.and_eq_true, decide_eq_true_eq] at ho
  obtain ⟨⟨a1, a2, a3, a4, a5, a6, _⟩, _⟩ := ho
  exact ⟨rfl, _, _, _, fd, 1, x.cl _ hp, x.mg _ hp, ⟨oexB_ok a1, a2, a3, a4, a5⟩, ini_ok F 0, hl, hb, a6, ht⟩
theorem av_xh {c : Nat} {nm : Str} (x : XsOk P K mg M file xs) (hp : (c, nm) ∈ xs) : Avl (L2N.CX P w) P w K mg base M lv (.xh c nm) := fun X h1 h2 h3 h4 h5 => by
  subst h1 h2 h3 h4 h5
  refine ⟨rfl, _, x.mg _ hp, fun k C' h20 hk => ?_⟩
  obtain ⟨p, hp2, rfl, rfl⟩ := x.all k C' h20 hk
  have ho := x.one hp2
  simp only [oneX, Bool.and_eq_true, decide_eq_true_eq] at ho
  exact of_decide_eq_true (List.all_eq_true.mp ho.2.2 _ hp)
theorem av_xs {l : Cls2} (x : XsOk P K mg M file xs) (hl : ∀ q ∈ l, q ∈ xs ∧ q.1 ≠ 20) : Avl (L2N.CX P w) P w K mg base M lv (.xs l) := fun X h1 h2 h3 h4 h5 => by
  subst h1 h2 h3 h4 h5
  refine ⟨x.isn, x.ven, fun q hq => ⟨_, x.cl q (hl q hq).1, x.mg q (hl q hq).1⟩, fun k C' h20 hk => ?_⟩
  obtain ⟨p, hp2, rfl, rfl⟩ := x.all k C' h20 hk
  have ho := x.one hp2
  simp only [oneX, Bool.and_eq_true, decide_eq_true_eq] at ho
  obtain ⟨⟨a1, a2, a3, a4, a5, a6, a7, a8⟩, b1, b2⟩ := ho
  refine ⟨excB_ok a7, a5, a8, fun q hq C hC => ?_⟩
  obtain ⟨h1, h2⟩ := hl q hq
  rw [x.cl q h1] at hC
  cases hC
  have := List.all_eq_true.mp b1 q h1
  simp only [Bool.or_eq_true, decide_eq_true_eq] at this
  exact this.resolve_left h2
end
/-- a law's def lets nothing out -/
theorem fn_quiet {P : Program} {w : World} {K : PySem.W.Frag} {mg : Str → Option Value} {base : Heap} {k : Nat} {f : Addr} {fd : FuncData} {ps : List Str} {sp : Sp} (F : FnOk P w K mg base (L2N.CX P w) k f fd ps sp) : FnOk P w K mg base CX0 k f fd ps (fun vs H Q _ => sp vs H Q fun _ _ _ => False) :=
  ⟨fun vs H Q E h => F.len vs H Q _ h, fun A outer s H args us vs Q E hr e0 hb rv h => codeAny_mono (F.run A outer s H args us vs Q _ hr e0 hb rv h) fun r s' hq => by
    cases r with
    | error e =>
      obtain ⟨_, _, _, _, _, _, _, _, _, _, _, _, z⟩ := hq
      exact z.elim
    | ok fl => cases fl <;> exact hq⟩
end DL

-- part DLs
set_option Elab.async false
set_option linter.all false
set_option maxRecDepth 100000
/-! DL, part s: what a run comes to. -/
namespace DL
open PySem L2
/-- the run ends well, so -/
def W {α : Type} (r : Res α) (Q : α → Prop) : Prop := ∃ a, r = .ok a ∧ Q a
theorem bind_cg {α β : Type} {r r' : Res α} (f : α → Res β) (h : r = r') : r.bind f = r'.bind f := by rw [h]
theorem seqR_cg {r r' : Res Out} (f : Env → Res Out) (h : r = r') : seqR r f = seqR r' f := by rw [h]
theorem W_cg {α : Type} {r r' : Res α} (Q : α → Prop) (h : r = r') : W r Q = W r' Q := by rw [h]
theorem W.ok {α : Type} {a : α} {Q : α → Prop} : W (.ok a) Q ↔ Q a := ⟨fun ⟨b, e, q⟩ => by cases e; exact q, fun q => ⟨a, rfl, q⟩⟩
theorem W.bind {α β : Type} {r : Res α} {f : α → Res β} {Q : β → Prop} : W (r.bind f) Q ↔ W r fun a => W (f a) Q := by
  cases r with
  | ok a => exact ⟨fun h => ⟨a, rfl, h⟩, fun ⟨b, e, h⟩ => by cases e; exact h⟩
  | exn c d =>
    constructor
    · rintro ⟨b, e, _⟩
      exact nomatch (show (Res.exn c d : Res β) = .ok b from e)
    · rintro ⟨b, e, _⟩
      cases e
  | stuck =>
    constructor
    · rintro ⟨b, e, _⟩
      exact nomatch (show (Res.stuck : Res β) = .ok b from e)
    · rintro ⟨b, e, _⟩
      cases e
theorem W.mono {α : Type} {r : Res α} {Q Q' : α → Prop} (h : W r Q) (i : ∀ a, Q a → Q' a) : W r Q' := let ⟨a, e, q⟩ := h; ⟨a, e, i a q⟩
theorem W.eq {α : Type} {r : Res α} {a : α} (h : W r fun b => b = a) : r = .ok a := by obtain ⟨b, e, rfl⟩ := h; exact e
theorem W.of {α : Type} {r : Res α} {a : α} (h : r = .ok a) {Q : α → Prop} (q : Q a) : W r Q := ⟨a, h, q⟩
theorem seqR_nx {env : Env} {f : Env → Res Out} : seqR (.ok (.nx env)) f = f env := rfl
theorem seqR_ret {d : D} {env : Env} {f : Env → Res Out} : seqR (.ok (.ret d env)) f = .ok (.ret d env) := rfl
theorem seqR_brk {env : Env} {f : Env → Res Out} : seqR (.ok (.brk env)) f = .ok (.brk env) := rfl
theorem seqR_cnt {env : Env} {f : Env → Res Out} : seqR (.ok (.cnt env)) f = .ok (.cnt env) := rfl
theorem run_eq {ms : List Nat} {n : Nat} {b : S} {ds : List D} (h : ds.length = ms.length) : run ms n b ds = (ex b (initS ms ds ++ List.replicate (n - ms.length) .un)).bind (endR ms) := if_pos h

/-! ### evaluation, what comes behind as constants -/
def nmR (env : Env) : Option Sl → Res (Wk × Env)
  | some (.val d) => .ok ((0, d), env)
  | some (.own k d) => .ok ((k, d), env)
  | some (.io k d) => .ok ((k, d), env)
  | _ => .stuck
def kR (env : Env) (d : D) : Res (Wk × Env) := .ok ((0, d), env)
def kBin2 (op : Bop) (x : Wk) (y : Wk × Env) : Res (Wk × Env) := (dBin op x y.1).bind (kR y.2)
def kBin (op : Bop) (b : E) (x : Wk × Env) : Res (Wk × Env) := if x.1.1 = 0 ∨ b.pure = true then (ev b x.2).bind (kBin2 op x.1) else .stuck
def kNeg (x : Wk × Env) : Res (Wk × Env) := (asI x.1.2).bind fun i => .ok ((0, .int (-i)), x.2)
def kB (env : Env) (c : Bool) : Res (Wk × Env) := .ok ((0, .bl c), env)
def kCmp2 (op : Cop) (x : Wk) (y : Wk × Env) : Res (Wk × Env) := (dCmp op x y.1).bind (kB y.2)
def kCmp (op : Cop) (b : E) (x : Wk × Env) : Res (Wk × Env) := if x.1.1 = 0 ∨ b.pure = true then (ev b x.2).bind (kCmp2 op x.1) else .stuck
def kBl (y : Wk × Env) : Res (Wk × Env) := (asB y.1.2).bind (kB y.2)
def kAnd (b : E) (x : Wk × Env) : Res (Wk × Env) := (asB x.1.2).bind fun k => if k = true then (ev b x.2).bind kBl else .ok ((0, .bl false), x.2)
def kOr (b : E) (x : Wk × Env) : Res (Wk × Env) := (asB x.1.2).bind fun k => if k = true then .ok ((0, .bl true), x.2) else (ev b x.2).bind kBl
def kNot (x : Wk × Env) : Res (Wk × Env) := (asB x.1.2).bind fun k => .ok ((0, .bl (!k)), x.2)
def kIf (a b : E) (x : Wk × Env) : Res (Wk × Env) := (asB x.1.2).bind fun k => if k = true then ev a x.2 else ev b x.2
def kTup2 (env : Env) (ds : List D) : Res (Wk × Env) := if ds.length ≤ lim then .ok ((0, .tup ds), env) else .stuck
def kTup (x : List Ar × Env) : Res (Wk × Env) := (ofO (strong x.1)).bind (kTup2 x.2)
def kLst2 (env : Env) (ds : List D) : Res (Wk × Env) := if ds.length ≤ lim then .ok ((0, .lst ds), env) else .stuck
def kLst (x : List Ar × Env) : Res (Wk × Env) := (ofO (strong x.1)).bind (kLst2 x.2)
def kW (env : Env) (w : Wk) : Res (Wk × Env) := .ok (w, env)
def kIdx2 (x : Wk) (y : Wk × Env) : Res (Wk × Env) := (dIdx x y.1.2).bind (kW y.2)
def kIdx (b : E) (x : Wk × Env) : Res (Wk × Env) := if x.1.1 = 0 ∨ b.pure = true then (ev b x.2).bind (kIdx2 x.1) else .stuck
def kD (y : D × Env) : Res (Wk × Env) := .ok ((0, y.1), y.2)
def kApp (f : FnD) (x : List Ar × Env) : Res (Wk × Env) := (callD f x.1 x.2).bind kD
def kBlt2 (b : Blt) (env : Env) (ws : List Wk) : Res (Wk × Env) := (dBlt b ws).bind (kR env)
def kBlt (b : Blt) (x : List Ar × Env) : Res (Wk × Env) := (ofO (weaks x.1)).bind (kBlt2 b x.2)
def kFld (c : Nat) (f : Str) (x : Wk × Env) : Res (Wk × Env) := (fieldOf c f x.1).bind (kW x.2)
def kCons2 (x : Wk) (y : List Ar × Env) : Res (List Ar × Env) := .ok (.d x.1 x.2 :: y.1, y.2)
def kCons (es : E) (x : Wk × Env) : Res (List Ar × Env) := if x.1.1 = 0 ∨ es.pure = true then (evs es x.2).bind (kCons2 x.1) else .stuck
def kIo (i : Nat) (y : List Ar × Env) : Res (List Ar × Env) := .ok (.io i :: y.1, y.2)
def kWk (i : Nat) (y : List Ar × Env) : Res (List Ar × Env) := .ok (.wk i :: y.1, y.2)
section
variable {env : Env} {a b : E} {es : E} {k : Nat} {d : D}
theorem q_name {i : Nat} : ev (.name i) env = nmR env env[i]? := by
  unfold nmR
  show (match env[i]? with | some (.val d) => Res.ok ((0, d), env) | some (.own k d) => .ok ((k, d), env) | some (.io k d) => .ok ((k, d), env) | _ => .stuck) = _
  split <;> simp_all
theorem q_lit : ev (.lit d) env = .ok ((0, d), env) := rfl
theorem q_bin {op : Bop} : ev (.bin op a b) env = (ev a env).bind (kBin op b) := rfl
theorem q_neg : ev (.neg a) env = (ev a env).bind kNeg := rfl
theorem q_cmp {op : Cop} : ev (.cmp op a b) env = (ev a env).bind (kCmp op b) := rfl
theorem q_and : ev (.andv a b) env = (ev a env).bind (kAnd b) := rfl
theorem q_or : ev (.orv a b) env = (ev a env).bind (kOr b) := rfl
theorem q_not : ev (.notv a) env = (ev a env).bind kNot := rfl
theorem q_ife {t : E} : ev (.ife t a b) env = (ev t env).bind (kIf a b) := rfl
theorem q_tup : ev (.tup es) env = (evs es env).bind kTup := rfl
theorem q_lst : ev (.lst es) env = (evs es env).bind kLst := rfl
theorem q_idx : ev (.idx a b) env = (ev a env).bind (kIdx b) := rfl
theorem q_app {f : FnD} : ev (.app f es) env = (evs es env).bind (kApp f) := rfl
theorem q_blt {t : Blt} : ev (.blt t es) env = (evs es env).bind (kBlt t) := rfl
theorem q_fld {c : Nat} {f : Str} : ev (.fld c f a) env = (ev a env).bind (kFld c f) := rfl
theorem q_nil : evs .nil env = .ok ([], env) := rfl
theorem q_cio {i : Nat} : evs (.cons (.ioa i) es) env = if held env i = true then (evs es env).bind (kIo i) else .stuck := rfl
theorem q_cwk {i : Nat} : evs (.cons (.wka i) es) env = if held env i = true then (evs es env).bind (kWk i) else .stuck := rfl
end

section
variable {env : Env} {a b : E} {es : E} {j k : Nat} {d : D} {x y : Int} {ds es' : List D}
theorem n_val : nmR env (some (.val d)) = .ok ((0, d), env) := rfl
theorem n_own : nmR env (some (.own k d)) = .ok ((k, d), env) := rfl
theorem n_io : nmR env (some (.io k d)) = .ok ((k, d), env) := rfl
theorem r_R : kR env d = .ok ((0, d), env) := rfl
theorem r_bin {op : Bop} : kBin op b ((0, d), env) = (ev b env).bind (kBin2 op (0, d)) := if_pos (.inl rfl)
theorem r_binp {op : Bop} : kBin op b ((1, d), env) = if b.pure = true then (ev b env).bind (kBin2 op (1, d)) else .stuck := by
  unfold kBin; by_cases h : b.pure = true <;> simp [h]
theorem r_bin2 {op : Bop} {u w : Wk} : kBin2 op u (w, env) = (dBin op u w).bind (kR env) := rfl
theorem r_neg : kNeg ((k, .int x), env) = .ok ((0, .int (-x)), env) := rfl
theorem r_B {c : Bool} : kB env c = .ok ((0, .bl c), env) := rfl
theorem r_cmp {op : Cop} : kCmp op b ((0, d), env) = (ev b env).bind (kCmp2 op (0, d)) := if_pos (.inl rfl)
theorem r_cmpp {op : Cop} : kCmp op b ((1, d), env) = if b.pure = true then (ev b env).bind (kCmp2 op (1, d)) else .stuck := by
  unfold kCmp; by_cases h : b.pure = true <;> simp [h]
theorem r_cmp2 {op : Cop} {u w : Wk} : kCmp2 op u (w, env) = (dCmp op u w).bind (kB env) := rfl
theorem r_bl {c : Bool} : kBl ((k, .bl c), env) = .ok ((0, .bl c), env) := rfl
theorem r_and {c : Bool} : kAnd b ((k, .bl c), env) = if c = true then (ev b env).bind kBl else .ok ((0, .bl false), env) := rfl
theorem r_or {c : Bool} : kOr b ((k, .bl c), env) = if c = true then .ok ((0, .bl true), env) else (ev b env).bind kBl := rfl
theorem r_not {c : Bool} : kNot ((k, .bl c), env) = .ok ((0, .bl (!c)), env) := rfl
theorem r_if {c : Bool} : kIf a b ((k, .bl c), env) = if c = true then ev a env else ev b env := rfl
theorem r_tup {ars : List Ar} : kTup (ars, env) = (ofO (strong ars)).bind (kTup2 env) := rfl
theorem r_tup2 : kTup2 env ds = if ds.length ≤ lim then .ok ((0, .tup ds), env) else .stuck := rfl
theorem r_lst {ars : List Ar} : kLst (ars, env) = (ofO (strong ars)).bind (kLst2 env) := rfl
theorem r_lst2 : kLst2 env ds = if ds.length ≤ lim then .ok ((0, .lst ds), env) else .stuck := rfl
theorem r_W {w : Wk} : kW env w = .ok (w, env) := rfl
theorem r_idx : kIdx b ((0, d), env) = (ev b env).bind (kIdx2 (0, d)) := if_pos (.inl rfl)
theorem r_idxp : kIdx b ((1, d), env) = if b.pure = true then (ev b env).bind (kIdx2 (1, d)) else .stuck := by
  unfold kIdx; by_cases h : b.pure = true <;> simp [h]
theorem r_idx2 {u w : Wk} : kIdx2 u (w, env) = (dIdx u w.2).bind (kW env) := rfl
theorem r_D : kD (d, env) = .ok ((0, d), env) := rfl
theorem r_app {f : FnD} {ars : List Ar} : kApp f (ars, env) = (callD f ars env).bind kD := rfl
theorem r_blt {t : Blt} {ars : List Ar} : kBlt t (ars, env) = (ofO (weaks ars)).bind (kBlt2 t env) := rfl
theorem r_blt2 {t : Blt} {ws : List Wk} : kBlt2 t env ws = (dBlt t ws).bind (kR env) := rfl
theorem r_fld {c : Nat} {f : Str} {u : Wk} : kFld c f (u, env) = (fieldOf c f u).bind (kW env) := rfl
theorem r_cons : kCons es ((0, d), env) = (evs es env).bind (kCons2 (0, d)) := if_pos (.inl rfl)
theorem r_consp : kCons es ((1, d), env) = if es.pure = true then (evs es env).bind (kCons2 (1, d)) else .stuck := by
  unfold kCons; by_cases h : es.pure = true <;> simp [h]
theorem r_cons2 {u : Wk} {ars : List Ar} : kCons2 u (ars, env) = .ok (.d u.1 u.2 :: ars, env) := rfl
theorem r_io {i : Nat} {ars : List Ar} : kIo i (ars, env) = .ok (.io i :: ars, env) := rfl
theorem r_wk {i : Nat} {ars : List Ar} : kWk i (ars, env) = .ok (.wk i :: ars, env) := rfl
theorem qc_name (i : Nat) : evs (.cons (.name i) es) env = (ev (.name i) env).bind (kCons es) := rfl
theorem qc_lit (d : D) : evs (.cons (.lit d) es) env = (ev (.lit d) env).bind (kCons es) := rfl
theorem qc_bin (op : Bop) (a b : E) : evs (.cons (.bin op a b) es) env = (ev (.bin op a b) env).bind (kCons es) := rfl
theorem qc_neg (a : E) : evs (.cons (.neg a) es) env = (ev (.neg a) env).bind (kCons es) := rfl
theorem qc_cmp (op : Cop) (a b : E) : evs (.cons (.cmp op a b) es) env = (ev (.cmp op a b) env).bind (kCons es) := rfl
theorem qc_chn (op op2 : Cop) (a b c : E) : evs (.cons (.chn op op2 a b c) es) env = (ev (.chn op op2 a b c) env).bind (kCons es) := rfl
theorem qc_andv (a b : E) : evs (.cons (.andv a b) es) env = (ev (.andv a b) env).bind (kCons es) := rfl
theorem qc_orv (a b : E) : evs (.cons (.orv a b) es) env = (ev (.orv a b) env).bind (kCons es) := rfl
theorem qc_notv (a : E) : evs (.cons (.notv a) es) env = (ev (.notv a) env).bind (kCons es) := rfl
theorem qc_ife (t a b : E) : evs (.cons (.ife t a b) es) env = (ev (.ife t a b) env).bind (kCons es) := rfl
theorem qc_tup (e : E) : evs (.cons (.tup e) es) env = (ev (.tup e) env).bind (kCons es) := rfl
theorem qc_lst (e : E) : evs (.cons (.lst e) es) env = (ev (.lst e) env).bind (kCons es) := rfl
theorem qc_idx (a b : E) : evs (.cons (.idx a b) es) env = (ev (.idx a b) env).bind (kCons es) := rfl
theorem qc_slc (a b c : E) : evs (.cons (.slc a b c) es) env = (ev (.slc a b c) env).bind (kCons es) := rfl
theorem qc_app (f : FnD) (e : E) : evs (.cons (.app f e) es) env = (ev (.app f e) env).bind (kCons es) := rfl
theorem qc_blt (t : Blt) (e : E) : evs (.cons (.blt t e) es) env = (ev (.blt t e) env).bind (kCons es) := rfl
theorem qc_fld (c : Nat) (f : Str) (a : E) : evs (.cons (.fld c f a) es) env = (ev (.fld c f a) env).bind (kCons es) := rfl
theorem qc_prp (c : Nat) (f : FnD) (a : E) : evs (.cons (.prp c f a) es) env = (ev (.prp c f a) env).bind (kCons es) := rfl
theorem qc_mth (c : Nat) (f : FnD) (a e : E) : evs (.cons (.mth c f a e) es) env = (ev (.mth c f a e) env).bind (kCons es) := rfl
theorem qc_lno (c : Nat) (f : FnD) (a : E) : evs (.cons (.lno c f a) es) env = (ev (.lno c f a) env).bind (kCons es) := rfl
theorem qc_addo (c : Nat) (f : FnD) (a b : E) : evs (.cons (.addo c f a b) es) env = (ev (.addo c f a b) env).bind (kCons es) := rfl
theorem qc_eqo (c : Nat) (f : FnD) (a b : E) : evs (.cons (.eqo c f a b) es) env = (ev (.eqo c f a b) env).bind (kCons es) := rfl
theorem qc_mk (c : Nat) (f : FnD) (e : E) : evs (.cons (.mk c f e) es) env = (ev (.mk c f e) env).bind (kCons es) := rfl
theorem qc_appk (f : FnD) (ks : List Str) (pm : List Nat) (e : E) : evs (.cons (.appk f ks pm e) es) env = (ev (.appk f ks pm e) env).bind (kCons es) := rfl
theorem qc_mthk (c : Nat) (f : FnD) (ks : List Str) (pm : List Nat) (o e : E) : evs (.cons (.mthk c f ks pm o e) es) env = (ev (.mthk c f ks pm o e) env).bind (kCons es) := rfl
theorem qc_mkk (c : Nat) (f : FnD) (ks : List Str) (pm : List Nat) (e : E) : evs (.cons (.mkk c f ks pm e) es) env = (ev (.mkk c f ks pm e) env).bind (kCons es) := rfl
theorem qc_comp (tg : List Nat) (it t e : E) : evs (.cons (.comp tg it t e) es) env = (ev (.comp tg it t e) env).bind (kCons es) := rfl
/-! operations -/
theorem d_add : dBin .add (j, .int x) (k, .int y) = .ok (.int (x + y)) := rfl
theorem d_sub : dBin .sub (j, .int x) (k, .int y) = .ok (.int (x - y)) := rfl
theorem d_mul (h : MulOk x y = true) : dBin .mul (j, .int x) (k, .int y) = .ok (.int (x * y)) := if_pos h
theorem d_fdiv (h : DivOk y = true) : dBin .fdiv (j, .int x) (k, .int y) = .ok (.int (x.fdiv y)) := if_pos h
theorem d_mod (h : y ≠ 0) : dBin .mod (j, .int x) (k, .int y) = .ok (.int (x.fmod y)) := if_pos h
theorem d_pow (h : PowOk x y = true) : dBin .pow (j, .int x) (k, .int y) = .ok (.int (x ^ y.toNat)) := if_pos h
theorem d_cat (hj : j ≤ 1) (hk : k ≤ 1) (h : ds.length + es'.length ≤ lim) : dBin .add (j, .lst ds) (k, .lst es') = .ok (.lst (ds ++ es')) := if_pos ⟨hj, hk, h⟩
theorem d_lt : dCmp .lt (j, .int x) (k, .int y) = .ok (decide (x < y)) := rfl
theorem d_le : dCmp .le (j, .int x) (k, .int y) = .ok (decide (x ≤ y)) := rfl
theorem d_gt : dCmp .gt (j, .int x) (k, .int y) = .ok (decide (y < x)) := rfl
theorem d_ge : dCmp .ge (j, .int x) (k, .int y) = .ok (decide (y ≤ x)) := rfl
theorem d_isN {d : D} : dCmp .isn (j, d) (k, .non) = .ok (match d with | .non => true | _ => false) := by cases d <;> rfl
theorem d_nisN {d : D} : dCmp .nisn (j, d) (k, .non) = .ok (match d with | .non => false | _ => true) := by cases d <;> rfl
def ixR (k : Nat) : Option D → Res Wk
  | some d => .ok (k - 1, d)
  | none => .stuck
theorem d_idxl : dIdx (k, .lst ds) (.int x) = ixR k (atI ds x) := by
  unfold ixR
  show (match atI ds x with | some d => Res.ok (k - 1, d) | none => .stuck) = _
  cases atI ds x <;> rfl
theorem d_idxt : dIdx (k, .tup ds) (.int x) = ixR k (atI ds x) := by
  unfold ixR
  show (match atI ds x with | some d => Res.ok (k - 1, d) | none => .stuck) = _
  cases atI ds x <;> rfl
theorem d_idxs : dIdx (k, .nd .scr ds) (.int x) = ixR k (atI ds x) := by
  unfold ixR
  show (match atI ds x with | some d => Res.ok (k - 1, d) | none => .stuck) = _
  cases atI ds x <;> rfl
theorem ix_some : ixR k (some d) = .ok (k - 1, d) := rfl
theorem dEq_int : dEq (.int x) (.int y) = .ok (decide (x = y)) := by
  have h : okPy (.int x) = true := rfl
  have h2 : okPy (.int y) = true := rfl
  unfold dEq
  rw [h, h2]
  show Res.ok (PyData.eqv (.int x) (.int y)) = _
  congr 1
end

def isLR : Option Sl → Bool
  | some (.own _ (.nd .lst _)) => true
  | some (.io _ (.nd .lst _)) => true
  | _ => false
/-! ### statements -/
def xBind (f : Env → Res Out) (r : Res Env) : Res Out := r.bind f
def kSet2 (tg : Tg) (env : Env) (d : D) : Res Out := (setTg env tg d).bind fun env => .ok (.nx env)
def kSet (tg : Tg) (x : Wk × Env) : Res Out := (str1 x.1).bind (kSet2 tg x.2)
def kSeto2 (i : Nat) (env : Env) (d : D) : Res Out := match d with
  | .nd .lst ds => (setSl env i (.own 1 (.lst ds))).bind fun env => .ok (.nx env)
  | _ => .stuck
def kSeto (i : Nat) (x : Wk × Env) : Res Out := (str1 x.1).bind (kSeto2 i x.2)
def kPar2 (is : List Nat) (env : Env) (ds : List D) : Res Out := (setTis env (is.map .sl) ds).bind fun env => .ok (.nx env)
def kPar (is : List Nat) (x : List Ar × Env) : Res Out := (ofO (strong x.1)).bind (kPar2 is x.2)
noncomputable def kIfS (a b : S) (x : Wk × Env) : Res Out := (asB x.1.2).bind fun k => if k = true then ex a x.2 else ex b x.2
noncomputable def kFor (tg : List Nat) (b : S) (x : List D × Env) : Res Out := forL tg (ex b) x.1 x.2
def kRet (x : Wk × Env) : Res Out := (str1 x.1).bind fun d => .ok (.ret d x.2)
def kReto2 (env : Env) (d : D) : Res Out := match d with
  | .nd .lst ds => .ok (.ret (.lst ds) env)
  | _ => .stuck
def kReto (x : Wk × Env) : Res Out := (str1 x.1).bind (kReto2 x.2)
def kDrop (x : Wk × Env) : Res Out := .ok (.nx x.2)
def kSub3 (i : Nat) (d : D) (env : Env) (ix : Int) : Res Out := (subAt env i ix d).bind fun env => .ok (.nx env)
def kSub2 (i : Nat) (d : D) (y : Wk × Env) : Res Out := (asI y.1.2).bind (kSub3 i d y.2)
def kSub (i : Nat) (j : E) (x : Wk × Env) : Res Out := (str1 x.1).bind fun d => (ev j x.2).bind (kSub2 i d)
def kApn (i : Nat) (x : Wk × Env) : Res Out := (str1 x.1).bind fun d => (growAt x.2 i none [d]).bind fun env => .ok (.nx env)
def kExt2 (i : Nat) (env : Env) (d : D) : Res Out := match d with
  | .nd .lst ds => (growAt env i none ds).bind fun env => .ok (.nx env)
  | _ => .stuck
def kExt (i : Nat) (x : Wk × Env) : Res Out := (str1 x.1).bind (kExt2 i x.2)
section
variable {env : Env} {e : E} {i : Nat} {d : D}
theorem x_nil : ex .nil env = .ok (.nx env) := rfl
theorem x_cons {s ss : S} : ex (.cons s ss) env = seqR (ex s env) (ex ss) := rfl
theorem x_pass : ex .pass env = .ok (.nx env) := rfl
theorem x_set {tg : Tg} : ex (.set tg e) env = (ev e env).bind (kSet tg) := rfl
theorem x_seto : ex (.seto 1 i e) env = if ownL e = true then (ev e env).bind (kSeto i) else .stuck := by
  by_cases h : ownL e = true
  · rw [if_pos h]; exact if_pos ⟨h, rfl⟩
  · rw [if_neg h]; exact if_neg fun z => h z.1
theorem x_par {is : List Nat} : ex (.par is e) env = (evs e env).bind (kPar is) := rfl
theorem x_ife {a b : S} : ex (.ife e a b) env = (ev e env).bind (kIfS a b) := rfl
theorem x_for {tg : List Nat} {b : S} : ex (.for_ tg e b) env = (evi e env).bind (kFor tg b) := rfl
theorem x_whl {b : S} : ex (.whl e b) env = whl (ev e) (ex b) env := rfl
theorem x_ret : ex (.ret e) env = (ev e env).bind kRet := rfl
theorem x_reto : ex (.reto e) env = if ownL e = true then (ev e env).bind kReto else .stuck := rfl
theorem x_retn : ex .retn env = .ok (.ret .non env) := rfl
theorem x_drop : ex (.drop e) env = (ev e env).bind kDrop := rfl
theorem x_app : ex (.app i .nil e) env = if isLR env[i]? = true then (ev e env).bind (kApn i) else .stuck := rfl
theorem x_ext : ex (.ext i .nil e) env = if isLR env[i]? = true then (ev e env).bind (kExt i) else .stuck := rfl
theorem x_sub {j : E} : ex (.sub i j e) env = if isLR env[i]? = true then (ev e env).bind (kSub i j) else .stuck := rfl
end
section
variable {env : Env} {e : E} {i k : Nat} {d : D} {ds : List D}
theorem k_set {tg : Tg} : kSet tg ((0, d), env) = (setTg env tg d).bind fun env => .ok (.nx env) := rfl
theorem k_seto : kSeto i ((0, .lst ds), env) = (setSl env i (.own 1 (.lst ds))).bind fun env => .ok (.nx env) := rfl
theorem k_par {is : List Nat} {ars : List Ar} : kPar is (ars, env) = (ofO (strong ars)).bind (kPar2 is env) := rfl
theorem k_par2 {is : List Nat} : kPar2 is env ds = (setTis env (is.map .sl) ds).bind fun env => .ok (.nx env) := rfl
theorem k_ife {a b : S} {c : Bool} : kIfS a b ((k, .bl c), env) = if c = true then ex a env else ex b env := rfl
theorem k_for {tg : List Nat} {b : S} : kFor tg b (ds, env) = forL tg (ex b) ds env := rfl
theorem k_ret : kRet ((0, d), env) = .ok (.ret d env) := rfl
theorem k_reto : kReto ((0, .lst ds), env) = .ok (.ret (.lst ds) env) := rfl
theorem k_drop {x : Wk} : kDrop (x, env) = .ok (.nx env) := rfl
theorem k_sub {j : E} : kSub i j ((0, d), env) = (ev j env).bind (kSub2 i d) := rfl
theorem k_sub2 {x : Int} : kSub2 i d ((k, .int x), env) = (subAt env i x d).bind fun env => .ok (.nx env) := rfl
theorem k_app : kApn i ((0, d), env) = (growAt env i none [d]).bind fun env => .ok (.nx env) := rfl
theorem k_ext : kExt i ((0, .lst ds), env) = (growAt env i none ds).bind fun env => .ok (.nx env) := rfl
end
end DL

namespace DL
open PySem L2
section
variable {env : Env} {i j k : Nat} {d a0 a1 a2 a3 : D} {ds : List D} {x y : Int}
theorem at0 {α : Type} {a : α} {l : List α} : atI (a :: l) 0 = some a := by simp [atI, ixN]
theorem at1 {α : Type} {a b : α} {l : List α} : atI (a :: b :: l) 1 = some b := by
  have h : (1 : Int) < ((a :: b :: l).length : Int) := by simp; omega
  simp only [atI, ixN, h]; rfl
theorem at2 {α : Type} {a b c : α} {l : List α} : atI (a :: b :: c :: l) 2 = some c := by
  have h : (2 : Int) < ((a :: b :: c :: l).length : Int) := by simp; omega
  simp only [atI, ixN, h]; rfl
theorem atN {α : Type} {a : α} {l : List α} {n : Nat} (h : l[n]? = some a) : atI l (n : Int) = some a := by
  have hl := lt_of_get h
  have h1 : (0 : Int) ≤ (n : Int) := by omega
  have h2 : (n : Int) < (l.length : Int) := by omega
  simp only [atI, ixN, if_pos h1, if_pos h2, Int.toNat_natCast]
  exact h
theorem atL {α : Type} {a : α} {l : List α} : atI (l ++ [a]) (-1) = some a := by
  have h1 : ¬ (0 : Int) ≤ -1 := by omega
  have h2 : -(((l ++ [a]).length : Nat) : Int) ≤ -1 := by simp; omega
  have h3 : ((-1 : Int) + ((l ++ [a]).length : Nat)).toNat = l.length := by simp; omega
  simp only [atI, ixN, if_neg h1, if_pos h2, h3]
  simp
def subR (env : Env) (i : Nat) (x : Int) (d : D) : Option Sl → Res Env
  | some (.own 1 (.nd .lst ds)) => match ixN ds.length x with | some j => .ok (env.set i (.own 1 (.lst (ds.set j d)))) | none => .stuck
  | some (.io 1 (.nd .lst ds)) => match ixN ds.length x with | some j => .ok (env.set i (.io 1 (.lst (ds.set j d)))) | none => .stuck
  | _ => .stuck
theorem q_sub : subAt env i x d = subR env i x d env[i]? := rfl
def subO (env : Env) (i : Nat) (d : D) (ds : List D) : Option Nat → Res Env
  | some j => .ok (env.set i (.own 1 (.lst (ds.set j d))))
  | none => .stuck
def subI (env : Env) (i : Nat) (d : D) (ds : List D) : Option Nat → Res Env
  | some j => .ok (env.set i (.io 1 (.lst (ds.set j d))))
  | none => .stuck
theorem sub_own : subR env i x d (some (.own 1 (.lst ds))) = subO env i d ds (ixN ds.length x) := by
  show (match ixN ds.length x with | some j => Res.ok (env.set i (.own 1 (.lst (ds.set j d)))) | none => .stuck) = _
  cases ixN ds.length x <;> rfl
theorem sub_io : subR env i x d (some (.io 1 (.lst ds))) = subI env i d ds (ixN ds.length x) := by
  show (match ixN ds.length x with | some j => Res.ok (env.set i (.io 1 (.lst (ds.set j d)))) | none => .stuck) = _
  cases ixN ds.length x <;> rfl
theorem sub_o : subO env i d ds (some j) = .ok (env.set i (.own 1 (.lst (ds.set j d)))) := rfl
theorem sub_i : subI env i d ds (some j) = .ok (env.set i (.io 1 (.lst (ds.set j d)))) := rfl
theorem ix30 : ixN 3 0 = some 0 := rfl
theorem ix31 : ixN 3 1 = some 1 := rfl
theorem ix32 : ixN 3 2 = some 2 := rfl
def setR (env : Env) (i : Nat) (s : Sl) : Option Sl → Res Env
  | some (.io _ _) => .stuck
  | some _ => .ok (env.set i s)
  | none => .stuck
theorem q_setSl {s : Sl} : setSl env i s = setR env i s env[i]? := rfl
theorem set_un {s : Sl} : setR env i s (some .un) = .ok (env.set i s) := rfl
theorem set_val {s : Sl} : setR env i s (some (.val d)) = .ok (env.set i s) := rfl
theorem set_own {s : Sl} : setR env i s (some (.own k d)) = .ok (env.set i s) := rfl
theorem q_setTgI {j : Int} : setTg env (.one (.it i j)) d = subAt env i j d := rfl
theorem q_tisI {j : Int} {ts : List Ti} : setTis env (.it i j :: ts) (d :: ds) = (subAt env i j d).bind fun env => setTis env ts ds := rfl
theorem q_setTg : setTg env (.one (.sl i)) d = setSl env i (.val d) := rfl
theorem q_setTup {ts : List Ti} : setTg env (.tup ts) (.tup ds) = setTis env ts ds := rfl
theorem q_tis0 : setTis env [] [] = .ok env := rfl
theorem q_tis {ts : List Ti} : setTis env (.sl i :: ts) (d :: ds) = (setSl env i (.val d)).bind fun env => setTis env ts ds := rfl
theorem b_int : dBlt .int [(k, .int x)] = .ok (.int x) := rfl
theorem b_abs : dBlt .abs [(k, .int x)] = .ok (.int (if x < 0 then -x else x)) := rfl
theorem b_max2 : dBlt .max2 [(j, .int x), (k, .int y)] = .ok (.int (if y > x then y else x)) := rfl
theorem b_min2 : dBlt .min2 [(j, .int x), (k, .int y)] = .ok (.int (if y < x then y else x)) := rfl
theorem b_lenl : dBlt .len [(k, .lst ds)] = .ok (.int ds.length) := rfl
theorem b_lent : dBlt .len [(k, .tup ds)] = .ok (.int ds.length) := rfl
theorem b_lens : dBlt .len [(k, .nd .scr ds)] = .ok (.int ds.length) := rfl
theorem isL_own : isLR (some (.own k (.lst ds))) = true := rfl
theorem isL_io : isLR (some (.io k (.lst ds))) = true := rfl
theorem e_nx {ms : List Nat} : endR ms (.nx env) = if okOuts ms env = true then .ok (.non, outsOf ms env) else .stuck := rfl
theorem e_ret {ms : List Nat} : endR ms (.ret d env) = if okOuts ms env = true then .ok (d, outsOf ms env) else .stuck := rfl
theorem divOk {y : Int} (h : 0 < y) (h2 : y < 2 ^ 1000) : DivOk y = true := by
  have h3 : y.natAbs < 2 ^ 1000 := by omega
  have h4 : y.natAbs ≠ 0 := by omega
  have h5 := (Nat.log2_lt h4).mpr (Nat.lt_of_lt_of_le h3 (Nat.pow_le_pow_right (by decide) (by decide : 1000 ≤ 9000)))
  simp only [DivOk, Bool.and_eq_true, decide_eq_true_eq]
  exact ⟨by omega, h5⟩
theorem mulOk_l {x y : Int} (h : x.natAbs < 2 ^ 64) : MulOk x y = true := by simp [MulOk, h]
theorem mulOk_r {x y : Int} (h : y.natAbs < 2 ^ 64) : MulOk x y = true := by simp [MulOk, h]
theorem powOk {x : Int} {n : Nat} {m : Nat} (h : x.natAbs < 2 ^ m) (hm : 0 < m) (h2 : m * n ≤ 2 ^ 27) : PowOk x n = true := by
  have h3 : x.natAbs.log2 + 1 ≤ m := by
    by_cases z : x.natAbs = 0
    · rw [z]; exact hm
    · exact (Nat.log2_lt z).mpr h
  simp only [PowOk, Bool.and_eq_true, decide_eq_true_eq]
  refine ⟨by omega, ?_⟩
  have h5 : (x.natAbs.log2 + 1) * n ≤ 2 ^ 27 := Nat.le_trans (Nat.mul_le_mul_right _ h3) h2
  exact_mod_cast h5
end
end DL

-- part DLt
set_option Elab.async false
set_option linter.all false
set_option maxRecDepth 100000
/-! DL, part t: reckoning by what a run comes to: calls, loops, comprehensions, equality. -/
namespace DL
open PySem L2

/-! ### calls -/
def okAr (ars : List Ar) : Bool := decide ((iosOf ars).Nodup) && (wksOf ars).all fun i => !(iosOf ars).contains i
def callK2 (f : FnD) (ars : List Ar) (x : D × List D) : Option Env → Res (D × Env)
  | some env' => if (wksOf ars).isEmpty || (noLst x.1 && (f.rk == 0 && noOuts f.ms x.2)) then .ok (x.1, env') else .stuck
  | none => .stuck
def callK (f : FnD) (ars : List Ar) (env : Env) (x : D × List D) : Res (D × Env) := callK2 f ars x (putBack env (iosOf ars) x.2)
def callR (f : FnD) (ars : List Ar) (env : Env) : Option (List D) → Res (D × Env)
  | none => .stuck
  | some ds => if okAr ars = true then (f.den ds).bind (callK f ars env) else .stuck
theorem q_call {f : FnD} {ars : List Ar} {env : Env} : callD f ars env = callR f ars env (argsOf env f.ms ars) := by
  unfold callD callR
  cases argsOf env f.ms ars with
  | none => rfl
  | some ds =>
    simp only
    have e : ((iosOf ars).Nodup ∧ ∀ i ∈ wksOf ars, i ∉ iosOf ars) ↔ okAr ars = true := by simp [okAr]
    by_cases h : okAr ars = true
    · rw [if_pos h, if_pos (e.mpr h)]
      congr 1
      funext x
      obtain ⟨r, outs⟩ := x
      unfold callK callK2
      simp only
      cases putBack env (iosOf ars) outs with
      | none => rfl
      | some env' => simp
    · rw [if_neg h, if_neg fun z => h (e.mp z)]
theorem call_some {f : FnD} {ars : List Ar} {env : Env} {ds : List D} : callR f ars env (some ds) = if okAr ars = true then (f.den ds).bind (callK f ars env) else .stuck := rfl
theorem call_k {f : FnD} {ars : List Ar} {env : Env} {r : D} {outs : List D} : callK f ars env (r, outs) = callK2 f ars (r, outs) (putBack env (iosOf ars) outs) := rfl
theorem call_k2 {f : FnD} {ars : List Ar} {env : Env} {r : D} {outs : List D} : callK2 f ars (r, outs) (some env) = if (wksOf ars).isEmpty || (noLst r && (f.rk == 0 && noOuts f.ms outs)) then .ok (r, env) else .stuck := rfl
section
variable {env : Env} {ms : List Nat} {ars : List Ar} {d : D} {i k : Nat} {ds : List D} {s : Sl}
theorem a_nil : argsOf env [] [] = some [] := rfl
theorem a_d : argsOf env (0 :: ms) (.d 0 d :: ars) = (argsOf env ms ars).map (d :: ·) := rfl
def aWk (env : Env) (ms : List Nat) (ars : List Ar) : Option D → Option (List D)
  | some (.nd .lst ds) => (argsOf env ms ars).map (D.lst ds :: ·)
  | _ => none
def aIo (env : Env) (ms : List Nat) (ars : List Ar) : Option D → Option (List D)
  | some d => (argsOf env ms ars).map (d :: ·)
  | none => none
theorem a_wk : argsOf env (0 :: ms) (.wk i :: ars) = aWk env ms ars (lent env i 1) := by
  unfold aWk
  show (match lent env i 1 with | some (.nd .lst ds) => (argsOf env ms ars).map (D.lst ds :: ·) | _ => none) = _
  split <;> simp_all
theorem a_io : argsOf env ((k + 1) :: ms) (.io i :: ars) = aIo env ms ars (lent env i (k + 1)) := by
  unfold aIo
  show (match lent env i (k + 1) with | some d => (argsOf env ms ars).map (d :: ·) | none => none) = _
  split <;> simp_all
theorem a_io1 : argsOf env (1 :: ms) (.io i :: ars) = aIo env ms ars (lent env i 1) := a_io (k := 0)
theorem a_io2 : argsOf env (2 :: ms) (.io i :: ars) = aIo env ms ars (lent env i 2) := a_io (k := 1)
theorem a_wk2 : aWk env ms ars (some (.lst ds)) = (argsOf env ms ars).map (D.lst ds :: ·) := rfl
theorem a_io3 : aIo env ms ars (some d) = (argsOf env ms ars).map (d :: ·) := rfl
def lentR (k : Nat) : Option Sl → Option D
  | some (.own j d) => if j = k then some d else none
  | some (.io j d) => if j = k then some d else none
  | _ => none
theorem q_lent : lent env i k = lentR k env[i]? := by
  unfold lent lentR
  split <;> simp_all
theorem lentR_own {j : Nat} : lentR k (some (.own j d)) = if j = k then some d else none := rfl
theorem lent_io {j : Nat} : lentR k (some (.io j d)) = if j = k then some d else none := rfl
def pbR (env : Env) (i : Nat) (d : D) (is : List Nat) (ds : List D) : Option Sl → Option Env
  | some (.own k _) => putBack (env.set i (.own k d)) is ds
  | some (.io k _) => putBack (env.set i (.io k d)) is ds
  | _ => none
theorem pb_nil : putBack env [] [] = some env := rfl
theorem pb_cons {is : List Nat} : putBack env (i :: is) (d :: ds) = pbR env i d is ds env[i]? := by
  unfold pbR
  show (match env[i]? with | some (.own k _) => putBack (env.set i (.own k d)) is ds | some (.io k _) => putBack (env.set i (.io k d)) is ds | _ => none) = _
  split <;> simp_all
theorem pb_own {is : List Nat} {e : D} : pbR env i d is ds (some (.own k e)) = putBack (env.set i (.own k d)) is ds := rfl
theorem pb_io {is : List Nat} {e : D} : pbR env i d is ds (some (.io k e)) = putBack (env.set i (.io k d)) is ds := rfl
theorem ios_nil : iosOf [] = [] := rfl
theorem ios_d : iosOf (.d k d :: ars) = iosOf ars := rfl
theorem ios_wk : iosOf (.wk i :: ars) = iosOf ars := rfl
theorem ios_io : iosOf (.io i :: ars) = i :: iosOf ars := rfl
theorem wks_nil : wksOf [] = [] := rfl
theorem wks_d : wksOf (.d k d :: ars) = wksOf ars := rfl
theorem wks_wk : wksOf (.wk i :: ars) = i :: wksOf ars := rfl
theorem wks_io : wksOf (.io i :: ars) = wksOf ars := rfl
theorem okAr_eq : okAr ars = (decide ((iosOf ars).Nodup) && (wksOf ars).all fun i => !(iosOf ars).contains i) := rfl
theorem nodup0 : decide (([] : List Nat).Nodup) = true := rfl
theorem nodup1 : decide ([i].Nodup) = true := by simp
def heldR : Option Sl → Bool
  | some (.own _ _) => true
  | some (.io _ _) => true
  | _ => false
theorem q_held : held env i = heldR env[i]? := by
  unfold held heldR
  split <;> simp_all
theorem held_own : heldR (some (.own k d)) = true := rfl
theorem held_io : heldR (some (.io k d)) = true := rfl
end

/-! ### binds -/
def kSeq (f : Env → Res Out) (o : Out) : Res Out := match o with
  | .nx env => f env
  | o => .ok o
theorem q_seq {r : Res Out} {f : Env → Res Out} : seqR r f = r.bind (kSeq f) := rfl
theorem k_seq1 {f : Env → Res Out} {env : Env} : kSeq f (.nx env) = f env := rfl
theorem k_seq2 {f : Env → Res Out} {env : Env} {d : D} : kSeq f (.ret d env) = .ok (.ret d env) := rfl
theorem k_seq3 {f : Env → Res Out} {env : Env} : kSeq f (.brk env) = .ok (.brk env) := rfl
theorem k_seq4 {f : Env → Res Out} {env : Env} : kSeq f (.cnt env) = .ok (.cnt env) := rfl
theorem W.use {α β : Type} {r : Res α} {f : α → Res β} {P : α → Prop} {Q : β → Prop} (h : W r P) (i : ∀ a, P a → W (f a) Q) : W (r.bind f) Q := W.bind.mpr (h.mono i)
theorem W.call {α : Type} {r : Res α} {P Q : α → Prop} (h : W r P) (i : ∀ a, P a → Q a) : W r Q := h.mono i
end DL
namespace DL
open PySem L2
/-! ### more of evaluation -/
def kChn2 (op' : Cop) (y : Wk) (z : Wk × Env) : Res (Wk × Env) := (dCmp op' y z.1).bind (kB z.2)
def kChn3 (op' : Cop) (y : Wk) (c : E) (env : Env) (k : Bool) : Res (Wk × Env) := if k = true then (ev c env).bind (kChn2 op' y) else .ok ((0, .bl false), env)
def kChn1 (op op' : Cop) (c : E) (x : Wk) (y : Wk × Env) : Res (Wk × Env) := if y.1.1 = 0 then (dCmp op x y.1).bind (kChn3 op' y.1 c y.2) else .stuck
def kChn (op op' : Cop) (b c : E) (x : Wk × Env) : Res (Wk × Env) := if x.1.1 = 0 then (ev b x.2).bind (kChn1 op op' c x.1) else .stuck
def kSlc3 (x : Wk) (l : Option Int) (h : Option Int × Env) : Res (Wk × Env) := (dSlc x l h.1).bind (kR h.2)
def kSlc2 (hi : E) (x : Wk) (l : Option Int × Env) : Res (Wk × Env) := (prtOf hi (ev hi) l.2).bind (kSlc3 x l.1)
def kSlc (lo hi : E) (x : Wk × Env) : Res (Wk × Env) := if x.1.1 = 0 ∨ (lo.pure && hi.pure) = true then (prtOf lo (ev lo) x.2).bind (kSlc2 hi x.1) else .stuck
def kPrt (x : Wk × Env) : Res (Option Int × Env) := (asI x.1.2).bind fun i => .ok (some i, x.2)
def notNil : E → Bool
  | .nil => false
  | _ => true
theorem prt_nil {f : Env → Res (Wk × Env)} {env : Env} : prtOf .nil f env = .ok (none, env) := rfl
theorem prt_e {e : E} {env : Env} : prtOf e (ev e) env = if notNil e = true then (ev e env).bind kPrt else .ok (none, env) := by cases e <;> rfl
theorem k_prt {k : Nat} {i : Int} {env : Env} : kPrt ((k, .int i), env) = .ok (some i, env) := rfl
def kMth2 (f : FnD) (x : Wk) (y : List Ar × Env) : Res (Wk × Env) := (callD f (.d x.1 x.2 :: y.1) y.2).bind kD
def kMth (c : Nat) (f : FnD) (es : E) (x : Wk × Env) : Res (Wk × Env) := if (isObj c x.1.2 = true ∧ x.1.1 = 0) ∧ notFl f.name x.1.2 = true then (evs es x.2).bind (kMth2 f x.1) else .stuck
def kLno2 (env : Env) (n : Int) : Res (Wk × Env) := if 0 ≤ n ∧ n < 2 ^ 63 then .ok ((0, .int n), env) else .stuck
def kLno1 (y : D × Env) : Res (Wk × Env) := (asI y.1).bind (kLno2 y.2)
def kLno (c : Nat) (f : FnD) (x : Wk × Env) : Res (Wk × Env) := if isObj c x.1.2 = true ∧ x.1.1 = 0 then (callD f [.d x.1.1 x.1.2] x.2).bind kLno1 else .stuck
def prO (r : Res (D × Env)) : Res (Wk × Env) := match r with | .ok (d, env) => .ok ((0, d), env) | _ => .stuck
def kPrp (c : Nat) (f : FnD) (x : Wk × Env) : Res (Wk × Env) := if isObj c x.1.2 = true ∧ x.1.1 = 0 then prO (callD f [.d x.1.1 x.1.2] x.2) else .stuck
def kAdd1 (c : Nat) (f : FnD) (x : Wk) (y : Wk × Env) : Res (Wk × Env) := if isObj c y.1.2 = true ∧ y.1.1 = 0 then (callD f [.d x.1 x.2, .d y.1.1 y.1.2] y.2).bind kD else .stuck
def kAdd (c : Nat) (f : FnD) (b : E) (x : Wk × Env) : Res (Wk × Env) := if isObj c x.1.2 = true ∧ x.1.1 = 0 then (ev b x.2).bind (kAdd1 c f x.1) else .stuck
def kEq2 (y : D × Env) : Res (Wk × Env) := (asB y.1).bind (kB y.2)
def kEq1 (c : Nat) (f : FnD) (x : Wk) (y : Wk × Env) : Res (Wk × Env) := if (isiD c y.1.2).isSome = true ∧ y.1.1 = 0 then (callD f [.d x.1 x.2, .d y.1.1 y.1.2] y.2).bind kEq2 else .stuck
def kEq (c : Nat) (f : FnD) (b : E) (x : Wk × Env) : Res (Wk × Env) := if isObj c x.1.2 = true ∧ x.1.1 = 0 then (ev b x.2).bind (kEq1 c f x.1) else .stuck
def mkO (env : Env) (x : D × List D) : Res (Wk × Env) := match x.1, x.2 with
  | .non, [o] => .ok ((0, o), env)
  | _, _ => .stuck
def kMk2 (c : Nat) (f : FnD) (env : Env) (ds : List D) : Res (Wk × Env) := if f.ms = 1 :: List.replicate ds.length 0 ∧ f.rk = 0 then (f.den (.nd (.obj c []) [] :: ds)).bind (mkO env) else .stuck
def kMk (c : Nat) (f : FnD) (nw : Bool) (x : List Ar × Env) : Res (Wk × Env) := mkD c f nw x.1 x.2
def mkWO (env : Env) (x : D × List D) : Res (Wk × Env) := match x.1, x.2 with
  | .non, [o] => if noLstK 1 o = true then .ok ((0, o), env) else .stuck
  | _, _ => .stuck
def kMkW (c : Nat) (f : FnD) (ars : List Ar) (env : Env) : Option (List D) → Res (Wk × Env)
  | none => .stuck
  | some ds => if (f.ms = 1 :: List.replicate ars.length 0 ∧ f.rk = 0) ∧ iosOf ars = [] then (f.den (.nd (.obj c []) [] :: ds)).bind (mkWO env) else .stuck
def kMkD (c : Nat) (f : FnD) (nw : Bool) (ars : List Ar) (env : Env) : Option (List D) → Res (Wk × Env)
  | some ds => kMk2 c f env ds
  | none => if nw = true then .stuck else kMkW c f ars env (argsOf env (List.replicate ars.length 0) ars)
def kAppk2 (f : FnD) (env : Env) (ars : List Ar) : Res (Wk × Env) := (callD f ars env).bind kD
def kAppk (f : FnD) (ks : List Str) (pm : List Nat) (x : List Ar × Env) : Res (Wk × Env) := (ofO (kwO ks pm x.1)).bind (kAppk2 f x.2)
def kMthk3 (f : FnD) (x : Wk) (env : Env) (ars : List Ar) : Res (Wk × Env) := (callD f (.d x.1 x.2 :: ars) env).bind kD
def kMthk2 (f : FnD) (ks : List Str) (pm : List Nat) (x : Wk) (y : List Ar × Env) : Res (Wk × Env) := (ofO (kwO ks pm y.1)).bind (kMthk3 f x y.2)
def kMthk (c : Nat) (f : FnD) (ks : List Str) (pm : List Nat) (es : E) (x : Wk × Env) : Res (Wk × Env) := if (isObj c x.1.2 = true ∧ x.1.1 = 0) ∧ notFl f.name x.1.2 = true then (evs es x.2).bind (kMthk2 f ks pm x.1) else .stuck
def kMkk1 (c : Nat) (f : FnD) (env : Env) (ars : List Ar) : Res (Wk × Env) := (ofO (strong ars)).bind (kMk2 c f env)
def kMkk (c : Nat) (f : FnD) (ks : List Str) (pm : List Nat) (x : List Ar × Env) : Res (Wk × Env) := (ofO (kwO ks pm x.1)).bind (kMkk1 c f x.2)
section
variable {env : Env} {a b c : E} {es : E} {f : FnD} {k i : Nat} {d : D} {fl : List Str} {ds : List D} {ks : List Str} {pm : List Nat}
theorem q_chn {op op' : Cop} : ev (.chn op op' a b c) env = (ev a env).bind (kChn op op' b c) := rfl
theorem q_slc : ev (.slc a b c) env = (ev a env).bind (kSlc b c) := rfl
theorem q_mth {c : Nat} : ev (.mth c f a es) env = (ev a env).bind (kMth c f es) := rfl
theorem q_lno {c : Nat} : ev (.lno c f a) env = (ev a env).bind (kLno c f) := rfl
theorem q_prp {c : Nat} : ev (.prp c f a) env = (ev a env).bind (kPrp c f) := by
  show (ev a env).bind _ = (ev a env).bind _
  congr 1
theorem q_addo {c : Nat} : ev (.addo c f a b) env = (ev a env).bind (kAdd c f b) := rfl
theorem q_eqo {c : Nat} : ev (.eqo c f a b) env = (ev a env).bind (kEq c f b) := rfl
theorem q_mk {c : Nat} : ev (.mk c f es) env = (evs es env).bind (kMk c f es.noW) := rfl
theorem q_appk : ev (.appk f ks pm es) env = (evs es env).bind (kAppk f ks pm) := rfl
theorem q_mthk {c : Nat} : ev (.mthk c f ks pm a es) env = (ev a env).bind (kMthk c f ks pm es) := rfl
theorem q_mkk {c : Nat} : ev (.mkk c f ks pm es) env = (evs es env).bind (kMkk c f ks pm) := rfl
theorem r_chn {op op' : Cop} : kChn op op' b c ((0, d), env) = (ev b env).bind (kChn1 op op' c (0, d)) := if_pos rfl
theorem r_chn1 {op op' : Cop} {x : Wk} : kChn1 op op' c x ((0, d), env) = (dCmp op x (0, d)).bind (kChn3 op' (0, d) c env) := if_pos rfl
theorem r_chn3 {op' : Cop} {y : Wk} {k : Bool} : kChn3 op' y c env k = if k = true then (ev c env).bind (kChn2 op' y) else .ok ((0, .bl false), env) := rfl
theorem r_chn2 {op' : Cop} {y z : Wk} : kChn2 op' y (z, env) = (dCmp op' y z).bind (kB env) := rfl
theorem r_slc : kSlc a b ((0, d), env) = (prtOf a (ev a) env).bind (kSlc2 b (0, d)) := if_pos (.inl rfl)
theorem r_slcp : kSlc a b ((1, d), env) = if (a.pure && b.pure) = true then (prtOf a (ev a) env).bind (kSlc2 b (1, d)) else .stuck := by
  unfold kSlc; simp
theorem r_slc2 {x : Wk} {l : Option Int} : kSlc2 b x (l, env) = (prtOf b (ev b) env).bind (kSlc3 x l) := rfl
theorem r_slc3 {x : Wk} {l h : Option Int} : kSlc3 x l (h, env) = (dSlc x l h).bind (kR env) := rfl
theorem r_mth {c c' : Nat} : kMth c f es ((0, .nd (.obj c' fl) ds), env) = if (c == c') && !fl.contains f.name then (evs es env).bind (kMth2 f (0, .nd (.obj c' fl) ds)) else .stuck := by
  unfold kMth
  simp [isObj, notFl]
theorem r_mth2 {x : Wk} {ars : List Ar} : kMth2 f x (ars, env) = (callD f (.d x.1 x.2 :: ars) env).bind kD := rfl
theorem r_lno {c c' : Nat} : kLno c f ((0, .nd (.obj c' fl) ds), env) = if (c == c') then (callD f [.d 0 (.nd (.obj c' fl) ds)] env).bind kLno1 else .stuck := by
  unfold kLno
  simp [isObj]
theorem r_lno1 {n : Int} : kLno1 (.int n, env) = if 0 ≤ n ∧ n < 9223372036854775808 then .ok ((0, .int n), env) else .stuck := rfl
theorem r_prp {c c' : Nat} : kPrp c f ((0, .nd (.obj c' fl) ds), env) = if (c == c') then prO (callD f [.d 0 (.nd (.obj c' fl) ds)] env) else .stuck := by
  unfold kPrp
  simp [isObj]
theorem W.prO {r : Res (D × Env)} {Q : Wk × Env → Prop} : W (prO r) Q ↔ W r fun x => Q ((0, x.1), x.2) := by
  cases r with
  | ok a =>
    obtain ⟨d, env⟩ := a
    constructor
    · rintro ⟨x, e, q⟩
      cases (show Res.ok ((0, d), env) = Res.ok x from e)
      exact ⟨_, rfl, q⟩
    · rintro ⟨x, e, q⟩
      cases e
      exact ⟨_, rfl, q⟩
  | exn c d => constructor <;> (rintro ⟨_, e, _⟩; first | cases e | exact nomatch (show (Res.stuck : Res (Wk × Env)) = _ from e))
  | stuck => constructor <;> (rintro ⟨_, e, _⟩; first | cases e | exact nomatch (show (Res.stuck : Res (Wk × Env)) = _ from e))
theorem pr_ok {d : D} : prO (.ok (d, env)) = .ok ((0, d), env) := rfl
theorem r_addo {c c' : Nat} : kAdd c f b ((0, .nd (.obj c' fl) ds), env) = if (c == c') then (ev b env).bind (kAdd1 c f (0, .nd (.obj c' fl) ds)) else .stuck := by
  unfold kAdd
  simp [isObj]
theorem r_add1 {c c' : Nat} {x : Wk} : kAdd1 c f x ((0, .nd (.obj c' fl) ds), env) = if (c == c') then (callD f [.d x.1 x.2, .d 0 (.nd (.obj c' fl) ds)] env).bind kD else .stuck := by
  unfold kAdd1
  simp [isObj]
theorem r_eqo {c c' : Nat} : kEq c f b ((0, .nd (.obj c' fl) ds), env) = if (c == c') then (ev b env).bind (kEq1 c f (0, .nd (.obj c' fl) ds)) else .stuck := by
  unfold kEq
  simp [isObj]
theorem r_eq1 {c : Nat} {x : Wk} : kEq1 c f x ((0, d), env) = if (isiD c d).isSome = true then (callD f [.d x.1 x.2, .d 0 d] env).bind kEq2 else .stuck := by
  unfold kEq1
  simp
def kIsi (c : Nat) (x : Wk × Env) : Res (Wk × Env) := (ofO (isiD c x.1.2)).bind (kB x.2)
theorem q_isi {c : Nat} {nm : Str} : ev (.isi c nm a) env = (ev a env).bind (kIsi c) := rfl
theorem r_isi {c : Nat} : kIsi c ((k, d), env) = (ofO (isiD c d)).bind (kB env) := rfl
theorem isiD_obj {c c' : Nat} : isiD c (.nd (.obj c' fl) ds) = if c = c' then some true else none := rfl
theorem isiD_lst {c : Nat} : isiD c (.nd .lst ds) = some false := rfl
theorem isiD_tup {c : Nat} : isiD c (.nd .tup ds) = some false := rfl
theorem isiD_non {c : Nat} : isiD c .non = some false := rfl
theorem isiD_int {c : Nat} {i : Int} : isiD c (.int i) = some false := rfl
theorem isiD_bl {c : Nat} {i : Bool} : isiD c (.bl i) = some false := rfl
theorem isiD_str {c : Nat} {i : Str} : isiD c (.str i) = some false := rfl
def kLrg2 (env : Env) (i j : Int) : Res (Wk × Env) := if (-(2 ^ 62) ≤ i ∧ i < 2 ^ 62) ∧ (-(2 ^ 62) ≤ j ∧ j < 2 ^ 62) ∧ (j - i).toNat ≤ lim then .ok ((0, .lst (rangeL i (j - i).toNat)), env) else .stuck
def kLrg1 (i : Int) (y : Wk × Env) : Res (Wk × Env) := (asI y.1.2).bind (kLrg2 y.2 i)
def kLrg (b : E) (x : Wk × Env) : Res (Wk × Env) := (asI x.1.2).bind fun i => (ev b x.2).bind (kLrg1 i)
theorem q_lrg : ev (.lrg a b) env = (ev a env).bind (kLrg b) := rfl
theorem r_lrg {i : Int} : kLrg b ((k, .int i), env) = (ev b env).bind (kLrg1 i) := rfl
theorem r_lrg1 {i j : Int} : kLrg1 i ((k, .int j), env) = kLrg2 env i j := rfl
theorem r_lrg2 {i j : Int} : kLrg2 env i j = if (-4611686018427387904 ≤ i ∧ i < 4611686018427387904) ∧ (-4611686018427387904 ≤ j ∧ j < 4611686018427387904) ∧ (j - i).toNat ≤ 100000 then .ok ((0, .lst (rangeL i (j - i).toNat)), env) else .stuck := rfl
theorem qc_isi (c : Nat) (nm : Str) (a : E) : evs (.cons (.isi c nm a) es) env = (ev (.isi c nm a) env).bind (kCons es) := rfl
theorem qc_lrg (a b : E) : evs (.cons (.lrg a b) es) env = (ev (.lrg a b) env).bind (kCons es) := rfl
theorem r_eq2 {k : Bool} : kEq2 (.bl k, env) = .ok ((0, .bl k), env) := rfl
theorem r_mk {c : Nat} {ars : List Ar} {nw : Bool} : kMk c f nw (ars, env) = kMkD c f nw ars env (strong ars) := by
  show mkD c f nw ars env = _
  unfold mkD kMkD
  cases strong ars with
  | some ds => rfl
  | none =>
    simp only []
    congr 1
theorem r_mkS {c : Nat} {ars : List Ar} {nw : Bool} {ds : List D} : kMkD c f nw ars env (some ds) = kMk2 c f env ds := rfl
theorem r_mkN {c : Nat} {ars : List Ar} : kMkD c f false ars env none = kMkW c f ars env (argsOf env (List.replicate ars.length 0) ars) := rfl
theorem r_mkW {c : Nat} {ars : List Ar} {ds : List D} : kMkW c f ars env (some ds) = if (f.ms = 1 :: List.replicate ars.length 0 ∧ f.rk = 0) ∧ iosOf ars = [] then (f.den (.nd (.obj c []) [] :: ds)).bind (mkWO env) else .stuck := rfl
theorem r_mkWO {o : D} : mkWO env (.non, [o]) = if noLstK 1 o = true then .ok ((0, o), env) else .stuck := rfl
theorem strong_wk {i : Nat} {ars : List Ar} : strong (.wk i :: ars) = none := rfl
theorem noW_wk {i : Nat} {es : E} : E.noW (.cons (.wka i) es) = false := rfl
theorem r_mk2 {c : Nat} : kMk2 c f env ds = if f.ms = 1 :: List.replicate ds.length 0 ∧ f.rk = 0 then (f.den (.nd (.obj c []) [] :: ds)).bind (mkO env) else .stuck := rfl
theorem r_mko {o : D} : mkO env (.non, [o]) = .ok ((0, o), env) := rfl
theorem r_appk {ars : List Ar} : kAppk f ks pm (ars, env) = (ofO (kwO ks pm ars)).bind (kAppk2 f env) := rfl
theorem r_appk2 {ars : List Ar} : kAppk2 f env ars = (callD f ars env).bind kD := rfl
theorem r_mthk {c c' : Nat} : kMthk c f ks pm es ((0, .nd (.obj c' fl) ds), env) = if (c == c') && !fl.contains f.name then (evs es env).bind (kMthk2 f ks pm (0, .nd (.obj c' fl) ds)) else .stuck := by
  unfold kMthk
  simp [isObj, notFl]
theorem r_mthk2 {x : Wk} {ars : List Ar} : kMthk2 f ks pm x (ars, env) = (ofO (kwO ks pm ars)).bind (kMthk3 f x env) := rfl
theorem r_mthk3 {x : Wk} {ars : List Ar} : kMthk3 f x env ars = (callD f (.d x.1 x.2 :: ars) env).bind kD := rfl
theorem r_mkk {c : Nat} {ars : List Ar} : kMkk c f ks pm (ars, env) = (ofO (kwO ks pm ars)).bind (kMkk1 c f env) := rfl
theorem r_mkk1 {c : Nat} {ars : List Ar} : kMkk1 c f env ars = (ofO (strong ars)).bind (kMk2 c f env) := rfl
theorem kwO_eq {ars : List Ar} : kwO ks pm ars = if ars.length = ks.length then permO pm ars else none := rfl
theorem perm_nil {α : Type} {l : List α} : permO [] l = some [] := rfl
def permR {α : Type} (is : List Nat) (l : List α) : Option α → Option (List α)
  | some x => (permO is l).map (x :: ·)
  | none => none
theorem perm_cons {α : Type} {is : List Nat} {l : List α} : permO (i :: is) l = permR is l l[i]? := by
  show (match l[i]?, permO is l with | some x, some r => some (x :: r) | _, _ => none) = _
  unfold permR
  cases l[i]? <;> cases permO is l <;> rfl
theorem permR_some {α : Type} {is : List Nat} {l : List α} {x : α} : permR is l (some x) = (permO is l).map (x :: ·) := rfl
end

theorem get_split {α : Type} {xs ys : List α} {y : α} {i : Nat} (e : xs = xs.take i ++ y :: ys) (l : i ≤ xs.length) : xs[i]? = some y := by
  have h : (xs.take i).length = i := by simp; omega
  rw [e, List.getElem?_append_right (by omega), h]; simp
/-! ### comprehensions -/
def kComp3 (tg : List Nat) (env : Env) (r : Res (List D × Env)) : Res (Wk × Env) := match r with
  | .ok (ds, env') => .ok ((0, .lst ds), back env tg env')
  | _ => .stuck
def kComp (tg : List Nat) (t e : E) (x : List D × Env) : Res (Wk × Env) := if freeSl x.2 tg = true ∧ x.1.length ≤ lim then kComp3 tg x.2 (compL tg (tstOf t (ev t)) (eltOf (ev e)) x.1 (blank x.2 tg)) else .stuck
section
variable {env : Env} {tg : List Nat} {t e it : E} {xs : List D}
theorem q_comp : ev (.comp tg it t e) env = (evi it env).bind (kComp tg t e) := by
  show (evi it env).bind _ = (evi it env).bind _
  congr 1
def kSsc4 (env : Env) (r : Option (List Int)) : Res (Wk × Env) := match r with
  | some is => .ok ((0, .lst ((sortI (dd is)).map .int)), env)
  | none => .stuck
def kSsc3 (tg : List Nat) (env : Env) (r : Res (List D × Env)) : Res (Wk × Env) := match r with
  | .ok (ds, env') => kSsc4 (back env tg env') (intsOf ds)
  | _ => .stuck
def kSsc (tg : List Nat) (t e : E) (x : List D × Env) : Res (Wk × Env) := if freeSl x.2 tg = true ∧ x.1.length < 64 then kSsc3 tg x.2 (compL tg (tstOf t (ev t)) (eltOf (ev e)) x.1 (blank x.2 tg)) else .stuck
theorem q_ssc : ev (.ssc tg it t e) env = (evi it env).bind (kSsc tg t e) := by
  show (evi it env).bind _ = (evi it env).bind _
  congr 1
theorem kSsc_ok {xs : List D} {ds : List D} {is : List Int} {env' : Env} (hl : xs.length < 64) (h : kComp tg t e (xs, env) = .ok ((0, .lst ds), env')) (hi : intsOf ds = some is) : kSsc tg t e (xs, env) = .ok ((0, .lst ((sortI (dd is)).map .int)), env') := by
  unfold kComp at h
  unfold kSsc
  split at h
  · rename_i h1
    rw [if_pos ⟨h1.1, hl⟩]
    simp only [] at h ⊢
    cases e1 : compL tg (tstOf t (ev t)) (eltOf (ev e)) xs (blank env tg) with
    | ok r =>
      obtain ⟨ds', env2⟩ := r
      rw [e1] at h
      cases h
      show kSsc4 _ (intsOf ds) = _
      rw [hi]
      rfl
    | exn c d => rw [e1] at h; cases h
    | stuck => rw [e1] at h; cases h
  · cases h
/-- a comprehension; I: how many went by, what is made, the names -/
theorem W_comp {Q : Wk × Env → Prop} (I : Nat → List D → Env → Prop) (hf : freeSl env tg = true) (hl : xs.length ≤ lim) (h0 : I 0 [] (blank env tg))
    (hs : ∀ (i : Nat) (ds : List D) (x : D) (env1 : Env), xs[i]? = some x → I i ds env1 → W (setIs env1 tg x) fun env2 => W (tstOf t (ev t) env2) fun y => if y.1 = true then W (eltOf (ev e) y.2) fun z => freeSl z.2 tg = true ∧ I (i + 1) (ds ++ [z.1]) (blank z.2 tg) else freeSl y.2 tg = true ∧ I (i + 1) ds (blank y.2 tg))
    (he : ∀ ds env1, I xs.length ds env1 → Q ((0, .lst ds), back env tg env1)) : W (kComp tg t e (xs, env)) Q := by
  have main : ∀ (ys : List D) (i : Nat) (ds : List D) (env1 : Env), xs = xs.take i ++ ys → i + ys.length = xs.length → I i ds env1 → W (compL tg (tstOf t (ev t)) (eltOf (ev e)) ys env1) fun r => I xs.length (ds ++ r.1) r.2 := by
    intro ys
    induction ys with
    | nil =>
      intro i ds env1 e l h
      refine ⟨([], env1), rfl, ?_⟩
      have : i = xs.length := by simpa using l
      subst this
      simpa using h
    | cons y ys ih =>
      intro i ds env1 e l h
      have hi : xs[i]? = some y := get_split e (by simp at l; omega)
      have e2 : xs = xs.take (i + 1) ++ ys := by
        rw [List.take_add_one, hi]
        simpa using e
      have h2 := hs i ds y env1 hi h
      show W ((setIs env1 tg y).bind _) _
      refine W.bind.mpr (h2.mono fun env2 h3 => ?_)
      refine W.bind.mpr (h3.mono fun ⟨b, env3⟩ h4 => ?_)
      simp only at h4 ⊢
      cases b with
      | true =>
        simp only [if_true] at h4 ⊢
        refine W.bind.mpr (h4.mono fun ⟨d, env4⟩ h5 => ?_)
        simp only at h5 ⊢
        rw [if_pos h5.1]
        refine W.bind.mpr ((ih (i + 1) _ _ e2 (by simp at l; omega) h5.2).mono fun ⟨r, env5⟩ h6 => ?_)
        refine W.ok.mpr ?_
        simpa using h6
      | false =>
        simp only [Bool.false_eq_true, if_false] at h4 ⊢
        rw [if_pos h4.1]
        exact ih (i + 1) _ _ e2 (by simp at l; omega) h4.2
  unfold kComp
  rw [if_pos ⟨hf, hl⟩]
  obtain ⟨⟨ds, env1⟩, e, h⟩ := main xs 0 [] _ (by simp) (by simp) h0
  simp only
  rw [e]
  exact ⟨_, rfl, he ds env1 (by simpa using h)⟩
/-- .. that touches nothing -/
theorem W_map {Q : Wk × Env → Prop} (p : D → Bool) (g : D → D) (hf : freeSl env tg = true) (hl : xs.length ≤ lim)
    (hs : ∀ (i : Nat) (x : D), xs[i]? = some x → W (setIs (blank env tg) tg x) fun env2 => W (tstOf t (ev t) env2) fun y => y.1 = p x ∧ if p x = true then W (eltOf (ev e) y.2) fun z => z.1 = g x ∧ freeSl z.2 tg = true ∧ blank z.2 tg = blank env tg else freeSl y.2 tg = true ∧ blank y.2 tg = blank env tg)
    (he : Q ((0, .lst ((xs.filter p).map g)), back env tg (blank env tg))) : W (kComp tg t e (xs, env)) Q := by
  refine W_comp (I := fun i ds env1 => env1 = blank env tg ∧ ds = ((xs.take i).filter p).map g) hf hl ⟨rfl, rfl⟩ ?_ ?_
  · rintro i ds x env1 hx ⟨rfl, rfl⟩
    refine (hs i x hx).mono fun env2 h => h.mono fun y ⟨h1, h2⟩ => ?_
    rw [List.take_add_one, hx]
    rw [h1]
    split
    · rename_i hp
      rw [if_pos hp] at h2
      refine h2.mono fun z ⟨h3, h4, h5⟩ => ⟨h4, h5, ?_⟩
      simp [hp, h3]
    · rename_i hp
      rw [if_neg hp] at h2
      refine ⟨h2.1, h2.2, ?_⟩
      simp [hp]
  · rintro ds env1 ⟨rfl, rfl⟩
    simpa using he
def kTst (x : Wk × Env) : Res (Bool × Env) := (asB x.1.2).bind fun k => .ok (k, x.2)
def kElt (x : Wk × Env) : Res (D × Env) := (str1 x.1).bind fun d => .ok (d, x.2)
theorem tstR_nil {f : Env → Res (Wk × Env)} : tstOf .nil f env = .ok (true, env) := rfl
theorem tst_e : tstOf t (ev t) env = if notNil t = true then (ev t env).bind kTst else .ok (true, env) := by cases t <;> rfl
theorem k_tst {k : Nat} {b : Bool} : kTst ((k, .bl b), env) = .ok (b, env) := rfl
theorem elt_e : eltOf (ev e) env = (ev e env).bind kElt := rfl
theorem k_elt {d : D} : kElt ((0, d), env) = .ok (d, env) := rfl
theorem q_is1 {i : Nat} {d : D} : setIs env [i] d = setSl env i (.val d) := rfl
theorem q_is2 {i j : Nat} {is : List Nat} {ds : List D} : setIs env (i :: j :: is) (.tup ds) = setTis env ((i :: j :: is).map .sl) ds := rfl
def freeR : Option Sl → Bool
  | some .un => true
  | some (.val _) => true
  | _ => false
theorem free_nil : freeSl env [] = true := rfl
theorem free_cons {i : Nat} : freeSl env (i :: tg) = (freeR env[i]? && freeSl env tg) := by
  show ((match env[i]? with | some .un => true | some (.val _) => true | _ => false) && _) = _
  congr 1
theorem free_un : freeR (some .un) = true := rfl
theorem free_val {d : D} : freeR (some (.val d)) = true := rfl
theorem blank_nil : blank env [] = env := rfl
theorem blank_cons {i : Nat} : blank env (i :: tg) = (blank env tg).set i .un := rfl
def backR (i : Nat) (e : Env) : Option Sl → Env
  | some s => e.set i s
  | none => e
theorem back_nil {old : Env} : back old [] env = env := rfl
theorem back_cons {old : Env} {i : Nat} : back old (i :: tg) env = backR i (back old tg env) old[i]? := by
  show (match old[i]? with | some s => (back old tg env).set i s | none => back old tg env) = _
  unfold backR
  split <;> simp_all
theorem back_some {i : Nat} {s : Sl} : backR i env (some s) = env.set i s := rfl
end
/-! ### what is gone through -/
def kIlst (x : Wk × Env) : Res (List D × Env) := match x.1 with | (0, .nd .lst ds) => .ok (ds, x.2) | _ => .stuck
def kIscr (x : Wk × Env) : Res (List D × Env) := match x.1 with | (0, .nd .scr ds) => .ok (ds, x.2) | _ => .stuck
def kItup (x : Wk × Env) : Res (List D × Env) := match x.1 with | (0, .nd .tup ds) => .ok (ds, x.2) | _ => .stuck
def kIr1 (x : Wk × Env) : Res (List D × Env) := (asI x.1.2).bind fun j => if -(2 ^ 62) ≤ j ∧ j < 2 ^ 62 then .ok (rangeL 0 j.toNat, x.2) else .stuck
def kIr2b (i : Int) (y : Wk × Env) : Res (List D × Env) := (asI y.1.2).bind fun j => .ok (rangeL i (j - i).toNat, y.2)
def kIr2a (b : E) (env : Env) (i : Int) : Res (List D × Env) := (ev b env).bind (kIr2b i)
def kIr2 (b : E) (x : Wk × Env) : Res (List D × Env) := (asI x.1.2).bind (kIr2a b x.2)
def kIen (x : Wk × Env) : Res (List D × Env) := match x.1 with | (0, .nd .lst ds) => .ok (enumL 0 ds, x.2) | _ => .stuck
def kIzp2 (x : Wk) (y : Wk × Env) : Res (List D × Env) := match x, y.1 with | (0, .nd .lst xs), (0, .nd .lst ys) => .ok (zipL xs ys, y.2) | _, _ => .stuck
def kIzp (b : E) (x : Wk × Env) : Res (List D × Env) := (ev b x.2).bind (kIzp2 x.1)
section
variable {env : Env} {a b : E} {ds es : List D} {k : Nat} {i j : Int}
theorem q_ilst : evi (.ilst a) env = (ev a env).bind kIlst := rfl
theorem q_iscr : evi (.iscr a) env = (ev a env).bind kIscr := rfl
theorem q_itup : evi (.itup a) env = (ev a env).bind kItup := rfl
theorem q_ir1 : evi (.irg1 a) env = (ev a env).bind kIr1 := rfl
theorem q_ir2 : evi (.irg2 a b) env = (ev a env).bind (kIr2 b) := rfl
theorem q_ien : evi (.ienum a) env = (ev a env).bind kIen := rfl
theorem q_izp : evi (.izip a b) env = (ev a env).bind (kIzp b) := rfl
theorem r_ilst : kIlst ((0, .lst ds), env) = .ok (ds, env) := rfl
theorem r_iscr : kIscr ((0, .nd .scr ds), env) = .ok (ds, env) := rfl
theorem r_itup : kItup ((0, .tup ds), env) = .ok (ds, env) := rfl
theorem r_ir1 : kIr1 ((k, .int i), env) = if -4611686018427387904 ≤ i ∧ i < 4611686018427387904 then .ok (rangeL 0 i.toNat, env) else .stuck := rfl
theorem r_ir2 : kIr2 b ((k, .int i), env) = (ev b env).bind (kIr2b i) := rfl
theorem r_ir2b : kIr2b i ((k, .int j), env) = .ok (rangeL i (j - i).toNat, env) := rfl
theorem r_ien : kIen ((0, .lst ds), env) = .ok (enumL 0 ds, env) := rfl
theorem r_izp {x : Wk} : kIzp b (x, env) = (ev b env).bind (kIzp2 x) := rfl
theorem r_izp2 : kIzp2 (0, .lst ds) ((0, .lst es), env) = .ok (zipL ds es, env) := rfl
end
/-! ### loops -/
def LoopQ (J : Env → Prop) (Q : Out → Prop) : Out → Prop
  | .nx env => J env
  | .cnt env => J env
  | .brk env => Q (.nx env)
  | .ret d env => Q (.ret d env)
section
variable {env : Env} {tg : List Nat} {xs : List D} {Q : Out → Prop}
/-- a for; I: how many went by, the names -/
theorem W_for {b : Env → Res Out} (I : Nat → Env → Prop) (h0 : I 0 env) (hs : ∀ (i : Nat) (x : D) (env1 : Env), xs[i]? = some x → I i env1 → W (setIs env1 tg x) fun env2 => W (b env2) (LoopQ (I (i + 1)) Q)) (he : ∀ env1, I xs.length env1 → Q (.nx env1)) : W (forL tg b xs env) Q := by
  have main : ∀ (ys : List D) (i : Nat) (env1 : Env), xs = xs.take i ++ ys → i + ys.length = xs.length → I i env1 → W (forL tg b ys env1) Q := by
    intro ys
    induction ys with
    | nil =>
      intro i env1 e l h
      have : i = xs.length := by simpa using l
      subst this
      exact ⟨_, rfl, he env1 h⟩
    | cons y ys ih =>
      intro i env1 e l h
      have hi : xs[i]? = some y := get_split e (by simp at l; omega)
      have e2 : xs = xs.take (i + 1) ++ ys := by
        rw [List.take_add_one, hi]
        simpa using e
      show W ((setIs env1 tg y).bind _) _
      refine W.bind.mpr ((hs i y env1 hi h).mono fun env2 h2 => ?_)
      refine W.bind.mpr (h2.mono fun o h3 => ?_)
      cases o with
      | nx env3 => exact ih (i + 1) env3 e2 (by simp at l; omega) h3
      | cnt env3 => exact ih (i + 1) env3 e2 (by simp at l; omega) h3
      | brk env3 => exact ⟨_, rfl, h3⟩
      | ret d env3 => exact ⟨_, rfl, h3⟩
  exact main xs 0 env (by simp) (by simp) h0
/-- a while; n: what falls -/
theorem W_whl {t : E} {b : Env → Res Out} (I : Nat → Env → Prop) : ∀ (n : Nat) (env : Env), I n env → (∀ n env1, I n env1 → W (ev t env1) fun x => W (asB x.1.2) fun k => if k = true then W (b x.2) (LoopQ (fun env2 => ∃ m, m < n ∧ I m env2) Q) else Q (.nx x.2)) → W (whl (ev t) b env) Q := by
  intro n env h hs
  have main : ∀ n env, I n env → ∃ m, W (whlF (ev t) b m env) Q := by
    intro n
    induction n using Nat.strongRecOn with
    | ind n ih =>
      intro env h
      obtain ⟨⟨x, env1⟩, e1, k, e2, h2⟩ := hs n env h
      cases k with
      | false =>
        refine ⟨1, .nx env1, ?_, h2⟩
        show (ev t env).bind _ = _
        rw [e1]
        show (asB x.2).bind _ = _
        rw [show asB x.2 = _ from e2]
        rfl
      | true =>
        simp only [if_true] at h2
        obtain ⟨o, e3, h3⟩ := h2
        have step : ∀ m, whlF (ev t) b (m + 1) env = (b env1).bind fun o => match o with
            | .nx env => whlF (ev t) b m env
            | .cnt env => whlF (ev t) b m env
            | .brk env => .ok (.nx env)
            | .ret d env => .ok (.ret d env) := by
          intro m
          show (ev t env).bind _ = _
          rw [e1]
          show (asB x.2).bind _ = _
          rw [show asB x.2 = _ from e2]
          rfl
        rw [show b env1 = _ from e3] at step
        cases o with
        | nx env2 =>
          obtain ⟨m, hm, h4⟩ := h3
          obtain ⟨q, h5⟩ := ih m hm env2 h4
          exact ⟨q + 1, by rw [step]; exact h5⟩
        | cnt env2 =>
          obtain ⟨m, hm, h4⟩ := h3
          obtain ⟨q, h5⟩ := ih m hm env2 h4
          exact ⟨q + 1, by rw [step]; exact h5⟩
        | brk env2 => exact ⟨1, by rw [step]; exact ⟨_, rfl, h3⟩⟩
        | ret d env2 => exact ⟨1, by rw [step]; exact ⟨_, rfl, h3⟩⟩
  obtain ⟨m, o, e, q⟩ := main n env h
  exact ⟨o, whl_eq e (by simp), q⟩
end
end DL

namespace DL
open PySem L2
section
variable {env : Env} {i j k : Nat} {d e : D} {ds more : List D}
theorem d_eq : dCmp .eq (j, d) (k, e) = dEq d e := rfl
theorem d_ne : dCmp .ne (j, d) (k, e) = (dEq d e).bind fun b => .ok (!b) := rfl
def growR (env : Env) (i : Nat) (more : List D) : Option Sl → Res Env
  | some (.own (k + 1) d) => (growAt.grow none more (k + 1) d).bind fun d' => .ok (env.set i (.own (k + 1) d'))
  | some (.io (k + 1) d) => (growAt.grow none more (k + 1) d).bind fun d' => .ok (env.set i (.io (k + 1) d'))
  | _ => .stuck
theorem q_grow : growAt env i none more = growR env i more env[i]? := by
  unfold growAt growR
  split <;> simp_all
theorem grow_own : growR env i more (some (.own 1 (.lst ds))) = if ds.length + more.length ≤ 100000 then .ok (env.set i (.own 1 (.lst (ds ++ more)))) else .stuck := by
  show Res.bind (if ds.length + more.length ≤ 100000 then Res.ok (D.lst (ds ++ more)) else .stuck) _ = _
  split <;> rfl
theorem grow_io : growR env i more (some (.io 1 (.lst ds))) = if ds.length + more.length ≤ 100000 then .ok (env.set i (.io 1 (.lst (ds ++ more)))) else .stuck := by
  show Res.bind (if ds.length + more.length ≤ 100000 then Res.ok (D.lst (ds ++ more)) else .stuck) _ = _
  split <;> rfl
end
end DL

namespace DL
open PySem L2
/-- a slot that may be stored -/
class Nio (t : Sl) : Prop where
  h : ∀ k d, t ≠ .io k d
instance : Nio .un := ⟨nofun⟩
instance {d : D} : Nio (.val d) := ⟨nofun⟩
instance {k : Nat} {d : D} : Nio (.own k d) := ⟨nofun⟩
theorem set_nio {env : Env} {i : Nat} {s t : Sl} [n : Nio t] : setR env i s (some t) = .ok (env.set i s) := by
  cases t with
  | io k d => exact absurd rfl (n.h k d)
  | _ => rfl
end DL
namespace DL
open PySem L2
section
variable {env : Env} {i j k : Nat} {d x : D} {ds : List D} {e : E} {op : Bop}
def augR (op : Bop) (i : Nat) (e : E) (env : Env) : Option Sl → Res Out
  | some (.val x) => (ev e env).bind fun y => (dBin op (0, x) y.1).bind fun d => match x with
      | .int _ => (setSl y.2 i (.val d)).bind fun env => .ok (.nx env)
      | _ => .stuck
  | _ => .stuck
def kAug (op : Bop) (i : Nat) (x : Int) (y : Wk × Env) : Res Out := (dBin op (0, .int x) y.1).bind fun d => (setSl y.2 i (.val d)).bind fun env => .ok (.nx env)
theorem x_aug : ex (.aug op i e) env = augR op i e env env[i]? := by
  show (match env[i]? with | some (.val x) => _ | _ => _) = _
  unfold augR
  split <;> first | rfl | (simp_all; done) | (simp_all; rfl)
theorem aug_val {x : Int} : augR op i e env (some (.val (.int x))) = (ev e env).bind (kAug op i x) := rfl
theorem k_aug2 {x : Int} {y : Wk} : kAug op i x (y, env) = (dBin op (0, .int x) y).bind fun d => (setSl env i (.val d)).bind fun env => .ok (.nx env) := rfl
def frzR (env : Env) (i : Nat) : Option Sl → Res Out
  | some (.own _ d) => .ok (.nx (env.set i (.val d)))
  | _ => .stuck
theorem x_frz : ex (.frz i) env = frzR env i env[i]? := by
  show (match env[i]? with | some (.own _ d) => _ | _ => _) = _
  unfold frzR
  split <;> simp_all
theorem frz_own : frzR env i (some (.own k d)) = .ok (.nx (env.set i (.val d))) := rfl
theorem k_frz : True := trivial
theorem x_brk : ex .brk env = .ok (.brk env) := rfl
theorem x_cnt : ex .cnt env = .ok (.cnt env) := rfl
def retmR (env : Env) (i : Nat) : Option Sl → Res Out
  | some (.own 1 (.nd .lst ds)) => .ok (.ret (.lst ds) (env.set i .un))
  | _ => .stuck
theorem x_retm : ex (.retm i) env = retmR env i env[i]? := by
  show (match env[i]? with | some (.own 1 (.nd .lst ds)) => _ | _ => _) = _
  unfold retmR
  split <;> simp_all
theorem retm_own : retmR env i (some (.own 1 (.lst ds))) = .ok (.ret (.lst ds) (env.set i .un)) := rfl
theorem d_pow3 {x y : Int} {j k : Nat} (h : PowOk x y = true) : dBin .pow (j, .int x) (k, .int y) = .ok (.int (x ^ y.toNat)) := d_pow h
/-- ten to some power -/
def powR (y : Int) : Bool → Res D
  | true => .ok (.int (10 ^ y.toNat))
  | false => dBin .pow (0, .int 10) (0, .int y)
theorem d_powc {y : Int} {j k : Nat} : dBin .pow (j, .int 10) (k, .int y) = powR y (decide (0 ≤ y ∧ y ≤ 1000)) := by
  by_cases h : 0 ≤ y ∧ y ≤ 1000
  · rw [decide_eq_true h]
    refine d_pow ?_
    simp only [PowOk, Bool.and_eq_true, decide_eq_true_eq]
    refine ⟨h.1, ?_⟩
    have : (10 : Int).natAbs.log2 = 3 := rfl
    rw [this]
    omega
  · rw [decide_eq_false h]
    rfl
theorem powR_t {y : Int} : powR y true = .ok (.int (10 ^ y.toNat)) := rfl
theorem ints0 : (D.lst [] : D) = .lst (([] : List Int).map D.int) := rfl
end
end DL

namespace DL
theorem asB_bl {b : Bool} : asB (.bl b) = .ok b := rfl
theorem asI_int {i : Int} : asI (.int i) = .ok i := rfl
end DL
namespace DL
open PySem L2
def kStar2 (ars : List Ar) (y : List Ar × Env) : Res (List Ar × Env) := .ok (ars ++ y.1, y.2)
def kStar1 (es : E) (env : Env) (ars : List Ar) : Res (List Ar × Env) := (evs es env).bind (kStar2 ars)
def kStar (es : E) (x : Wk × Env) : Res (List Ar × Env) := (ofO (seqArs x.1)).bind (kStar1 es x.2)
def kApps1 (f : FnD) (env : Env) (ars : List Ar) : Res (Wk × Env) := (callD f ars env).bind kD
def kApps (f : FnD) (x : Wk × Env) : Res (Wk × Env) := (ofO (seqArs x.1)).bind (kApps1 f x.2)
def kDget (kvs : List (Str × Int)) (x : Wk × Env) : Res (Wk × Env) := (ofO (dgetD kvs x.1.2)).bind (kR x.2)
section
variable {env : Env} {a es : E} {ds : List D} {ars : List Ar} {f : FnD} {d : D} {nm : Str} {kvs : List (Str × Int)}
theorem q_star : evs (.cons (.star a) es) env = (ev a env).bind (kStar es) := rfl
theorem r_star {x : Wk} : kStar es (x, env) = (ofO (seqArs x)).bind (kStar1 es env) := rfl
theorem r_star1 : kStar1 es env ars = (evs es env).bind (kStar2 ars) := rfl
theorem r_star2 {ars2 : List Ar} : kStar2 ars (ars2, env) = .ok (ars ++ ars2, env) := rfl
theorem sq_lst : seqArs (0, .lst ds) = some (ds.map (Ar.d 0)) := rfl
theorem sq_tup : seqArs (0, .tup ds) = some (ds.map (Ar.d 0)) := rfl
theorem q_apps : ev (.apps f a) env = (ev a env).bind (kApps f) := rfl
theorem r_apps {x : Wk} : kApps f (x, env) = (ofO (seqArs x)).bind (kApps1 f env) := rfl
theorem r_apps1 : kApps1 f env ars = (callD f ars env).bind kD := rfl
theorem q_dget : ev (.dget nm kvs a) env = (ev a env).bind (kDget kvs) := rfl
theorem r_dget {x : Wk} : kDget kvs (x, env) = (ofO (dgetD kvs x.2)).bind (kR env) := rfl
theorem q_glc : ev (.glc nm d) env = .ok ((0, d), env) := rfl
theorem qc_apps (f : FnD) (a : E) : evs (.cons (.apps f a) es) env = (ev (.apps f a) env).bind (kCons es) := rfl
theorem qc_dget (nm : Str) (kvs : List (Str × Int)) (a : E) : evs (.cons (.dget nm kvs a) es) env = (ev (.dget nm kvs a) env).bind (kCons es) := rfl
theorem qc_glc (nm : Str) (d : D) : evs (.cons (.glc nm d) es) env = (ev (.glc nm d) env).bind (kCons es) := rfl
theorem strong_map : strong (ds.map (Ar.d 0) ++ ars) = (strong ars).map (ds ++ ·) := by
  induction ds with
  | nil => cases h : strong ars <;> simp [h]
  | cons d ds ih =>
    show (strong (ds.map (Ar.d 0) ++ ars)).map (d :: ·) = _
    rw [ih]
    cases strong ars <;> rfl
theorem strong_map0 : strong (ds.map (Ar.d 0)) = some ds := by
  have := strong_map (ds := ds) (ars := [])
  simpa [strong] using this
end
end DL

namespace DL
open PySem L2
def kNx (env : Env) : Res Out := .ok (.nx env)
def kParo (is : List Nat) (os : List Bool) (x : List D × Env) : Res Out := (setOwns x.2 is os x.1).bind kNx
def kEo2 (d : D) (x : List D × Env) : Res (List D × Env) := .ok (d :: x.1, x.2)
def kEoT (os : List Bool) (es : E) (x : Wk × Env) : Res (List D × Env) := match x.1 with
  | (0, .nd .lst ds) => (evsO os es x.2).bind (kEo2 (.lst ds))
  | _ => .stuck
def kEoF (os : List Bool) (es : E) (x : Wk × Env) : Res (List D × Env) := (str1 x.1).bind fun d => (evsO os es x.2).bind (kEo2 d)
def kAppd2 (x : Wk × Env) : Res Out := (str1 x.1).bind fun _ => .ok (.nx x.2)
def kAppd (e : E) (x : Wk × Env) : Res Out := match x.1 with
  | (0, .nd .lst ds) => if ds.length + 1 ≤ lim then (ev e x.2).bind kAppd2 else .stuck
  | _ => .stuck
def kSo (is : List Nat) (os : List Bool) (r : List D) (env : Env) : Res Env := setOwns env is os r
def kSetm (is : List Nat) (x : Wk × Env) : Res Out := match x.1 with
  | (0, .nd .tup ds) => if (ds.all fun d => isLst d || flat d) = true then (setOwns x.2 is (ds.map isLst) ds).bind kNx else .stuck
  | _ => .stuck
def kRett1 (x : List D × Env) : Res Out := if x.1.length ≤ lim then .ok (.ret (.tup x.1) x.2) else .stuck
def kRett (x : List Ar × Env) : Res Out := (takeAll x.1 x.2).bind kRett1
def kTk (d : D) (x : List D × Env) : Res (List D × Env) := .ok (d :: x.1, x.2)
def tkR (env : Env) (i : Nat) (r : List Ar) : Option Sl → Res (List D × Env)
  | some (.own 1 (.nd .lst ds)) => (takeAll r (env.set i .un)).bind (kTk (.lst ds))
  | _ => .stuck
section
variable {env : Env} {is : List Nat} {os : List Bool} {es e : E} {i : Nat} {d : D} {ds r : List D} {ars : List Ar}
theorem x_paro : ex (.paro is os es) env = (evsO os es env).bind (kParo is os) := rfl
theorem k_paro : kParo is os (ds, env) = (setOwns env is os ds).bind kNx := rfl
theorem eo_nil : evsO [] .nil env = .ok ([], env) := rfl
theorem eo_t : evsO (true :: os) (.cons e es) env = if ownL e = true then (ev e env).bind (kEoT os es) else .stuck := rfl
theorem eo_f : evsO (false :: os) (.cons e es) env = if plainA e = true then (ev e env).bind (kEoF os es) else .stuck := rfl
theorem k_eot : kEoT os es ((0, .lst ds), env) = (evsO os es env).bind (kEo2 (.lst ds)) := rfl
theorem k_eof : kEoF os es ((0, d), env) = (evsO os es env).bind (kEo2 d) := rfl
theorem k_eo2 : kEo2 d (ds, env) = .ok (d :: ds, env) := rfl
theorem x_appd {o : E} : ex (.appd o e) env = if ownL o = true then (ev o env).bind (kAppd e) else .stuck := rfl
theorem k_appd : kAppd e ((0, .lst ds), env) = if ds.length + 1 ≤ lim then (ev e env).bind kAppd2 else .stuck := rfl
theorem k_appd2 : kAppd2 ((0, d), env) = .ok (.nx env) := rfl
theorem so_nil : setOwns env [] [] [] = .ok env := rfl
theorem so_t : setOwns env (i :: is) (true :: os) (.nd .lst ds :: r) = (setSl env i (.own 1 (.lst ds))).bind (kSo is os r) := rfl
theorem so_f : setOwns env (i :: is) (false :: os) (d :: r) = (setSl env i (.val d)).bind (kSo is os r) := rfl
theorem k_so : kSo is os r env = setOwns env is os r := rfl
theorem k_nx : kNx env = .ok (.nx env) := rfl
theorem x_setm : ex (.setm is e) env = if ownT e = true then (ev e env).bind (kSetm is) else .stuck := rfl
theorem k_setm : kSetm is ((0, .tup ds), env) = if (ds.all fun d => isLst d || flat d) = true then (setOwns env is (ds.map isLst) ds).bind kNx else .stuck := rfl
theorem il_lst : isLst (.nd .lst ds) = true := rfl
theorem il_int {i : Int} : isLst (.int i) = false := rfl
theorem il_str {i : Str} : isLst (.str i) = false := rfl
theorem fl_int {i : Int} : flat (.int i) = true := rfl
theorem fl_str {i : Str} : flat (.str i) = true := rfl
theorem x_rett : ex (.rett es) env = (evs es env).bind kRett := rfl
theorem k_rett : kRett (ars, env) = (takeAll ars env).bind kRett1 := rfl
theorem k_rett1 : kRett1 (ds, env) = if ds.length ≤ lim then .ok (.ret (.tup ds) env) else .stuck := rfl
theorem tk_nil : takeAll [] env = .ok ([], env) := rfl
theorem tk_d : takeAll (.d 0 d :: ars) env = if flat d = true then (takeAll ars env).bind (kTk d) else .stuck := rfl
theorem tk_wk : takeAll (.wk i :: ars) env = tkR env i ars env[i]? := by
  show (match env[i]? with | some (.own 1 (.nd .lst ds)) => _ | _ => _) = _
  unfold tkR
  split <;> simp_all <;> rfl
theorem tk_own : tkR env i ars (some (.own 1 (.lst ds))) = (takeAll ars (env.set i .un)).bind (kTk (.lst ds)) := rfl
theorem k_tk : kTk d (ds, env) = .ok (d :: ds, env) := rfl
end
end DL

namespace DL
open PySem L2
def kIr3c (i j : Int) (z : Wk × Env) : Res (List D × Env) := (asI z.1.2).bind fun k => rng3 i j k z.2
def kIr3b (c : E) (i : Int) (y : Wk × Env) : Res (List D × Env) := (asI y.1.2).bind fun j => (ev c y.2).bind (kIr3c i j)
def kIr3a (b c : E) (x : Wk × Env) : Res (List D × Env) := (asI x.1.2).bind fun i => (ev b x.2).bind (kIr3b c i)
section
variable {env : Env} {a b c : E} {k : Nat} {i j : Int}
theorem q_ir3 : evi (.irg3 a b c) env = (ev a env).bind (kIr3a b c) := rfl
theorem r_ir3a : kIr3a b c ((k, .int i), env) = (ev b env).bind (kIr3b c i) := rfl
theorem r_ir3b : kIr3b c i ((k, .int j), env) = (ev c env).bind (kIr3c i j) := rfl
theorem r_ir3c : kIr3c i j ((k, .int (-1)), env) = if (-4611686018427387904 ≤ i ∧ i < 4611686018427387904) ∧ (-4611686018427387904 ≤ j ∧ j < 4611686018427387904) then .ok (rangeD i (i - j).toNat, env) else rng3 i j (-1) env := by
  show rng3 i j (-1) env = _
  by_cases c : (-4611686018427387904 ≤ i ∧ i < 4611686018427387904) ∧ (-4611686018427387904 ≤ j ∧ j < 4611686018427387904)
  · rw [if_pos c]
    unfold rng3
    rw [if_pos (by simpa using c)]
  · rw [if_neg c]
/-- range(i, j, k), k no -1 -/
theorem r_ir3s {l : Int} (h : l ≠ -1) (h2 : (l ≠ 0 ∧ l.natAbs < 1073741824) ∧ PySem.Builtin.Range.small i j l = true ∧ 0 ≤ PySem.Builtin.Range.rangeSize i j l) : kIr3c i j ((k, .int l), env) = .ok (rangeS i l (PySem.Builtin.Range.rangeSize i j l).toNat, env) := by
  show rng3 i j l env = _
  unfold rng3
  rw [if_neg (fun z => h z.1.1), if_pos h2]
end
end DL
namespace DL
theorem b_intt {k : Nat} : dBlt .int [(k, .bl true)] = .ok (.int 1) := rfl
theorem b_intf {k : Nat} : dBlt .int [(k, .bl false)] = .ok (.int 0) := rfl
/-! ### dicts with texts as keys -/
section
variable {env : Env} {e es : E} {i j k : Nat} {ks : List PySem.Str} {ds : List D} {s s2 : PySem.Str} {d : D} {ars : List Ar}
def ixDR (k : Nat) : Option D → Res Wk
  | some d => .ok (if flat d = true then 0 else k - 1, d)
  | none => .stuck
theorem d_idxd : dIdx (k, .nd (.dic ks) ds) (.str s) = ixDR k (dicAt ks ds s) := by
  show (match dicAt ks ds s with | some d => Res.ok (if flat d = true then 0 else k - 1, d) | none => .stuck) = _
  cases dicAt ks ds s <;> rfl
theorem ixd_some : ixDR k (some d) = .ok (if flat d = true then 0 else k - 1, d) := rfl
theorem fl_lst : flat (.nd .lst ds) = false := rfl
theorem r_idxp2 {b : E} : kIdx b ((2, d), env) = if b.pure = true then (ev b env).bind (kIdx2 (2, d)) else .stuck := by
  unfold kIdx; by_cases h : b.pure = true <;> simp [h]
def kSetd (i : Nat) (x : Wk × Env) : Res Out := match x.1 with
  | (0, .nd (.dic ks) ds) => (setSl x.2 i (.own 2 (.nd (.dic ks) ds))).bind kNx
  | _ => .stuck
theorem x_setd : ex (.setd i e) env = if ownT e = true then (ev e env).bind (kSetd i) else .stuck := rfl
theorem k_setd : kSetd i ((0, .nd (.dic ks) ds), env) = (setSl env i (.own 2 (.nd (.dic ks) ds))).bind kNx := rfl
def kPard (j : Nat) (env : Env) : Res Out := (setSl env j (.own 1 (.lst []))).bind kNx
theorem x_pard {ns : List Int} : ex (.pard i j ks ns) env = if okKs ks = true ∧ ks.length = ns.length then (setSl env i (.own 1 (.nd (.dic ks) (ns.map .int)))).bind (kPard j) else .stuck := rfl
theorem k_pard : kPard j env = (setSl env j (.own 1 (.lst []))).bind kNx := rfl
def kRetd1 (ks : List PySem.Str) (x : List D × Env) : Res Out := if okKs ks = true ∧ ks.length = x.1.length then .ok (.ret (.nd (.dic ks) x.1) x.2) else .stuck
def kRetd (ks : List PySem.Str) (x : List Ar × Env) : Res Out := (takeAll x.1 x.2).bind (kRetd1 ks)
theorem x_retd : ex (.retd ks es) env = (evs es env).bind (kRetd ks) := rfl
theorem k_retd : kRetd ks (ars, env) = (takeAll ars env).bind (kRetd1 ks) := rfl
theorem k_retd1 : kRetd1 ks (ds, env) = if okKs ks = true ∧ ks.length = ds.length then .ok (.ret (.nd (.dic ks) ds) env) else .stuck := rfl
def putR (env : Env) (i : Nat) (s : PySem.Str) (x : D) : Option Sl → Res Env
  | some (.own (k + 1) (.nd (.dic ks) ds)) => dicSet env i ks (dicPut ks ds s x) k true
  | some (.io (k + 1) (.nd (.dic ks) ds)) => dicSet env i ks (dicPut ks ds s x) k false
  | _ => .stuck
theorem q_putAt {x : D} : putAt env i s x = if flat x = true then putR env i s x env[i]? else .stuck := by
  unfold putAt putR
  split
  · split <;> simp_all
  · rfl
theorem put_own {x : D} : putR env i s x (some (.own (k + 1) (.nd (.dic ks) ds))) = dicSet env i ks (dicPut ks ds s x) k true := rfl
theorem put_io {x : D} : putR env i s x (some (.io (k + 1) (.nd (.dic ks) ds))) = dicSet env i ks (dicPut ks ds s x) k false := rfl
theorem put_io1 {x : D} : putR env i s x (some (.io 1 (.nd (.dic ks) ds))) = dicSet env i ks (dicPut ks ds s x) 0 false := rfl
theorem put_io2 {x : D} : putR env i s x (some (.io 2 (.nd (.dic ks) ds))) = dicSet env i ks (dicPut ks ds s x) 1 false := rfl
def popR (env : Env) (i : Nat) (s s2 : PySem.Str) : Option Sl → Res Env
  | some (.own 2 (.nd (.dic ks) ds)) => dicSet env i ks (popD ks ds s s2) 1 true
  | some (.io 2 (.nd (.dic ks) ds)) => dicSet env i ks (popD ks ds s s2) 1 false
  | _ => .stuck
theorem q_popAt : popAt env i s s2 = popR env i s s2 env[i]? := by
  unfold popAt popR
  split <;> simp_all
theorem pop_io : popR env i s s2 (some (.io 2 (.nd (.dic ks) ds))) = dicSet env i ks (popD ks ds s s2) 1 false := rfl
theorem dicSet_io {r : List D} (h : okKs ks = true) : dicSet env i ks (some r) k false = .ok (env.set i (.io (k + 1) (.nd (.dic ks) r))) := if_pos h
def kDset (i : Nat) (s : PySem.Str) (x : Wk × Env) : Res Out := (str1 x.1).bind fun d => (putAt x.2 i s d).bind kNx
theorem x_dset : ex (.dset i s e) env = (ev e env).bind (kDset i s) := rfl
theorem k_dset : kDset i s ((0, d), env) = (putAt env i s d).bind kNx := rfl
def kDaug (i : Nat) (s : PySem.Str) (env : Env) (d : D) : Res Out := (putAt env i s d).bind kNx
def daugR (env : Env) (i : Nat) (s : PySem.Str) (op : Bop) (n : Int) : Option D → Res Out
  | some (.int x) => (dBin op (0, .int x) (0, .int n)).bind (kDaug i s env)
  | _ => .stuck
def dgetR (s : PySem.Str) : Option Sl → Option D
  | some (.own _ (.nd (.dic ks) ds)) => dicAt ks ds s
  | some (.io _ (.nd (.dic ks) ds)) => dicAt ks ds s
  | _ => none
theorem q_dicGet : dicGet env i s = dgetR s env[i]? := by
  unfold dicGet dgetR
  split <;> simp_all
theorem dget_io : dgetR s (some (.io k (.nd (.dic ks) ds))) = dicAt ks ds s := rfl
theorem x_daug {op : Bop} {n : Int} : ex (.daug i s op n) env = daugR env i s op n (dicGet env i s) := by
  unfold daugR
  show (match dicGet env i s with | some (.int x) => (dBin op (0, .int x) (0, .int n)).bind fun d => (putAt env i s d).bind fun env => Res.ok (Out.nx env) | _ => .stuck) = _
  rfl
theorem daug_int {op : Bop} {n x : Int} : daugR env i s op n (some (.int x)) = (dBin op (0, .int x) (0, .int n)).bind (kDaug i s env) := rfl
theorem k_daug : kDaug i s env d = (putAt env i s d).bind kNx := rfl
theorem x_dpop : ex (.dpop i s s2) env = (popAt env i s s2).bind kNx := rfl
end
end DL

-- part DLu
set_option Elab.async false
set_option linter.all false
set_option maxRecDepth 100000
/-! DL, part u: data: numbers, lists of numbers, equality. -/
namespace DL
open PySem L2

/-! ### equality of data without both bools and numbers -/
def cln (b : Bool) : Nat → D → Bool
  | _, .non => true
  | _, .bl _ => b
  | _, .int _ => !b
  | _, .str x => PyData.strOk x
  | n + 1, .nd .lst ds => ds.all (cln b n)
  | n + 1, .nd .tup ds => ds.all (cln b n)
  | _, _ => false
theorem cln_ind {P : D → Prop} (b : Bool) (h1 : P .non) (h2 : ∀ c, P (.bl c)) (h3 : ∀ i, P (.int i)) (h4 : ∀ x, P (.str x)) (h5 : ∀ ds, (∀ d ∈ ds, P d) → P (.lst ds)) (h6 : ∀ ds, (∀ d ∈ ds, P d) → P (.tup ds)) : ∀ (n : Nat) (d : D), cln b n d = true → P d
  | _, .non, _ => h1
  | _, .bl c, _ => h2 c
  | _, .int i, _ => h3 i
  | _, .str x, _ => h4 x
  | n + 1, .nd .lst ds, h => h5 ds fun d hd => cln_ind b h1 h2 h3 h4 h5 h6 n d (List.all_eq_true.mp h d hd)
  | n + 1, .nd .tup ds, h => h6 ds fun d hd => cln_ind b h1 h2 h3 h4 h5 h6 n d (List.all_eq_true.mp h d hd)
  | 0, .nd _ _, h => by simp [cln] at h
  | n + 1, .nd .scr _, h => by simp [cln] at h
  | n + 1, .nd (.obj _ _) _, h => by simp [cln] at h
  | n + 1, .nd (.dic _) _, h => by simp [cln] at h
theorem toPys_len : ∀ {ds : List D}, (toPys ds).length = ds.length
  | [] => rfl
  | d :: ds => by simp [toPys, toPys_len (ds := ds)]
theorem cln_shape {b : Bool} : ∀ {n : Nat} {d : D}, cln b n d = true → plain d = true ∧ (toPy d).canLay0 = true ∧ (toPy d).depth ≤ n := by
  have all : ∀ {n : Nat} {ds : List D}, (∀ d ∈ ds, plain d = true ∧ (toPy d).canLay0 = true ∧ (toPy d).depth ≤ n) → plains ds = true ∧ PyData.canLayAll0 (toPys ds) = true ∧ PyData.depthAll (toPys ds) ≤ n := by
    intro n ds
    induction ds with
    | nil => intro _; exact ⟨rfl, rfl, by simp [toPys, PyData.depthAll]⟩
    | cons d ds ih =>
      intro h
      obtain ⟨a1, a2, a3⟩ := h d (by simp)
      obtain ⟨b1, b2, b3⟩ := ih fun e he => h e (by simp [he])
      refine ⟨by simp [plains, a1, b1], by simp [toPys, PyData.canLayAll0, a2, b2], ?_⟩
      simp only [toPys, PyData.depthAll]
      omega
  intro n
  induction n with
  | zero =>
    intro d h
    cases d with
    | non => exact ⟨rfl, rfl, by simp [toPy, PyData.depth]⟩
    | bl c => exact ⟨rfl, rfl, by simp [toPy, PyData.depth]⟩
    | int i => exact ⟨rfl, rfl, by simp [toPy, PyData.depth]⟩
    | str x => exact ⟨rfl, h, by simp [toPy, PyData.depth]⟩
    | nd k ds => simp [cln] at h
  | succ n ih =>
    intro d h
    cases d with
    | non => exact ⟨rfl, rfl, by simp [toPy, PyData.depth]⟩
    | bl c => exact ⟨rfl, rfl, by simp [toPy, PyData.depth]⟩
    | int i => exact ⟨rfl, rfl, by simp [toPy, PyData.depth]⟩
    | str x => exact ⟨rfl, h, by simp [toPy, PyData.depth]⟩
    | nd k ds =>
      cases k with
      | lst =>
        obtain ⟨a1, a2, a3⟩ := all fun d hd => ih (List.all_eq_true.mp h d hd)
        exact ⟨a1, a2, by simpa [toPy, PyData.depth] using a3⟩
      | tup =>
        obtain ⟨a1, a2, a3⟩ := all fun d hd => ih (List.all_eq_true.mp h d hd)
        exact ⟨a1, a2, by simpa [toPy, PyData.depth] using a3⟩
      | _ => simp [cln] at h
theorem eqv_cln {b : Bool} : ∀ {n m : Nat} {d e : D}, cln b n d = true → cln b m e = true → (PyData.eqv (toPy d) (toPy e) = true ↔ d = e) := by
  intro n
  induction n with
  | zero =>
    intro m d e h h'
    cases b <;> cases d <;> cases e <;> first
      | (simp [cln] at h; done)
      | (simp [cln] at h'; done)
      | (simp [toPy, PyData.eqv]; done)
      | (rename_i k ds; cases m <;> cases k <;> simp [cln, toPy, PyData.eqv] at h' ⊢)
  | succ n ih =>
    have all : ∀ {m : Nat} {ds es : List D}, ds.all (cln b n) = true → es.all (cln b m) = true → (PyData.eqvAll (toPys ds) (toPys es) = true ↔ ds = es) := by
      intro m ds
      induction ds with
      | nil => intro es _ _; cases es <;> simp [toPys, PyData.eqvAll]
      | cons d ds ih2 =>
        intro es h h'
        cases es with
        | nil => simp [toPys, PyData.eqvAll]
        | cons e es =>
          simp only [List.all_cons, Bool.and_eq_true] at h h'
          simp only [toPys, PyData.eqvAll, Bool.and_eq_true, List.cons.injEq]
          rw [ih h.1 h'.1, ih2 h.2 h'.2]
    intro m d e h h'
    cases b <;> cases d <;> cases e <;> first
      | (simp [cln] at h; done)
      | (simp [cln] at h'; done)
      | (simp [toPy, PyData.eqv]; done)
      | (rename_i k ds; cases m <;> cases k <;> simp [cln, toPy, PyData.eqv] at h h' ⊢; done)
      | (rename_i k ds _; cases k <;> simp [cln, toPy, PyData.eqv] at h h' ⊢; done)
      | (rename_i k ds k' es
         cases m with
         | zero => simp [cln] at h'
         | succ m =>
          cases k <;> cases k' <;> first
            | (simp [cln] at h; done)
            | (simp [cln] at h'; done)
            | (simp [toPy, PyData.eqv]; done)
            | (simp only [toPy, PyData.eqv, D.nd.injEq, true_and]; exact all h h'))
open Classical in
theorem dEq_cln {b : Bool} {d e : D} (h : cln b 8 d = true) (h' : cln b 8 e = true) : dEq d e = .ok (decide (d = e)) := by
  obtain ⟨a1, a2, a3⟩ := cln_shape h
  obtain ⟨b1, b2, b3⟩ := cln_shape h'
  have o1 : okPy d = true := by simp [okPy, SeqAt.shaped, a1, a2]; omega
  have o2 : okPy e = true := by simp [okPy, SeqAt.shaped, b1, b2]; omega
  unfold dEq
  rw [o1, o2, if_pos (by rfl)]
  congr 1
  rw [Bool.eq_iff_iff, decide_eq_true_iff]
  exact eqv_cln h h'
section
variable {b : Bool} {n : Nat} {x : Int} {ds : List D} {l : List Int} {d : D}
theorem cln_non : cln b n .non = true := by cases n <;> rfl
theorem cln_int : cln false n (.int x) = true := by cases n <;> rfl
theorem cln_bl {c : Bool} : cln true n (.bl c) = true := by cases n <;> rfl
theorem cln_str {s : Str} : cln b n (.str s) = PyData.strOk s := by cases n <;> rfl
theorem cln_lst : cln b (n + 1) (.nd .lst ds) = ds.all (cln b n) := rfl
theorem cln_tup : cln b (n + 1) (.nd .tup ds) = ds.all (cln b n) := rfl
theorem all_map_int {n : Nat} : (l.map D.int).all (cln false n) = true := by simp [cln_int]
end

/-! ### places in lists -/
/-- what Python's l[i] is -/
def gI (l : List Int) (i : Int) : Int := (atI l i).getD 0
theorem atI_map {α β : Type} {f : α → β} {l : List α} {i : Int} : atI (l.map f) i = (atI l i).map f := by
  unfold atI
  rw [List.length_map]
  cases ixN l.length i <;> simp
theorem ixN_nn {n : Nat} {i : Int} (h : 0 ≤ i) (h2 : i < n) : ixN n i = some i.toNat := by
  simp [ixN, h, h2]
theorem ixN_ng {n : Nat} {i : Int} (h : i < 0) (h2 : -(n : Int) ≤ i) : ixN n i = some (i + n).toNat := by
  simp [ixN, Int.not_le.mpr h, h2]
theorem atI_nn {α : Type} {l : List α} {i : Int} (h : 0 ≤ i) (h2 : i < l.length) : atI l i = l[i.toNat]? := by
  simp [atI, ixN_nn h h2]
theorem atI_ng {α : Type} {l : List α} {i : Int} (h : i < 0) (h2 : -(l.length : Int) ≤ i) : atI l i = l[(i + l.length).toNat]? := by
  simp [atI, ixN_ng h h2]
theorem atI_gI {l : List Int} {i : Int} (h : -(l.length : Int) ≤ i) (h2 : i < l.length) : atI l i = some (gI l i) := by
  unfold gI
  by_cases h3 : 0 ≤ i
  · rw [atI_nn h3 h2, List.getElem?_eq_getElem (by omega)]; rfl
  · rw [atI_ng (by omega) h, List.getElem?_eq_getElem (by omega)]; rfl
theorem atI_ints {l : List Int} {i : Int} (h : -(l.length : Int) ≤ i) (h2 : i < l.length) : atI (l.map D.int) i = some (.int (gI l i)) := by
  rw [atI_map, atI_gI h h2]; rfl
theorem gI_nn {l : List Int} {i : Int} (h : 0 ≤ i) (h2 : i < l.length) : gI l i = l[i.toNat]'(by omega) := by
  unfold gI
  rw [atI_nn h h2, List.getElem?_eq_getElem (by omega)]; rfl
theorem gI_nat {l : List Int} {i : Nat} (h2 : i < l.length) : gI l (i : Int) = l[i] := gI_nn (by omega) (by omega)
theorem gI_nat? {l : List Int} {i : Nat} {a : Int} (h : l[i]? = some a) : gI l (i : Int) = a := by
  obtain ⟨h1, h2⟩ := List.getElem?_eq_some_iff.mp h
  rw [gI_nat h1, h2]
theorem gI_last {l : List Int} {i : Nat} (h : i + 1 = l.length) : gI l (-1) = gI l (i : Int) := by
  rw [gI_nat (by omega)]
  unfold gI
  rw [atI_ng (by omega) (by omega), show ((-1 : Int) + l.length).toNat = i by omega, List.getElem?_eq_getElem (by omega)]; rfl
theorem gI_append {l m : List Int} {i : Nat} (h : i < l.length) : gI (l ++ m) (i : Int) = gI l (i : Int) := by
  rw [gI_nat (by simp; omega), gI_nat h, List.getElem_append_left h]
theorem gI_append_last {l : List Int} {a : Int} : gI (l ++ [a]) (l.length : Int) = a := by
  rw [gI_nat (by simp)]; simp
theorem ap1 {l : List Int} {x : Int} : l.map D.int ++ [D.int x] = (l ++ [x]).map D.int := by simp
theorem ap2 {l m : List Int} : l.map D.int ++ m.map D.int = (l ++ m).map D.int := by simp
theorem ints_inj {l m : List Int} : (l.map D.int = m.map D.int) = (l = m) := by
  apply propext
  constructor
  · intro h
    exact (List.map_inj_right (fun a b e => by cases e; rfl)).mp h
  · rintro rfl; rfl
theorem intsOf_map {l : List Int} : intsOf (l.map D.int) = some l := by
  induction l with
  | nil => rfl
  | cons a l ih => simp [intsOf, ih]
theorem intsOf_fn {α : Type} {l : List α} {f : α → Int} : intsOf (l.map fun x => D.int (f x)) = some (l.map f) := by
  induction l with
  | nil => rfl
  | cons a l ih => simp [intsOf, ih]
theorem boolsOf_fn {α : Type} {l : List α} {f : α → Bool} : boolsOf (l.map fun x => D.bl (f x)) = some (l.map f) := by
  induction l with
  | nil => rfl
  | cons a l ih => simp [boolsOf, ih]
/-- the numbers from lo on -/
def rg (lo : Int) (n : Nat) : List Int := (List.range n).map fun (i : Nat) => lo + (i : Int)
theorem rangeL_rg {lo : Int} {n : Nat} : rangeL lo n = (rg lo n).map D.int := by simp [rangeL, rg, Function.comp_def]
theorem rg_len {lo : Int} {n : Nat} : (rg lo n).length = n := by simp [rg]
theorem mem_rg {lo x : Int} {n : Nat} : x ∈ rg lo n ↔ lo ≤ x ∧ x < lo + n := by
  simp only [rg, List.mem_map, List.mem_range]
  constructor
  · rintro ⟨i, h, rfl⟩; omega
  · rintro ⟨h1, h2⟩; exact ⟨(x - lo).toNat, by omega, by omega⟩
theorem rg_get {lo : Int} {n i : Nat} (h : i < n) : (rg lo n)[i]? = some (lo + i) := by simp [rg, h]
theorem rg_get_of {lo x : Int} {n i : Nat} (h : (rg lo n)[i]? = some x) : i < n ∧ x = lo + i := by
  have h1 := lt_of_get h
  rw [rg_len] at h1
  rw [rg_get h1] at h
  cases h
  exact ⟨h1, rfl⟩
/-- the first of those numbers with a property -/
theorem rg_filter_first {p : Int → Bool} {lo x : Int} {n : Nat} (h : ((rg lo n).filter p)[0]? = some x) : lo ≤ x ∧ x < lo + n ∧ p x = true ∧ ∀ y, lo ≤ y → y < x → p y = false := by
  induction n generalizing lo with
  | zero => simp [rg] at h
  | succ n ih =>
    have e : rg lo (n + 1) = lo :: rg (lo + 1) n := by
      simp only [rg, List.range_succ_eq_map, List.map_cons, List.map_map]
      congr 1
      · simp
      · apply List.map_congr_left
        intro a _
        simp
        omega
    rw [e, List.filter_cons] at h
    split at h
    · rename_i hp
      simp at h
      subst h
      exact ⟨by omega, by omega, hp, fun y h1 h2 => by omega⟩
    · rename_i hp
      obtain ⟨a, b, c, d⟩ := ih h
      refine ⟨by omega, by omega, c, fun y h1 h2 => ?_⟩
      by_cases hy : y = lo
      · subst hy; simpa using hp
      · exact d y (by omega) h2
theorem rg_filter_some {p : Int → Bool} {lo x : Int} {n : Nat} (h1 : lo ≤ x) (h2 : x < lo + n) (hp : p x = true) : ∃ y, ((rg lo n).filter p)[0]? = some y := by
  have : x ∈ (rg lo n).filter p := by simp [mem_rg, h1, h2, hp]
  cases e : (rg lo n).filter p with
  | nil => rw [e] at this; simp at this
  | cons a l => exact ⟨a, by simp⟩
/-- a comprehension over a list; nothing else is touched -/
theorem W_list {α : Type} {env : Env} {tg : List Nat} {t e : E} {Q : Wk × Env → Prop} {l : List α} {em : α → D} (p : α → Bool) (g : α → D) (hf : freeSl env tg = true) (hl : l.length ≤ lim)
    (hs : ∀ x ∈ l, W (setIs (blank env tg) tg (em x)) fun env2 => W (tstOf t (ev t) env2) fun y => y.1 = p x ∧ if p x = true then W (eltOf (ev e) y.2) fun z => z.1 = g x ∧ freeSl z.2 tg = true ∧ blank z.2 tg = blank env tg else freeSl y.2 tg = true ∧ blank y.2 tg = blank env tg)
    (he : Q ((0, .lst ((l.filter p).map g)), back env tg (blank env tg))) : W (kComp tg t e (l.map em, env)) Q := by
  refine W_comp (I := fun i ds env1 => env1 = blank env tg ∧ ds = ((l.take i).filter p).map g) hf (by simpa using hl) ⟨rfl, rfl⟩ ?_ ?_
  · rintro i ds x env1 hx ⟨rfl, rfl⟩
    rw [List.getElem?_map] at hx
    cases hx2 : l[i]? with
    | none => rw [hx2] at hx; cases hx
    | some a =>
      rw [hx2] at hx
      cases hx
      refine (hs a (List.mem_of_getElem? hx2)).mono fun env2 h => h.mono fun y ⟨h1, h2⟩ => ?_
      rw [List.take_add_one, hx2]
      rw [h1]
      split
      · rename_i hp
        rw [if_pos hp] at h2
        refine h2.mono fun z ⟨h3, h4, h5⟩ => ⟨h4, h5, ?_⟩
        simp [hp, h3]
      · rename_i hp
        rw [if_neg hp] at h2
        refine ⟨h2.1, h2.2, ?_⟩
        simp [hp]
  · rintro ds env1 ⟨rfl, rfl⟩
    rw [List.length_map, List.take_length]
    exact he
end DL

namespace DL
open PySem L2
section
variable {α : Type} {x0 x1 x2 x3 x4 x5 : α} {b : Int}
theorem at3 {a b c d : α} {l : List α} : atI (a :: b :: c :: d :: l) 3 = some d := by
  rw [atI_nn (by omega) (by simp; omega)]; rfl
theorem pick2 (h : 0 ≤ b) (h2 : b < 2) : ∃ y, atI [x0, x1] b = some y ∧ (y = x0 ∨ y = x1) := by
  obtain rfl | rfl : b = 0 ∨ b = 1 := by omega
  · exact ⟨_, rfl, by simp⟩
  · exact ⟨_, rfl, by simp⟩
theorem pick3 (h : 0 ≤ b) (h2 : b < 3) : ∃ y, atI [x0, x1, x2] b = some y ∧ (y = x0 ∨ y = x1 ∨ y = x2) := by
  obtain rfl | rfl | rfl : b = 0 ∨ b = 1 ∨ b = 2 := by omega
  all_goals exact ⟨_, rfl, by simp⟩
theorem pick4 (h : 0 ≤ b) (h2 : b < 4) : ∃ y, atI [x0, x1, x2, x3] b = some y ∧ (y = x0 ∨ y = x1 ∨ y = x2 ∨ y = x3) := by
  obtain rfl | rfl | rfl | rfl : b = 0 ∨ b = 1 ∨ b = 2 ∨ b = 3 := by omega
  all_goals exact ⟨_, rfl, by simp⟩
theorem pick5 (h : 0 ≤ b) (h2 : b < 5) : ∃ y, atI [x0, x1, x2, x3, x4] b = some y ∧ (y = x0 ∨ y = x1 ∨ y = x2 ∨ y = x3 ∨ y = x4) := by
  obtain rfl | rfl | rfl | rfl | rfl : b = 0 ∨ b = 1 ∨ b = 2 ∨ b = 3 ∨ b = 4 := by omega
  all_goals exact ⟨_, rfl, by simp⟩
theorem pick6 (h : 0 ≤ b) (h2 : b < 6) : ∃ y, atI [x0, x1, x2, x3, x4, x5] b = some y ∧ (y = x0 ∨ y = x1 ∨ y = x2 ∨ y = x3 ∨ y = x4 ∨ y = x5) := by
  obtain rfl | rfl | rfl | rfl | rfl | rfl : b = 0 ∨ b = 1 ∨ b = 2 ∨ b = 3 ∨ b = 4 ∨ b = 5 := by omega
  all_goals exact ⟨_, rfl, by simp⟩
end
section
variable {x0 x1 x2 x3 x4 x5 : Int} {b : Int}
theorem pickI3 (h : 0 ≤ b) (h2 : b < 3) : ∃ y : Int, atI [D.int x0, .int x1, .int x2] b = some (.int y) ∧ (y = x0 ∨ y = x1 ∨ y = x2) := by
  obtain ⟨y, e, h | h | h⟩ := pick3 (x0 := D.int x0) (x1 := .int x1) (x2 := .int x2) h h2 <;> (subst h; exact ⟨_, e, by simp⟩)
theorem pickI4 (h : 0 ≤ b) (h2 : b < 4) : ∃ y : Int, atI [D.int x0, .int x1, .int x2, .int x3] b = some (.int y) ∧ (y = x0 ∨ y = x1 ∨ y = x2 ∨ y = x3) := by
  obtain ⟨y, e, h | h | h | h⟩ := pick4 (x0 := D.int x0) (x1 := .int x1) (x2 := .int x2) (x3 := .int x3) h h2 <;> (subst h; exact ⟨_, e, by simp⟩)
theorem pickI5 (h : 0 ≤ b) (h2 : b < 5) : ∃ y : Int, atI [D.int x0, .int x1, .int x2, .int x3, .int x4] b = some (.int y) ∧ (y = x0 ∨ y = x1 ∨ y = x2 ∨ y = x3 ∨ y = x4) := by
  obtain ⟨y, e, h | h | h | h | h⟩ := pick5 (x0 := D.int x0) (x1 := .int x1) (x2 := .int x2) (x3 := .int x3) (x4 := .int x4) h h2 <;> (subst h; exact ⟨_, e, by simp⟩)
end
end DL

namespace DL
open PySem L2
theorem log2_big {x : Int} {m : Nat} (hm : 0 < m) (h : x.natAbs < 2 ^ m) : x.natAbs.log2 < m := by
  by_cases z : x.natAbs = 0
  · rw [z]; exact hm
  · exact (Nat.log2_lt z).mpr h
theorem mulOk_big {x y : Int} (h : x.natAbs < 2 ^ 500) (h2 : y.natAbs < 2 ^ 500) : MulOk x y = true := by
  have a := log2_big (by decide) h
  have b := log2_big (by decide) h2
  have c : x.natAbs.log2 + y.natAbs.log2 < 1000000 := by omega
  simp [MulOk, c]
theorem natAbs_fdiv_le {n p : Int} (hp : 0 < p) : (n.fdiv p).natAbs ≤ n.natAbs := by
  rw [Int.fdiv_eq_ediv_of_nonneg _ (by omega)]
  have e := Int.mul_ediv_add_emod n p
  have e1 := Int.emod_nonneg n (show p ≠ 0 by omega)
  have e2 := Int.emod_lt_of_pos n hp
  generalize n / p = q at *
  rcases Int.lt_trichotomy q 0 with h | h | h
  · have : p * q ≤ 1 * q := Int.mul_le_mul_of_nonpos_right (by omega) (by omega)
    have h5 : q ≤ -1 := by omega
    have h6 : p * q ≤ p * (-1) := Int.mul_le_mul_of_nonneg_left h5 (by omega)
    by_cases hn : n < 0
    · by_cases h7 : n ≤ q
      · omega
      · exfalso
        have h8 : q + 1 ≤ n := by omega
        have h9 : p * (q + 1) ≤ 1 * (q + 1) := by
          rcases Int.lt_or_le (q + 1) 0 with k | k
          · exact Int.mul_le_mul_of_nonpos_right (by omega) (by omega)
          · have : q + 1 = 0 := by omega
            rw [this]; simp
        rw [Int.mul_add] at h9
        omega
    · omega
  · subst h; simp
  · have : 1 * q ≤ p * q := Int.mul_le_mul_of_nonneg_right (by omega) (by omega)
    omega
section
variable {k : Nat} {l : List Int} {ds : List D} {env : Env} {d : D}
theorem b_sum {ds : List D} : dBlt .sum [(k, .lst ds)] = match intsOf ds with | some is => .ok (.int is.sum) | none => .stuck := by
  cases h : intsOf ds <;> simp [dBlt, lstOf, h]
theorem b_all {α : Type} {l : List α} {f : α → Bool} : dBlt .all [(k, .lst (l.map fun x => .bl (f x)))] = .ok (.bl (l.all f)) := by
  simp [dBlt, lstOf, boolsOf_fn, List.all_map, Function.comp_def]
theorem b_any {α : Type} {l : List α} {f : α → Bool} : dBlt .any [(k, .lst (l.map fun x => .bl (f x)))] = .ok (.bl (l.any f)) := by
  simp [dBlt, lstOf, boolsOf_fn, List.any_map, Function.comp_def]
theorem b_tuple : dBlt .tuple [(0, .lst ds)] = .ok (.tup ds) := rfl
theorem b_tuple1 : dBlt .tuple [(1, .lst ds)] = .ok (.tup ds) := rfl
theorem b_list0 : dBlt .list [(0, .lst ds)] = .ok (.lst ds) := rfl
theorem b_list1 : dBlt .list [(1, .lst ds)] = .ok (.lst ds) := rfl
theorem b_listt : dBlt .list [(0, .tup ds)] = .ok (.lst ds) := rfl
theorem b_lists : dBlt .list [(0, .nd .scr ds)] = .ok (.lst ds) := rfl
theorem dsl_lst0 {lo hi : Option Int} : dSlc (0, .lst ds) lo hi = .ok (.lst (cutL ds lo hi)) := rfl
theorem dsl_lst1 {lo hi : Option Int} : dSlc (1, .lst ds) lo hi = .ok (.lst (cutL ds lo hi)) := rfl
theorem dsl_tup {lo hi : Option Int} : dSlc (0, .tup ds) lo hi = .ok (.tup (cutL ds lo hi)) := rfl
end
theorem cutL_to {α : Type} {xs : List α} {i : Int} (h : 0 ≤ i) : cutL xs none (some i) = xs.take i.toNat := by
  obtain ⟨n, rfl⟩ : ∃ n : Nat, i = n := ⟨i.toNat, by omega⟩
  unfold cutL
  rw [HT.sIx_none, HT.sIx_nat]
  simp
theorem cutL_from {α : Type} {xs : List α} {i : Int} (h : 0 ≤ i) : cutL xs (some i) none = xs.drop i.toNat := by
  obtain ⟨n, rfl⟩ : ∃ n : Nat, i = n := ⟨i.toNat, by omega⟩
  unfold cutL
  rw [HT.sIx_none, HT.sIx_nat]
  by_cases e : n ≤ xs.length
  · rw [Nat.min_eq_left e]
    exact List.take_of_length_le (by simp)
  · rw [Nat.min_eq_right (by omega), Int.toNat_natCast]
    rw [List.drop_eq_nil_of_le (by omega), List.drop_eq_nil_of_le (by omega)]; simp
theorem cutL_map {α β : Type} {f : α → β} {xs : List α} {lo hi : Option Int} : cutL (xs.map f) lo hi = (cutL xs lo hi).map f := by
  simp [cutL, List.map_take, List.map_drop]
end DL

namespace DL
open PySem L2
/-- a number or None -/
def optD : Option Int → D
  | none => .non
  | some v => .int v
theorem optD_int {v : Int} : optD (some v) = .int v := rfl
theorem optD_non : optD none = .non := rfl
theorem dEq_non : dEq .non .non = .ok true := by
  rw [dEq_cln (b := false) rfl rfl]; simp
theorem dEq_bl {a b : Bool} : dEq (.bl a) (.bl b) = .ok (a == b) := by
  rw [dEq_cln (b := true) rfl rfl]
  cases a <;> cases b <;> simp
end DL
namespace DL
open PySem L2
theorem d_catc {j k : Nat} {ds es : List D} : dBin .add (j, .lst ds) (k, .lst es) = if j ≤ 1 ∧ k ≤ 1 ∧ ds.length + es.length ≤ 100000 then .ok (.lst (ds ++ es)) else .stuck := rfl
theorem d_tcat {ds es : List D} : dBin .add (0, .tup ds) (0, .tup es) = if ds.length + es.length ≤ 100000 then .ok (.tup (ds ++ es)) else .stuck := rfl
end DL
namespace DL
theorem filt_true {α : Type} {l : List α} : l.filter (fun _ => true) = l := List.filter_eq_self.mpr (fun _ _ => rfl)
/-! ### sorted(set(..)), enumerate of a tuple, lists that stand still for a while -/
section
variable {env : Env} {a e es : E} {k : Nat} {is : List Int} {ds : List D}
def kSst (x : Wk × Env) : Res (Wk × Env) := match (lstOf x.1.2).bind intsOf with
  | some is => if is.length ≤ 4000 then .ok ((0, .lst ((sortI (dd is)).map .int)), x.2) else .stuck
  | none => .stuck
theorem q_sst : ev (.sst a) env = (ev a env).bind kSst := rfl
theorem qc_sst (a : E) : evs (.cons (.sst a) es) env = (ev (.sst a) env).bind (kCons es) := rfl
theorem r_sst : kSst ((k, .lst (is.map .int)), env) = if is.length ≤ 4000 then .ok ((0, .lst ((sortI (dd is)).map .int)), env) else .stuck := by
  simp [kSst, lstOf, intsOf_map]
def kIenT (x : Wk × Env) : Res (List D × Env) := match x.1 with | (0, .nd .tup ds) => .ok (enumL 0 ds, x.2) | _ => .stuck
theorem q_ienT : evi (.ienumT a) env = (ev a env).bind kIenT := rfl
theorem r_ienT : kIenT ((0, .tup ds), env) = .ok (enumL 0 ds, env) := rfl
def kFz (e : E) (env : Env) (o : Option Env) : Res (Wk × Env) := match o with
  | some env1 => if e.pure = true then fzO env (ev e env1) else .stuck
  | none => .stuck
theorem q_froz {js : List Nat} : ev (.froz js e) env = kFz e env (frzE env js) := rfl
theorem qc_froz (js : List Nat) (e : E) : evs (.cons (.froz js e) es) env = (ev (.froz js e) env).bind (kCons es) := rfl
theorem r_fz {env1 : Env} : kFz e env (some env1) = if e.pure = true then fzO env (ev e env1) else .stuck := rfl
theorem fz_nil : frzE env [] = some env := rfl
def fzR (env : Env) (i : Nat) (js : List Nat) (s : Option Sl) : Option Env := match s with
  | some (.own 1 (.nd .lst ds)) => frzE (env.set i (.val (.lst ds))) js
  | _ => none
theorem fz_cons {i : Nat} {js : List Nat} : frzE env (i :: js) = fzR env i js env[i]? := by
  unfold fzR
  show (match env[i]? with | some (.own 1 (.nd .lst ds)) => frzE (env.set i (.val (.lst ds))) js | _ => none) = _
  split <;> simp_all
theorem fz_own {i : Nat} {js : List Nat} : fzR env i js (some (.own 1 (.lst ds))) = frzE (env.set i (.val (.lst ds))) js := rfl
theorem W.fzO {r : Res (Wk × Env)} {Q : Wk × Env → Prop} : W (fzO env r) Q ↔ W r fun x => x.1.1 = 0 ∧ flat x.1.2 = true ∧ Q ((0, x.1.2), env) := by
  constructor
  · rintro ⟨a, h, q⟩
    cases r with
    | ok p =>
      obtain ⟨⟨n, d⟩, env2⟩ := p
      cases n with
      | succ n => cases h
      | zero =>
        have h : (if flat d = true then Res.ok (((0 : Nat), d), env) else .stuck) = .ok a := h
        by_cases hf : flat d = true
        · rw [if_pos hf] at h
          cases h
          exact ⟨_, rfl, rfl, hf, q⟩
        · rw [if_neg hf] at h; cases h
    | exn c d => cases h
    | stuck => cases h
  · rintro ⟨⟨⟨n, d⟩, env2⟩, rfl, rfl, hf, q⟩
    refine ⟨((0, d), env), ?_, q⟩
    show (if flat d = true then Res.ok (((0 : Nat), d), env) else .stuck) = _
    rw [if_pos hf]
theorem fl_bl {b : Bool} : flat (.bl b) = true := rfl
end
end DL

-- part FSb
set_option Elab.async false
set_option linter.all false
set_option maxRecDepth 100000
set_option maxHeartbeats 1000000
namespace FS
open PySem L2 DL 
/-! check_line -/
noncomputable abbrev b_check_line : S :=
 (.cons (.ife (.cmp .eq (.name 0) (.lst .nil))
 (.cons (.rse 21 "InvalidLine" (.lit .non))
 .nil)
 .nil)
 (.cons (.for_ [2] (.irg2 (.lit (.int 1)) (.blt .len (.cons (.name 0) .nil)))
 (.cons (.ife (.cmp .lt (.idx (.name 0) (.name 2)) (.idx (.name 0) (.bin .sub (.name 2) (.lit (.int 1)))))
 (.cons (.rse 21 "InvalidLine" (.name 2))
 .nil)
 .nil)
 .nil))
 (.cons (.ife (.cmp .gt (.idx (.name 0) (.neg (.lit (.int 1)))) (.bin .add (.idx (.name 0) (.lit (.int 0))) (.name 1)))
 (.cons (.rse 21 "InvalidLine" (.blt .len (.cons (.name 0) .nil)))
 .nil)
 .nil)
 .nil)))
abbrev n_check_line : List Str := ["starts", "rise", "number"]
noncomputable def f_check_line : FnD := ⟨"check_line", [0, 0], 0, run [0, 0] 3 b_check_line⟩
theorem m_check_line : f_check_line.ms = [0, 0] := rfl
theorem k_check_line : f_check_line.rk = 0 := rfl
theorem e_check_line : f_check_line.den = run [0, 0] 3 b_check_line := rfl
/-! has_period -/
noncomputable abbrev b_has_period : S :=
 (.cons (.set (.one (.sl 3)) (.blt .len (.cons (.name 0) .nil)))
 (.cons (.ife (.cmp .ne (.bin .mod (.bin .mul (.name 1) (.name 2)) (.name 3)) (.lit (.int 0)))
 (.cons (.ret (.lit (.bl false)))
 .nil)
 .nil)
 (.cons (.set (.one (.sl 4)) (.bin .fdiv (.bin .mul (.name 1) (.name 2)) (.name 3)))
 (.cons (.ret (.blt .all (.cons (.comp [5] (.irg1 (.bin .sub (.name 3) (.name 2))) .nil (.cmp .eq (.idx (.name 0) (.bin .add (.name 5) (.name 2))) (.bin .add (.idx (.name 0) (.name 5)) (.name 4)))) .nil)))
 .nil))))
abbrev n_has_period : List Str := ["starts", "rise", "period", "size", "step", "spot"]
noncomputable def f_has_period : FnD := ⟨"has_period", [0, 0, 0], 0, run [0, 0, 0] 6 b_has_period⟩
theorem m_has_period : f_has_period.ms = [0, 0, 0] := rfl
theorem k_has_period : f_has_period.rk = 0 := rfl
theorem e_has_period : f_has_period.den = run [0, 0, 0] 6 b_has_period := rfl
/-! divisors_of -/
noncomputable abbrev b_divisors_of : S :=
 (.cons (.ret (.comp [1] (.irg2 (.lit (.int 1)) (.bin .add (.name 0) (.lit (.int 1)))) (.cmp .eq (.bin .mod (.name 0) (.name 1)) (.lit (.int 0))) (.name 1)))
 .nil)
abbrev n_divisors_of : List Str := ["number", "one"]
noncomputable def f_divisors_of : FnD := ⟨"divisors_of", [0], 0, run [0] 2 b_divisors_of⟩
theorem m_divisors_of : f_divisors_of.ms = [0] := rfl
theorem k_divisors_of : f_divisors_of.rk = 0 := rfl
theorem e_divisors_of : f_divisors_of.den = run [0] 2 b_divisors_of := rfl
/-! least_form -/
noncomputable abbrev b_least_form : S :=
 (.cons (.set (.one (.sl 2)) (.blt .len (.cons (.name 0) .nil)))
 (.cons (.set (.one (.sl 4)) (.idx (.comp [3] (.ilst (.app f_divisors_of (.cons (.name 2) .nil))) (.app f_has_period (.cons (.name 0) (.cons (.name 1) (.cons (.name 3) .nil)))) (.name 3)) (.lit (.int 0))))
 (.cons (.ret (.tup (.cons (.blt .tuple (.cons (.slc (.name 0) .nil (.name 4)) .nil)) (.cons (.bin .fdiv (.bin .mul (.name 1) (.name 4)) (.name 2)) .nil))))
 .nil)))
abbrev n_least_form : List Str := ["starts", "rise", "size", "one", "period"]
noncomputable def f_least_form : FnD := ⟨"least_form", [0, 0], 0, run [0, 0] 5 b_least_form⟩
theorem m_least_form : f_least_form.ms = [0, 0] := rfl
theorem k_least_form : f_least_form.rk = 0 := rfl
theorem e_least_form : f_least_form.den = run [0, 0] 5 b_least_form := rfl
/-! __init__ -/
noncomputable abbrev b_Line_init : S :=
 (.cons (.drop (.app f_check_line (.cons (.name 1) (.cons (.name 2) .nil))))
 (.cons (.set (.tup [(.at 0 0 "kept_starts"), (.at 0 0 "kept_rise")]) (.app f_least_form (.cons (.blt .list (.cons (.name 1) .nil)) (.cons (.name 2) .nil))))
 .nil))
abbrev n_Line_init : List Str := ["self", "starts", "rise"]
noncomputable def f_Line_init : FnD := ⟨"Line", [1, 0, 0], 0, run [1, 0, 0] 3 b_Line_init⟩
theorem m_Line_init : f_Line_init.ms = [1, 0, 0] := rfl
theorem k_Line_init : f_Line_init.rk = 0 := rfl
theorem e_Line_init : f_Line_init.den = run [1, 0, 0] 3 b_Line_init := rfl
/-! __len__ -/
noncomputable abbrev b_Line_len : S :=
 (.cons (.ret (.blt .len (.cons (.fld 0 "kept_starts" (.name 0)) .nil)))
 .nil)
abbrev n_Line_len : List Str := ["self"]
noncomputable def f_Line_len : FnD := ⟨"__len__", [0], 0, run [0] 1 b_Line_len⟩
theorem m_Line_len : f_Line_len.ms = [0] := rfl
theorem k_Line_len : f_Line_len.rk = 0 := rfl
theorem e_Line_len : f_Line_len.den = run [0] 1 b_Line_len := rfl
/-! at -/
noncomputable abbrev b_Line_at : S :=
 (.cons (.set (.one (.sl 2)) (.blt .len (.cons (.fld 0 "kept_starts" (.name 0)) .nil)))
 (.cons (.ret (.bin .add (.idx (.fld 0 "kept_starts" (.name 0)) (.bin .mod (.name 1) (.name 2))) (.bin .mul (.fld 0 "kept_rise" (.name 0)) (.bin .fdiv (.name 1) (.name 2)))))
 .nil))
abbrev n_Line_at : List Str := ["self", "n", "period"]
noncomputable def f_Line_at : FnD := ⟨"at", [0, 0], 0, run [0, 0] 3 b_Line_at⟩
theorem m_Line_at : f_Line_at.ms = [0, 0] := rfl
theorem k_Line_at : f_Line_at.rk = 0 := rfl
theorem e_Line_at : f_Line_at.den = run [0, 0] 3 b_Line_at := rfl
/-! least_at -/
noncomputable abbrev b_Line_least_at : S :=
 (.cons (.ife (.cmp .eq (.fld 0 "kept_rise" (.name 0)) (.lit (.int 0)))
 (.cons (.ret (.lit .non))
 .nil)
 .nil)
 (.cons (.set (.one (.sl 2)) (.lno 0 f_Line_len (.name 0)))
 (.cons (.set (.one (.sl 3)) (.bin .mul (.bin .sub (.bin .fdiv (.bin .sub (.name 1) (.idx (.fld 0 "kept_starts" (.name 0)) (.lit (.int 0)))) (.fld 0 "kept_rise" (.name 0))) (.lit (.int 1))) (.name 2)))
 (.cons (.ret (.idx (.comp [4] (.irg2 (.name 3) (.bin .add (.bin .add (.name 3) (.bin .mul (.lit (.int 2)) (.name 2))) (.lit (.int 1)))) (.cmp .ge (.mth 0 f_Line_at (.name 0) (.cons (.name 4) .nil)) (.name 1)) (.name 4)) (.lit (.int 0))))
 .nil))))
abbrev n_Line_least_at : List Str := ["self", "value", "period", "begin", "n"]
noncomputable def f_Line_least_at : FnD := ⟨"least_at", [0, 0], 0, run [0, 0] 5 b_Line_least_at⟩
theorem m_Line_least_at : f_Line_least_at.ms = [0, 0] := rfl
theorem k_Line_least_at : f_Line_least_at.rk = 0 := rfl
theorem e_Line_least_at : f_Line_least_at.den = run [0, 0] 5 b_Line_least_at := rfl
end FS

-- part LPb
set_option Elab.async false
set_option linter.all false
set_option maxRecDepth 100000
set_option maxHeartbeats 1000000
namespace LP
open PySem L2 DL FS
/-! _law_draw -/
noncomputable abbrev b_law_draw : S :=
 (.cons (.ife (.cmp .gt (.idx (.name 0) (.lit (.int 0))) (.lit (.int 0)))
 (.cons (.set (.one (.sl 2)) (.bin .mod (.blt .int (.cons (.idx (.name 0) (.lit (.int 0))) .nil)) (.name 1)))
 (.cons (.sub 0 (.lit (.int 0)) (.bin .fdiv (.idx (.name 0) (.lit (.int 0))) (.name 1)))
 (.cons (.ret (.name 2))
 .nil)))
 .nil)
 (.cons (.sub 0 (.lit (.int 2)) (.bin .add (.idx (.name 0) (.lit (.int 2))) (.lit (.int 1))))
 (.cons (.set (.one (.sl 3)) (.bin .mod (.blt .int (.cons (.bin .pow (.bin .add (.idx (.name 0) (.lit (.int 1))) (.bin .mul (.lit (.int 15488849)) (.idx (.name 0) (.lit (.int 2))))) (.lit (.int 3))) .nil)) (.lit (.int 162259276829213363391578010288127))))
 (.cons (.set (.one (.sl 3)) (.bin .mod (.blt .int (.cons (.bin .pow (.bin .add (.name 3) (.bin .mul (.lit (.int 32454521)) (.idx (.name 0) (.lit (.int 2))))) (.lit (.int 5))) .nil)) (.lit (.int 170141183460469231731687303715884105727))))
 (.cons (.ret (.bin .mod (.blt .int (.cons (.bin .fdiv (.name 3) (.lit (.int 1048576))) .nil)) (.name 1)))
 .nil)))))
abbrev n_law_draw : List Str := ["pool", "many", "drawn", "mixed"]
noncomputable def f_law_draw : FnD := ⟨"_law_draw", [1, 0], 0, run [1, 0] 4 b_law_draw⟩
theorem m_law_draw : f_law_draw.ms = [1, 0] := rfl
theorem k_law_draw : f_law_draw.rk = 0 := rfl
theorem e_law_draw : f_law_draw.den = run [1, 0] 4 b_law_draw := rfl
/-! _law_values -/
noncomputable abbrev b_law_values : S :=
 (.cons (.seto 1 2 (.lst (.cons (.bin .sub (.app f_law_draw (.cons (.ioa 0) (.cons (.lit (.int 41)) .nil))) (.lit (.int 20))) .nil)))
 (.cons (.for_ [3] (.irg1 (.app f_law_draw (.cons (.ioa 0) (.cons (.name 1) .nil))))
 (.cons (.app 2 .nil (.bin .add (.idx (.name 2) (.neg (.lit (.int 1)))) (.idx (.lst (.cons (.lit (.int 0)) (.cons (.lit (.int 0)) (.cons (.lit (.int 1)) (.cons (.app f_law_draw (.cons (.ioa 0) (.cons (.lit (.int 9)) .nil))) .nil))))) (.app f_law_draw (.cons (.ioa 0) (.cons (.lit (.int 4)) .nil))))))
 .nil))
 (.cons (.frz 2)
 (.cons (.set (.one (.sl 4)) (.idx (.lst (.cons (.lit (.int 0)) (.cons (.lit (.int 1)) (.cons (.app f_law_draw (.cons (.ioa 0) (.cons (.lit (.int 40)) .nil))) (.cons (.app f_law_draw (.cons (.ioa 0) (.cons (.lit (.int 900)) .nil))) .nil))))) (.app f_law_draw (.cons (.ioa 0) (.cons (.lit (.int 4)) .nil)))))
 (.cons (.ret (.tup (.cons (.name 2) (.cons (.bin .add (.bin .sub (.idx (.name 2) (.neg (.lit (.int 1)))) (.idx (.name 2) (.lit (.int 0)))) (.name 4)) .nil))))
 .nil)))))
abbrev n_law_values : List Str := ["pool", "many", "found", "turn", "rest"]
noncomputable def f_law_values : FnD := ⟨"_law_values", [1, 0], 0, run [1, 0] 5 b_law_values⟩
theorem m_law_values : f_law_values.ms = [1, 0] := rfl
theorem k_law_values : f_law_values.rk = 0 := rfl
theorem e_law_values : f_law_values.den = run [1, 0] 5 b_law_values := rfl
/-! _law_at -/
noncomputable abbrev b_law_at : S :=
 (.cons (.set (.one (.sl 3)) (.bin .fdiv (.name 2) (.blt .len (.cons (.name 0) .nil))))
 (.cons (.ret (.bin .add (.idx (.name 0) (.bin .sub (.name 2) (.bin .mul (.name 3) (.blt .len (.cons (.name 0) .nil))))) (.bin .mul (.name 3) (.name 1))))
 .nil))
abbrev n_law_at : List Str := ["found", "more", "place", "laps"]
noncomputable def f_law_at : FnD := ⟨"_law_at", [0, 0, 0], 0, run [0, 0, 0] 4 b_law_at⟩
theorem m_law_at : f_law_at.ms = [0, 0, 0] := rfl
theorem k_law_at : f_law_at.rk = 0 := rfl
theorem e_law_at : f_law_at.den = run [0, 0, 0] 4 b_law_at := rfl
/-! _law_place -/
noncomputable abbrev b_law_place : S :=
 (.cons (.ret (.idx (.lst (.cons (.bin .sub (.app f_law_draw (.cons (.ioa 0) (.cons (.lit (.int 41)) .nil))) (.lit (.int 20))) (.cons (.bin .sub (.app f_law_draw (.cons (.ioa 0) (.cons (.bin .pow (.lit (.int 10)) (.lit (.int 31))) .nil))) (.bin .mul (.lit (.int 5)) (.bin .pow (.lit (.int 10)) (.lit (.int 30))))) (.cons (.lit (.int 0)) .nil)))) (.app f_law_draw (.cons (.ioa 0) (.cons (.lit (.int 3)) .nil)))))
 .nil)
abbrev n_law_place : List Str := ["pool"]
noncomputable def f_law_place : FnD := ⟨"_law_place", [1], 0, run [1] 1 b_law_place⟩
theorem m_law_place : f_law_place.ms = [1] := rfl
theorem k_law_place : f_law_place.rk = 0 := rfl
theorem e_law_place : f_law_place.den = run [1] 1 b_law_place := rfl
/-! _law_pool -/
noncomputable abbrev b_law_pool : S :=
 (.cons (.set (.one (.sl 2)) (.lit (.int 0)))
 (.cons (.ife (.cmp .lt (.name 1) (.blt .len (.cons (.name 0) .nil)))
 (.cons (.set (.one (.sl 2)) (.idx (.name 0) (.name 1)))
 .nil)
 .nil)
 (.cons (.reto (.lst (.cons (.blt .max2 (.cons (.lit (.int 0)) (.cons (.bin .sub (.blt .abs (.cons (.name 2) .nil)) (.bin .pow (.lit (.int 10)) (.lit (.int 18)))) .nil))) (.cons (.bin .add (.bin .mod (.blt .int (.cons (.name 2) .nil)) (.lit (.int 2305843009213693951))) (.bin .mul (.lit (.int 3367900777)) (.bin .add (.name 1) (.lit (.int 1))))) (.cons (.lit (.int 0)) .nil)))))
 .nil)))
abbrev n_law_pool : List Str := ["script", "at", "given"]
noncomputable def f_law_pool : FnD := ⟨"_law_pool", [0, 0], 1, run [0, 0] 3 b_law_pool⟩
theorem m_law_pool : f_law_pool.ms = [0, 0] := rfl
theorem k_law_pool : f_law_pool.rk = 1 := rfl
theorem e_law_pool : f_law_pool.den = run [0, 0] 3 b_law_pool := rfl
end LP

-- part K02b
set_option Elab.async false
set_option linter.all false
set_option maxRecDepth 100000
set_option maxHeartbeats 1000000
namespace K02
open PySem L2 DL FS LP
/-! _law_values -/
noncomputable abbrev b_law_values : S :=
 (.cons (.seto 1 2 (.lst (.cons (.bin .sub (.app f_law_draw (.cons (.ioa 0) (.cons (.lit (.int 41)) .nil))) (.lit (.int 20))) .nil)))
 (.cons (.for_ [3] (.irg1 (.app f_law_draw (.cons (.ioa 0) (.cons (.name 1) .nil))))
 (.cons (.app 2 .nil (.bin .add (.idx (.name 2) (.neg (.lit (.int 1)))) (.idx (.lst (.cons (.lit (.int 0)) (.cons (.lit (.int 0)) (.cons (.lit (.int 1)) (.cons (.app f_law_draw (.cons (.ioa 0) (.cons (.lit (.int 9)) .nil))) .nil))))) (.app f_law_draw (.cons (.ioa 0) (.cons (.lit (.int 4)) .nil))))))
 .nil))
 (.cons (.set (.one (.sl 4)) (.idx (.lst (.cons (.lit (.int 0)) (.cons (.lit (.int 1)) (.cons (.app f_law_draw (.cons (.ioa 0) (.cons (.lit (.int 40)) .nil))) (.cons (.app f_law_draw (.cons (.ioa 0) (.cons (.lit (.int 900)) .nil))) .nil))))) (.app f_law_draw (.cons (.ioa 0) (.cons (.lit (.int 4)) .nil)))))
 (.cons (.rett (.cons (.wka 2) (.cons (.bin .add (.bin .sub (.idx (.name 2) (.neg (.lit (.int 1)))) (.idx (.name 2) (.lit (.int 0)))) (.name 4)) .nil)))
 .nil))))
abbrev n_law_values : List Str := ["pool", "many", "found", "turn", "rest"]
noncomputable def f_law_values : FnD := ⟨"_law_values", [1, 0], 2, run [1, 0] 5 b_law_values⟩
theorem m_law_values : f_law_values.ms = [1, 0] := rfl
theorem k_law_values : f_law_values.rk = 2 := rfl
theorem e_law_values : f_law_values.den = run [1, 0] 5 b_law_values := rfl
/-! _law_due -/
noncomputable abbrev b_law_due : S :=
 (.cons (.ife (.cmp .eq (.name 0) (.lst .nil))
 (.cons (.ret (.lst (.cons (.lit .non) .nil)))
 .nil)
 .nil)
 (.cons (.for_ [2] (.irg2 (.lit (.int 1)) (.blt .len (.cons (.name 0) .nil)))
 (.cons (.ife (.cmp .lt (.idx (.name 0) (.name 2)) (.idx (.name 0) (.bin .sub (.name 2) (.lit (.int 1)))))
 (.cons (.ret (.lst (.cons (.name 2) .nil)))
 .nil)
 .nil)
 .nil))
 (.cons (.ret (.ife (.cmp .gt (.idx (.name 0) (.neg (.lit (.int 1)))) (.bin .add (.idx (.name 0) (.lit (.int 0))) (.name 1))) (.lst (.cons (.blt .len (.cons (.name 0) .nil)) .nil)) (.lit (.str "fine"))))
 .nil)))
abbrev n_law_due : List Str := ["found", "more", "at"]
noncomputable def f_law_due : FnD := ⟨"_law_due", [0, 0], 0, run [0, 0] 3 b_law_due⟩
theorem m_law_due : f_law_due.ms = [0, 0] := rfl
theorem k_law_due : f_law_due.rk = 0 := rfl
theorem e_law_due : f_law_due.den = run [0, 0] 3 b_law_due := rfl
/-! _law_told -/
noncomputable abbrev b_law_told : S :=
 (.cons (.tryc (.cons (.drop (.mk 0 f_Line_init (.cons (.name 0) (.cons (.name 1) .nil))))
 .nil) 20 "SizeError" 2 (.four 3 [(25, "InvalidCell"), (23, "InvalidNumber"), (22, "InvalidPipeline"), (26, "InvalidPlaces"), (24, "InvalidRow"), (27, "NotFitting")] [(29, "NothingToUndo"), (28, "NotSteady"), (30, "Unreadable")] ⟨21, "InvalidLine"⟩ true))
 (.cons (.ret (.lit (.str "fine")))
 .nil))
abbrev n_law_told : List Str := ["found", "more", "e", "odd"]
noncomputable def f_law_told : FnD := ⟨"_law_told", [0, 0], 0, run [0, 0] 4 b_law_told⟩
theorem m_law_told : f_law_told.ms = [0, 0] := rfl
theorem k_law_told : f_law_told.rk = 0 := rfl
theorem e_law_told : f_law_told.den = run [0, 0] 4 b_law_told := rfl
/-! _law_right -/
noncomputable abbrev b_law_right : S :=
 (.cons (.setm [2, 1] (.app f_law_values (.cons (.ioa 0) (.cons (.lit (.int 24)) .nil))))
 (.cons (.for_ [4] (.irg1 (.app f_law_draw (.cons (.ioa 0) (.cons (.lit (.int 3)) .nil))))
 (.cons (.set (.one (.sl 3)) (.app f_law_draw (.cons (.ioa 0) (.cons (.blt .len (.cons (.name 2) .nil)) .nil))))
 (.cons (.sub 2 (.name 3) (.bin .add (.idx (.name 2) (.name 3)) (.idx (.lst (.cons (.lit (.int 1)) (.cons (.neg (.lit (.int 1))) (.cons (.app f_law_draw (.cons (.ioa 0) (.cons (.lit (.int 9)) .nil))) (.cons (.bin .sub (.lit (.int 0)) (.app f_law_draw (.cons (.ioa 0) (.cons (.lit (.int 30)) .nil)))) .nil))))) (.app f_law_draw (.cons (.ioa 0) (.cons (.lit (.int 4)) .nil))))))
 .nil)))
 (.cons (.frz 2)
 (.cons (.set (.one (.sl 1)) (.idx (.lst (.cons (.name 1) (.cons (.bin .sub (.idx (.name 2) (.neg (.lit (.int 1)))) (.idx (.name 2) (.lit (.int 0)))) (.cons (.bin .sub (.bin .sub (.idx (.name 2) (.neg (.lit (.int 1)))) (.idx (.name 2) (.lit (.int 0)))) (.lit (.int 1))) (.cons (.neg (.lit (.int 1))) (.cons (.bin .sub (.lit (.int 0)) (.bin .pow (.lit (.int 10)) (.lit (.int 31)))) .nil)))))) (.app f_law_draw (.cons (.ioa 0) (.cons (.lit (.int 5)) .nil)))))
 (.cons (.set (.one (.sl 5)) (.blt .list (.cons (.name 2) .nil)))
 (.cons (.ret (.andv (.cmp .eq (.app f_law_told (.cons (.name 2) (.cons (.name 1) .nil))) (.app f_law_due (.cons (.name 2) (.cons (.name 1) .nil)))) (.cmp .eq (.name 2) (.name 5))))
 .nil))))))
abbrev n_law_right : List Str := ["pool", "more", "found", "spot", "lap", "held"]
noncomputable def f_law_right : FnD := ⟨"_law_right", [1], 0, run [1] 6 b_law_right⟩
theorem m_law_right : f_law_right.ms = [1] := rfl
theorem k_law_right : f_law_right.rk = 0 := rfl
theorem e_law_right : f_law_right.den = run [1] 6 b_law_right := rfl
/-! law -/
noncomputable abbrev b_law : S :=
 (.cons (.for_ [3] (.irg1 (.blt .max2 (.cons (.lit (.int 1)) (.cons (.blt .min2 (.cons (.lit (.int 10)) (.cons (.blt .len (.cons (.name 0) .nil)) .nil))) .nil))))
 (.cons (.seto 1 2 (.app f_law_pool (.cons (.name 0) (.cons (.name 3) .nil))))
 (.cons (.for_ [1] (.irg1 (.lit (.int 10)))
 (.cons (.ife (.notv (.app f_law_right (.cons (.ioa 2) .nil)))
 (.cons (.ret (.lit (.bl false)))
 .nil)
 .nil)
 .nil))
 .nil)))
 (.cons (.set (.one (.sl 4)) (.lst (.cons (.app f_law_told (.cons (.lst .nil) (.cons (.lit (.int 5)) .nil))) (.cons (.app f_law_told (.cons (.lst (.cons (.lit (.int 1)) .nil)) (.cons (.neg (.lit (.int 1))) .nil))) (.cons (.app f_law_told (.cons (.lst (.cons (.lit (.int 1)) .nil)) (.cons (.lit (.int 0)) .nil))) (.cons (.app f_law_told (.cons (.lst (.cons (.lit (.int 0)) (.cons (.lit (.int 2)) (.cons (.lit (.int 1)) .nil)))) (.cons (.lit (.int 0)) .nil))) (.cons (.app f_law_told (.cons (.lst (.cons (.lit (.int 0)) (.cons (.lit (.int 3)) .nil))) (.cons (.lit (.int 2)) .nil))) .nil)))))))
 (.cons (.ret (.cmp .eq (.name 4) (.lst (.cons (.lst (.cons (.lit .non) .nil)) (.cons (.lst (.cons (.lit (.int 1)) .nil)) (.cons (.lit (.str "fine")) (.cons (.lst (.cons (.lit (.int 2)) .nil)) (.cons (.lst (.cons (.lit (.int 2)) .nil)) .nil))))))))
 .nil)))
abbrev n_law : List Str := ["script", "turn", "pool", "at", "told"]
noncomputable def f_law : FnD := ⟨"law", [0], 0, run [0] 5 b_law⟩
theorem m_law : f_law.ms = [0] := rfl
theorem k_law : f_law.rk = 0 := rfl
theorem e_law : f_law.den = run [0] 5 b_law := rfl
end K02

-- part K02
set_option Elab.async false
set_option linter.all false
set_option maxRecDepth 100000
set_option maxHeartbeats 1000000
namespace K02
open PySem PySem.Spec PyProof.Rows L2 DL FS LP
def top (i : Nat) : Stmt := PySem.Challenge.pw_fitsizes_k02_errors_of_lines.main.body.getD i (.Pass ⟨0, 0, 0, 0⟩)
def inn (i j : Nat) : Stmt := match top i with
  | .ClassDef _ _ _ b _ _ _ _ _ _ _ => b.getD j (.Pass ⟨0, 0, 0, 0⟩)
  | _ => .Pass ⟨0, 0, 0, 0⟩
/-! the checks -/
abbrev nn_law_draw : List Str := ["pool", "many", "drawn", "mixed"]
theorem c_law_draw : chkS nn_law_draw (defScope (top 23)) 0 b_law_draw (defBody (top 23)) = true := by kernel_rfl
theorem s_law_draw : C8.scC nn_law_draw ["pool", "many"] (defScope (top 23)) = true := by kernel_rfl
abbrev nn_law_values : List Str := ["pool", "many", "found", "turn", "rest"]
theorem c_law_values : chkS nn_law_values (defScope (top 24)) 2 b_law_values (defBody (top 24)) = true := by kernel_rfl
theorem s_law_values : C8.scC nn_law_values ["pool", "many"] (defScope (top 24)) = true := by kernel_rfl
abbrev nn_law_due : List Str := ["found", "more", "at"]
theorem c_law_due : chkS nn_law_due (defScope (top 29)) 0 b_law_due (defBody (top 29)) = true := by kernel_rfl
theorem s_law_due : C8.scC nn_law_due ["found", "more"] (defScope (top 29)) = true := by kernel_rfl
abbrev nn_check_line : List Str := ["starts", "rise", "number"]
theorem c_check_line : chkS nn_check_line (defScope (top 17)) 0 b_check_line (defBody (top 17)) = true := by kernel_rfl
theorem s_check_line : C8.scC nn_check_line ["starts", "rise"] (defScope (top 17)) = true := by kernel_rfl
abbrev nn_has_period : List Str := ["starts", "rise", "period", "size", "step", "spot"]
theorem c_has_period : chkS nn_has_period (defScope (top 18)) 0 b_has_period (defBody (top 18)) = true := by kernel_rfl
theorem s_has_period : C8.scC nn_has_period ["starts", "rise", "period"] (defScope (top 18)) = true := by kernel_rfl
abbrev nn_divisors_of : List Str := ["number", "one"]
theorem c_divisors_of : chkS nn_divisors_of (defScope (top 16)) 0 b_divisors_of (defBody (top 16)) = true := by kernel_rfl
theorem s_divisors_of : C8.scC nn_divisors_of ["number"] (defScope (top 16)) = true := by kernel_rfl
abbrev nn_least_form : List Str := ["starts", "rise", "size", "one", "period"]
theorem c_least_form : chkS nn_least_form (defScope (top 19)) 0 b_least_form (defBody (top 19)) = true := by kernel_rfl
theorem s_least_form : C8.scC nn_least_form ["starts", "rise"] (defScope (top 19)) = true := by kernel_rfl
abbrev nn_Line_init : List Str := ["self", "starts", "rise"]
theorem c_Line_init : chkS nn_Line_init (defScope (inn 20 0)) 0 b_Line_init (defBody (inn 20 0)) = true := by kernel_rfl
theorem s_Line_init : C8.scC nn_Line_init ["self", "starts", "rise"] (defScope (inn 20 0)) = true := by kernel_rfl
abbrev nn_law_told : List Str := ["found", "more", "e", "odd"]
theorem c_law_told : chkS nn_law_told (defScope (top 28)) 0 b_law_told (defBody (top 28)) = true := by kernel_rfl
theorem s_law_told : C8.scC nn_law_told ["found", "more"] (defScope (top 28)) = true := by kernel_rfl
abbrev nn_law_right : List Str := ["pool", "more", "found", "spot", "lap", "held"]
theorem c_law_right : chkS nn_law_right (defScope (top 30)) 0 b_law_right (defBody (top 30)) = true := by kernel_rfl
theorem s_law_right : C8.scC nn_law_right ["pool"] (defScope (top 30)) = true := by kernel_rfl
abbrev nn_law_pool : List Str := ["script", "at", "given"]
theorem c_law_pool : chkS nn_law_pool (defScope (top 22)) 1 b_law_pool (defBody (top 22)) = true := by kernel_rfl
theorem s_law_pool : C8.scC nn_law_pool ["script", "at"] (defScope (top 22)) = true := by kernel_rfl
abbrev nn_law : List Str := ["script", "turn", "pool", "at", "told"]
theorem c_law : chkS nn_law (defScope (top 31)) 0 b_law (defBody (top 31)) = true := by kernel_rfl
theorem s_law : C8.scC nn_law ["script"] (defScope (top 31)) = true := by kernel_rfl
/-! the top -/
def fcs : List He.Fa := [.glo "_law_draw", .glo "_law_values", .glo "_law_due", .glo "check_line", .glo "has_period", .glo "divisors_of", .glo "least_form", .glo "_law_told", .glo "_law_right", .glo "_law_pool", .glo "law", .glo "Line", .glo "SizeError", .glo "InvalidLine", .glo "InvalidPipeline", .glo "InvalidNumber", .glo "InvalidRow", .glo "InvalidCell", .glo "InvalidPlaces", .glo "NotFitting", .glo "NotSteady", .glo "NothingToUndo", .glo "Unreadable", .free "super", .free "ValueError", .free "isinstance", .free "len", .free "abs", .free "min", .free "max", .free "sum", .free "all", .free "any", .free "sorted", .free "list", .free "tuple", .free "int", .free "str", .free "range", .free "enumerate", .free "zip", .cls "Line", .noat "Line" "kept_starts", .noat "Line" "kept_rise", .mkr "Line"]
def prs : List (Str × Str) := []
def ops : List (Str × Str) := []
def sfs : List Str := []
def iss : List Str := []
def tbs : List (Str × List (Str × Int)) := []
def tabs : List He.Tab := tbs.map fun t => (fun K => He.ga K t.1, t.2.map (·.1))
def xcl : Cls2 := [(20, "SizeError"), (21, "InvalidLine"), (22, "InvalidPipeline"), (23, "InvalidNumber"), (24, "InvalidRow"), (25, "InvalidCell"), (26, "InvalidPlaces"), (27, "NotFitting"), (28, "NotSteady"), (29, "NothingToUndo"), (30, "Unreadable")]
def pfile : Str := PySem.Challenge.pw_fitsizes_k02_errors_of_lines.main.file
def ck (K : PySem.W.Frag) : Bool := xsB pfile xcl K && ((fcs.all fun f => f.ok K) && ((tbs.all fun t => tabB K (He.ga K t.1) t.2) && ((prs.all fun p => propB K (He.ga K p.1) p.2) && ((ops.all fun p => opB K (He.ga K p.1) p.2) && ((sfs.all fun x => PySem.W.selfFirst K (He.ga K x)) && (iss.all fun x => isB K (He.ga K x)))))))
def d_law_draw : Df := ⟨fun K => He.ga K "_law_draw", "_law_draw", "_law_draw", defArgs (top 23), defBody (top 23), defScope (top 23)⟩
def d_law_values : Df := ⟨fun K => He.ga K "_law_values", "_law_values", "_law_values", defArgs (top 24), defBody (top 24), defScope (top 24)⟩
def d_law_due : Df := ⟨fun K => He.ga K "_law_due", "_law_due", "_law_due", defArgs (top 29), defBody (top 29), defScope (top 29)⟩
def d_check_line : Df := ⟨fun K => He.ga K "check_line", "check_line", "check_line", defArgs (top 17), defBody (top 17), defScope (top 17)⟩
def d_has_period : Df := ⟨fun K => He.ga K "has_period", "has_period", "has_period", defArgs (top 18), defBody (top 18), defScope (top 18)⟩
def d_divisors_of : Df := ⟨fun K => He.ga K "divisors_of", "divisors_of", "divisors_of", defArgs (top 16), defBody (top 16), defScope (top 16)⟩
def d_least_form : Df := ⟨fun K => He.ga K "least_form", "least_form", "least_form", defArgs (top 19), defBody (top 19), defScope (top 19)⟩
def d_Line_init : Df := ⟨fun K => He.ma K (He.ga K "Line") "__init__", "__init__", "Line.__init__", defArgs (inn 20 0), defBody (inn 20 0), defScope (inn 20 0)⟩
def d_law_told : Df := ⟨fun K => He.ga K "_law_told", "_law_told", "_law_told", defArgs (top 28), defBody (top 28), defScope (top 28)⟩
def d_law_right : Df := ⟨fun K => He.ga K "_law_right", "_law_right", "_law_right", defArgs (top 30), defBody (top 30), defScope (top 30)⟩
def d_law_pool : Df := ⟨fun K => He.ga K "_law_pool", "_law_pool", "_law_pool", defArgs (top 22), defBody (top 22), defScope (top 22)⟩
def d_law : Df := ⟨fun K => He.ga K "law", "law", "law", defArgs (top 31), defBody (top 31), defScope (top 31)⟩
def dfs : List Df := [d_law_draw, d_law_values, d_law_due, d_check_line, d_has_period, d_divisors_of, d_least_form, d_Line_init, d_law_told, d_law_right, d_law_pool, d_law]
abbrev mo (K : PySem.W.Frag) : Mo := ⟨K, fun c => if c = 0 then some (He.ga K "Line") else clX K xcl c⟩
set_option maxHeartbeats 4000000
theorem w_law_draw : b_law_draw.needs = [] := by kernel_rfl
theorem w_law_values : b_law_values.needs = [.gl f_law_draw, .gl f_law_draw, .gl f_law_draw, .gl f_law_draw, .gl f_law_draw, .gl f_law_draw, .gl f_law_draw] := by kernel_rfl
theorem w_law_due : b_law_due.needs = [] := by kernel_rfl
theorem w_check_line : b_check_line.needs = [.xc 21 "InvalidLine", .xc 21 "InvalidLine", .xc 21 "InvalidLine"] := by kernel_rfl
theorem w_has_period : b_has_period.needs = [] := by kernel_rfl
theorem w_divisors_of : b_divisors_of.needs = [] := by kernel_rfl
theorem w_least_form : b_least_form.needs = [.gl f_divisors_of, .gl f_has_period] := by kernel_rfl
theorem w_Line_init : b_Line_init.needs = [.gl f_check_line, .fd 0 "kept_starts", .fd 0 "kept_rise", .gl f_least_form] := by kernel_rfl
theorem w_law_told : b_law_told.needs = [.xh 20 "SizeError", .xs (([(25, "InvalidCell"), (23, "InvalidNumber"), (22, "InvalidPipeline"), (26, "InvalidPlaces"), (24, "InvalidRow"), (27, "NotFitting")] : Cls2) ++ (([(29, "NothingToUndo"), (28, "NotSteady"), (30, "Unreadable")] : Cls2) ++ [⟨21, "InvalidLine"⟩])), .mk 0 f_Line_init] := by kernel_rfl
theorem w_law_right : b_law_right.needs = [.gl f_law_values, .gl f_law_draw, .gl f_law_draw, .gl f_law_draw, .gl f_law_draw, .gl f_law_draw, .gl f_law_draw, .gl f_law_told, .gl f_law_due] := by kernel_rfl
theorem w_law_pool : b_law_pool.needs = [] := by kernel_rfl
theorem w_law : b_law.needs = [.gl f_law_pool, .gl f_law_right, .gl f_law_told, .gl f_law_told, .gl f_law_told, .gl f_law_told, .gl f_law_told] := by kernel_rfl
theorem facts {P : Program} {w : World} {K : PySem.W.Frag} {h : Heap} {mg : Str → Option Value} {fa : Addr} (X : K.In h) (G : h.Ns mainGlobals mg) (hfa : mg ("law" : Str) = some (.ref fa)) (c : ck K = true) (d : ∀ x ∈ dfs, x.Has K) (tb : TabsOk w K tabs) (hP1 : (P.main.file : Str) = pfile) (hP2 : (P.main.scope.names.lookup ("super" : Str)).isSome = false) :
    ∃ fd : FuncData, (∀ (s : Shared) (v : Value), BindsTo s fd ⟨[v], []⟩ [("script", v)]) ∧ ∀ base : Heap, K.In base → base.Ns mainGlobals mg → FnOk P w K mg base (L2N.CX P w) 16 fa fd ["script"] (Spec (mo K) f_law) := by
  obtain ⟨cx, c⟩ := Bool.and_eq_true_iff.mp c
  obtain ⟨c1, c2⟩ := Bool.and_eq_true_iff.mp c
  obtain ⟨ct, c2⟩ := Bool.and_eq_true_iff.mp c2
  obtain ⟨c2, c3⟩ := Bool.and_eq_true_iff.mp c2
  obtain ⟨c3, c4⟩ := Bool.and_eq_true_iff.mp c3
  obtain ⟨c4, c5⟩ := Bool.and_eq_true_iff.mp c4
  have k1 : ∀ (i : Nat) {f : He.Fa}, fcs[i]? = some f → f.ok K = true := fun i f e => List.all_eq_true.mp c1 f (List.mem_of_getElem? e)
  have g__law_draw : mg ("_law_draw" : Str) = some (.ref (He.ga K "_law_draw")) := He.glo_ok X G (k1 0 rfl)
  have g__law_values : mg ("_law_values" : Str) = some (.ref (He.ga K "_law_values")) := He.glo_ok X G (k1 1 rfl)
  have g__law_due : mg ("_law_due" : Str) = some (.ref (He.ga K "_law_due")) := He.glo_ok X G (k1 2 rfl)
  have g_check_line : mg ("check_line" : Str) = some (.ref (He.ga K "check_line")) := He.glo_ok X G (k1 3 rfl)
  have g_has_period : mg ("has_period" : Str) = some (.ref (He.ga K "has_period")) := He.glo_ok X G (k1 4 rfl)
  have g_divisors_of : mg ("divisors_of" : Str) = some (.ref (He.ga K "divisors_of")) := He.glo_ok X G (k1 5 rfl)
  have g_least_form : mg ("least_form" : Str) = some (.ref (He.ga K "least_form")) := He.glo_ok X G (k1 6 rfl)
  have g__law_told : mg ("_law_told" : Str) = some (.ref (He.ga K "_law_told")) := He.glo_ok X G (k1 7 rfl)
  have g__law_right : mg ("_law_right" : Str) = some (.ref (He.ga K "_law_right")) := He.glo_ok X G (k1 8 rfl)
  have g__law_pool : mg ("_law_pool" : Str) = some (.ref (He.ga K "_law_pool")) := He.glo_ok X G (k1 9 rfl)
  have g_law : mg ("law" : Str) = some (.ref (He.ga K "law")) := He.glo_ok X G (k1 10 rfl)
  have g_Line : mg ("Line" : Str) = some (.ref (He.ga K "Line")) := He.glo_ok X G (k1 11 rfl)
  have g_SizeError : mg ("SizeError" : Str) = some (.ref (He.ga K "SizeError")) := He.glo_ok X G (k1 12 rfl)
  have g_InvalidLine : mg ("InvalidLine" : Str) = some (.ref (He.ga K "InvalidLine")) := He.glo_ok X G (k1 13 rfl)
  have g_InvalidPipeline : mg ("InvalidPipeline" : Str) = some (.ref (He.ga K "InvalidPipeline")) := He.glo_ok X G (k1 14 rfl)
  have g_InvalidNumber : mg ("InvalidNumber" : Str) = some (.ref (He.ga K "InvalidNumber")) := He.glo_ok X G (k1 15 rfl)
  have g_InvalidRow : mg ("InvalidRow" : Str) = some (.ref (He.ga K "InvalidRow")) := He.glo_ok X G (k1 16 rfl)
  have g_InvalidCell : mg ("InvalidCell" : Str) = some (.ref (He.ga K "InvalidCell")) := He.glo_ok X G (k1 17 rfl)
  have g_InvalidPlaces : mg ("InvalidPlaces" : Str) = some (.ref (He.ga K "InvalidPlaces")) := He.glo_ok X G (k1 18 rfl)
  have g_NotFitting : mg ("NotFitting" : Str) = some (.ref (He.ga K "NotFitting")) := He.glo_ok X G (k1 19 rfl)
  have g_NotSteady : mg ("NotSteady" : Str) = some (.ref (He.ga K "NotSteady")) := He.glo_ok X G (k1 20 rfl)
  have g_NothingToUndo : mg ("NothingToUndo" : Str) = some (.ref (He.ga K "NothingToUndo")) := He.glo_ok X G (k1 21 rfl)
  have g_Unreadable : mg ("Unreadable" : Str) = some (.ref (He.ga K "Unreadable")) := He.glo_ok X G (k1 22 rfl)
  have XO : XsOk P K mg (mo K) pfile xcl := ⟨cx, hP1, hP2, He.free_ok X G (k1 23 rfl), He.free_ok X G (k1 25 rfl), He.free_ok X G (k1 24 rfl), (by
    intro p hp
    simp only [xcl, List.mem_cons, List.not_mem_nil, or_false] at hp
    rcases hp with rfl | rfl | rfl | rfl | rfl | rfl | rfl | rfl | rfl | rfl | rfl
    · exact g_SizeError
    · exact g_InvalidLine
    · exact g_InvalidPipeline
    · exact g_InvalidNumber
    · exact g_InvalidRow
    · exact g_InvalidCell
    · exact g_InvalidPlaces
    · exact g_NotFitting
    · exact g_NotSteady
    · exact g_NothingToUndo
    · exact g_Unreadable
    ), (by
    intro p hp
    simp only [xcl, List.mem_cons, List.not_mem_nil, or_false] at hp
    rcases hp with rfl | rfl | rfl | rfl | rfl | rfl | rfl | rfl | rfl | rfl | rfl <;> rfl), fun c C' h20 e => (by
    have e : (if c = 0 then some (He.ga K "Line") else clX K xcl c) = some C' := e
    rw [if_neg (by omega)] at e
    exact clX_all e)⟩
  have B : Blts mg := ⟨fun b => (by
    cases b with
    | len => exact He.free_ok X G (k1 26 rfl)
    | abs => exact He.free_ok X G (k1 27 rfl)
    | min2 => exact He.free_ok X G (k1 28 rfl)
    | max2 => exact He.free_ok X G (k1 29 rfl)
    | min1 => exact He.free_ok X G (k1 28 rfl)
    | max1 => exact He.free_ok X G (k1 29 rfl)
    | sum => exact He.free_ok X G (k1 30 rfl)
    | all => exact He.free_ok X G (k1 31 rfl)
    | any => exact He.free_ok X G (k1 32 rfl)
    | sorted => exact He.free_ok X G (k1 33 rfl)
    | list => exact He.free_ok X G (k1 34 rfl)
    | tuple => exact He.free_ok X G (k1 35 rfl)
    | int => exact He.free_ok X G (k1 36 rfl)
    | str => exact He.free_ok X G (k1 37 rfl)
    ), He.free_ok X G (k1 38 rfl), He.free_ok X G (k1 39 rfl), He.free_ok X G (k1 40 rfl)⟩
  obtain ⟨t_law_draw, F_law_draw⟩ := d d_law_draw (List.mem_of_getElem? (i := 0) rfl)
  have B_law_draw : Binds K t_law_draw ["pool", "many"] [] := F_law_draw.bindsN fun _ _ _ _ _ _ us hl => match us, hl with | [_, _], _ => rfl
  obtain ⟨t_law_values, F_law_values⟩ := d d_law_values (List.mem_of_getElem? (i := 1) rfl)
  have B_law_values : Binds K t_law_values ["pool", "many"] [] := F_law_values.bindsN fun _ _ _ _ _ _ us hl => match us, hl with | [_, _], _ => rfl
  obtain ⟨t_law_due, F_law_due⟩ := d d_law_due (List.mem_of_getElem? (i := 2) rfl)
  have B_law_due : Binds K t_law_due ["found", "more"] [] := F_law_due.bindsN fun _ _ _ _ _ _ us hl => match us, hl with | [_, _], _ => rfl
  obtain ⟨t_check_line, F_check_line⟩ := d d_check_line (List.mem_of_getElem? (i := 3) rfl)
  have B_check_line : Binds K t_check_line ["starts", "rise"] [] := F_check_line.bindsN fun _ _ _ _ _ _ us hl => match us, hl with | [_, _], _ => rfl
  obtain ⟨t_has_period, F_has_period⟩ := d d_has_period (List.mem_of_getElem? (i := 4) rfl)
  have B_has_period : Binds K t_has_period ["starts", "rise", "period"] [] := F_has_period.bindsN fun _ _ _ _ _ _ us hl => match us, hl with | [_, _, _], _ => rfl
  obtain ⟨t_divisors_of, F_divisors_of⟩ := d d_divisors_of (List.mem_of_getElem? (i := 5) rfl)
  have B_divisors_of : Binds K t_divisors_of ["number"] [] := F_divisors_of.bindsN fun _ _ _ _ _ _ us hl => match us, hl with | [_], _ => rfl
  obtain ⟨t_least_form, F_least_form⟩ := d d_least_form (List.mem_of_getElem? (i := 6) rfl)
  have B_least_form : Binds K t_least_form ["starts", "rise"] [] := F_least_form.bindsN fun _ _ _ _ _ _ us hl => match us, hl with | [_, _], _ => rfl
  obtain ⟨t_Line_init, F_Line_init⟩ := d d_Line_init (List.mem_of_getElem? (i := 7) rfl)
  have B_Line_init : Binds K t_Line_init ["self", "starts", "rise"] [] := F_Line_init.bindsN fun _ _ _ _ _ _ us hl => match us, hl with | [_, _, _], _ => rfl
  obtain ⟨t_law_told, F_law_told⟩ := d d_law_told (List.mem_of_getElem? (i := 8) rfl)
  have B_law_told : Binds K t_law_told ["found", "more"] [] := F_law_told.bindsN fun _ _ _ _ _ _ us hl => match us, hl with | [_, _], _ => rfl
  obtain ⟨t_law_right, F_law_right⟩ := d d_law_right (List.mem_of_getElem? (i := 9) rfl)
  have B_law_right : Binds K t_law_right ["pool"] [] := F_law_right.bindsN fun _ _ _ _ _ _ us hl => match us, hl with | [_], _ => rfl
  obtain ⟨t_law_pool, F_law_pool⟩ := d d_law_pool (List.mem_of_getElem? (i := 10) rfl)
  have B_law_pool : Binds K t_law_pool ["script", "at"] [] := F_law_pool.bindsN fun _ _ _ _ _ _ us hl => match us, hl with | [_, _], _ => rfl
  obtain ⟨t_law, F_law⟩ := d d_law (List.mem_of_getElem? (i := 11) rfl)
  have e := hfa.symm.trans g_law
  cases e
  refine ⟨t_law, fun s v => FunD.bindsA (ps := ["script"]) F_law (fun _ _ _ _ _ _ us hl => match us, hl with | [_], _ => rfl) s [v] rfl, fun base _ _ => ?_⟩
  have A_law_draw : Avls (L2N.CX P w) P w K mg base (mo K) 0 b_law_draw.needs := (by rw [w_law_draw]; exact avn)
  have O_law_draw : FnOk P w K mg base (L2N.CX P w) 1 (d_law_draw.pl K) t_law_draw ["pool", "many"] (Spec (mo K) f_law_draw) := df_ok (d := d_law_draw) pass_CXN B rfl F_law_draw s_law_draw rfl c_law_draw A_law_draw fun _ => rfl
  have A_law_values : Avls (L2N.CX P w) P w K mg base (mo K) 3 b_law_values.needs := (by rw [w_law_values]; exact (avc (av_gl (O_law_draw) (by decide) B_law_draw g__law_draw F_law_draw.kp) (avc (av_gl (O_law_draw) (by decide) B_law_draw g__law_draw F_law_draw.kp) (avc (av_gl (O_law_draw) (by decide) B_law_draw g__law_draw F_law_draw.kp) (avc (av_gl (O_law_draw) (by decide) B_law_draw g__law_draw F_law_draw.kp) (avc (av_gl (O_law_draw) (by decide) B_law_draw g__law_draw F_law_draw.kp) (avc (av_gl (O_law_draw) (by decide) B_law_draw g__law_draw F_law_draw.kp) (avc (av_gl (O_law_draw) (by decide) B_law_draw g__law_draw F_law_draw.kp) avn))))))))
  have O_law_values : FnOk P w K mg base (L2N.CX P w) 4 (d_law_values.pl K) t_law_values ["pool", "many"] (Spec (mo K) f_law_values) := df_ok (d := d_law_values) pass_CXN B rfl F_law_values s_law_values rfl c_law_values A_law_values fun _ => rfl
  have A_law_due : Avls (L2N.CX P w) P w K mg base (mo K) 0 b_law_due.needs := (by rw [w_law_due]; exact avn)
  have O_law_due : FnOk P w K mg base (L2N.CX P w) 1 (d_law_due.pl K) t_law_due ["found", "more"] (Spec (mo K) f_law_due) := df_ok (d := d_law_due) pass_CXN B rfl F_law_due s_law_due rfl c_law_due A_law_due fun _ => rfl
  have A_check_line : Avls (L2N.CX P w) P w K mg base (mo K) 2 b_check_line.needs := (by rw [w_check_line]; exact (avc (av_xc (xs := xcl) XO (List.mem_of_getElem? (i := 1) rfl) (by decide)) (avc (av_xc (xs := xcl) XO (List.mem_of_getElem? (i := 1) rfl) (by decide)) (avc (av_xc (xs := xcl) XO (List.mem_of_getElem? (i := 1) rfl) (by decide)) avn))))
  have O_check_line : FnOk P w K mg base (L2N.CX P w) 3 (d_check_line.pl K) t_check_line ["starts", "rise"] (Spec (mo K) f_check_line) := df_ok (d := d_check_line) pass_CXN B rfl F_check_line s_check_line rfl c_check_line A_check_line fun _ => rfl
  have A_has_period : Avls (L2N.CX P w) P w K mg base (mo K) 0 b_has_period.needs := (by rw [w_has_period]; exact avn)
  have O_has_period : FnOk P w K mg base (L2N.CX P w) 1 (d_has_period.pl K) t_has_period ["starts", "rise", "period"] (Spec (mo K) f_has_period) := df_ok (d := d_has_period) pass_CXN B rfl F_has_period s_has_period rfl c_has_period A_has_period fun _ => rfl
  have A_divisors_of : Avls (L2N.CX P w) P w K mg base (mo K) 0 b_divisors_of.needs := (by rw [w_divisors_of]; exact avn)
  have O_divisors_of : FnOk P w K mg base (L2N.CX P w) 1 (d_divisors_of.pl K) t_divisors_of ["number"] (Spec (mo K) f_divisors_of) := df_ok (d := d_divisors_of) pass_CXN B rfl F_divisors_of s_divisors_of rfl c_divisors_of A_divisors_of fun _ => rfl
  have A_least_form : Avls (L2N.CX P w) P w K mg base (mo K) 3 b_least_form.needs := (by rw [w_least_form]; exact (avc (av_gl (O_divisors_of) (by decide) B_divisors_of g_divisors_of F_divisors_of.kp) (avc (av_gl (O_has_period) (by decide) B_has_period g_has_period F_has_period.kp) avn)))
  have O_least_form : FnOk P w K mg base (L2N.CX P w) 4 (d_least_form.pl K) t_least_form ["starts", "rise"] (Spec (mo K) f_least_form) := df_ok (d := d_least_form) pass_CXN B rfl F_least_form s_least_form rfl c_least_form A_least_form fun _ => rfl
  have A_Line_init : Avls (L2N.CX P w) P w K mg base (mo K) 6 b_Line_init.needs := (by rw [w_Line_init]; exact (avc (av_gl (O_check_line) (by decide) B_check_line g_check_line F_check_line.kp) (avc (av_fd rfl (He.cls_ok (k1 41 rfl)) (He.noat_ok (k1 42 rfl))) (avc (av_fd rfl (He.cls_ok (k1 41 rfl)) (He.noat_ok (k1 43 rfl))) (avc (av_gl (O_least_form) (by decide) B_least_form g_least_form F_least_form.kp) avn)))))
  have O_Line_init : FnOk P w K mg base (L2N.CX P w) 7 (d_Line_init.pl K) t_Line_init ["self", "starts", "rise"] (Spec (mo K) f_Line_init) := df_ok (d := d_Line_init) pass_CXN B rfl F_Line_init s_Line_init rfl c_Line_init A_Line_init fun _ => rfl
  have A_law_told : Avls (L2N.CX P w) P w K mg base (mo K) 9 b_law_told.needs := (by rw [w_law_told]; exact (avc (av_xh (xs := xcl) XO (List.mem_of_getElem? (i := 0) rfl)) (avc (av_xs (xs := xcl) XO (by decide)) (avc (av_mk (O_Line_init) (by decide) B_Line_init rfl (He.mkr_ok (k1 44 rfl)) g_Line) avn))))
  have O_law_told : FnOk P w K mg base (L2N.CX P w) 10 (d_law_told.pl K) t_law_told ["found", "more"] (Spec (mo K) f_law_told) := df_ok (d := d_law_told) pass_CXN B rfl F_law_told s_law_told rfl c_law_told A_law_told fun _ => rfl
  have A_law_right : Avls (L2N.CX P w) P w K mg base (mo K) 12 b_law_right.needs := (by rw [w_law_right]; exact (avc (av_gl (O_law_values) (by decide) B_law_values g__law_values F_law_values.kp) (avc (av_gl (O_law_draw) (by decide) B_law_draw g__law_draw F_law_draw.kp) (avc (av_gl (O_law_draw) (by decide) B_law_draw g__law_draw F_law_draw.kp) (avc (av_gl (O_law_draw) (by decide) B_law_draw g__law_draw F_law_draw.kp) (avc (av_gl (O_law_draw) (by decide) B_law_draw g__law_draw F_law_draw.kp) (avc (av_gl (O_law_draw) (by decide) B_law_draw g__law_draw F_law_draw.kp) (avc (av_gl (O_law_draw) (by decide) B_law_draw g__law_draw F_law_draw.kp) (avc (av_gl (O_law_told) (by decide) B_law_told g__law_told F_law_told.kp) (avc (av_gl (O_law_due) (by decide) B_law_due g__law_due F_law_due.kp) avn))))))))))
  have O_law_right : FnOk P w K mg base (L2N.CX P w) 13 (d_law_right.pl K) t_law_right ["pool"] (Spec (mo K) f_law_right) := df_ok (d := d_law_right) pass_CXN B rfl F_law_right s_law_right rfl c_law_right A_law_right fun _ => rfl
  have A_law_pool : Avls (L2N.CX P w) P w K mg base (mo K) 0 b_law_pool.needs := (by rw [w_law_pool]; exact avn)
  have O_law_pool : FnOk P w K mg base (L2N.CX P w) 1 (d_law_pool.pl K) t_law_pool ["script", "at"] (Spec (mo K) f_law_pool) := df_ok (d := d_law_pool) pass_CXN B rfl F_law_pool s_law_pool rfl c_law_pool A_law_pool fun _ => rfl
  have A_law : Avls (L2N.CX P w) P w K mg base (mo K) 15 b_law.needs := (by rw [w_law]; exact (avc (av_gl (O_law_pool) (by decide) B_law_pool g__law_pool F_law_pool.kp) (avc (av_gl (O_law_right) (by decide) B_law_right g__law_right F_law_right.kp) (avc (av_gl (O_law_told) (by decide) B_law_told g__law_told F_law_told.kp) (avc (av_gl (O_law_told) (by decide) B_law_told g__law_told F_law_told.kp) (avc (av_gl (O_law_told) (by decide) B_law_told g__law_told F_law_told.kp) (avc (av_gl (O_law_told) (by decide) B_law_told g__law_told F_law_told.kp) (avc (av_gl (O_law_told) (by decide) B_law_told g__law_told F_law_told.kp) avn))))))))
  have O_law : FnOk P w K mg base (L2N.CX P w) 16 (d_law.pl K) t_law ["script"] (Spec (mo K) f_law) := df_ok (d := d_law) pass_CXN B rfl F_law s_law rfl c_law A_law fun _ => rfl
  exact O_law
abbrev R : PySem.W.OpenRow := PySem.W.OpenLaw.row PySem.Challenge.rw_fitsizes_k02_errors_of_lines
def loose : List Str := (["_wall", "SizeError", "InvalidLine", "InvalidPipeline", "InvalidNumber", "InvalidRow", "InvalidCell", "InvalidPlaces", "NotFitting", "NotSteady", "NothingToUndo", "Unreadable", "common_divisor", "common_multiple", "divisors_of", "check_line", "has_period", "least_form", "Line", "_law_pool"] : List Str) ++ (["_law_draw", "_law_values", "_law_often", "_law_at", "_law_place", "_law_told", "_law_due", "_law_right"] : List Str)
abbrev hk : PySem.W.Hook := watch 5 ck dfs tabs
abbrev ob (s : PySem.W.SharedT) : DL.Seen := watchT 5 ck dfs tabs s
theorem top_run (w : World) : HandSHeadRun.RunEq R (PySem.W.view R.prog [31]) hk ob 4000 loose w := by
  intro os
  kernel_rfl
end K02

-- part LN
set_option Elab.async false
set_option linter.all false
/-! stepped lines, plainly -/
namespace LN
open PySem L2 DL

/-- the value at n -/
def lat (s : List Int) (r n : Int) : Int := gI s (n.fmod s.length) + r * (n.fdiv s.length)
structure Ok (s : List Int) (r : Int) : Prop where
  ne : 0 < s.length
  up : ∀ i : Nat, i + 1 < s.length → gI s (i : Int) ≤ gI s ((i + 1 : Nat) : Int)
  la : gI s ((s.length - 1 : Nat) : Int) ≤ gI s 0 + r
theorem fdm {n p : Int} (hp : 0 < p) : n.fmod p = n % p ∧ n.fdiv p = n / p := ⟨Int.fmod_eq_emod_of_nonneg _ (by omega), Int.fdiv_eq_ediv_of_nonneg _ (by omega)⟩
theorem lat_eq {s : List Int} {r : Int} (h : 0 < s.length) (q : Int) (i : Nat) (hi : i < s.length) : lat s r (q * s.length + i) = gI s (i : Int) + r * q := by
  have hp : (0 : Int) < s.length := by omega
  obtain ⟨e1, e2⟩ := fdm (n := q * s.length + i) hp
  unfold lat
  rw [e1, e2]
  have a1 : (q * (s.length : Int) + i) % s.length = i := by
    rw [Int.add_comm, Int.add_mul_emod_self_right]
    exact Int.emod_eq_of_lt (by omega) (by omega)
  have a2 : (q * (s.length : Int) + i) / s.length = q := by
    rw [Int.add_comm, Int.add_mul_ediv_right _ _ (by omega), Int.ediv_eq_zero_of_lt (by omega) (by omega)]
    omega
  rw [a1, a2]
/-- every place is one of a lap -/
theorem split {p : Int} (hp : 0 < p) (n : Int) : ∃ (q : Int) (i : Nat), n = q * p + i ∧ (i : Int) < p := by
  refine ⟨n / p, (n % p).toNat, ?_, ?_⟩
  · have := Int.emod_nonneg n (show p ≠ 0 by omega)
    have h2 := Int.mul_ediv_add_emod n p
    rw [Int.toNat_of_nonneg this, Int.mul_comm]
    omega
  · have := Int.emod_nonneg n (show p ≠ 0 by omega)
    have := Int.emod_lt_of_pos n hp
    omega
theorem lat_lap {s : List Int} {r : Int} (h : 0 < s.length) (n q : Int) : lat s r (n + q * s.length) = lat s r n + r * q := by
  obtain ⟨k, i, rfl, hi⟩ := split (p := s.length) (by omega) n
  rw [show k * (s.length : Int) + i + q * s.length = (k + q) * s.length + i by rw [Int.add_mul]; omega]
  rw [lat_eq h _ _ (by omega), lat_eq h _ _ (by omega), Int.mul_add]
  omega
theorem lat_zero {s : List Int} {r : Int} (h : 0 < s.length) : lat s r 0 = gI s 0 := by
  have := lat_eq (r := r) h 0 0 h
  simpa using this
theorem lat_mono1 {s : List Int} {r : Int} (o : Ok s r) (n : Int) : lat s r n ≤ lat s r (n + 1) := by
  have h := o.ne
  obtain ⟨q, i, rfl, hi⟩ := split (p := s.length) (by omega) n
  by_cases e : i + 1 < s.length
  · rw [show q * (s.length : Int) + i + 1 = q * s.length + ((i + 1 : Nat) : Int) by omega]
    rw [lat_eq h _ _ (by omega), lat_eq h _ _ (by omega)]
    have := o.up i e
    omega
  · have e2 : i = s.length - 1 := by omega
    rw [show q * (s.length : Int) + i + 1 = (q + 1) * s.length + ((0 : Nat) : Int) by rw [Int.add_mul]; omega]
    rw [lat_eq h _ _ (by omega), lat_eq h _ _ (by omega), e2, Int.mul_add]
    have := o.la
    simp only [Int.mul_one, Int.ofNat_zero] at this ⊢
    show _ ≤ gI s ((0 : Nat) : Int) + _
    have e3 : gI s ((0 : Nat) : Int) = gI s 0 := rfl
    omega
theorem lat_mono {s : List Int} {r : Int} (o : Ok s r) {m n : Int} (h : m ≤ n) : lat s r m ≤ lat s r n := by
  obtain ⟨k, rfl⟩ : ∃ k : Nat, n = m + k := ⟨(n - m).toNat, by omega⟩
  clear h
  induction k with
  | zero => simp
  | succ k ih =>
    have := lat_mono1 o (m + k)
    rw [show m + ((k + 1 : Nat) : Int) = m + k + 1 by omega]
    omega
theorem rise_nn {s : List Int} {r : Int} (o : Ok s r) : 0 ≤ r := by
  have h := o.ne
  have h1 := lat_mono o (m := 0) (n := (s.length : Int)) (by omega)
  have h2 := lat_lap (r := r) h 0 1
  simp at h2
  omega
/-! ### the least form -/
/-- p is a period of a line with so many starts (p divides their number) -/
def hasPer (s : List Int) (r p : Int) : Bool := decide ((r * p).fmod s.length = 0) && (rg 0 (s.length - p).toNat).all fun i => decide (gI s (i + p) = gI s i + (r * p).fdiv s.length)
def pers (s : List Int) (r : Int) : List Int := ((rg 1 s.length).filter fun p => decide ((s.length : Int).fmod p = 0)).filter fun p => hasPer s r p
def lper (s : List Int) (r : Int) : Int := (pers s r).head?.getD 0
def lform (s : List Int) (r : Int) : List Int × Int := (s.take (lper s r).toNat, (r * lper s r).fdiv s.length)
theorem pers_ne {s : List Int} {r : Int} (h : 0 < s.length) : ∃ p t, pers s r = p :: t ∧ 1 ≤ p ∧ p ≤ s.length ∧ (s.length : Int) % p = 0 ∧ hasPer s r p = true := by
  have hp : (0 : Int) < s.length := by omega
  have m : (s.length : Int) ∈ pers s r := by
    simp only [pers, List.mem_filter, mem_rg, hasPer, Bool.and_eq_true, decide_eq_true_eq]
    refine ⟨⟨by omega, by simp⟩, ?_, ?_⟩
    · simp
    · simp [rg]
  cases e : pers s r with
  | nil => rw [e] at m; simp at m
  | cons p t =>
    have m2 : p ∈ pers s r := by rw [e]; simp
    simp only [pers, List.mem_filter, mem_rg, decide_eq_true_eq] at m2
    obtain ⟨⟨⟨h1, h2⟩, h3⟩, h4⟩ := m2
    refine ⟨p, t, rfl, h1, by omega, ?_, h4⟩
    rw [← (fdm (by omega)).1]; exact h3
theorem lper_ok {s : List Int} {r : Int} (h : 0 < s.length) : 1 ≤ lper s r ∧ lper s r ≤ s.length ∧ (s.length : Int) % lper s r = 0 ∧ hasPer s r (lper s r) = true := by
  obtain ⟨p, t, e, h1, h2, h3, h4⟩ := pers_ne (r := r) h
  have : lper s r = p := by simp [lper, e]
  rw [this]
  exact ⟨h1, h2, h3, h4⟩
theorem gI_take {s : List Int} {k i : Nat} (h : i < k) (h2 : k ≤ s.length) : gI (s.take k) (i : Int) = gI s (i : Int) := by
  rw [gI_nat (by simp; omega), gI_nat (by omega)]
  simp
/-- .. tells the same line, by a shorter list -/
theorem take_lat {s : List Int} {r : Int} {p : Nat} {st : Int} (h : 0 < s.length) (hp : 0 < p) {k : Nat} (hk : s.length = k * p) (hs : r * p = st * s.length)
    (hper : ∀ i : Nat, i + p < s.length → gI s ((i + p : Nat) : Int) = gI s (i : Int) + st) (n : Int) : lat (s.take p) st n = lat s r n := by
  have hple : p ≤ s.length := by
    rw [hk]
    have : 0 < k := by
      rcases Nat.eq_zero_or_pos k with e | e
      · subst e; omega
      · exact e
    exact Nat.le_mul_of_pos_left p this
  have hl : (s.take p).length = p := by simp; omega
  have hr : r = st * k := by
    have : r * p = (st * k) * p := by rw [hs, hk]; push_cast; rw [Int.mul_assoc]
    exact Int.eq_of_mul_eq_mul_right (by omega) this
  have hj : ∀ (j i : Nat), i < p → j * p + i < s.length → gI s ((j * p + i : Nat) : Int) = gI s (i : Int) + st * j := by
    intro j
    induction j with
    | zero => intro i _ _; simp
    | succ j ih =>
      intro i hi hlt
      have e : (j + 1) * p + i = (j * p + i) + p := by rw [Nat.add_mul]; omega
      rw [e] at hlt ⊢
      rw [hper _ hlt, ih i hi (by omega)]
      push_cast
      rw [Int.mul_add]
      omega
  obtain ⟨q, m, rfl, hm⟩ := split (p := s.length) (by omega) n
  have hm' : m < s.length := by omega
  rw [lat_eq h _ _ hm']
  have e1 : m = (m / p) * p + m % p := by rw [Nat.mul_comm]; exact (Nat.div_add_mod m p).symm
  have hi : m % p < p := Nat.mod_lt _ hp
  have e2 := hj (m / p) (m % p) hi (by omega)
  rw [← e1] at e2
  have e3 : q * (s.length : Int) + m = (q * k + (m / p : Nat)) * ((s.take p).length : Nat) + ((m % p : Nat) : Int) := by
    rw [hl, hk, Int.add_mul, Int.mul_assoc]
    push_cast
    have : (m : Int) = ((m / p : Nat) : Int) * p + ((m % p : Nat) : Int) := by exact_mod_cast e1
    push_cast at this
    omega
  rw [e3, lat_eq (by omega) _ _ (by omega), gI_take hi hple, e2, hr, Int.mul_add]
  have : st * (q * (k : Int)) = st * k * q := by rw [Int.mul_comm q, Int.mul_assoc]
  omega
theorem lform_parts {s : List Int} {r : Int} (h : 0 < s.length) : ∃ (p k : Nat), lper s r = p ∧ 0 < p ∧ s.length = k * p ∧ r * p = (lform s r).2 * s.length ∧ (lform s r).1 = s.take p ∧ (∀ i : Nat, i + p < s.length → gI s ((i + p : Nat) : Int) = gI s (i : Int) + (lform s r).2) := by
  obtain ⟨h1, h2, h3, h4⟩ := lper_ok (r := r) h
  have hp : (0 : Int) < s.length := by omega
  obtain ⟨p, hpe⟩ : ∃ p : Nat, lper s r = p := ⟨(lper s r).toNat, by omega⟩
  rw [hpe] at h1 h2 h3 h4
  simp only [hasPer, Bool.and_eq_true, decide_eq_true_eq, List.all_eq_true, mem_rg] at h4
  obtain ⟨h5, h6⟩ := h4
  refine ⟨p, s.length / p, hpe, by omega, ?_, ?_, ?_, ?_⟩
  · have h3 : s.length % p = 0 := by exact_mod_cast h3
    have := Nat.div_add_mod s.length p
    rw [Nat.mul_comm]
    omega
  · show r * p = (r * lper s r).fdiv s.length * s.length
    rw [hpe]
    rw [(fdm hp).1] at h5
    rw [(fdm hp).2]
    have := Int.mul_ediv_add_emod (r * p) s.length
    rw [Int.mul_comm (r * ↑p / _)]
    omega
  · show s.take (lper s r).toNat = _
    rw [hpe]; rfl
  · intro i hi
    have := h6 i (by omega)
    show _ = _ + (r * lper s r).fdiv s.length
    rw [hpe]
    exact_mod_cast this
theorem lform_lat {s : List Int} {r : Int} (h : 0 < s.length) (n : Int) : lat (lform s r).1 (lform s r).2 n = lat s r n := by
  obtain ⟨p, k, h1, h2, h3, h4, h5, h6⟩ := lform_parts (r := r) h
  rw [h5]
  exact take_lat h h2 h3 h4 h6 n
theorem lform_len {s : List Int} {r : Int} (h : 0 < s.length) : 0 < (lform s r).1.length ∧ (lform s r).1.length ≤ s.length := by
  obtain ⟨p, k, h1, h2, h3, h4, h5, h6⟩ := lform_parts (r := r) h
  rw [h5]
  simp
  omega
/-- a list of values of a line that rises is a line's -/
theorem ok_of {s : List Int} {r : Int} (h : 0 < s.length) (m : ∀ n : Int, lat s r n ≤ lat s r (n + 1)) : Ok s r := by
  refine ⟨h, fun i hi => ?_, ?_⟩
  · have := m (0 * s.length + i)
    rw [show (0 : Int) * s.length + i + 1 = 0 * s.length + ((i + 1 : Nat) : Int) by omega] at this
    rw [lat_eq h _ _ (by omega), lat_eq h _ _ (by omega)] at this
    omega
  · have := m (0 * s.length + ((s.length - 1 : Nat) : Int))
    rw [show (0 : Int) * s.length + ((s.length - 1 : Nat) : Int) + 1 = 1 * s.length + ((0 : Nat) : Int) by omega] at this
    rw [lat_eq h _ _ (by omega), lat_eq h _ _ (by omega)] at this
    show _ ≤ gI s ((0 : Nat) : Int) + r
    omega
theorem lform_ok {s : List Int} {r : Int} (o : Ok s r) : Ok (lform s r).1 (lform s r).2 := by
  refine ok_of (lform_len o.ne).1 fun n => ?_
  rw [lform_lat o.ne, lform_lat o.ne]
  exact lat_mono1 o n
theorem lform_zero {s : List Int} {r : Int} (h : 0 < s.length) : (lform s r).2 = 0 ↔ r = 0 := by
  obtain ⟨p, k, h1, h2, h3, h4, h5, h6⟩ := lform_parts (r := r) h
  constructor
  · intro e
    rw [e, Int.zero_mul] at h4
    rcases Int.mul_eq_zero.mp h4 with e | e
    · exact e
    · omega
  · intro e
    subst e
    rw [Int.zero_mul] at h4
    rcases Int.mul_eq_zero.mp h4.symm with e | e
    · exact e
    · omega
theorem lform_le {s : List Int} {r : Int} (o : Ok s r) : (lform s r).2 ≤ r := by
  have h := o.ne
  obtain ⟨p, k, h1, h2, h3, h4, h5, h6⟩ := lform_parts (r := r) h
  have hk : 1 ≤ k := by
    rcases Nat.eq_zero_or_pos k with e | e
    · subst e; omega
    · exact e
  have hr : r = (lform s r).2 * k := by
    have : r * p = ((lform s r).2 * k) * p := by rw [h4, h3]; push_cast; rw [Int.mul_assoc]
    exact Int.eq_of_mul_eq_mul_right (by omega) this
  have h0 := rise_nn (lform_ok o)
  have : (lform s r).2 * 1 ≤ (lform s r).2 * k := Int.mul_le_mul_of_nonneg_left (by omega) h0
  omega
/-! ### the least place of a value -/
def lbeg (s : List Int) (r v : Int) : Int := ((v - gI s 0).fdiv r - 1) * s.length
def leastL (s : List Int) (r v : Int) : List Int := (rg (lbeg s r v) (2 * s.length + 1)).filter fun n => decide (v ≤ lat s r n)
def leastAt (s : List Int) (r v : Int) : Option Int := if r = 0 then none else (leastL s r v)[0]?
theorem leastL_some {s : List Int} {r v : Int} (o : Ok s r) (hr : r ≠ 0) : ∃ n, (leastL s r v)[0]? = some n ∧ v ≤ lat s r n ∧ lat s r (n - 1) < v := by
  have h := o.ne
  have h0 := rise_nn o
  have hr0 : 0 < r := by omega
  have e := Int.mul_ediv_add_emod (v - gI s 0) r
  have e1 := Int.emod_nonneg (v - gI s 0) (show r ≠ 0 by omega)
  have e2 := Int.emod_lt_of_pos (v - gI s 0) hr0
  have ef := (fdm (n := v - gI s 0) hr0).2
  generalize hq : (v - gI s 0) / r = q at *
  have a1 : lat s r (lbeg s r v) = gI s 0 + r * (q - 1) := by
    have := lat_eq (r := r) h (q - 1) 0 h
    simpa [lbeg, ef] using this
  have a2 : lat s r (lbeg s r v + 2 * s.length) = gI s 0 + r * (q + 1) := by
    have := lat_eq (r := r) h (q + 1) 0 h
    have e3 : (q - 1) * (s.length : Int) + 2 * s.length = (q + 1) * s.length := by rw [← Int.add_mul]; congr 1; omega
    rw [lbeg, ef, e3]
    simpa using this
  rw [Int.mul_sub] at a1
  rw [Int.mul_add] at a2
  obtain ⟨n, hn⟩ := rg_filter_some (p := fun n => decide (v ≤ lat s r n)) (lo := lbeg s r v) (x := lbeg s r v + 2 * s.length) (n := 2 * s.length + 1) (by omega) (by omega) (by simp; omega)
  refine ⟨n, hn, ?_⟩
  obtain ⟨b1, b2, b3, b4⟩ := rg_filter_first hn
  have b3 : v ≤ lat s r n := by simpa using b3
  refine ⟨b3, ?_⟩
  have : lbeg s r v ≠ n := by rintro rfl; omega
  have b5 := b4 (n - 1) (by omega) (by omega)
  simp at b5
  omega
theorem leastAt_none {s : List Int} {r v : Int} : leastAt s r v = none ↔ r = 0 ∨ (leastL s r v)[0]? = none := by
  unfold leastAt; split <;> simp_all
end LN
namespace LN
open PySem L2 DL
theorem gI_mem {l : List Int} {i : Int} (h : -(l.length : Int) ≤ i) (h2 : i < l.length) : gI l i ∈ l := by
  have e := atI_gI h h2
  unfold atI at e
  cases q : ixN l.length i with
  | none => rw [q] at e; simp at e
  | some j => rw [q] at e; exact List.mem_of_getElem? e
theorem lat_bound {s : List Int} {r n : Int} {A R N : Nat} (h : 0 < s.length) (hA : ∀ v ∈ s, v.natAbs ≤ A) (hR : r.natAbs ≤ R) (hN : n.natAbs ≤ N) : (lat s r n).natAbs ≤ A + R * N := by
  have h1 : 0 ≤ n.fmod s.length := Int.fmod_nonneg_of_pos _ (by omega)
  have h2 : n.fmod s.length < s.length := Int.fmod_lt_of_pos _ (by omega)
  have h3 := hA _ (gI_mem (l := s) (i := n.fmod s.length) (by omega) h2)
  have h4 := natAbs_fdiv_le (n := n) (p := s.length) (by omega)
  have h5 : (r * n.fdiv s.length).natAbs ≤ R * N := by
    rw [Int.natAbs_mul]
    exact Nat.mul_le_mul hR (by omega)
  unfold lat
  have := Int.natAbs_add_le (gI s (n.fmod s.length)) (r * n.fdiv s.length)
  omega
theorem lbeg_bound {s : List Int} {r v : Int} {A V L : Nat} (hr : 0 < r) (hA : (gI s 0).natAbs ≤ A) (hV : v.natAbs ≤ V) (hL : s.length ≤ L) : (lbeg s r v).natAbs ≤ (V + A + 1) * L := by
  unfold lbeg
  rw [Int.natAbs_mul]
  have := natAbs_fdiv_le (n := v - gI s 0) hr
  exact Nat.mul_le_mul (by omega) (by omega)
theorem leastAt_some {s : List Int} {r v : Int} (o : Ok s r) (hr : r ≠ 0) : ∃ n, leastAt s r v = some n ∧ v ≤ lat s r n ∧ lat s r (n - 1) < v := by
  obtain ⟨n, h1, h2⟩ := leastL_some (v := v) o hr
  exact ⟨n, by rw [leastAt, if_neg hr]; exact h1, h2⟩
end LN
namespace LN
open PySem L2 DL
def okB (s : List Int) (r : Int) : Bool := decide (0 < s.length) && ((List.range (s.length - 1)).all (fun i => decide (gI s (i : Int) ≤ gI s ((i + 1 : Nat) : Int))) && decide (gI s ((s.length - 1 : Nat) : Int) ≤ gI s 0 + r))
theorem ok_b {s : List Int} {r : Int} (h : okB s r = true) : Ok s r := by
  simp only [okB, Bool.and_eq_true, decide_eq_true_eq, List.all_eq_true, List.mem_range] at h
  exact ⟨h.1, fun i hi => h.2.1 i (by omega), h.2.2⟩
end LN

-- part FSp
set_option Elab.async false
set_option linter.all false
set_option maxRecDepth 100000
set_option maxHeartbeats 1000000
/-! the program's lines, walked -/
namespace FS
open PySem DL L2 LN
local macro_rules | `(tactic| walk_at "dl") => `(tactic| simp -implicitDefEqProofs only [DL.x_nil, DL.x_cons, DL.x_pass, DL.x_set, DL.x_ife, DL.x_par, DL.x_for, DL.x_whl, DL.x_ret, DL.x_retn, DL.x_drop, DL.x_sub, DL.x_app, DL.x_ext, DL.x_seto, DL.x_reto, DL.k_set, DL.k_seto, DL.k_par, DL.k_par2, DL.k_ife, DL.k_for,
  DL.k_ret, DL.k_reto, DL.k_drop, DL.k_sub, DL.k_sub2, DL.k_app, DL.k_ext, DL.q_name, DL.q_lit, DL.q_bin, DL.q_neg, DL.q_cmp, DL.q_and, DL.q_or, DL.q_not, DL.q_ife, DL.q_tup, DL.q_lst, DL.q_idx, DL.q_app, DL.q_blt, DL.q_fld,
  DL.q_nil, DL.q_cio, DL.q_cwk, DL.q_chn, DL.q_slc, DL.q_mth, DL.q_lno, DL.q_prp, DL.q_addo, DL.q_eqo, DL.q_mk, DL.q_appk, DL.q_mthk, DL.q_mkk, DL.q_comp, DL.qc_name, DL.qc_lit, DL.qc_bin, DL.qc_neg, DL.qc_cmp, DL.qc_chn, DL.qc_andv,
  DL.qc_orv, DL.qc_notv, DL.qc_ife, DL.qc_tup, DL.qc_lst, DL.qc_idx, DL.qc_slc, DL.qc_app, DL.qc_blt, DL.qc_fld, DL.qc_prp, DL.qc_mth, DL.qc_lno, DL.qc_addo, DL.qc_eqo, DL.qc_mk, DL.qc_appk, DL.qc_mthk, DL.qc_mkk, DL.qc_comp,
  DL.r_chn, DL.r_chn1, DL.r_chn3, DL.r_chn2, DL.r_slc, DL.r_slcp, DL.r_slc2, DL.r_slc3, DL.r_mth, DL.r_mth2, DL.r_lno, DL.r_lno1, DL.r_prp, DL.W.prO, DL.pr_ok, DL.r_addo, DL.r_add1, DL.r_eqo, DL.r_eq1, DL.r_eq2, DL.r_mk, DL.r_mkS, DL.r_mkN, DL.r_mkW, DL.r_mkWO, DL.strong_wk, DL.noW_wk, Option.map_none, DL.r_mk2,
  DL.r_mko, DL.r_appk, DL.r_appk2, DL.r_mthk, DL.r_mthk2, DL.r_mthk3, DL.r_mkk, DL.r_mkk1, DL.kwO_eq, DL.perm_nil, DL.perm_cons, DL.permR_some, DL.prt_nil, DL.prt_e, DL.k_prt, DL.notNil, DL.q_ilst, DL.q_iscr, DL.q_itup, DL.q_ir1,
  DL.q_ir2, DL.q_ien, DL.q_izp, DL.r_ilst, DL.r_iscr, DL.r_itup, DL.r_ir1, DL.r_ir2, DL.r_ir2b, DL.r_ien, DL.r_izp, DL.r_izp2, DL.rangeL_rg, DL.tstR_nil, DL.tst_e, DL.k_tst, DL.elt_e, DL.k_elt, DL.q_is1, DL.q_is2, DL.free_nil,
  DL.free_cons, DL.free_un, DL.free_val, DL.blank_nil, DL.blank_cons, DL.back_nil, DL.back_cons, DL.back_some, DL.q_call, DL.call_some, DL.call_k, DL.call_k2, DL.a_nil, DL.a_d, DL.a_wk, DL.a_io1, DL.a_io2, DL.a_wk2, DL.a_io3,
  DL.q_lent, DL.lentR_own, DL.lent_io, DL.pb_nil, DL.pb_cons, DL.pb_own, DL.pb_io, DL.ios_nil, DL.ios_d, DL.ios_wk, DL.ios_io, DL.wks_nil, DL.wks_d, DL.wks_wk, DL.wks_io, DL.okAr_eq, DL.nodup0, DL.nodup1, DL.q_held, DL.held_own,
  DL.held_io, DL.q_seq, DL.k_seq1, DL.k_seq2, DL.k_seq3, DL.k_seq4, List.all_nil, List.all_cons, List.isEmpty_nil, List.isEmpty_cons, Bool.true_or, Bool.or_true, Bool.false_or, Bool.or_false, Bool.not_true, Bool.not_false,
  Bool.false_and, Bool.and_false, DL.r_tup2, DL.r_lst2, DL.lim, Nat.reduceLeDiff, DL.n_val, DL.n_own, DL.n_io, DL.r_R, DL.r_bin, DL.r_binp, DL.r_bin2, DL.r_neg, DL.r_B, DL.r_cmp, DL.r_cmpp, DL.r_cmp2, DL.r_bl, DL.r_and, DL.r_or,
  DL.r_not, DL.r_if, DL.r_tup, DL.r_lst, DL.r_W, DL.r_idx, DL.r_idxp, DL.r_idx2, DL.r_D, DL.r_app, DL.r_blt, DL.r_blt2, DL.r_fld, DL.r_cons, DL.r_consp, DL.r_cons2, DL.r_io, DL.r_wk, DL.d_add, DL.d_sub, DL.d_lt, DL.d_le, DL.d_gt,
  DL.d_ge, DL.d_idxl, DL.d_idxt, DL.d_idxs, DL.ix_some, DL.at0, DL.at1, DL.at2, DL.q_sub, DL.sub_own, DL.sub_io, DL.sub_o, DL.sub_i, DL.ix30, DL.ix31, DL.ix32, DL.q_setSl, DL.set_un, DL.set_val, DL.set_own, DL.set_nio, DL.q_setTg,
  DL.q_setTup, DL.q_tis0, DL.q_tis, DL.b_int, DL.b_abs, DL.b_max2, DL.b_min2, DL.b_lenl, DL.b_lent, DL.b_lens, DL.isL_own, DL.isL_io, DL.e_nx, DL.e_ret, DL.okOuts, DL.outsOf, DL.weaks, DL.strong, Option.map_some, DL.ofO_some,
  DL.E.pure, Bool.and_self, Bool.and_true, Bool.true_and, DL.ownL, List.map_cons, List.map_nil, List.length_map, DL.d_eq, DL.d_ne, DL.dEq_int, DL.dEq_nil, DL.grow_own, DL.grow_io, DL.q_grow, DL.W.bind, DL.W.ok, DL.Res.bind_ok, List.getElem?_cons_zero,
  List.getElem?_cons_succ, List.length_cons, List.length_nil, List.replicate, List.cons_append, List.nil_append, List.set_cons_zero, List.set_cons_succ, Nat.reduceAdd, Nat.reduceSub, Nat.reduceBEq, Nat.reduceEqDiff, beq_self_eq_true,
  Int.reduceLE, Int.reduceLT, Int.reduceToNat, Int.reduceNeg, Int.reduceAdd, Int.reduceSub, Int.reduceMul, DL.initS, decide_true, decide_false, ↓reduceIte, Bool.false_eq_true, eq_self, and_self, true_and, and_true, DL.LoopQ,
  DL.x_aug, DL.aug_val, DL.k_aug2, DL.frz_own, DL.x_brk, DL.x_cnt, DL.x_retm, DL.retm_own, DL.x_frz, DL.d_powc, DL.powR_t, Int.reducePow, DL.b_tuple, DL.b_tuple1, DL.b_list0, DL.b_list1, DL.b_listt, DL.b_lists, DL.dsl_lst0,
  DL.dsl_lst1, DL.dsl_tup, DL.b_all, DL.b_any, DL.cln_non, DL.cln_int, DL.cln_bl, DL.cln_str, DL.cln_lst, DL.cln_tup, DL.all_map_int, DL.d_catc, DL.d_tcat, DL.q_isi, DL.r_isi, DL.isiD_obj, DL.isiD_lst, DL.isiD_tup, DL.isiD_non, DL.isiD_int, DL.isiD_bl, DL.isiD_str, DL.q_lrg, DL.r_lrg, DL.r_lrg1, DL.r_lrg2, DL.qc_isi, DL.qc_lrg, Option.isSome_some, DL.asB_bl, DL.asI_int, DL.q_star, DL.r_star, DL.r_star1, DL.r_star2, DL.sq_lst, DL.sq_tup, DL.q_apps, DL.r_apps, DL.r_apps1, DL.q_dget, DL.r_dget, DL.q_glc, DL.qc_apps, DL.qc_dget, DL.qc_glc, DL.strong_map, DL.strong_map0, DL.b_intt, DL.b_intf, DL.q_ir3, DL.r_ir3a, DL.r_ir3b, DL.r_ir3c, DL.x_paro, DL.k_paro, DL.eo_nil, DL.eo_t, DL.eo_f, DL.k_eot, DL.k_eof, DL.k_eo2, DL.x_appd, DL.k_appd, DL.k_appd2, DL.so_nil, DL.so_t, DL.so_f, DL.k_so, DL.k_nx, DL.x_setm, DL.k_setm, DL.il_lst, DL.il_int, DL.il_str, DL.fl_int, DL.fl_str, DL.x_rett, DL.k_rett, DL.k_rett1, DL.tk_nil, DL.tk_d, DL.tk_wk, DL.tk_own, DL.k_tk, DL.plainA, DL.ownT, DL.q_sst, DL.r_sst, DL.qc_sst, DL.q_ienT, DL.r_ienT, DL.q_froz, DL.qc_froz, DL.r_fz, DL.fz_nil, DL.fz_cons, DL.fz_own, DL.W.fzO, DL.fl_bl, DL.fl_lst, DL.d_idxd, DL.ixd_some, DL.r_idxp2, DL.x_setd, DL.k_setd, DL.x_pard, DL.k_pard, DL.x_retd, DL.k_retd, DL.k_retd1, DL.q_putAt, DL.put_io1, DL.put_io2, DL.q_popAt, DL.pop_io, DL.x_dset, DL.k_dset, DL.q_dicGet, DL.dget_io, DL.x_daug, DL.daug_int, DL.k_daug, DL.x_dpop, DL.q_setTgI, DL.q_tisI, m_check_line, m_has_period, m_divisors_of, m_least_form, m_Line_init, m_Line_len, m_Line_at, m_Line_least_at, k_check_line, k_has_period, k_divisors_of, k_least_form, k_Line_init, k_Line_len, k_Line_at, k_Line_least_at])
local macro_rules | `(tactic| walk_at "wk") => `(tactic| repeat (first
  | walk_at "dl"
  | rw [DL.atI_ints (by omega) (by omega)]
  | rw [DL.d_mod (by omega)]
  | rw [DL.d_mul (DL.mulOk_r (by omega))]
  | rw [DL.d_mul (DL.mulOk_l (by omega))]
  | rw [DL.d_fdiv (DL.divOk (by omega) (by omega))]
  | rw [if_pos (by omega)]
  | rw [decide_eq_true (by omega)]
  | rw [decide_eq_false (by omega)]))
/-- a line as an object -/
abbrev lineD (s : List Int) (r : Int) : D := .nd (.obj 0 ["kept_starts", "kept_rise"]) [.tup (s.map .int), .int r]
theorem check_line {s : List Int} {r : Int} (o : Ok s r) (hl : s.length ≤ 50000) : f_check_line.den [.lst (s.map .int), .int r] = .ok (.non, []) := by
  have h := o.ne
  apply W.eq
  rw [e_check_line, run_eq rfl]
  walk_at "dl"
  have e1 : (s.map D.int).isEmpty = false := by
    cases s with
    | nil => simp at h
    | cons a t => rfl
  rw [e1]
  walk_at "dl"
  refine W_for (I := fun _ env => ∃ (t : Sl) (_ : Nio t), env = [.val (.lst (s.map .int)), .val (.int r), t]) ⟨_, inferInstance, rfl⟩ ?_ ?_
  · rintro i x _ hx ⟨t, ht, rfl⟩
    obtain ⟨v, hv, rfl⟩ : ∃ v, (rg 1 ((s.length : Int) - 1).toNat)[i]? = some v ∧ D.int v = x := by simpa using hx
    obtain ⟨hi, rfl⟩ := rg_get_of hv
    walk_at "dl"
    rw [atI_ints (by omega) (by omega)]
    walk_at "dl"
    rw [atI_ints (by omega) (by omega)]
    walk_at "dl"
    have := o.up i (by omega)
    have e2 : ((i + 1 : Nat) : Int) = 1 + (i : Int) := by omega
    rw [e2] at this
    rw [show (1 : Int) + i - 1 = i by omega, decide_eq_false (by omega)]
    walk_at "dl"
    exact ⟨_, inferInstance, rfl⟩
  · rintro _ ⟨t, ht, rfl⟩
    walk_at "dl"
    rw [atI_ints (by omega) (by omega), gI_last (i := s.length - 1) (by omega)]
    walk_at "dl"
    rw [atI_ints (by omega) (by omega)]
    walk_at "dl"
    have := o.la
    rw [decide_eq_false (by omega)]
    walk_at "dl"
theorem has_period {s : List Int} {r p : Int} (hl : s.length ≤ 50000) (hp : 0 < p) (hp2 : p ≤ s.length) : f_has_period.den [.lst (s.map .int), .int r, .int p] = .ok (.bl (hasPer s r p), []) := by
  apply W.eq
  rw [e_has_period, run_eq rfl]
  walk_at "dl"
  rw [d_mul (mulOk_r (by omega))]
  walk_at "dl"
  rw [d_mod (by omega)]
  walk_at "dl"
  by_cases c : (r * p).fmod s.length = 0
  · rw [decide_eq_true c]
    walk_at "dl"
    rw [d_mul (mulOk_r (by omega))]
    walk_at "dl"
    rw [d_fdiv (divOk (by omega) (by omega))]
    walk_at "dl"
    rw [if_pos (by omega)]
    walk_at "dl"
    refine W_list (p := fun _ => true) (g := fun i => .bl (decide (gI s (i + p) = gI s i + (r * p).fdiv s.length))) (by walk_at "dl") (by rw [rg_len]; simp only [lim]; omega) ?_ ?_
    · intro i hi
      rw [mem_rg] at hi
      walk_at "dl"
      rw [atI_ints (by omega) (by omega)]
      walk_at "dl"
      rw [atI_ints (by omega) (by omega)]
      walk_at "dl"
    · walk_at "dl"
      simp [hasPer, c]
  · rw [decide_eq_false c]
    walk_at "dl"
    simp [hasPer, c]
theorem divisors_of {n : Nat} (h : 0 < n) (h2 : n ≤ 50000) : f_divisors_of.den [.int n] = .ok (.lst (((rg 1 n).filter fun p => decide ((n : Int).fmod p = 0)).map .int), []) := by
  apply W.eq
  rw [e_divisors_of, run_eq rfl]
  walk_at "dl"
  refine W_list (p := fun p => decide ((n : Int).fmod p = 0)) (g := .int) (by walk_at "dl") (by rw [rg_len]; simp only [lim]; omega) ?_ ?_
  · intro i hi
    rw [mem_rg] at hi
    walk_at "dl"
    rw [d_mod (by omega)]
    walk_at "dl"
    by_cases c : (n : Int).fmod i = 0
    · simp [c]
    · simp [c]
  · walk_at "dl"
    rw [show ((n : Int) + 1 - 1).toNat = n by omega]
theorem least_form {s : List Int} {r : Int} (h : 0 < s.length) (hl : s.length ≤ 50000) : f_least_form.den [.lst (s.map .int), .int r] = .ok (.tup [.tup ((lform s r).1.map .int), .int (lform s r).2], []) := by
  obtain ⟨p0, t0, ep, hp1, hp2, hp3, hp4⟩ := pers_ne (r := r) h
  apply W.eq
  rw [e_least_form, run_eq rfl]
  walk_at "dl"
  rw [divisors_of h hl]
  walk_at "dl"
  refine W_list (p := fun p => hasPer s r p) (g := .int) (by walk_at "dl") ?_ ?_ ?_
  · have := List.length_filter_le (fun p => decide ((s.length : Int).fmod p = 0)) (rg 1 s.length)
    rw [rg_len] at this
    simp only [lim]; omega
  · intro i hi
    simp only [List.mem_filter, mem_rg] at hi
    walk_at "dl"
    rw [has_period hl (by omega) (by omega)]
    walk_at "dl"
    by_cases c : hasPer s r i = true
    · simp only [c, ↓reduceIte]
      try walk_at "dl"
    · simp [c]
  · walk_at "dl"
    have e : ((rg 1 s.length).filter fun p => decide ((s.length : Int).fmod p = 0)).filter (fun p => hasPer s r p) = p0 :: t0 := ep
    rw [e]
    walk_at "dl"
    rw [cutL_to (by omega), d_mul (mulOk_r (by omega))]
    walk_at "dl"
    rw [d_fdiv (divOk (by omega) (by omega))]
    walk_at "dl"
    simp [lform, lper, ep, List.map_take]
theorem init_set {a b x y : D} : setTis [.io 1 (.nd (.obj 0 []) []), .val a, .val b] [.at 0 0 "kept_starts", .at 0 0 "kept_rise"] [x, y] = .ok [.io 1 (.nd (.obj 0 ["kept_starts", "kept_rise"]) [x, y]), .val a, .val b] := by
  rfl
theorem line_init {s : List Int} {r : Int} (o : Ok s r) (hl : s.length ≤ 50000) : f_Line_init.den [.nd (.obj 0 []) [], .lst (s.map .int), .int r] = .ok (.non, [lineD (lform s r).1 (lform s r).2]) := by
  apply W.eq
  rw [e_Line_init, run_eq rfl]
  walk_at "dl"
  rw [check_line o hl]
  walk_at "dl"
  rw [least_form o.ne hl]
  walk_at "dl"
  rw [init_set]
  walk_at "dl"
theorem fld_starts {s : List Int} {r : Int} : fieldOf 0 "kept_starts" (0, lineD s r) = .ok (0, .tup (s.map .int)) := by rfl
theorem fld_rise {s : List Int} {r : Int} : fieldOf 0 "kept_rise" (0, lineD s r) = .ok (0, .int r) := by rfl
theorem line_len {s : List Int} {r : Int} : f_Line_len.den [lineD s r] = .ok (.int s.length, []) := by
  apply W.eq
  rw [e_Line_len, run_eq rfl]
  walk_at "dl"
  rw [fld_starts]
  walk_at "dl"
theorem line_at {s : List Int} {r n : Int} (h : 0 < s.length) (hl : s.length ≤ 50000) (hr : r.natAbs < 2 ^ 500) (hn : n.natAbs < 2 ^ 500) : f_Line_at.den [lineD s r, .int n] = .ok (.int (lat s r n), []) := by
  have h1 : 0 ≤ n.fmod s.length := Int.fmod_nonneg_of_pos _ (by omega)
  have h2 : n.fmod s.length < s.length := Int.fmod_lt_of_pos _ (by omega)
  have h3 := natAbs_fdiv_le (n := n) (p := s.length) (by omega)
  apply W.eq
  rw [e_Line_at, run_eq rfl]
  walk_at "dl"
  rw [fld_starts]
  walk_at "dl"
  rw [fld_starts]
  walk_at "dl"
  rw [d_mod (by omega)]
  walk_at "dl"
  rw [atI_ints (by omega) (by omega)]
  walk_at "dl"
  rw [fld_rise]
  walk_at "dl"
  rw [d_fdiv (divOk (by omega) (by omega))]
  walk_at "dl"
  rw [d_mul (mulOk_big hr (Nat.lt_of_le_of_lt h3 hn))]
  walk_at "dl"
  rfl
theorem nf_Line_at : (["kept_starts", "kept_rise"] : List Str).contains f_Line_at.name = false := by decide +kernel
theorem nf_Line_least_at : (["kept_starts", "kept_rise"] : List Str).contains f_Line_least_at.name = false := by decide +kernel
theorem line_least0 {s : List Int} {r v : Int} (c : r = 0) : f_Line_least_at.den [lineD s r, .int v] = .ok (optD (leastAt s r v), []) := by
  apply W.eq
  rw [e_Line_least_at, run_eq rfl]
  walk_at "dl"
  rw [fld_rise]
  walk_at "dl"
  rw [decide_eq_true c]
  walk_at "dl"
  rw [leastAt, if_pos c]; rfl
theorem line_least {s : List Int} {r v : Int} (o : Ok s r) (hl : s.length ≤ 40000) (hr : r.natAbs < 2 ^ 500) (hb : (lbeg s r v).natAbs + 80001 < 2 ^ 500) : f_Line_least_at.den [lineD s r, .int v] = .ok (optD (leastAt s r v), []) := by
  have h := o.ne
  apply W.eq
  rw [e_Line_least_at, run_eq rfl]
  walk_at "dl"
  rw [fld_rise]
  walk_at "dl"
  by_cases c : r = 0
  · rw [decide_eq_true c]
    walk_at "dl"
    rw [leastAt, if_pos c]; rfl
  · rw [decide_eq_false c]
    walk_at "dl"
    rw [line_len]
    walk_at "dl"
    rw [if_pos (by omega)]
    walk_at "dl"
    rw [fld_starts]
    walk_at "dl"
    rw [atI_ints (by omega) (by omega)]
    walk_at "dl"
    rw [fld_rise]
    walk_at "dl"
    have h0 := rise_nn o
    have hd : DivOk r = true := by
      have := log2_big (by decide) hr
      simp only [DivOk, Bool.and_eq_true, decide_eq_true_eq]
      omega
    rw [d_fdiv hd]
    walk_at "dl"
    rw [d_mul (mulOk_r (by omega))]
    walk_at "dl"
    rw [d_mul (mulOk_r (by omega))]
    walk_at "dl"
    have e0 : ((v - gI s 0).fdiv r - 1) * (s.length : Int) = lbeg s r v := rfl
    rw [e0, show (lbeg s r v + 2 * (s.length : Int) + 1 - lbeg s r v).toNat = 2 * s.length + 1 by omega]
    refine W_list (p := fun n => decide (v ≤ lat s r n)) (g := .int) (by walk_at "dl") (by rw [rg_len]; simp only [lim]; omega) ?_ ?_
    · intro i hi
      rw [mem_rg] at hi
      walk_at "dl"
      rw [nf_Line_at]
      walk_at "dl"
      rw [line_at h (by omega) hr (by omega)]
      walk_at "dl"
      by_cases c : v ≤ lat s r i
      · simp [c]
        try walk_at "dl"
      · simp [c]
    · walk_at "dl"
      have e2 : (rg (lbeg s r v) (2 * s.length + 1)).filter (fun n => decide (v ≤ lat s r n)) = leastL s r v := rfl
      rw [e2]
      obtain ⟨n, e3, _⟩ := leastL_some (v := v) o c
      have e4 : atI ((leastL s r v).map D.int) 0 = some (.int n) := by
        rw [atI_map]
        cases e5 : leastL s r v with
        | nil => rw [e5] at e3; simp at e3
        | cons a l => rw [e5] at e3; simp at e3; subst e3; rw [at0]; rfl
      rw [e4]
      walk_at "dl"
      rw [leastAt, if_neg c, e3]; rfl
end FS

-- part DLv
set_option Elab.async false
set_option linter.all false
/-! DL, part v: branches joined; lists of numbers compared. -/
namespace DL
open PySem L2
theorem join2 {α β : Type} {r : Res α} {k1 : α → Res β} {R Q : β → Prop} (h : W r fun a => W (k1 a) R) (i : ∀ c, R c → Q c) : W r fun a => W (k1 a) Q := h.mono fun a h => h.mono i
theorem join3 {α β γ : Type} {r : Res α} {k1 : α → Res β} {k2 : β → Res γ} {R Q : γ → Prop} (h : W r fun a => W (k1 a) fun b => W (k2 b) R) (i : ∀ c, R c → Q c) : W r fun a => W (k1 a) fun b => W (k2 b) Q := h.mono fun a h => h.mono fun b h => h.mono i
theorem join4 {α β γ δ : Type} {r : Res α} {k1 : α → Res β} {k2 : β → Res γ} {k3 : γ → Res δ} {R Q : δ → Prop} (h : W r fun a => W (k1 a) fun b => W (k2 b) fun c => W (k3 c) R) (i : ∀ c, R c → Q c) : W r fun a => W (k1 a) fun b => W (k2 b) fun c => W (k3 c) Q :=
  h.mono fun a h => h.mono fun b h => h.mono fun c h => h.mono i
theorem join5 {α β γ δ ε : Type} {r : Res α} {k1 : α → Res β} {k2 : β → Res γ} {k3 : γ → Res δ} {k4 : δ → Res ε} {R Q : ε → Prop} (h : W r fun a => W (k1 a) fun b => W (k2 b) fun c => W (k3 c) fun d => W (k4 d) R) (i : ∀ c, R c → Q c) :
    W r fun a => W (k1 a) fun b => W (k2 b) fun c => W (k3 c) fun d => W (k4 d) Q :=
  h.mono fun a h => h.mono fun b h => h.mono fun c h => h.mono fun d h => h.mono i
/-- a slot that a comprehension may use -/
class Fre (t : Sl) : Prop where
  h : t = .un ∨ ∃ d, t = .val d
instance : Fre .un := ⟨.inl rfl⟩
instance {d : D} : Fre (.val d) := ⟨.inr ⟨d, rfl⟩⟩
instance {t : Sl} [f : Fre t] : Nio t := ⟨fun k d e => by
  rcases f.h with h | ⟨x, h⟩
  · rw [h] at e; cases e
  · rw [h] at e; cases e⟩
theorem free_fre {t : Sl} [f : Fre t] : freeR (some t) = true := by
  rcases f.h with h | ⟨x, h⟩
  · rw [h]; rfl
  · rw [h]; rfl
theorem isn_non {j k : Nat} : dCmp .isn (j, .non) (k, .non) = .ok true := rfl
theorem isn_int {j k : Nat} {i : Int} : dCmp .isn (j, .int i) (k, .non) = .ok false := rfl
theorem isn_nd {j k : Nat} {kd : Kd} {ds : List D} : dCmp .isn (j, .nd kd ds) (k, .non) = .ok false := rfl
theorem nisn_non {j k : Nat} : dCmp .nisn (j, .non) (k, .non) = .ok false := rfl
theorem nisn_int {j k : Nat} {i : Int} : dCmp .nisn (j, .int i) (k, .non) = .ok true := rfl
theorem nisn_nd {j k : Nat} {kd : Kd} {ds : List D} : dCmp .nisn (j, .nd kd ds) (k, .non) = .ok true := rfl
theorem ints_cln {l : List Int} : cln false 8 (.lst (l.map .int)) = true := by
  rw [cln_lst, List.all_map, List.all_eq_true]
  intro x _
  rfl
theorem ints_eq {l k : List Int} : dEq (.lst (l.map .int)) (.lst (k.map .int)) = .ok (decide (l = k)) := by
  rw [dEq_cln (b := false) ints_cln ints_cln]
  congr 1
  rw [decide_eq_decide]
  constructor
  · intro h
    injection h with _ h
    exact List.map_inj_right (fun a b z => by cases z; rfl) |>.mp h
  · rintro rfl; rfl
theorem ints_self {l : List Int} : dEq (.lst (l.map .int)) (.lst (l.map .int)) = .ok true := by
  rw [ints_eq]; simp
theorem filtTrue {α : Type} {l : List α} : l.filter (fun _ => true) = l := List.filter_eq_self.mpr fun _ _ => rfl
end DL

-- part DLxv
set_option Elab.async false
set_option linter.all false
set_option maxRecDepth 100000
/-! DL, part xv: runs that may raise. -/
namespace DL
open PySem L2
/-- the run ends well, so; or raises, so -/
def V {α : Type} (r : Res α) (Q : α → Prop) (E : Nat → D → Prop) : Prop := match r with
  | .ok a => Q a
  | .exn c d => E c d
  | .stuck => False
section
variable {α β : Type} {r : Res α} {f : α → Res β} {Q Q' : α → Prop} {R : β → Prop} {E E' : Nat → D → Prop} {a : α} {c : Nat} {d : D}
theorem V.ok : V (.ok a) Q E ↔ Q a := Iff.rfl
theorem V.exn : V (.exn c d : Res α) Q E ↔ E c d := Iff.rfl
theorem V.bind : V (r.bind f) R E ↔ V r (fun a => V (f a) R E) E := by
  cases r <;> exact Iff.rfl
theorem V.mono (h : V r Q E) (i : ∀ a, Q a → Q' a) (j : ∀ c d, E c d → E' c d) : V r Q' E' := by
  cases r with
  | ok a => exact i a h
  | exn c d => exact j c d h
  | stuck => exact h
theorem W.toV (h : W r Q) : V r Q E := by
  obtain ⟨a, rfl, q⟩ := h
  exact q
theorem W_of_V (h : V r Q fun _ _ => False) : W r Q := by
  cases r with
  | ok a => exact ⟨a, rfl, h⟩
  | exn c d => exact h.elim
  | stuck => exact h.elim
theorem V.eq (h : V r (fun b => b = a) fun _ _ => False) : r = .ok a := (W_of_V h).eq
theorem V.exnEq (h : V r (fun _ => False) fun c' d' => c' = c ∧ d' = d) : r = .exn c d := by
  cases r with
  | ok a => exact h.elim
  | exn c' d' => obtain ⟨rfl, rfl⟩ := h; rfl
  | stuck => exact h.elim
theorem V_prO {x : Res (D × Env)} {P : Wk × Env → Prop} (h : V r Q E) : V r Q E := h
end
def kRse (c : Nat) (x : Wk × Env) : Res Out := (str1 x.1).bind fun d => .exn c d
theorem x_rse {c : Nat} {nm : Str} {e : E} {env : Env} : ex (.rse c nm e) env = (ev e env).bind (kRse c) := rfl
theorem k_rse {c : Nat} {d : D} {env : Env} : kRse c ((0, d), env) = .exn c d := rfl
theorem x_tryc {b : S} {cls : Nat} {nm : Str} {i : Nat} {h : Xh} {env : Env} : ex (.tryc b cls nm i h) env = tryR cls h env (ex b env) := rfl
/-- what the suite makes of an exception -/
def tryH (cls : Nat) (h : Xh) (env : Env) (c : Nat) (d : D) : Res Out := if 20 ≤ c then (if cls = 20 ∨ cls = c then (match xrun h c d with
      | some r => .ok (.ret r (List.replicate env.length .un))
      | none => .stuck) else .exn c d) else .stuck
theorem tryR_ok {cls : Nat} {h : Xh} {env : Env} {o : Out} (ho : env.all notIo = true) : tryR cls h env (.ok o) = .ok o := by unfold tryR; rw [if_pos ho]
theorem tryR_exn {cls : Nat} {h : Xh} {env : Env} {c : Nat} {d : D} (ho : env.all notIo = true) : tryR cls h env (.exn c d) = tryH cls h env c d := by unfold tryR; rw [if_pos ho]; rfl
theorem tryR_stk {cls : Nat} {h : Xh} {env : Env} (ho : env.all notIo = true) : tryR cls h env .stuck = .stuck := by unfold tryR; rw [if_pos ho]
theorem W_try {cls : Nat} {h : Xh} {env : Env} {r : Res Out} {Q : Out → Prop} : W (tryR cls h env r) Q ↔ env.all notIo = true ∧ V r Q fun c d => W (tryH cls h env c d) Q := by
  by_cases ho : env.all notIo = true
  · cases r with
    | ok a =>
      rw [tryR_ok ho, W.ok]
      exact (and_iff_right ho).symm
    | exn c d =>
      rw [tryR_exn ho]
      exact (and_iff_right ho).symm
    | stuck =>
      rw [tryR_stk ho]
      constructor
      · rintro ⟨_, e, _⟩; cases e
      · rintro ⟨_, v⟩; exact v.elim
  · constructor
    · intro w
      unfold tryR at w
      rw [if_neg ho] at w
      obtain ⟨_, e, _⟩ := w
      cases e
    · rintro ⟨z, _⟩; exact absurd z ho
theorem nio_un : notIo .un = true := rfl
theorem nio_val {d : D} : notIo (.val d) = true := rfl
theorem nio_own {k : Nat} {d : D} : notIo (.own k d) = true := rfl
theorem nio_nio {t : Sl} [n : Nio t] : notIo t = true := by
  cases t with
  | io k d => exact absurd rfl (n.h k d)
  | _ => rfl
theorem tryH_all {h : Xh} {env : Env} {c : Nat} {d r : D} (h20 : 20 ≤ c) (e : xrun h c d = some r) : tryH 20 h env c d = .ok (.ret r (List.replicate env.length .un)) := by
  unfold tryH
  rw [if_pos h20, if_pos (.inl rfl), e]
theorem V_for {env : Env} {tg : List Nat} {xs : List D} {Q : Out → Prop} {E : Nat → D → Prop} {b : Env → Res Out} (I : Nat → Env → Prop) (h0 : I 0 env)
    (hs : ∀ (i : Nat) (x : D) (env1 : Env), xs[i]? = some x → I i env1 → V (setIs env1 tg x) (fun env2 => V (b env2) (LoopQ (I (i + 1)) Q) E) E) (he : ∀ env1, I xs.length env1 → Q (.nx env1)) : V (forL tg b xs env) Q E := by
  have key : ∀ (n : Nat) (ys : List D) (env1 : Env), ys = xs.drop n → n ≤ xs.length → I n env1 → V (forL tg b ys env1) Q E := by
    intro n ys
    induction ys generalizing n with
    | nil =>
      intro env1 e hn hi
      have : n = xs.length := by
        have := congrArg List.length e
        simp at this
        omega
      subst this
      exact he env1 hi
    | cons x ys ih =>
      intro env1 e hn hi
      have hx : xs[n]? = some x := by
        have : (xs.drop n)[0]? = some x := by rw [← e]; rfl
        rw [List.getElem?_drop] at this
        simpa using this
      have hd : ys = xs.drop (n + 1) := by rw [← List.tail_drop, ← e]; rfl
      have hl := (List.getElem?_eq_some_iff.mp hx).1
      have := hs n x env1 hx hi
      unfold forL
      rw [V.bind]
      refine this.mono (fun env2 h2 => ?_) fun _ _ h => h
      rw [V.bind]
      refine h2.mono (fun o ho => ?_) fun _ _ h => h
      cases o with
      | nx env3 => exact ih (n + 1) env3 hd hl ho
      | cnt env3 => exact ih (n + 1) env3 hd hl ho
      | brk env3 => exact ho
      | ret d env3 => exact ho
  exact key 0 xs env rfl (Nat.zero_le _) h0
end DL

-- part ELp
set_option Elab.async false
set_option linter.all false
set_option maxRecDepth 100000
set_option maxHeartbeats 2000000
/-! what is wrong with a line's starts and rise -/
namespace FS
open PySem DL L2 LN
/-- a value less than the one before -/
def drp (s : List Int) (k : Nat) : Prop := gI s (k : Int) < gI s ((k : Int) - 1)
/-- the value of the error of a line, or none -/
def LE (s : List Int) (r : Int) (o : Option D) : Prop := (s = [] ∧ o = some .non) ∨ (s ≠ [] ∧ ((∃ k : Nat, 1 ≤ k ∧ k < s.length ∧ drp s k ∧ (∀ j : Nat, 1 ≤ j → j < k → ¬ drp s j) ∧ o = some (.int k)) ∨
  ((∀ j : Nat, 1 ≤ j → j < s.length → ¬ drp s j) ∧ ((gI s ((s.length - 1 : Nat) : Int) > gI s 0 + r ∧ o = some (.int s.length)) ∨ (¬ gI s ((s.length - 1 : Nat) : Int) > gI s 0 + r ∧ o = none)))))
theorem LE.uniq {s : List Int} {r : Int} {o o' : Option D} (h : LE s r o) (h' : LE s r o') : o = o' := by
  rcases h with ⟨e, rfl⟩ | ⟨n, h⟩
  · rcases h' with ⟨_, rfl⟩ | ⟨n, _⟩
    · rfl
    · exact absurd e n
  · rcases h' with ⟨e, _⟩ | ⟨_, h'⟩
    · exact absurd e n
    · rcases h with ⟨k, a1, a2, a3, a4, rfl⟩ | ⟨b, h⟩
      · rcases h' with ⟨k', c1, c2, c3, c4, rfl⟩ | ⟨b', _⟩
        · have : k = k' := by
            rcases Nat.lt_trichotomy k k' with z | z | z
            · exact absurd a3 (c4 k a1 z)
            · exact z
            · exact absurd c3 (a4 k' c1 z)
          rw [this]
        · exact absurd a3 (b' k a1 a2)
      · rcases h' with ⟨k', c1, c2, c3, c4, rfl⟩ | ⟨b', h'⟩
        · exact absurd c3 (b k' c1 c2)
        · rcases h with ⟨g, rfl⟩ | ⟨g, rfl⟩ <;> rcases h' with ⟨g', rfl⟩ | ⟨g', rfl⟩ <;> first | rfl | exact absurd g g' | exact absurd g' g
theorem LE.ok {s : List Int} {r : Int} (h : LE s r none) : Ok s r := by
  rcases h with ⟨_, e⟩ | ⟨n, ⟨k, _, _, _, _, e⟩ | ⟨b, ⟨_, e⟩ | ⟨g, _⟩⟩⟩
  · cases e
  · cases e
  · cases e
  · have l : 0 < s.length := by
      cases s with
      | nil => exact absurd rfl n
      | cons a s => simp
    refine ⟨l, fun i hi => ?_, by omega⟩
    have := b (i + 1) (by omega) (by omega)
    unfold drp at this
    rw [show ((i + 1 : Nat) : Int) - 1 = (i : Int) by omega] at this
    omega
local macro_rules | `(tactic| walk_at "dl") => `(tactic| simp -implicitDefEqProofs only [DL.x_nil, DL.x_cons, DL.x_pass, DL.x_set, DL.x_ife, DL.x_par, DL.x_for, DL.x_whl, DL.x_ret, DL.x_retn, DL.x_drop, DL.x_sub, DL.x_app, DL.x_ext, DL.x_seto, DL.x_reto, DL.k_set, DL.k_seto, DL.k_par, DL.k_par2, DL.k_ife, DL.k_for,
  DL.k_ret, DL.k_reto, DL.k_drop, DL.k_sub, DL.k_sub2, DL.k_app, DL.k_ext, DL.q_name, DL.q_lit, DL.q_bin, DL.q_neg, DL.q_cmp, DL.q_and, DL.q_or, DL.q_not, DL.q_ife, DL.q_tup, DL.q_lst, DL.q_idx, DL.q_app, DL.q_blt, DL.q_fld,
  DL.q_nil, DL.q_cio, DL.q_cwk, DL.q_chn, DL.q_slc, DL.q_mth, DL.q_lno, DL.q_prp, DL.q_addo, DL.q_eqo, DL.q_mk, DL.q_appk, DL.q_mthk, DL.q_mkk, DL.q_comp, DL.qc_name, DL.qc_lit, DL.qc_bin, DL.qc_neg, DL.qc_cmp, DL.qc_chn, DL.qc_andv,
  DL.qc_orv, DL.qc_notv, DL.qc_ife, DL.qc_tup, DL.qc_lst, DL.qc_idx, DL.qc_slc, DL.qc_app, DL.qc_blt, DL.qc_fld, DL.qc_prp, DL.qc_mth, DL.qc_lno, DL.qc_addo, DL.qc_eqo, DL.qc_mk, DL.qc_appk, DL.qc_mthk, DL.qc_mkk, DL.qc_comp,
  DL.r_chn, DL.r_chn1, DL.r_chn3, DL.r_chn2, DL.r_slc, DL.r_slcp, DL.r_slc2, DL.r_slc3, DL.r_mth, DL.r_mth2, DL.r_lno, DL.r_lno1, DL.r_prp, DL.W.prO, DL.pr_ok, DL.r_addo, DL.r_add1, DL.r_eqo, DL.r_eq1, DL.r_eq2, DL.r_mk, DL.r_mkS, DL.r_mkN, DL.r_mkW, DL.r_mkWO, DL.strong_wk, DL.noW_wk, Option.map_none, DL.r_mk2,
  DL.r_mko, DL.r_appk, DL.r_appk2, DL.r_mthk, DL.r_mthk2, DL.r_mthk3, DL.r_mkk, DL.r_mkk1, DL.kwO_eq, DL.perm_nil, DL.perm_cons, DL.permR_some, DL.prt_nil, DL.prt_e, DL.k_prt, DL.notNil, DL.q_ilst, DL.q_iscr, DL.q_itup, DL.q_ir1,
  DL.q_ir2, DL.q_ien, DL.q_izp, DL.r_ilst, DL.r_iscr, DL.r_itup, DL.r_ir1, DL.r_ir2, DL.r_ir2b, DL.r_ien, DL.r_izp, DL.r_izp2, DL.rangeL_rg, DL.tstR_nil, DL.tst_e, DL.k_tst, DL.elt_e, DL.k_elt, DL.q_is1, DL.q_is2, DL.free_nil,
  DL.free_cons, DL.free_un, DL.free_val, DL.blank_nil, DL.blank_cons, DL.back_nil, DL.back_cons, DL.back_some, DL.q_call, DL.call_some, DL.call_k, DL.call_k2, DL.a_nil, DL.a_d, DL.a_wk, DL.a_io1, DL.a_io2, DL.a_wk2, DL.a_io3,
  DL.q_lent, DL.lentR_own, DL.lent_io, DL.pb_nil, DL.pb_cons, DL.pb_own, DL.pb_io, DL.ios_nil, DL.ios_d, DL.ios_wk, DL.ios_io, DL.wks_nil, DL.wks_d, DL.wks_wk, DL.wks_io, DL.okAr_eq, DL.nodup0, DL.nodup1, DL.q_held, DL.held_own,
  DL.held_io, DL.q_seq, DL.k_seq1, DL.k_seq2, DL.k_seq3, DL.k_seq4, List.all_nil, List.all_cons, List.isEmpty_nil, List.isEmpty_cons, Bool.true_or, Bool.or_true, Bool.false_or, Bool.or_false, Bool.not_true, Bool.not_false,
  Bool.false_and, Bool.and_false, DL.r_tup2, DL.r_lst2, DL.lim, Nat.reduceLeDiff, DL.n_val, DL.n_own, DL.n_io, DL.r_R, DL.r_bin, DL.r_binp, DL.r_bin2, DL.r_neg, DL.r_B, DL.r_cmp, DL.r_cmpp, DL.r_cmp2, DL.r_bl, DL.r_and, DL.r_or,
  DL.r_not, DL.r_if, DL.r_tup, DL.r_lst, DL.r_W, DL.r_idx, DL.r_idxp, DL.r_idx2, DL.r_D, DL.r_app, DL.r_blt, DL.r_blt2, DL.r_fld, DL.r_cons, DL.r_consp, DL.r_cons2, DL.r_io, DL.r_wk, DL.d_add, DL.d_sub, DL.d_lt, DL.d_le, DL.d_gt,
  DL.d_ge, DL.d_idxl, DL.d_idxt, DL.d_idxs, DL.ix_some, DL.at0, DL.at1, DL.at2, DL.q_sub, DL.sub_own, DL.sub_io, DL.sub_o, DL.sub_i, DL.ix30, DL.ix31, DL.ix32, DL.q_setSl, DL.set_un, DL.set_val, DL.set_own, DL.set_nio, DL.q_setTg,
  DL.q_setTup, DL.q_tis0, DL.q_tis, DL.b_int, DL.b_abs, DL.b_max2, DL.b_min2, DL.b_lenl, DL.b_lent, DL.b_lens, DL.isL_own, DL.isL_io, DL.e_nx, DL.e_ret, DL.okOuts, DL.outsOf, DL.weaks, DL.strong, Option.map_some, DL.ofO_some,
  DL.E.pure, Bool.and_self, Bool.and_true, Bool.true_and, DL.ownL, List.map_cons, List.map_nil, List.length_map, DL.d_eq, DL.d_ne, DL.dEq_int, DL.dEq_nil, DL.grow_own, DL.grow_io, DL.q_grow, DL.W.bind, DL.W.ok, DL.Res.bind_ok, List.getElem?_cons_zero,
  List.getElem?_cons_succ, List.length_cons, List.length_nil, List.replicate, List.cons_append, List.nil_append, List.set_cons_zero, List.set_cons_succ, Nat.reduceAdd, Nat.reduceSub, Nat.reduceBEq, Nat.reduceEqDiff, beq_self_eq_true,
  Int.reduceLE, Int.reduceLT, Int.reduceToNat, Int.reduceNeg, Int.reduceAdd, Int.reduceSub, Int.reduceMul, DL.initS, decide_true, decide_false, ↓reduceIte, Bool.false_eq_true, eq_self, and_self, true_and, and_true, DL.LoopQ,
  DL.x_aug, DL.aug_val, DL.k_aug2, DL.frz_own, DL.x_brk, DL.x_cnt, DL.x_retm, DL.retm_own, DL.x_frz, DL.d_powc, DL.powR_t, Int.reducePow, DL.b_tuple, DL.b_tuple1, DL.b_list0, DL.b_list1, DL.b_listt, DL.b_lists, DL.dsl_lst0,
  DL.dsl_lst1, DL.dsl_tup, DL.b_all, DL.b_any, DL.cln_non, DL.cln_int, DL.cln_bl, DL.cln_str, DL.cln_lst, DL.cln_tup, DL.all_map_int, DL.d_catc, DL.d_tcat, DL.q_isi, DL.r_isi, DL.isiD_obj, DL.isiD_lst, DL.isiD_tup, DL.isiD_non, DL.isiD_int, DL.isiD_bl, DL.isiD_str, DL.q_lrg, DL.r_lrg, DL.r_lrg1, DL.r_lrg2, DL.qc_isi, DL.qc_lrg, Option.isSome_some, DL.asB_bl, DL.asI_int, DL.q_star, DL.r_star, DL.r_star1, DL.r_star2, DL.sq_lst, DL.sq_tup, DL.q_apps, DL.r_apps, DL.r_apps1, DL.q_dget, DL.r_dget, DL.q_glc, DL.qc_apps, DL.qc_dget, DL.qc_glc, DL.strong_map, DL.strong_map0, DL.b_intt, DL.b_intf, DL.q_ir3, DL.r_ir3a, DL.r_ir3b, DL.r_ir3c, DL.x_paro, DL.k_paro, DL.eo_nil, DL.eo_t, DL.eo_f, DL.k_eot, DL.k_eof, DL.k_eo2, DL.x_appd, DL.k_appd, DL.k_appd2, DL.so_nil, DL.so_t, DL.so_f, DL.k_so, DL.k_nx, DL.x_setm, DL.k_setm, DL.il_lst, DL.il_int, DL.il_str, DL.fl_int, DL.fl_str, DL.x_rett, DL.k_rett, DL.k_rett1, DL.tk_nil, DL.tk_d, DL.tk_wk, DL.tk_own, DL.k_tk, DL.plainA, DL.ownT, DL.q_sst, DL.r_sst, DL.qc_sst, DL.q_ienT, DL.r_ienT, DL.q_froz, DL.qc_froz, DL.r_fz, DL.fz_nil, DL.fz_cons, DL.fz_own, DL.W.fzO, DL.fl_bl, DL.fl_lst, DL.d_idxd, DL.ixd_some, DL.r_idxp2, DL.x_setd, DL.k_setd, DL.x_pard, DL.k_pard, DL.x_retd, DL.k_retd, DL.k_retd1, DL.q_putAt, DL.put_io1, DL.put_io2, DL.q_popAt, DL.pop_io, DL.x_dset, DL.k_dset, DL.q_dicGet, DL.dget_io, DL.x_daug, DL.daug_int, DL.k_daug, DL.x_dpop, DL.q_setTgI, DL.q_tisI, DL.x_rse, DL.k_rse, DL.V.bind, DL.V.ok, DL.V.exn, m_check_line, k_check_line])
local macro_rules | `(tactic| walk_at "wk") => `(tactic| repeat (first
  | walk_at "dl"
  | rw [DL.atI_ints (by omega) (by omega)]
  | rw [DL.d_mod (by omega)]
  | rw [DL.d_mul (DL.mulOk_r (by omega))]
  | rw [DL.d_mul (DL.mulOk_l (by omega))]
  | rw [DL.d_fdiv (DL.divOk (by omega) (by omega))]
  | rw [if_pos (by omega)]
  | rw [decide_eq_true (by omega)]
  | rw [decide_eq_false (by omega)]))
theorem check_lineV {s : List Int} {r : Int} (hl : s.length ≤ 50000) : V (f_check_line.den [.lst (s.map .int), .int r]) (fun a => a = (.non, []) ∧ LE s r none) fun c d => c = 21 ∧ LE s r (some d) := by
  rw [e_check_line, run_eq rfl]
  walk_at "dl"
  cases hs : s with
  | nil =>
    subst hs
    simp only [List.map_nil, List.isEmpty_nil]
    walk_at "dl"
    exact .inl ⟨rfl, rfl⟩
  | cons a t =>
    rw [← hs]
    have ne : s ≠ [] := by rw [hs]; simp
    have hl0 : 0 < s.length := by rw [hs]; simp
    rw [show (s.map D.int).isEmpty = false by rw [hs]; rfl]
    clear hs a t
    walk_at "dl"
    refine V_for (I := fun i env => (∀ j : Nat, 1 ≤ j → j < i + 1 → ¬ drp s j) ∧ ∃ (t : Sl) (_ : Nio t), env = [.val (.lst (s.map .int)), .val (.int r), t]) ⟨fun j h1 h2 => by omega, _, inferInstance, rfl⟩ ?_ ?_
    · rintro i x _ hx ⟨hd, t, ht, rfl⟩
      obtain ⟨v, hv, rfl⟩ : ∃ v, (rg 1 ((s.length : Int) - 1).toNat)[i]? = some v ∧ D.int v = x := by simpa using hx
      obtain ⟨hi, rfl⟩ := rg_get_of hv
      walk_at "dl"
      rw [atI_ints (by omega) (by omega)]
      walk_at "dl"
      rw [atI_ints (by omega) (by omega)]
      walk_at "dl"
      have e2 : (1 : Int) + (i : Int) = ((i + 1 : Nat) : Int) := by omega
      rw [e2]
      by_cases c : drp s (i + 1)
      · have c' : gI s ((i + 1 : Nat) : Int) < gI s (((i + 1 : Nat) : Int) - 1) := c
        rw [decide_eq_true c']
        walk_at "dl"
        exact .inr ⟨ne, .inl ⟨i + 1, by omega, by omega, c, hd, rfl⟩⟩
      · have c' : ¬ gI s ((i + 1 : Nat) : Int) < gI s (((i + 1 : Nat) : Int) - 1) := c
        rw [decide_eq_false c']
        walk_at "dl"
        refine ⟨fun j h1 h2 => ?_, _, inferInstance, rfl⟩
        by_cases z : j = i + 1
        · subst z; exact c
        · exact hd j h1 (by omega)
    · rintro _ ⟨hd, t, ht, rfl⟩
      have hlen : ((rg 1 ((s.length : Int) - 1).toNat).map D.int).length = s.length - 1 := by rw [List.length_map, rg_len]; omega
      rw [hlen] at hd
      walk_at "dl"
      rw [atI_ints (by omega) (by omega), gI_last (i := s.length - 1) (by omega)]
      walk_at "dl"
      rw [atI_ints (by omega) (by omega)]
      walk_at "dl"
      have hd' : ∀ j : Nat, 1 ≤ j → j < s.length → ¬ drp s j := fun j h1 h2 => hd j h1 (by omega)
      by_cases c : gI s ((s.length - 1 : Nat) : Int) > gI s 0 + r
      · rw [decide_eq_true c]
        walk_at "dl"
        exact .inr ⟨ne, .inr ⟨hd', .inl ⟨c, by simp⟩⟩⟩
      · rw [decide_eq_false c]
        walk_at "dl"
        exact .inr ⟨ne, .inr ⟨hd', .inr ⟨c, rfl⟩⟩⟩
theorem line_initV {s : List Int} {r : Int} (hl : s.length ≤ 50000) : V (f_Line_init.den [.nd (.obj 0 []) [], .lst (s.map .int), .int r]) (fun a => LE s r none ∧ a = (.non, [lineD (lform s r).1 (lform s r).2])) fun c d => c = 21 ∧ LE s r (some d) := by
  have key := check_lineV (s := s) (r := r) hl
  cases e : f_check_line.den [.lst (s.map .int), .int r] with
  | stuck => rw [e] at key; exact key.elim
  | ok a =>
    rw [e] at key
    obtain ⟨_, h⟩ := V.ok.mp key
    rw [line_init h.ok hl]
    exact ⟨h, rfl⟩
  | exn c d =>
    rw [e] at key
    obtain ⟨rfl, h⟩ := V.exn.mp key
    rw [e_Line_init, run_eq rfl]
    walk_at "dl"
    rw [e]
    walk_at "dl"
    exact h
end FS

-- part LPp
set_option Elab.async false
set_option linter.all false
set_option maxRecDepth 100000
set_option maxHeartbeats 1000000
/-! the law's own drawing, walked -/
namespace LP
open PySem DL L2 FS LN
local macro_rules | `(tactic| walk_at "dl") => `(tactic| simp -implicitDefEqProofs only [DL.x_nil, DL.x_cons, DL.x_pass, DL.x_set, DL.x_ife, DL.x_par, DL.x_for, DL.x_whl, DL.x_ret, DL.x_retn, DL.x_drop, DL.x_sub, DL.x_app, DL.x_ext, DL.x_seto, DL.x_reto, DL.k_set, DL.k_seto, DL.k_par, DL.k_par2, DL.k_ife, DL.k_for,
  DL.k_ret, DL.k_reto, DL.k_drop, DL.k_sub, DL.k_sub2, DL.k_app, DL.k_ext, DL.q_name, DL.q_lit, DL.q_bin, DL.q_neg, DL.q_cmp, DL.q_and, DL.q_or, DL.q_not, DL.q_ife, DL.q_tup, DL.q_lst, DL.q_idx, DL.q_app, DL.q_blt, DL.q_fld,
  DL.q_nil, DL.q_cio, DL.q_cwk, DL.q_chn, DL.q_slc, DL.q_mth, DL.q_lno, DL.q_prp, DL.q_addo, DL.q_eqo, DL.q_mk, DL.q_appk, DL.q_mthk, DL.q_mkk, DL.q_comp, DL.qc_name, DL.qc_lit, DL.qc_bin, DL.qc_neg, DL.qc_cmp, DL.qc_chn, DL.qc_andv,
  DL.qc_orv, DL.qc_notv, DL.qc_ife, DL.qc_tup, DL.qc_lst, DL.qc_idx, DL.qc_slc, DL.qc_app, DL.qc_blt, DL.qc_fld, DL.qc_prp, DL.qc_mth, DL.qc_lno, DL.qc_addo, DL.qc_eqo, DL.qc_mk, DL.qc_appk, DL.qc_mthk, DL.qc_mkk, DL.qc_comp,
  DL.r_chn, DL.r_chn1, DL.r_chn3, DL.r_chn2, DL.r_slc, DL.r_slcp, DL.r_slc2, DL.r_slc3, DL.r_mth, DL.r_mth2, DL.r_lno, DL.r_lno1, DL.r_prp, DL.W.prO, DL.pr_ok, DL.r_addo, DL.r_add1, DL.r_eqo, DL.r_eq1, DL.r_eq2, DL.r_mk, DL.r_mkS, DL.r_mkN, DL.r_mkW, DL.r_mkWO, DL.strong_wk, DL.noW_wk, Option.map_none, DL.r_mk2,
  DL.r_mko, DL.r_appk, DL.r_appk2, DL.r_mthk, DL.r_mthk2, DL.r_mthk3, DL.r_mkk, DL.r_mkk1, DL.kwO_eq, DL.perm_nil, DL.perm_cons, DL.permR_some, DL.prt_nil, DL.prt_e, DL.k_prt, DL.notNil, DL.q_ilst, DL.q_iscr, DL.q_itup, DL.q_ir1,
  DL.q_ir2, DL.q_ien, DL.q_izp, DL.r_ilst, DL.r_iscr, DL.r_itup, DL.r_ir1, DL.r_ir2, DL.r_ir2b, DL.r_ien, DL.r_izp, DL.r_izp2, DL.rangeL_rg, DL.tstR_nil, DL.tst_e, DL.k_tst, DL.elt_e, DL.k_elt, DL.q_is1, DL.q_is2, DL.free_nil,
  DL.free_cons, DL.free_un, DL.free_val, DL.blank_nil, DL.blank_cons, DL.back_nil, DL.back_cons, DL.back_some, DL.q_call, DL.call_some, DL.call_k, DL.call_k2, DL.a_nil, DL.a_d, DL.a_wk, DL.a_io1, DL.a_io2, DL.a_wk2, DL.a_io3,
  DL.q_lent, DL.lentR_own, DL.lent_io, DL.pb_nil, DL.pb_cons, DL.pb_own, DL.pb_io, DL.ios_nil, DL.ios_d, DL.ios_wk, DL.ios_io, DL.wks_nil, DL.wks_d, DL.wks_wk, DL.wks_io, DL.okAr_eq, DL.nodup0, DL.nodup1, DL.q_held, DL.held_own,
  DL.held_io, DL.q_seq, DL.k_seq1, DL.k_seq2, DL.k_seq3, DL.k_seq4, List.all_nil, List.all_cons, List.isEmpty_nil, List.isEmpty_cons, Bool.true_or, Bool.or_true, Bool.false_or, Bool.or_false, Bool.not_true, Bool.not_false,
  Bool.false_and, Bool.and_false, DL.r_tup2, DL.r_lst2, DL.lim, Nat.reduceLeDiff, DL.n_val, DL.n_own, DL.n_io, DL.r_R, DL.r_bin, DL.r_binp, DL.r_bin2, DL.r_neg, DL.r_B, DL.r_cmp, DL.r_cmpp, DL.r_cmp2, DL.r_bl, DL.r_and, DL.r_or,
  DL.r_not, DL.r_if, DL.r_tup, DL.r_lst, DL.r_W, DL.r_idx, DL.r_idxp, DL.r_idx2, DL.r_D, DL.r_app, DL.r_blt, DL.r_blt2, DL.r_fld, DL.r_cons, DL.r_consp, DL.r_cons2, DL.r_io, DL.r_wk, DL.d_add, DL.d_sub, DL.d_lt, DL.d_le, DL.d_gt,
  DL.d_ge, DL.d_idxl, DL.d_idxt, DL.d_idxs, DL.ix_some, DL.at0, DL.at1, DL.at2, DL.q_sub, DL.sub_own, DL.sub_io, DL.sub_o, DL.sub_i, DL.ix30, DL.ix31, DL.ix32, DL.q_setSl, DL.set_un, DL.set_val, DL.set_own, DL.set_nio, DL.q_setTg,
  DL.q_setTup, DL.q_tis0, DL.q_tis, DL.b_int, DL.b_abs, DL.b_max2, DL.b_min2, DL.b_lenl, DL.b_lent, DL.b_lens, DL.isL_own, DL.isL_io, DL.e_nx, DL.e_ret, DL.okOuts, DL.outsOf, DL.weaks, DL.strong, Option.map_some, DL.ofO_some,
  DL.E.pure, Bool.and_self, Bool.and_true, Bool.true_and, DL.ownL, List.map_cons, List.map_nil, List.length_map, DL.d_eq, DL.d_ne, DL.dEq_int, DL.dEq_nil, DL.grow_own, DL.grow_io, DL.q_grow, DL.W.bind, DL.W.ok, DL.Res.bind_ok, List.getElem?_cons_zero,
  List.getElem?_cons_succ, List.length_cons, List.length_nil, List.replicate, List.cons_append, List.nil_append, List.set_cons_zero, List.set_cons_succ, Nat.reduceAdd, Nat.reduceSub, Nat.reduceBEq, Nat.reduceEqDiff, beq_self_eq_true,
  Int.reduceLE, Int.reduceLT, Int.reduceToNat, Int.reduceNeg, Int.reduceAdd, Int.reduceSub, Int.reduceMul, DL.initS, decide_true, decide_false, ↓reduceIte, Bool.false_eq_true, eq_self, and_self, true_and, and_true, DL.LoopQ,
  DL.x_aug, DL.aug_val, DL.k_aug2, DL.frz_own, DL.x_brk, DL.x_cnt, DL.x_retm, DL.retm_own, DL.x_frz, DL.d_powc, DL.powR_t, Int.reducePow, DL.b_tuple, DL.b_tuple1, DL.b_list0, DL.b_list1, DL.b_listt, DL.b_lists, DL.dsl_lst0,
  DL.dsl_lst1, DL.dsl_tup, DL.b_all, DL.b_any, DL.cln_non, DL.cln_int, DL.cln_bl, DL.cln_str, DL.cln_lst, DL.cln_tup, DL.all_map_int, DL.d_catc, DL.d_tcat, DL.q_isi, DL.r_isi, DL.isiD_obj, DL.isiD_lst, DL.isiD_tup, DL.isiD_non, DL.isiD_int, DL.isiD_bl, DL.isiD_str, DL.q_lrg, DL.r_lrg, DL.r_lrg1, DL.r_lrg2, DL.qc_isi, DL.qc_lrg, Option.isSome_some, DL.asB_bl, DL.asI_int, DL.q_star, DL.r_star, DL.r_star1, DL.r_star2, DL.sq_lst, DL.sq_tup, DL.q_apps, DL.r_apps, DL.r_apps1, DL.q_dget, DL.r_dget, DL.q_glc, DL.qc_apps, DL.qc_dget, DL.qc_glc, DL.strong_map, DL.strong_map0, DL.b_intt, DL.b_intf, DL.q_ir3, DL.r_ir3a, DL.r_ir3b, DL.r_ir3c, DL.x_paro, DL.k_paro, DL.eo_nil, DL.eo_t, DL.eo_f, DL.k_eot, DL.k_eof, DL.k_eo2, DL.x_appd, DL.k_appd, DL.k_appd2, DL.so_nil, DL.so_t, DL.so_f, DL.k_so, DL.k_nx, DL.x_setm, DL.k_setm, DL.il_lst, DL.il_int, DL.il_str, DL.fl_int, DL.fl_str, DL.x_rett, DL.k_rett, DL.k_rett1, DL.tk_nil, DL.tk_d, DL.tk_wk, DL.tk_own, DL.k_tk, DL.plainA, DL.ownT, DL.q_sst, DL.r_sst, DL.qc_sst, DL.q_ienT, DL.r_ienT, DL.q_froz, DL.qc_froz, DL.r_fz, DL.fz_nil, DL.fz_cons, DL.fz_own, DL.W.fzO, DL.fl_bl, DL.fl_lst, DL.d_idxd, DL.ixd_some, DL.r_idxp2, DL.x_setd, DL.k_setd, DL.x_pard, DL.k_pard, DL.x_retd, DL.k_retd, DL.k_retd1, DL.q_putAt, DL.put_io1, DL.put_io2, DL.q_popAt, DL.pop_io, DL.x_dset, DL.k_dset, DL.q_dicGet, DL.dget_io, DL.x_daug, DL.daug_int, DL.k_daug, DL.x_dpop, DL.q_setTgI, DL.q_tisI, m_law_draw, k_law_draw, m_law_pool, k_law_pool])
local macro_rules | `(tactic| walk_at "wk") => `(tactic| repeat (first
  | walk_at "dl"
  | rw [DL.atI_ints (by omega) (by omega)]
  | rw [DL.d_mod (by omega)]
  | rw [DL.d_mul (DL.mulOk_r (by omega))]
  | rw [DL.d_mul (DL.mulOk_l (by omega))]
  | rw [DL.d_fdiv (DL.divOk (by omega) (by omega))]
  | rw [if_pos (by omega)]
  | rw [decide_eq_true (by omega)]
  | rw [decide_eq_false (by omega)]))
def PoolOk (d : D) (B : Int) : Prop := ∃ p0 p1 p2 : Int, d = .lst [.int p0, .int p1, .int p2] ∧ 0 ≤ p1 ∧ p1 < 2 ^ 63 ∧ 0 ≤ p2 ∧ p2 ≤ B
theorem PoolOk.mono {d : D} {B C : Int} (h : PoolOk d B) (l : B ≤ C) : PoolOk d C := by
  obtain ⟨p0, p1, p2, e, h1, h2, h3, h4⟩ := h
  exact ⟨p0, p1, p2, e, h1, h2, h3, by omega⟩
/-- a draw -/
theorem draw {p : D} {B many : Int} (h : PoolOk p B) (hB : B ≤ 10 ^ 12) (hm : 0 < many) (hm' : many < 2 ^ 200) : W (f_law_draw.den [p, .int many]) fun x => ∃ r p', x = (.int r, [p']) ∧ 0 ≤ r ∧ r < many ∧ PoolOk p' (B + 1) := by
  obtain ⟨p0, p1, p2, rfl, h1, h1', h2, h2'⟩ := h
  have hd : DivOk many = true := divOk hm (Int.lt_trans hm' (by decide))
  have hz : many ≠ 0 := by omega
  rw [e_law_draw, run_eq rfl]
  walk_at "dl"
  by_cases h0 : 0 < p0
  · simp only [h0, decide_true, ↓reduceIte, d_mod hz]
    walk_at "dl"
    simp only [d_fdiv hd]
    walk_at "dl"
    exact ⟨_, _, rfl, Int.fmod_nonneg_of_pos _ hm, Int.fmod_lt_of_pos _ hm, _, _, _, rfl, h1, h1', h2, by omega⟩
  generalize hc1 : (15488849 : Int) = c1
  generalize hc2 : (32454521 : Int) = c2
  generalize hq1 : (162259276829213363391578010288127 : Int) = q1
  generalize hq2 : (170141183460469231731687303715884105727 : Int) = q2
  generalize hs : (1048576 : Int) = sh
  have e1 : MulOk c1 (p2 + 1) = true := mulOk_l (by omega)
  have e2 : MulOk c2 (p2 + 1) = true := mulOk_l (by omega)
  simp only [h0, decide_false, Bool.false_eq_true, ↓reduceIte]
  walk_at "dl"
  simp only [d_mul e1]
  walk_at "dl"
  have e3 : PowOk (p1 + c1 * (p2 + 1)) (3 : Nat) = true := powOk (m := 100) (by subst hc1; omega) (by decide) (by decide)
  have e3 : dBin .pow (0, .int (p1 + c1 * (p2 + 1))) (0, .int 3) = .ok (.int ((p1 + c1 * (p2 + 1)) ^ 3)) := d_pow e3
  simp only [e3]
  walk_at "dl"
  generalize (p1 + c1 * (p2 + 1)) ^ 3 = t
  rw [d_mod (show q1 ≠ 0 by omega)]
  walk_at "dl"
  have ht : 0 ≤ t.fmod q1 ∧ t.fmod q1 < q1 := ⟨Int.fmod_nonneg_of_pos _ (by omega), Int.fmod_lt_of_pos _ (by omega)⟩
  generalize t.fmod q1 = u at ht
  simp only [d_mul e2]
  walk_at "dl"
  have e4 : PowOk (u + c2 * (p2 + 1)) (5 : Nat) = true := powOk (m := 120) (by subst hc2 hq1; omega) (by decide) (by decide)
  have e4 : dBin .pow (0, .int (u + c2 * (p2 + 1))) (0, .int 5) = .ok (.int ((u + c2 * (p2 + 1)) ^ 5)) := d_pow e4
  simp only [e4]
  walk_at "dl"
  generalize (u + c2 * (p2 + 1)) ^ 5 = v
  rw [d_mod (show q2 ≠ 0 by omega)]
  walk_at "dl"
  rw [d_fdiv (show DivOk sh = true by subst hs; rfl)]
  walk_at "dl"
  rw [d_mod hz]
  walk_at "dl"
  exact ⟨_, _, rfl, Int.fmod_nonneg_of_pos _ hm, Int.fmod_lt_of_pos _ hm, _, _, _, rfl, h1, h1', by omega, by omega⟩
/-- the pool of a place of the script -/
theorem pool {ns : List Int} {i : Int} (h : 0 ≤ i) (h2 : i < 100) : W (f_law_pool.den [.nd .scr (ns.map .int), .int i]) fun x => ∃ p, x = (p, []) ∧ PoolOk p 0 := by
  rw [e_law_pool, run_eq rfl]
  walk_at "dl"
  generalize hc1 : (3367900777 : Int) = c1
  generalize hc2 : (2305843009213693951 : Int) = c2
  have e1 : MulOk c1 (i + 1) = true := mulOk_l (by omega)
  have hz : c2 ≠ 0 := by omega
  have main : ∀ g a : Int, PoolOk (.lst [.int (if a > 0 then a else 0), .int (g.fmod c2 + c1 * (i + 1)), .int 0]) 0 := fun g a => by
    have h3 : 0 ≤ g.fmod c2 := Int.fmod_nonneg_of_pos _ (by omega)
    have h4 : g.fmod c2 < c2 := Int.fmod_lt_of_pos _ (by omega)
    refine ⟨_, _, _, rfl, ?_, ?_, by omega, by omega⟩ <;> (subst hc1 hc2; omega)
  by_cases c : i < ns.length
  · simp only [c, decide_true, ↓reduceIte, atI_ints (show -(ns.length : Int) ≤ i by omega) c]
    walk_at "dl"
    simp only [d_mod hz]
    walk_at "dl"
    simp only [d_mul e1]
    walk_at "dl"
    exact ⟨_, rfl, main _ _⟩
  · simp only [c, decide_false, Bool.false_eq_true, ↓reduceIte]
    walk_at "dl"
    simp only [d_mod hz]
    walk_at "dl"
    simp only [d_mul e1]
    walk_at "dl"
    exact ⟨_, rfl, main _ _⟩
theorem up_app {l : List Int} {a : Int} {j : Nat} (hl : l.length = j + 1) (h : ∀ i : Nat, i + 1 < l.length → gI l (i : Int) ≤ gI l ((i + 1 : Nat) : Int)) (h2 : gI l (j : Int) ≤ a) : ∀ i : Nat, i + 1 < (l ++ [a]).length → gI (l ++ [a]) (i : Int) ≤ gI (l ++ [a]) ((i + 1 : Nat) : Int) := by
  intro i hi
  simp at hi
  rw [gI_append (by omega)]
  by_cases e : i + 1 < l.length
  · rw [gI_append e]; exact h i e
  · have e1 : i = j := by omega
    have e2 : i + 1 = l.length := by omega
    rw [e2, gI_append_last, e1]
    exact h2
/-- values of a line, what it adds -/
theorem values {p : D} {B many : Int} (h : PoolOk p B) (hB : B ≤ 10 ^ 11) (hm : 0 < many) (hm' : many ≤ 100) : W (f_law_values.den [p, .int many]) fun x => ∃ (l : List Int) (more : Int) (p' : D), x = (.tup [.lst (l.map .int), .int more], [p']) ∧ PoolOk p' (B + 300) ∧ Ok l more ∧ l.length ≤ many ∧ more ≤ 2000 ∧ (∀ v ∈ l, -20 ≤ v ∧ v ≤ 1000) := by
  rw [e_law_values, run_eq rfl]
  walk_at "dl"
  refine (draw h (by omega) (by omega) (by omega)).mono ?_
  rintro _ ⟨v, p1, rfl, hv, hv', hp1⟩
  walk_at "dl"
  refine (draw hp1 (by omega) (by omega) (by omega)).mono ?_
  rintro _ ⟨n, p2, rfl, hn, hn', hp2⟩
  walk_at "dl"
  rw [if_pos (by omega)]
  walk_at "dl"
  refine W_for (I := fun i env => ∃ (l : List Int) (p' : D) (t : Sl) (_ : Nio t), env = [.io 1 p', .val (.int many), .own 1 (.lst (l.map .int)), t, .un] ∧ PoolOk p' (B + 2 + 2 * i) ∧ l.length = i + 1 ∧ (∀ i : Nat, i + 1 < l.length → gI l (i : Int) ≤ gI l ((i + 1 : Nat) : Int)) ∧ (∀ v ∈ l, -20 ≤ v ∧ v ≤ 20 + 8 * (i : Int)) ∧ i ≤ n) ?_ ?_ ?_
  · refine ⟨[v - 20], p2, .un, inferInstance, rfl, hp2.mono (by omega), rfl, ?_, ?_, by omega⟩
    · intro i hi; simp at hi
    · simp; omega
  · rintro i x _ hx ⟨l, p', t, ht, rfl, hp', hl, hu, hb, hi⟩
    walk_at "dl"
    have e : atI (l.map D.int) (-1) = some (.int (gI l (i : Int))) := by
      rw [atI_ints (by omega) (by omega), gI_last (i := i) (by omega)]
    rw [e]
    walk_at "dl"
    refine (draw hp' (by omega) (by omega) (by omega)).mono ?_
    rintro _ ⟨a, p1, rfl, ha, ha', hp1⟩
    walk_at "dl"
    refine (draw hp1 (by omega) (by omega) (by omega)).mono ?_
    rintro _ ⟨b, p2, rfl, hb1, hb', hp2⟩
    walk_at "dl"
    obtain ⟨y, e, hy⟩ := pickI4 (x0 := 0) (x1 := 0) (x2 := 1) (x3 := a) hb1 hb'
    rw [e]
    walk_at "dl"
    have hi2 := lt_of_get hx
    simp only [List.length_map, rg_len] at hi2
    rw [if_pos (by omega), ap1]
    walk_at "dl"
    have hm : gI l (i : Int) ∈ l := by rw [gI_nat (by omega)]; simp
    have hb0 := hb _ hm
    refine ⟨_, _, _, inferInstance, rfl, hp2.mono (by omega), by simp; omega, up_app hl hu (by omega), ?_, by omega⟩
    intro v hv
    rcases List.mem_append.mp hv with hv | hv
    · have := hb v hv; omega
    · simp at hv; omega
  · rintro _ ⟨l, p', t, ht, rfl, hp', hl, hu, hb, hi⟩
    simp only [List.length_map, rg_len] at hp' hl hb hi
    walk_at "dl"
    refine (draw hp' (by omega) (by omega) (by omega)).mono ?_
    rintro _ ⟨a, p1, rfl, ha, ha', hp1⟩
    walk_at "dl"
    refine (draw hp1 (by omega) (by omega) (by omega)).mono ?_
    rintro _ ⟨b, p2, rfl, hb1, hb', hp2⟩
    walk_at "dl"
    refine (draw hp2 (by omega) (by omega) (by omega)).mono ?_
    rintro _ ⟨c, p3, rfl, hc1, hc', hp3⟩
    walk_at "dl"
    obtain ⟨y, e, hy⟩ := pickI4 (x0 := 0) (x1 := 1) (x2 := a) (x3 := b) hc1 hc'
    rw [e]
    walk_at "dl"
    rw [atI_ints (by omega) (by omega), gI_last (i := n.toNat) (by omega)]
    walk_at "dl"
    rw [atI_ints (by omega) (by omega)]
    walk_at "dl"
    have hm1 := hb (gI l (n.toNat : Int)) (by rw [gI_nat (by omega)]; simp)
    have hm2 := hb (gI l 0) (by rw [show gI l 0 = gI l ((0 : Nat) : Int) from rfl, gI_nat (by omega)]; simp)
    refine ⟨l, _, _, rfl, hp3.mono (by omega), ⟨by omega, hu, ?_⟩, by omega, by omega, ?_⟩
    · rw [show l.length - 1 = n.toNat by omega]; omega
    · intro v hv
      have := hb v hv
      omega
/-- the value of a line at a place -/
theorem lat_lap0 {l : List Int} {n : Int} (h : 0 < l.length) : n - n.fdiv l.length * l.length = n.fmod l.length := by
  have e := fdm (n := n) (p := l.length) (by omega)
  rw [e.1, e.2]
  have := Int.mul_ediv_add_emod n l.length
  rw [Int.mul_comm]
  omega
theorem lawAt {l : List Int} {r n : Int} (h : 0 < l.length) (hl : l.length ≤ 100000) (hr : r.natAbs < 2 ^ 64) : f_law_at.den [.lst (l.map .int), .int r, .int n] = .ok (.int (lat l r n), []) := by
  apply W.eq
  rw [e_law_at, run_eq rfl]
  walk_at "dl"
  rw [d_fdiv (divOk (by omega) (by omega))]
  walk_at "dl"
  rw [d_mul (mulOk_r (by omega))]
  walk_at "dl"
  rw [lat_lap0 h]
  have h1 : 0 ≤ n.fmod l.length := Int.fmod_nonneg_of_pos _ (by omega)
  have h2 : n.fmod l.length < l.length := Int.fmod_lt_of_pos _ (by omega)
  rw [atI_ints (by omega) (by omega)]
  walk_at "dl"
  rw [d_mul (mulOk_r hr)]
  walk_at "dl"
  unfold lat
  rw [Int.mul_comm r]
/-- a place, near or far -/
theorem place {p : D} {B : Int} (h : PoolOk p B) (hB : B ≤ 10 ^ 11) : W (f_law_place.den [p]) fun x => ∃ (r : Int) (p' : D), x = (.int r, [p']) ∧ r.natAbs < 2 ^ 104 ∧ PoolOk p' (B + 3) := by
  rw [e_law_place, run_eq rfl]
  walk_at "dl"
  refine (draw h (by omega) (by omega) (by omega)).mono ?_
  rintro _ ⟨a, p1, rfl, ha, ha', hp1⟩
  walk_at "dl"
  refine (draw hp1 (by omega) (by omega) (by omega)).mono ?_
  rintro _ ⟨b, p2, rfl, hb1, hb', hp2⟩
  walk_at "dl"
  rw [d_mul (mulOk_l (by omega))]
  walk_at "dl"
  refine (draw hp2 (by omega) (by omega) (by omega)).mono ?_
  rintro _ ⟨c, p3, rfl, hc1, hc', hp3⟩
  walk_at "dl"
  obtain ⟨y, e, hy⟩ := pickI3 (x0 := a - 20) (x1 := b - 5 * 10 ^ 30) (x2 := 0) hc1 hc'
  have e' := e
  simp only [Int.reducePow, Int.reduceMul] at e'
  rw [e']
  walk_at "dl"
  exact ⟨_, _, rfl, by omega, hp3.mono (by omega)⟩
end LP

-- part K02m
set_option Elab.async false
set_option linter.all false
set_option maxRecDepth 100000
set_option maxHeartbeats 2000000
namespace K02
open PySem L2 DL FS LN LP
local macro_rules | `(tactic| walk_at "dl") => `(tactic| simp -implicitDefEqProofs only [DL.x_nil, DL.x_cons, DL.x_pass, DL.x_set, DL.x_ife, DL.x_par, DL.x_for, DL.x_whl, DL.x_ret, DL.x_retn, DL.x_drop, DL.x_sub, DL.x_app, DL.x_ext, DL.x_seto, DL.x_reto, DL.k_set, DL.k_seto, DL.k_par, DL.k_par2, DL.k_ife, DL.k_for,
  DL.k_ret, DL.k_reto, DL.k_drop, DL.k_sub, DL.k_sub2, DL.k_app, DL.k_ext, DL.q_name, DL.q_lit, DL.q_bin, DL.q_neg, DL.q_cmp, DL.q_and, DL.q_or, DL.q_not, DL.q_ife, DL.q_tup, DL.q_lst, DL.q_idx, DL.q_app, DL.q_blt, DL.q_fld,
  DL.q_nil, DL.q_cio, DL.q_cwk, DL.q_chn, DL.q_slc, DL.q_mth, DL.q_lno, DL.q_prp, DL.q_addo, DL.q_eqo, DL.q_mk, DL.q_appk, DL.q_mthk, DL.q_mkk, DL.q_comp, DL.qc_name, DL.qc_lit, DL.qc_bin, DL.qc_neg, DL.qc_cmp, DL.qc_chn, DL.qc_andv,
  DL.qc_orv, DL.qc_notv, DL.qc_ife, DL.qc_tup, DL.qc_lst, DL.qc_idx, DL.qc_slc, DL.qc_app, DL.qc_blt, DL.qc_fld, DL.qc_prp, DL.qc_mth, DL.qc_lno, DL.qc_addo, DL.qc_eqo, DL.qc_mk, DL.qc_appk, DL.qc_mthk, DL.qc_mkk, DL.qc_comp,
  DL.r_chn, DL.r_chn1, DL.r_chn3, DL.r_chn2, DL.r_slc, DL.r_slcp, DL.r_slc2, DL.r_slc3, DL.r_mth, DL.r_mth2, DL.r_lno, DL.r_lno1, DL.r_prp, DL.W.prO, DL.pr_ok, DL.r_addo, DL.r_add1, DL.r_eqo, DL.r_eq1, DL.r_eq2, DL.r_mk, DL.r_mkS, DL.r_mkN, DL.r_mkW, DL.r_mkWO, DL.strong_wk, DL.noW_wk, Option.map_none, DL.r_mk2,
  DL.r_mko, DL.r_appk, DL.r_appk2, DL.r_mthk, DL.r_mthk2, DL.r_mthk3, DL.r_mkk, DL.r_mkk1, DL.kwO_eq, DL.perm_nil, DL.perm_cons, DL.permR_some, DL.prt_nil, DL.prt_e, DL.k_prt, DL.notNil, DL.q_ilst, DL.q_iscr, DL.q_itup, DL.q_ir1,
  DL.q_ir2, DL.q_ien, DL.q_izp, DL.r_ilst, DL.r_iscr, DL.r_itup, DL.r_ir1, DL.r_ir2, DL.r_ir2b, DL.r_ien, DL.r_izp, DL.r_izp2, DL.rangeL_rg, DL.tstR_nil, DL.tst_e, DL.k_tst, DL.elt_e, DL.k_elt, DL.q_is1, DL.q_is2, DL.free_nil,
  DL.free_cons, DL.free_un, DL.free_val, DL.blank_nil, DL.blank_cons, DL.back_nil, DL.back_cons, DL.back_some, DL.q_call, DL.call_some, DL.call_k, DL.call_k2, DL.a_nil, DL.a_d, DL.a_wk, DL.a_io1, DL.a_io2, DL.a_wk2, DL.a_io3,
  DL.q_lent, DL.lentR_own, DL.lent_io, DL.pb_nil, DL.pb_cons, DL.pb_own, DL.pb_io, DL.ios_nil, DL.ios_d, DL.ios_wk, DL.ios_io, DL.wks_nil, DL.wks_d, DL.wks_wk, DL.wks_io, DL.okAr_eq, DL.nodup0, DL.nodup1, DL.q_held, DL.held_own,
  DL.held_io, DL.q_seq, DL.k_seq1, DL.k_seq2, DL.k_seq3, DL.k_seq4, List.all_nil, List.all_cons, List.isEmpty_nil, List.isEmpty_cons, Bool.true_or, Bool.or_true, Bool.false_or, Bool.or_false, Bool.not_true, Bool.not_false,
  Bool.false_and, Bool.and_false, DL.r_tup2, DL.r_lst2, DL.lim, Nat.reduceLeDiff, DL.n_val, DL.n_own, DL.n_io, DL.r_R, DL.r_bin, DL.r_binp, DL.r_bin2, DL.r_neg, DL.r_B, DL.r_cmp, DL.r_cmpp, DL.r_cmp2, DL.r_bl, DL.r_and, DL.r_or,
  DL.r_not, DL.r_if, DL.r_tup, DL.r_lst, DL.r_W, DL.r_idx, DL.r_idxp, DL.r_idx2, DL.r_D, DL.r_app, DL.r_blt, DL.r_blt2, DL.r_fld, DL.r_cons, DL.r_consp, DL.r_cons2, DL.r_io, DL.r_wk, DL.d_add, DL.d_sub, DL.d_lt, DL.d_le, DL.d_gt,
  DL.d_ge, DL.d_idxl, DL.d_idxt, DL.d_idxs, DL.ix_some, DL.at0, DL.at1, DL.at2, DL.q_sub, DL.sub_own, DL.sub_io, DL.sub_o, DL.sub_i, DL.ix30, DL.ix31, DL.ix32, DL.q_setSl, DL.set_un, DL.set_val, DL.set_own, DL.set_nio, DL.q_setTg,
  DL.q_setTup, DL.q_tis0, DL.q_tis, DL.b_int, DL.b_abs, DL.b_max2, DL.b_min2, DL.b_lenl, DL.b_lent, DL.b_lens, DL.isL_own, DL.isL_io, DL.e_nx, DL.e_ret, DL.okOuts, DL.outsOf, DL.weaks, DL.strong, Option.map_some, DL.ofO_some,
  DL.E.pure, Bool.and_self, Bool.and_true, Bool.true_and, DL.ownL, List.map_cons, List.map_nil, List.length_map, DL.d_eq, DL.d_ne, DL.dEq_int, DL.dEq_nil, DL.grow_own, DL.grow_io, DL.q_grow, DL.W.bind, DL.W.ok, DL.Res.bind_ok, List.getElem?_cons_zero,
  List.getElem?_cons_succ, List.length_cons, List.length_nil, List.replicate, List.cons_append, List.nil_append, List.set_cons_zero, List.set_cons_succ, Nat.reduceAdd, Nat.reduceSub, Nat.reduceBEq, Nat.reduceEqDiff, beq_self_eq_true,
  Int.reduceLE, Int.reduceLT, Int.reduceToNat, Int.reduceNeg, Int.reduceAdd, Int.reduceSub, Int.reduceMul, DL.initS, decide_true, decide_false, ↓reduceIte, Bool.false_eq_true, eq_self, and_self, true_and, and_true, DL.LoopQ,
  DL.x_aug, DL.aug_val, DL.k_aug2, DL.frz_own, DL.x_brk, DL.x_cnt, DL.x_retm, DL.retm_own, DL.x_frz, DL.d_powc, DL.powR_t, Int.reducePow, DL.b_tuple, DL.b_tuple1, DL.b_list0, DL.b_list1, DL.b_listt, DL.b_lists, DL.dsl_lst0,
  DL.dsl_lst1, DL.dsl_tup, DL.b_all, DL.b_any, DL.cln_non, DL.cln_int, DL.cln_bl, DL.cln_str, DL.cln_lst, DL.cln_tup, DL.all_map_int, DL.d_catc, DL.d_tcat, DL.q_isi, DL.r_isi, DL.isiD_obj, DL.isiD_lst, DL.isiD_tup, DL.isiD_non, DL.isiD_int, DL.isiD_bl, DL.isiD_str, DL.q_lrg, DL.r_lrg, DL.r_lrg1, DL.r_lrg2, DL.qc_isi, DL.qc_lrg, Option.isSome_some, DL.asB_bl, DL.asI_int, DL.q_star, DL.r_star, DL.r_star1, DL.r_star2, DL.sq_lst, DL.sq_tup, DL.q_apps, DL.r_apps, DL.r_apps1, DL.q_dget, DL.r_dget, DL.q_glc, DL.qc_apps, DL.qc_dget, DL.qc_glc, DL.strong_map, DL.strong_map0, DL.b_intt, DL.b_intf, DL.q_ir3, DL.r_ir3a, DL.r_ir3b, DL.r_ir3c, DL.x_paro, DL.k_paro, DL.eo_nil, DL.eo_t, DL.eo_f, DL.k_eot, DL.k_eof, DL.k_eo2, DL.x_appd, DL.k_appd, DL.k_appd2, DL.so_nil, DL.so_t, DL.so_f, DL.k_so, DL.k_nx, DL.x_setm, DL.k_setm, DL.il_lst, DL.il_int, DL.il_str, DL.fl_int, DL.fl_str, DL.x_rett, DL.k_rett, DL.k_rett1, DL.tk_nil, DL.tk_d, DL.tk_wk, DL.tk_own, DL.k_tk, DL.plainA, DL.ownT, DL.q_sst, DL.r_sst, DL.qc_sst, DL.q_ienT, DL.r_ienT, DL.q_froz, DL.qc_froz, DL.r_fz, DL.fz_nil, DL.fz_cons, DL.fz_own, DL.W.fzO, DL.fl_bl, DL.fl_lst, DL.d_idxd, DL.ixd_some, DL.r_idxp2, DL.x_setd, DL.k_setd, DL.x_pard, DL.k_pard, DL.x_retd, DL.k_retd, DL.k_retd1, DL.q_putAt, DL.put_io1, DL.put_io2, DL.q_popAt, DL.pop_io, DL.x_dset, DL.k_dset, DL.q_dicGet, DL.dget_io, DL.x_daug, DL.daug_int, DL.k_daug, DL.x_dpop, DL.q_setTgI, DL.q_tisI, DL.x_rse, DL.k_rse, DL.x_tryc, DL.W_try, DL.nio_un, DL.nio_val, DL.nio_own, DL.nio_nio, DL.V.bind, DL.V.ok, DL.V.exn, m_law_pool, k_law_pool, m_law_draw, k_law_draw, m_law_values, k_law_values, m_law_due, k_law_due, m_law_told, k_law_told, m_law_right, k_law_right, m_Line_init, k_Line_init])
local macro_rules | `(tactic| walk_at "wk") => `(tactic| repeat (first
  | walk_at "dl"
  | rw [DL.atI_ints (by omega) (by omega)]
  | rw [DL.d_mod (by omega)]
  | rw [DL.d_mul (DL.mulOk_r (by omega))]
  | rw [DL.d_mul (DL.mulOk_l (by omega))]
  | rw [DL.d_fdiv (DL.divOk (by omega) (by omega))]
  | rw [if_pos (by omega)]
  | rw [decide_eq_true (by omega)]
  | rw [decide_eq_false (by omega)]))
def toldD : Option D → D
  | none => .str "fine"
  | some d => .lst [d]
theorem due {s : List Int} {r : Int} (hl : s.length ≤ 50000) : W (f_law_due.den [.lst (s.map .int), .int r]) fun a => ∃ o, LE s r o ∧ a = (toldD o, []) := by
  rw [e_law_due, run_eq rfl]
  walk_at "dl"
  cases hs : s with
  | nil =>
    subst hs
    simp only [List.map_nil, List.isEmpty_nil]
    walk_at "dl"
    exact ⟨_, .inl ⟨rfl, rfl⟩, rfl⟩
  | cons a t =>
    rw [← hs]
    have ne : s ≠ [] := by rw [hs]; simp
    have hl0 : 0 < s.length := by rw [hs]; simp
    rw [show (s.map D.int).isEmpty = false by rw [hs]; rfl]
    clear hs a t
    walk_at "dl"
    refine W_for (I := fun i env => (∀ j : Nat, 1 ≤ j → j < i + 1 → ¬ drp s j) ∧ ∃ (t : Sl) (_ : Nio t), env = [.val (.lst (s.map .int)), .val (.int r), t]) ⟨fun j h1 h2 => by omega, _, inferInstance, rfl⟩ ?_ ?_
    · rintro i x _ hx ⟨hd, t, ht, rfl⟩
      obtain ⟨v, hv, rfl⟩ : ∃ v, (rg 1 ((s.length : Int) - 1).toNat)[i]? = some v ∧ D.int v = x := by simpa using hx
      obtain ⟨hi, rfl⟩ := rg_get_of hv
      walk_at "dl"
      rw [atI_ints (by omega) (by omega)]
      walk_at "dl"
      rw [atI_ints (by omega) (by omega)]
      walk_at "dl"
      have e2 : (1 : Int) + (i : Int) = ((i + 1 : Nat) : Int) := by omega
      rw [e2]
      by_cases c : drp s (i + 1)
      · have c' : gI s ((i + 1 : Nat) : Int) < gI s (((i + 1 : Nat) : Int) - 1) := c
        rw [decide_eq_true c']
        walk_at "dl"
        exact ⟨_, .inr ⟨ne, .inl ⟨i + 1, by omega, by omega, c, hd, rfl⟩⟩, rfl⟩
      · have c' : ¬ gI s ((i + 1 : Nat) : Int) < gI s (((i + 1 : Nat) : Int) - 1) := c
        rw [decide_eq_false c']
        walk_at "dl"
        refine ⟨fun j h1 h2 => ?_, _, inferInstance, rfl⟩
        by_cases z : j = i + 1
        · subst z; exact c
        · exact hd j h1 (by omega)
    · rintro _ ⟨hd, t, ht, rfl⟩
      have hlen : ((rg 1 ((s.length : Int) - 1).toNat).map D.int).length = s.length - 1 := by rw [List.length_map, rg_len]; omega
      rw [hlen] at hd
      walk_at "dl"
      rw [atI_ints (by omega) (by omega), gI_last (i := s.length - 1) (by omega)]
      walk_at "dl"
      rw [atI_ints (by omega) (by omega)]
      walk_at "dl"
      have hd' : ∀ j : Nat, 1 ≤ j → j < s.length → ¬ drp s j := fun j h1 h2 => hd j h1 (by omega)
      by_cases c : gI s ((s.length - 1 : Nat) : Int) > gI s 0 + r
      · rw [decide_eq_true c]
        walk_at "dl"
        exact ⟨_, .inr ⟨ne, .inr ⟨hd', .inl ⟨c, rfl⟩⟩⟩, by simp [toldD]⟩
      · rw [decide_eq_false c]
        walk_at "dl"
        exact ⟨_, .inr ⟨ne, .inr ⟨hd', .inr ⟨c, rfl⟩⟩⟩, rfl⟩
theorem told {s : List Int} {r : Int} (hl : s.length ≤ 50000) : W (f_law_told.den [.lst (s.map .int), .int r]) fun a => ∃ o, LE s r o ∧ a = (toldD o, []) := by
  rw [e_law_told, run_eq rfl]
  walk_at "dl"
  refine (line_initV hl).mono ?_ ?_
  · rintro _ ⟨h, rfl⟩
    walk_at "dl"
    exact ⟨_, h, rfl⟩
  · rintro c d ⟨rfl, h⟩
    rw [tryH_all (r := .lst [d]) (by omega) rfl]
    walk_at "dl"
    exact ⟨_, h, rfl⟩
theorem values {p : D} {B many : Int} (h : PoolOk p B) (hB : B ≤ 10 ^ 11) (hm : 0 < many) (hm' : many ≤ 100) : W (f_law_values.den [p, .int many]) fun x => ∃ (l : List Int) (more : Int) (p' : D), x = (.tup [.lst (l.map .int), .int more], [p']) ∧ PoolOk p' (B + 300) ∧ Ok l more ∧ l.length ≤ many ∧ more ≤ 2000 ∧ (∀ v ∈ l, -20 ≤ v ∧ v ≤ 1000) := by
  rw [e_law_values, run_eq rfl]
  walk_at "dl"
  refine (draw h (by omega) (by omega) (by omega)).mono ?_
  rintro _ ⟨v, p1, rfl, hv, hv', hp1⟩
  walk_at "dl"
  refine (draw hp1 (by omega) (by omega) (by omega)).mono ?_
  rintro _ ⟨n, p2, rfl, hn, hn', hp2⟩
  walk_at "dl"
  rw [if_pos (by omega)]
  walk_at "dl"
  refine W_for (I := fun i env => ∃ (l : List Int) (p' : D) (t : Sl) (_ : Nio t), env = [.io 1 p', .val (.int many), .own 1 (.lst (l.map .int)), t, .un] ∧ PoolOk p' (B + 2 + 2 * i) ∧ l.length = i + 1 ∧ (∀ i : Nat, i + 1 < l.length → gI l (i : Int) ≤ gI l ((i + 1 : Nat) : Int)) ∧ (∀ v ∈ l, -20 ≤ v ∧ v ≤ 20 + 8 * (i : Int)) ∧ i ≤ n) ?_ ?_ ?_
  · refine ⟨[v - 20], p2, .un, inferInstance, rfl, hp2.mono (by omega), rfl, ?_, ?_, by omega⟩
    · intro i hi; simp at hi
    · simp; omega
  · rintro i x _ hx ⟨l, p', t, ht, rfl, hp', hl, hu, hb, hi⟩
    walk_at "dl"
    have e : atI (l.map D.int) (-1) = some (.int (gI l (i : Int))) := by
      rw [atI_ints (by omega) (by omega), gI_last (i := i) (by omega)]
    rw [e]
    walk_at "dl"
    refine (draw hp' (by omega) (by omega) (by omega)).mono ?_
    rintro _ ⟨a, p1, rfl, ha, ha', hp1⟩
    walk_at "dl"
    refine (draw hp1 (by omega) (by omega) (by omega)).mono ?_
    rintro _ ⟨b, p2, rfl, hb1, hb', hp2⟩
    walk_at "dl"
    obtain ⟨y, e, hy⟩ := pickI4 (x0 := 0) (x1 := 0) (x2 := 1) (x3 := a) hb1 hb'
    rw [e]
    walk_at "dl"
    have hi2 := lt_of_get hx
    simp only [List.length_map, rg_len] at hi2
    rw [if_pos (by omega), ap1]
    walk_at "dl"
    have hm : gI l (i : Int) ∈ l := by rw [gI_nat (by omega)]; simp
    have hb0 := hb _ hm
    refine ⟨_, _, _, inferInstance, rfl, hp2.mono (by omega), by simp; omega, up_app hl hu (by omega), ?_, by omega⟩
    intro v hv
    rcases List.mem_append.mp hv with hv | hv
    · have := hb v hv; omega
    · simp at hv; omega
  · rintro _ ⟨l, p', t, ht, rfl, hp', hl, hu, hb, hi⟩
    simp only [List.length_map, rg_len] at hp' hl hb hi
    walk_at "dl"
    refine (draw hp' (by omega) (by omega) (by omega)).mono ?_
    rintro _ ⟨a, p1, rfl, ha, ha', hp1⟩
    walk_at "dl"
    refine (draw hp1 (by omega) (by omega) (by omega)).mono ?_
    rintro _ ⟨b, p2, rfl, hb1, hb', hp2⟩
    walk_at "dl"
    refine (draw hp2 (by omega) (by omega) (by omega)).mono ?_
    rintro _ ⟨c, p3, rfl, hc1, hc', hp3⟩
    walk_at "dl"
    obtain ⟨y, e, hy⟩ := pickI4 (x0 := 0) (x1 := 1) (x2 := a) (x3 := b) hc1 hc'
    rw [e]
    walk_at "dl"
    rw [atI_ints (by omega) (by omega), gI_last (i := n.toNat) (by omega)]
    walk_at "dl"
    rw [atI_ints (by omega) (by omega)]
    walk_at "dl"
    have hm1 := hb (gI l (n.toNat : Int)) (by rw [gI_nat (by omega)]; simp)
    have hm2 := hb (gI l 0) (by rw [show gI l 0 = gI l ((0 : Nat) : Int) from rfl, gI_nat (by omega)]; simp)
    refine ⟨l, _, _, rfl, hp3.mono (by omega), ⟨by omega, hu, ?_⟩, by omega, by omega, ?_⟩
    · rw [show l.length - 1 = n.toNat by omega]; omega
    · intro v hv
      have := hb v hv
      omega
/-- the value of a line at a place -/
theorem self {d : D} (h : cln false 8 d = true) : dEq d d = .ok true := by
  rw [dEq_cln h h]; simp
theorem told_is {s : List Int} {r : Int} {o : Option D} (hl : s.length ≤ 50000) (h : LE s r o) : f_law_told.den [.lst (s.map .int), .int r] = .ok (toldD o, []) := by
  obtain ⟨_, e, o', ho, rfl⟩ := told (s := s) (r := r) hl
  rw [e, h.uniq ho]
theorem toldEq {s : List Int} {r : Int} {o : Option D} (h : LE s r o) : dEq (toldD o) (toldD o) = .ok true := by
  have : o = none ∨ o = some .non ∨ ∃ i, o = some (.int i) := by
    rcases h with ⟨_, e⟩ | ⟨n, ⟨k, _, _, _, _, e⟩ | ⟨b, ⟨_, e⟩ | ⟨g, e⟩⟩⟩
    · exact .inr (.inl e)
    · exact .inr (.inr ⟨_, e⟩)
    · exact .inr (.inr ⟨_, e⟩)
    · exact .inl e
  rcases this with rfl | rfl | ⟨i, rfl⟩
  · exact self (by rw [show toldD none = .str "fine" from rfl, cln_str]; decide +kernel)
  · exact self (by simp [toldD, cln, cln_non])
  · exact self (by simp [toldD, cln, cln_int])
theorem right {p : D} {B : Int} (h : PoolOk p B) (hB : B ≤ 10 ^ 10) : W (f_law_right.den [p]) fun x => ∃ p', x = (.bl true, [p']) ∧ PoolOk p' (B + 400) := by
  rw [e_law_right, run_eq rfl]
  walk_at "dl"
  refine (values (many := 24) h (by omega) (by omega) (by omega)).mono ?_
  rintro _ ⟨l, more, p1, rfl, hp1, ok, hl, hmore, hb⟩
  walk_at "dl"
  have l0 := ok.ne
  refine (draw hp1 (by omega) (by omega) (by omega)).mono ?_
  rintro _ ⟨n, p2, rfl, n0, n1, hp2⟩
  walk_at "dl"
  rw [if_pos (by omega)]
  walk_at "dl"
  refine W_for (I := fun i env => ∃ (l' : List Int) (p' : D) (t3 t4 : Sl) (_ : Nio t3) (_ : Nio t4), env = [.io 1 p', .val (.int more), .own 1 (.lst (l'.map .int)), t3, t4, .un] ∧ PoolOk p' (B + 301 + 4 * i) ∧ l'.length = l.length ∧ i ≤ n) ?_ ?_ ?_
  · exact ⟨l, p2, _, _, inferInstance, inferInstance, rfl, hp2.mono (by omega), rfl, by omega⟩
  · rintro i x _ hx ⟨l', p', t3, t4, n3, n4, rfl, hp', hl', hi⟩
    have hi2 := lt_of_get hx
    simp only [List.length_map, rg_len] at hi2
    walk_at "dl"
    refine (draw hp' (by omega) (by omega) (by omega)).mono ?_
    rintro _ ⟨sp, p1, rfl, sp0, sp1, hp1⟩
    walk_at "dl"
    rw [atI_ints (by omega) (by omega)]
    walk_at "dl"
    refine (draw hp1 (by omega) (by omega) (by omega)).mono ?_
    rintro _ ⟨a, p2, rfl, ha, ha', hp2⟩
    walk_at "dl"
    refine (draw hp2 (by omega) (by omega) (by omega)).mono ?_
    rintro _ ⟨b, p3, rfl, hb1, hb', hp3⟩
    walk_at "dl"
    refine (draw hp3 (by omega) (by omega) (by omega)).mono ?_
    rintro _ ⟨c, p4, rfl, hc1, hc', hp4⟩
    walk_at "dl"
    obtain ⟨y, e, hy⟩ := pickI4 (x0 := 1) (x1 := -1) (x2 := a) (x3 := 0 - b) hc1 hc'
    rw [e]
    walk_at "dl"
    rw [show ixN l'.length sp = some sp.toNat by unfold ixN; rw [if_pos (by omega), if_pos (by omega)]]
    walk_at "dl"
    exact ⟨l'.set sp.toNat (gI l' sp + y), p4, .val (.int sp), .val x, inferInstance, inferInstance, by rw [List.map_set], hp4.mono (by push_cast; omega), by rw [List.length_set]; exact hl', by omega⟩
  · rintro _ ⟨l', p', t3, t4, n3, n4, rfl, hp', hl', hi⟩
    simp only [List.length_map, rg_len] at hp' hi
    walk_at "dl"
    rw [atI_ints (by omega) (by omega)]
    walk_at "dl"
    rw [atI_ints (by omega) (by omega)]
    walk_at "dl"
    rw [atI_ints (by omega) (by omega)]
    walk_at "dl"
    rw [atI_ints (by omega) (by omega)]
    walk_at "dl"
    refine (draw hp' (by omega) (by omega) (by omega)).mono ?_
    rintro _ ⟨c, p2, rfl, hc1, hc', hp2⟩
    walk_at "dl"
    obtain ⟨y, e, hy⟩ := pickI5 (x0 := more) (x1 := gI l' (-1) - gI l' 0) (x2 := gI l' (-1) - gI l' 0 - 1) (x3 := -1) (x4 := -10000000000000000000000000000000) hc1 hc'
    rw [e]
    walk_at "dl"
    refine (told (s := l') (r := y) (by omega)).mono ?_
    rintro _ ⟨o, ho, rfl⟩
    walk_at "dl"
    refine (due (s := l') (r := y) (by omega)).mono ?_
    rintro _ ⟨o', ho', rfl⟩
    obtain rfl := ho.uniq ho'
    walk_at "dl"
    rw [toldEq ho]
    walk_at "dl"
    rw [ints_self]
    walk_at "dl"
    try exact ⟨p2, rfl, hp2.mono (by omega)⟩
theorem law_den (ns : List Int) (h : ns.length ≤ 63) : f_law.den [.nd .scr (ns.map .int)] = .ok (.bl true, []) := by
  apply W.eq
  rw [e_law, run_eq rfl]
  walk_at "dl"
  generalize hn : (if (if (ns.length : Int) < 10 then (ns.length : Int) else 10) > 1 then if (ns.length : Int) < 10 then (ns.length : Int) else 10 else 1) = n
  have hn1 : 0 ≤ n ∧ n ≤ 10 := by omega
  rw [if_pos (by omega)]
  walk_at "dl"
  refine W_for (I := fun _ env => ∃ (t1 t2 t3 : Sl) (_ : Nio t1) (_ : Nio t2) (_ : Nio t3), env = [.val (.nd .scr (ns.map .int)), t1, t2, t3, .un]) ?_ ?_ ?_
  · exact ⟨_, _, _, inferInstance, inferInstance, inferInstance, rfl⟩
  · rintro i x _ hx ⟨t1, t2, t3, h1, h2, h3, rfl⟩
    obtain ⟨v, hv, rfl⟩ : ∃ v, (rg 0 n.toNat)[i]? = some v ∧ D.int v = x := by simpa using hx
    obtain ⟨hi, rfl⟩ := rg_get_of hv
    walk_at "dl"
    refine (pool (by omega) (by omega)).mono ?_
    rintro _ ⟨p, rfl, hp⟩
    obtain ⟨q0, q1, q2, rfl, _⟩ := id hp
    walk_at "dl"
    refine W_for (I := fun i env => ∃ (p : D) (t1 t3 : Sl) (_ : Nio t1) (_ : Nio t3), env = [.val (.nd .scr (ns.map .int)), t1, .own 1 p, t3, .un] ∧ PoolOk p (1000 * i)) ?_ ?_ ?_
    · exact ⟨_, _, _, inferInstance, inferInstance, rfl, hp.mono (by omega)⟩
    · rintro j x _ hx ⟨p, t1, t3, h1, h3, rfl, hp⟩
      have hj := lt_of_get hx
      simp only [List.length_map, rg_len] at hj
      walk_at "dl"
      refine (right hp (by omega)).mono ?_
      rintro _ ⟨p', rfl, hp'⟩
      walk_at "dl"
      exact ⟨_, _, _, inferInstance, inferInstance, rfl, hp'.mono (by omega)⟩
    · rintro _ ⟨p, t1, t3, h1, h3, rfl, hp⟩
      walk_at "dl"
      exact ⟨_, _, _, inferInstance, inferInstance, inferInstance, rfl⟩
  · rintro _ ⟨t1, t2, t3, h1, h2, h3, rfl⟩
    have a1 := told_is (s := []) (r := 5) (by decide) (.inl ⟨rfl, rfl⟩)
    have a2 := told_is (s := [1]) (r := -1) (o := some (.int 1)) (by decide) (.inr ⟨by simp, .inr ⟨fun j h1 h2 => absurd h2 (by simp; omega), .inl ⟨by decide +kernel, rfl⟩⟩⟩)
    have a3 := told_is (s := [1]) (r := 0) (o := none) (by decide) (.inr ⟨by simp, .inr ⟨fun j h1 h2 => absurd h2 (by simp; omega), .inr ⟨by decide +kernel, rfl⟩⟩⟩)
    have a4 := told_is (s := [0, 2, 1]) (r := 0) (o := some (.int 2)) (by decide) (.inr ⟨by simp, .inl ⟨2, by omega, by decide, by unfold drp; decide +kernel, fun j h1 h2 => (by obtain rfl : j = 1 := (by omega); unfold drp; decide +kernel), rfl⟩⟩)
    have a5 := told_is (s := [0, 3]) (r := 2) (o := some (.int 2)) (by decide) (.inr ⟨by simp, .inr ⟨fun j h1 h2 => (by obtain rfl : j = 1 := (by simp at h2; omega); unfold drp; decide +kernel), .inl ⟨by decide +kernel, rfl⟩⟩⟩)
    simp only [List.map_cons, List.map_nil, toldD] at a1 a2 a3 a4 a5
    walk_at "dl"
    rw [a1]
    walk_at "dl"
    rw [a2]
    walk_at "dl"
    rw [a3]
    walk_at "dl"
    rw [a4]
    walk_at "dl"
    rw [a5]
    walk_at "dl"
    rw [self (by simp [cln, cln_int, cln_non, cln_str]; decide +kernel)]
    walk_at "dl"
end K02

-- part K02e
set_option Elab.async false
set_option linter.all false
set_option maxRecDepth 100000
set_option maxHeartbeats 0
open PySem PySem.W PySem.Calls PyProof.Rows
theorem PySem.Challenge.cw_fitsizes_k02_errors_of_lines_holds : PySem.Challenge.rw_fitsizes_k02_errors_of_lines.Holds := by
  w_on; o_law
  refine HandSHeadRun.head_any (r := OpenLaw.row PySem.Challenge.rw_fitsizes_k02_errors_of_lines) (q := view (OpenLaw.row PySem.Challenge.rw_fitsizes_k02_errors_of_lines).prog [31]) (H := K02.hk) (ob := K02.ob) (M := 4000)
    (loose := K02.loose) (d := HandSHeadRun.topDef (OpenLaw.row PySem.Challenge.rw_fitsizes_k02_errors_of_lines).prog 31) (kwd := []) (fun s => DL.watchT_eq s)
    (by kernel_rfl) (fun s => by kernel_rfl) K02.top_run (by kernel_rfl) (by kernel_rfl) (by kernel_rfl) (by rfl) (by first | assumption | decide +kernel) (by decide +kernel) ⟨rfl, rfl, rfl, rfl, rfl, by decide +kernel⟩ ?hw ?hc
  case hw => w_witness2
  case hc =>
    refine L2.walk_ofE (l := PySem.Challenge.rw_fitsizes_k02_errors_of_lines) (n := 63) (k := 16) (x := "script") (CX := L2.CX0) rfl (by decide) (by kernel_rfl) ⟨rfl, by decide, by decide⟩ ?F (fun _ _ _ _ z => z)
    intro w mg fa h ⟨K, KX, c, ds, tb⟩ G hmg
    have hn : mg ("law" : PySem.Str) = some (.ref fa) := by
      have e : (HandSHeadRun.topDef (OpenLaw.row PySem.Challenge.rw_fitsizes_k02_errors_of_lines).prog 31).name = ("law" : PySem.Str) := by kernel_rfl
      exact e ▸ hmg
    obtain ⟨fd, hb, hF⟩ := K02.facts (P := (PySem.Challenge.rw_fitsizes_k02_errors_of_lines).prog) (w := w) KX G hn c ds tb rfl (by kernel_rfl)
    exact ⟨K, fd, fun vs H Q _ => DL.Spec (K02.mo K) K02.f_law vs H Q fun _ _ _ => False, KX, hb, fun H a ns hl _ hS => DL.law_end rfl rfl K02.law_den H a ns hl hS, fun base a b => DL.fn_quiet (hF base a b)⟩
