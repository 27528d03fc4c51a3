import PyProof.Rows.All
import Wide.All
import OpenK.AllK
import Wide.FinOn
import HandS.ForMost
import HandS.Wide
import HandS.SortInts
import HandS.SortRule
import HandS.TupAny
import HandS.Property
import HandS.IsInst
import HandS.Codes
import HandS.Defaults
import HandS.MakeKwOnly
import HandS.Iter
import PyProof.LongRange
import HandS.Conv
import HandS.Star
import HandS.Style
import HandS.Exc
import KE.KStateDown
import HandS.Head0
import HandS.Head1
import HandS.Head2
import HandS.HeadEnd
import HandS.HeadHook1
import HandS.HeadHook2
import HandS.HeadHook3
import PySem.Challenge.RW_fitsizes_k01_lines_made
-- part DLa
set_option Elab.async false
set_option linter.all false
set_option maxRecDepth 100000
/-! DL, part a: plain data, how the abstract heap bears it, what a frame owns. -/
namespace DL
open PySem PySem.Spec PyProof.Rows L2

/-- kinds of nodes -/
inductive Kd where
  | lst | tup | scr | obj (c : Nat) (fl : List Str) | dic (ks : List Str)
  deriving DecidableEq
/-- plain data -/
inductive D where
  | non | bl (b : Bool) | int (i : Int) | str (x : Str) | nd (k : Kd) (ds : List D)
abbrev D.lst (ds : List D) : D := .nd .lst ds
abbrev D.tup (ds : List D) : D := .nd .tup ds

/-- what a row's world is to us: the written part, where the classes stand -/
structure Mo where
  K : PySem.W.Frag
  cl : Nat → Option Addr

def Fa2 (P : D → V → Prop) : List D → List V → Prop
  | [], vs => vs = []
  | d :: ds, vs => ∃ v vs', vs = v :: vs' ∧ P d v ∧ Fa2 P ds vs'
def Fa3 (P : D → V → List Addr → Prop) : List D → List V → List Addr → Prop
  | [], vs, fp => vs = [] ∧ fp = []
  | d :: ds, vs, fp => ∃ v vs' f1 f2, vs = v :: vs' ∧ fp = f1 ++ f2 ∧ P d v f1 ∧ Fa3 P ds vs' f2

section
variable (M : Mo)
/-- the node at a is read -/
def Rds (H : Hp) (a : Addr) : Kd → List V → Prop
  | .lst, vs => H a = some (.lst vs)
  | .tup, vs => H a = some (.tup vs)
  | .scr, vs => SqL M.K H a vs
  | .obj c fl, vs => ∃ C dx fs, M.cl c = some C ∧ H a = some (.ins C dx fs) ∧ fs.map (·.1) = fl ∧ fs.map (·.2) = vs
  | .dic ks, vs => ∃ kvs : List (Key × V), H a = some (.dK kvs) ∧ kvs.map (·.1) = ks.map Sum.inr ∧ kvs.map (·.2) = vs
/-- the node at a is one's own; ex: what else belongs to it -/
def OwA (H : Hp) (a : Addr) : Kd → List V → List Addr → Prop
  | .lst, vs, ex => H a = some (.lst vs) ∧ ex = []
  | .tup, vs, ex => H a = some (.tup vs) ∧ ex = []
  | .scr, _, _ => False
  | .obj c fl, vs, ex => ∃ C dx fs, M.cl c = some C ∧ H a = some (.ins C dx fs) ∧ H dx = some (.own a) ∧ fs.map (·.1) = fl ∧ fs.map (·.2) = vs ∧ ex = [dx]
  | .dic ks, vs, ex => ∃ kvs : List (Key × V), H a = some (.dK kvs) ∧ kvs.map (·.1) = ks.map Sum.inr ∧ kvs.map (·.2) = vs ∧ ex = []
mutual
/-- v is d, by what stands still -/
def Rep (F : Hp) : D → V → Prop
  | .non, v => v = .non
  | .bl b, v => v = .bl b
  | .int i, v => v = .int i
  | .str x, v => v = .str x
  | .nd k ds, v => ∃ a vs, v = .ref a ∧ Rds M F a k vs ∧ Reps F ds vs
def Reps (F : Hp) : List D → List V → Prop
  | [], vs => vs = []
  | d :: ds, vs => ∃ v vs', vs = v :: vs' ∧ Rep F d v ∧ Reps F ds vs'
end
/-- v is d; the upper k levels may still be written by their owner -/
def RW (F H : Hp) : Nat → D → V → Prop
  | 0, d, v => Rep M F d v
  | k + 1, d, v => match d with
    | .nd kd ds => ∃ a vs, v = .ref a ∧ Rds M H a kd vs ∧ Fa2 (RW F H k) ds vs
    | d => Rep M F d v
/-- v is d, the upper k levels are owned, at the addresses fp -/
def Own (F H : Hp) : Nat → D → V → List Addr → Prop
  | 0, d, v, fp => Rep M F d v ∧ fp = []
  | k + 1, d, v, fp => match d with
    | .nd kd ds => ∃ a vs ex fps, v = .ref a ∧ OwA M H a kd vs ex ∧ Fa3 (Own F H k) ds vs fps ∧ fp = a :: (ex ++ fps)
    | d => Rep M F d v ∧ fp = []
end

section
variable {M : Mo} {F F' H H' : Hp}
theorem Fa2.mono {P Q : D → V → Prop} : ∀ {ds : List D} {vs : List V}, (∀ d ∈ ds, ∀ v, P d v → Q d v) → Fa2 P ds vs → Fa2 Q ds vs
  | [], _, _, h => h
  | d :: ds, _, f, h => by
    obtain ⟨v, vs', rfl, a, b⟩ := h
    exact ⟨v, vs', rfl, f d (by simp) v a, b.mono fun e he => f e (by simp [he])⟩
theorem Fa3.mono {P Q : D → V → List Addr → Prop} : ∀ {ds : List D} {vs : List V} {fp : List Addr}, (∀ d ∈ ds, ∀ v f, (∀ b ∈ f, b ∈ fp) → P d v f → Q d v f) → Fa3 P ds vs fp → Fa3 Q ds vs fp
  | [], _, _, _, h => h
  | d :: ds, _, _, f, h => by
    obtain ⟨v, vs', f1, f2, rfl, rfl, a, b⟩ := h
    exact ⟨v, vs', f1, f2, rfl, rfl, f d (by simp) v f1 (fun b hb => by simp [hb]) a, b.mono fun e he v g hg => f e (by simp [he]) v g fun b hb => by simp [hg b hb]⟩
theorem Reps.fa : ∀ {ds : List D} {vs : List V}, Reps M F ds vs ↔ Fa2 (Rep M F) ds vs
  | [], _ => by simp [Reps, Fa2]
  | d :: ds, vs => by simp only [Reps, Fa2, Reps.fa (ds := ds)]
theorem Fa2.length {P : D → V → Prop} : ∀ {ds : List D} {vs : List V}, Fa2 P ds vs → vs.length = ds.length
  | [], _, h => by rw [show _ = [] from h]; rfl
  | d :: ds, _, h => by
    obtain ⟨v, vs', rfl, a, b⟩ := h
    simp [b.length]
theorem Fa3.length {P : D → V → List Addr → Prop} : ∀ {ds : List D} {vs : List V} {fp : List Addr}, Fa3 P ds vs fp → vs.length = ds.length
  | [], _, _, h => by rw [h.1]; rfl
  | d :: ds, _, _, h => by
    obtain ⟨v, vs', _, _, rfl, _, a, b⟩ := h
    simp [b.length]
theorem Fa2.get {P : D → V → Prop} : ∀ {ds : List D} {vs : List V} {i : Nat} {d : D}, Fa2 P ds vs → ds[i]? = some d → ∃ v, vs[i]? = some v ∧ P d v
  | [], _, _, _, _, e => by simp at e
  | d :: ds, _, 0, x, h, e => by
    obtain ⟨v, vs', rfl, a, b⟩ := h
    simp at e
    subst e
    exact ⟨v, rfl, a⟩
  | d :: ds, _, i + 1, x, h, e => by
    obtain ⟨v, vs', rfl, a, b⟩ := h
    obtain ⟨w, e1, e2⟩ := b.get (i := i) (by simpa using e)
    exact ⟨w, by simpa using e1, e2⟩
theorem Fa2.append {P : D → V → Prop} : ∀ {ds es : List D} {vs ws : List V}, Fa2 P ds vs → Fa2 P es ws → Fa2 P (ds ++ es) (vs ++ ws)
  | [], _, _, _, h, k => by rw [show _ = [] from h]; exact k
  | d :: ds, _, _, _, h, k => by
    obtain ⟨v, vs', rfl, a, b⟩ := h
    exact ⟨v, vs' ++ _, rfl, a, b.append k⟩
theorem Fa3.append {P : D → V → List Addr → Prop} : ∀ {ds es : List D} {vs ws : List V} {f g : List Addr}, Fa3 P ds vs f → Fa3 P es ws g → Fa3 P (ds ++ es) (vs ++ ws) (f ++ g)
  | [], _, _, _, _, _, h, k => by obtain ⟨rfl, rfl⟩ := h; exact k
  | d :: ds, _, _, _, _, _, h, k => by
    obtain ⟨v, vs', f1, f2, rfl, rfl, a, b⟩ := h
    exact ⟨v, vs' ++ _, f1, f2 ++ _, rfl, by simp, a, b.append k⟩
theorem Fa2.set {P : D → V → Prop} {d : D} {v : V} (hp : P d v) : ∀ {ds : List D} {vs : List V} (i : Nat), Fa2 P ds vs → Fa2 P (ds.set i d) (vs.set i v)
  | [], _, _, h => by rw [show _ = [] from h]; exact rfl
  | e :: ds, _, 0, h => by
    obtain ⟨w, vs', rfl, a, b⟩ := h
    exact ⟨v, vs', rfl, hp, b⟩
  | e :: ds, _, i + 1, h => by
    obtain ⟨w, vs', rfl, a, b⟩ := h
    exact ⟨w, vs'.set i v, rfl, a, b.set hp i⟩
theorem Fa2.drop {P : D → V → Prop} : ∀ {ds : List D} {vs : List V} (i : Nat), Fa2 P ds vs → Fa2 P (ds.drop i) (vs.drop i)
  | _, _, 0, h => by simpa using h
  | [], _, i + 1, h => by rw [show _ = [] from h]; exact rfl
  | e :: ds, _, i + 1, h => by
    obtain ⟨w, vs', rfl, a, b⟩ := h
    simpa using b.drop i
theorem Fa2.take {P : D → V → Prop} : ∀ {ds : List D} {vs : List V} (i : Nat), Fa2 P ds vs → Fa2 P (ds.take i) (vs.take i)
  | _, _, 0, h => by simp [Fa2]
  | [], _, i + 1, h => by rw [show _ = [] from h]; exact rfl
  | e :: ds, _, i + 1, h => by
    obtain ⟨w, vs', rfl, a, b⟩ := h
    exact ⟨w, vs'.take i, by simp, a, b.take i⟩
theorem Rds.mono {a : Addr} {vs : List V} (s : Same F F') : ∀ {k : Kd}, Rds M F a k vs → Rds M F' a k vs
  | .lst, h => s _ _ h
  | .tup, h => s _ _ h
  | .scr, h => s.seq h
  | .obj c fl, ⟨C, dx, fs, h1, h2, h3⟩ => ⟨C, dx, fs, h1, s _ _ h2, h3⟩
  | .dic ks, ⟨kvs, h1, h2⟩ => ⟨kvs, s _ _ h1, h2⟩
mutual
theorem Rep.mono (s : Same F F') : ∀ {d : D} {v : V}, Rep M F d v → Rep M F' d v
  | .non, _, h => by simpa [Rep] using h
  | .bl _, _, h => by simpa [Rep] using h
  | .int _, _, h => by simpa [Rep] using h
  | .str _, _, h => by simpa [Rep] using h
  | .nd k ds, _, h => by
    simp only [Rep] at h ⊢
    obtain ⟨a, vs, e, r, q⟩ := h
    exact ⟨a, vs, e, r.mono s, Reps.mono s q⟩
theorem Reps.mono (s : Same F F') : ∀ {ds : List D} {vs : List V}, Reps M F ds vs → Reps M F' ds vs
  | [], _, h => by simpa [Reps] using h
  | d :: ds, _, h => by
    simp only [Reps] at h ⊢
    obtain ⟨v, vs', e, r, q⟩ := h
    exact ⟨v, vs', e, Rep.mono s r, Reps.mono s q⟩
end
theorem Rep.nd_iff {k : Kd} {ds : List D} {v : V} : Rep M F (.nd k ds) v ↔ ∃ a vs, v = .ref a ∧ Rds M F a k vs ∧ Fa2 (Rep M F) ds vs := by
  simp only [Rep, Reps.fa]
theorem RW.mono (s : Same F F') (t : Same H H') : ∀ {k : Nat} {d : D} {v : V}, RW M F H k d v → RW M F' H' k d v
  | 0, _, _, h => Rep.mono s h
  | k + 1, d, v, h => by
    cases d with
    | nd kd ds =>
      obtain ⟨a, vs, e, r, q⟩ := h
      exact ⟨a, vs, e, r.mono t, q.mono fun d _ v x => RW.mono s t x⟩
    | _ => exact Rep.mono s h
/-- what stands still is read so -/
theorem RW.of (s : Same F H) : ∀ {k : Nat} {d : D} {v : V}, Rep M F d v → RW M F H k d v
  | 0, _, _, h => h
  | k + 1, d, v, h => by
    cases d with
    | nd kd ds =>
      obtain ⟨a, vs, e, r, q⟩ := Rep.nd_iff.mp h
      exact ⟨a, vs, e, r.mono s, q.mono fun d _ v x => RW.of s x⟩
    | _ => exact h
/-- a node that is read, by its parts -/
theorem RW.node (s : Same F H) {k : Nat} {kd : Kd} {ds : List D} {v : V} (h : RW M F H k (.nd kd ds) v) : ∃ a vs, v = .ref a ∧ Rds M H a kd vs ∧ Fa2 (RW M F H (k - 1)) ds vs := by
  cases k with
  | zero =>
    obtain ⟨a, vs, e, r, q⟩ := Rep.nd_iff.mp h
    exact ⟨a, vs, e, r.mono s, q⟩
  | succ k => exact h
theorem RW.scalar {k : Nat} {d : D} {v : V} (h : RW M F H k d v) (n : ∀ kd ds, d ≠ .nd kd ds) : Rep M F d v := by
  cases k with
  | zero => exact h
  | succ k =>
    cases d with
    | nd kd ds => exact absurd rfl (n kd ds)
    | _ => exact h
theorem RW.int {k : Nat} {i : Int} {v : V} (h : RW M F H k (.int i) v) : v = .int i := by
  simpa [Rep] using h.scalar (by simp)
theorem RW.bl {k : Nat} {b : Bool} {v : V} (h : RW M F H k (.bl b) v) : v = .bl b := by
  simpa [Rep] using h.scalar (by simp)
theorem RW.str {k : Nat} {x : Str} {v : V} (h : RW M F H k (.str x) v) : v = .str x := by
  simpa [Rep] using h.scalar (by simp)
theorem RW.non {k : Nat} {v : V} (h : RW M F H k .non v) : v = .non := by
  simpa [Rep] using h.scalar (by simp)
theorem OwA.rds {a : Addr} {vs : List V} {ex : List Addr} : ∀ {k : Kd}, OwA M H a k vs ex → Rds M H a k vs
  | .lst, h => h.1
  | .tup, h => h.1
  | .scr, h => h.elim
  | .obj c fl, ⟨C, dx, fs, h1, h2, _, h4, h5, _⟩ => ⟨C, dx, fs, h1, h2, h4, h5⟩
  | .dic ks, ⟨kvs, h1, h2, h3, _⟩ => ⟨kvs, h1, h2, h3⟩
theorem OwA.mono {a : Addr} {vs : List V} {ex : List Addr} (s : ∀ b ∈ a :: ex, H' b = H b) : ∀ {k : Kd}, OwA M H a k vs ex → OwA M H' a k vs ex
  | .lst, h => ⟨by rw [s a (by simp)]; exact h.1, h.2⟩
  | .tup, h => ⟨by rw [s a (by simp)]; exact h.1, h.2⟩
  | .scr, h => h.elim
  | .obj c fl, ⟨C, dx, fs, h1, h2, h3, h4, h5, h6⟩ => ⟨C, dx, fs, h1, by rw [s a (by simp)]; exact h2, by rw [s dx (by simp [h6])]; exact h3, h4, h5, h6⟩
  | .dic ks, ⟨kvs, h1, h2⟩ => ⟨kvs, by rw [s a (by simp)]; exact h1, h2⟩
theorem OwA.there {a : Addr} {vs : List V} {ex : List Addr} {k : Kd} (h : OwA M H a k vs ex) : ∀ b ∈ a :: ex, H b ≠ none := by
  intro b hb
  cases k with
  | lst =>
    obtain ⟨h, e⟩ := h
    subst e
    simp at hb; subst hb; rw [h]; simp
  | tup =>
    obtain ⟨h, e⟩ := h
    subst e
    simp at hb; subst hb; rw [h]; simp
  | scr => exact h.elim
  | obj c fl =>
    obtain ⟨C, dx, fs, h1, h2, h3, h4, h5, e⟩ := h
    subst e
    simp at hb
    rcases hb with rfl | rfl
    · rw [h2]; simp
    · rw [h3]; simp
  | dic ks =>
    obtain ⟨kvs, h1, h2, h3, e⟩ := h
    subst e
    simp at hb; subst hb; rw [h1]; simp
theorem Fa3.fa2 {P : D → V → List Addr → Prop} {Q : D → V → Prop} : ∀ {ds : List D} {vs : List V} {fp : List Addr}, (∀ d ∈ ds, ∀ v f, P d v f → Q d v) → Fa3 P ds vs fp → Fa2 Q ds vs
  | [], _, _, _, h => h.1
  | d :: ds, _, _, f, h => by
    obtain ⟨v, vs', f1, f2, rfl, rfl, a, b⟩ := h
    exact ⟨v, vs', rfl, f d (by simp) v f1 a, b.fa2 fun e he => f e (by simp [he])⟩
theorem Own.rw : ∀ {k : Nat} {d : D} {v : V} {fp : List Addr}, Own M F H k d v fp → RW M F H k d v
  | 0, _, _, _, h => h.1
  | k + 1, d, v, fp, h => by
    cases d with
    | nd kd ds =>
      obtain ⟨a, vs, ex, fps, e, o, q, _⟩ := h
      exact ⟨a, vs, e, o.rds, q.fa2 fun d _ v f x => Own.rw x⟩
    | _ => exact h.1
theorem Own.mono (s : Same F F') : ∀ {k : Nat} {d : D} {v : V} {fp : List Addr}, (∀ b ∈ fp, H' b = H b) → Own M F H k d v fp → Own M F' H' k d v fp
  | 0, _, _, _, _, h => ⟨h.1.mono s, h.2⟩
  | k + 1, d, v, fp, t, h => by
    cases d with
    | nd kd ds =>
      obtain ⟨a, vs, ex, fps, e, o, q, e2⟩ := h
      refine ⟨a, vs, ex, fps, e, o.mono fun b hb => t b ?_, q.mono fun d _ v f hf x => Own.mono s (fun b hb => t b ?_) x, e2⟩
      · rw [e2, ← List.cons_append]; exact List.mem_append_left _ hb
      · rw [e2, ← List.cons_append]; exact List.mem_append_right _ (hf b hb)
    | _ => exact ⟨h.1.mono s, h.2⟩
theorem Own.there : ∀ {k : Nat} {d : D} {v : V} {fp : List Addr}, Own M F H k d v fp → ∀ b ∈ fp, H b ≠ none
  | 0, _, _, _, h, b, hb => by rw [h.2] at hb; simp at hb
  | k + 1, d, v, fp, h, b, hb => by
    cases d with
    | nd kd ds =>
      obtain ⟨a, vs, ex, fps, e, o, q, e2⟩ := h
      rw [e2, ← List.cons_append, List.mem_append] at hb
      rcases hb with hb | hb
      · exact o.there b hb
      · clear o e e2
        induction ds generalizing vs fps with
        | nil => rw [q.2] at hb; simp at hb
        | cons d ds ih =>
          obtain ⟨v, vs', f1, f2, rfl, rfl, a1, b1⟩ := q
          rcases List.mem_append.mp hb with hb | hb
          · exact Own.there a1 b hb
          · exact ih _ _ b1 hb
    | _ => rw [h.2] at hb; simp at hb
/-- what was owned stands still from now on -/
theorem Own.freeze (s : Same F F') : ∀ {k : Nat} {d : D} {v : V} {fp : List Addr}, (∀ b ∈ fp, F' b = H b) → Own M F H k d v fp → Rep M F' d v
  | 0, _, _, _, _, h => h.1.mono s
  | k + 1, d, v, fp, t, h => by
    cases d with
    | nd kd ds =>
      obtain ⟨a, vs, ex, fps, e, o, q, e2⟩ := h
      refine Rep.nd_iff.mpr ⟨a, vs, e, (o.mono fun b hb => t b ?_).rds, ?_⟩
      · rw [e2, ← List.cons_append]; exact List.mem_append_left _ hb
      · have t2 : ∀ b ∈ fps, F' b = H b := fun b hb => t b (by rw [e2, ← List.cons_append]; exact List.mem_append_right _ hb)
        clear o e e2 t
        induction ds generalizing vs fps with
        | nil => exact q.1
        | cons d ds ih =>
          obtain ⟨v, vs', f1, f2, rfl, rfl, a1, b1⟩ := q
          exact ⟨v, vs', rfl, Own.freeze s (fun b hb => t2 b (by simp [hb])) a1, ih _ _ b1 fun b hb => t2 b (by simp [hb])⟩
    | _ => exact h.1.mono s
end

/-! ### from one state to a later one; P: what is one's own -/
structure Step (F H : Hp) (P : Addr → Prop) (F' H' : Hp) (P' : Addr → Prop) : Prop where
  ff : Same F F'
  fr : ∀ b o, H b = some o → ¬ P b → H' b = some o
  nw : ∀ b, F' b ≠ none → F b ≠ none ∨ H b = none ∨ P b
  own : ∀ b, P' b → P b ∨ H b = none
section
variable {F F' F1 F2 H H' H1 H2 : Hp} {P P' P1 P2 G : Addr → Prop}
theorem Step.refl : Step F H P F H P := ⟨Same.refl F, fun _ _ h _ => h, fun _ h => .inl h, fun _ h => .inl h⟩
theorem Step.trans (a : Step F H P F1 H1 P1) (b : Step F1 H1 P1 F2 H2 P2) : Step F H P F2 H2 P2 := by
  have back : ∀ x, H1 x = none → H x = none ∨ P x := fun x hx => by
    by_cases hf : P x
    · exact .inr hf
    · cases e : H x with
      | none => exact .inl rfl
      | some o => rw [a.fr x o e hf] at hx; cases hx
  refine ⟨a.ff.trans b.ff, fun x o e hf => ?_, fun x hx => ?_, fun x hx => ?_⟩
  · refine b.fr x o (a.fr x o e hf) fun h => ?_
    rcases a.own x h with h | h
    · exact hf h
    · rw [e] at h; cases h
  · rcases b.nw x hx with h | h | h
    · exact a.nw x h
    · exact .inr (back x h)
    · rcases a.own x h with h | h
      · exact .inr (.inr h)
      · exact .inr (.inl h)
  · rcases b.own x hx with h | h
    · exact a.own x h
    · exact (back x h).symm
theorem Step.mono (a : Step F H P F1 H1 P1) (hs : ∀ b, P b → G b) {G1 : Addr → Prop} (hg : ∀ b, G1 b → P1 b ∨ G b ∨ H b = none) : Step F H G F1 H1 G1 :=
  ⟨a.ff, fun b o e h => a.fr b o e fun z => h (hs b z), fun b h => (a.nw b h).imp id (·.imp id (hs b)), fun b h => (hg b h).elim (fun z => (a.own b z).imp (hs b) id) id⟩
theorem Step.less (a : Step F H P F1 H1 P1) (hs : ∀ b, P2 b → P1 b) : Step F H P F1 H1 P2 := ⟨a.ff, a.fr, a.nw, fun b h => a.own b (hs b h)⟩
theorem Step.same (a : Step F H P F1 H1 P1) (h : ∀ b, ¬ P b) : Same H H1 := fun b o e => a.fr b o e (h b)
end
/-- what was owned at g stands still -/
def frz (F H : Hp) (g : List Addr) : Hp := fun b => if b ∈ g then H b else F b
section
variable {F H : Hp} {g : List Addr}
theorem frz_in {b : Addr} (h : b ∈ g) : frz F H g b = H b := if_pos h
theorem frz_out {b : Addr} (h : b ∉ g) : frz F H g b = F b := if_neg h
theorem frz_same (s : Same F H) : Same F (frz F H g) := fun b o e => by
  unfold frz
  split
  · exact s b o e
  · exact e
theorem frz_sub (s : Same F H) : Same (frz F H g) H := fun b o e => by
  unfold frz at e
  split at e
  · exact e
  · exact s b o e
end
end DL

-- part DLb
set_option Elab.async false
set_option linter.all false
set_option maxRecDepth 100000
/-! DL, part b: a frame's slots. -/
namespace DL
open PySem PySem.Spec PyProof.Rows L2

/-- a slot: empty, a value that stands still, a value of the frame's own, a value of the caller's own (lent) -/
inductive Sl where
  | un | val (d : D) | own (k : Nat) (d : D) | io (k : Nat) (d : D)
abbrev Env := List Sl
abbrev St := L2.St
section
variable (M : Mo) (F H : Hp)
def SlR : Sl → Option V → List Addr → Prop
  | .un, _, fp => fp = []
  | .val d, x, fp => ∃ v, x = some v ∧ Rep M F d v ∧ fp = []
  | .own k d, x, fp => ∃ v, x = some v ∧ Own M F H k d v fp
  | .io k d, x, fp => ∃ v, x = some v ∧ Own M F H k d v fp
/-- what the slots own -/
abbrev Ft := Nat → List Addr
def Ft.at (fs : Ft) (b : Addr) : Prop := ∃ i, b ∈ fs i
def Ft.set (fs : Ft) (i : Nat) (f : List Addr) : Ft := fun j => if j = i then f else fs j
/-- the state of a frame -/
structure GS (io : List (Nat × V)) (env : Env) (σ : St) (fs : Ft) : Prop where
  len : σ.length = env.length
  sl : ∀ i s, env[i]? = some s → ∃ x, σ[i]? = some x ∧ SlR M F H s x (fs i)
  nd : ∀ i, (fs i).Nodup
  dj : ∀ i j b, i ≠ j → b ∈ fs i → b ∉ fs j
  fn : ∀ i b, b ∈ fs i → F b = none
  out : ∀ i, env[i]? = none → fs i = []
  fh : Same F H
  io : ∀ p ∈ io, σ[p.1]? = some (some p.2) ∧ ∃ k d, env[p.1]? = some (.io k d)
end
section
variable {M : Mo} {F F' H H' : Hp} {io : List (Nat × V)} {env env' : Env} {σ σ' : St} {fs fs' : Ft}
theorem Ft.set_same {i : Nat} {f : List Addr} : (fs.set i f) i = f := if_pos rfl
theorem Ft.set_ne {i j : Nat} {f : List Addr} (h : j ≠ i) : (fs.set i f) j = fs j := if_neg h
theorem SlR.mono (s : Same F F') {sl : Sl} {x : Option V} {f : List Addr} (t : ∀ b ∈ f, H' b = H b) (h : SlR M F H sl x f) : SlR M F' H' sl x f := by
  cases sl with
  | un => exact h
  | val d => obtain ⟨v, e, r, q⟩ := h; exact ⟨v, e, r.mono s, q⟩
  | own k d => obtain ⟨v, e, o⟩ := h; exact ⟨v, e, o.mono s t⟩
  | io k d => obtain ⟨v, e, o⟩ := h; exact ⟨v, e, o.mono s t⟩
theorem SlR.there {sl : Sl} {x : Option V} {f : List Addr} (h : SlR M F H sl x f) : ∀ b ∈ f, H b ≠ none := by
  cases sl with
  | un => intro b hb; rw [show f = [] from h] at hb; simp at hb
  | val d => obtain ⟨v, e, r, q⟩ := h; intro b hb; rw [q] at hb; simp at hb
  | own k d => obtain ⟨v, e, o⟩ := h; exact o.there
  | io k d => obtain ⟨v, e, o⟩ := h; exact o.there
theorem set_self {α : Type} : ∀ {l : List α} {i : Nat} {x : α}, l[i]? = some x → l.set i x = l
  | [], _, _, h => by simp at h
  | a :: l, 0, x, h => by simp at h; simp [h]
  | a :: l, i + 1, x, h => by simp [set_self (l := l) (i := i) (x := x) (by simpa using h)]
theorem get_set {α : Type} {l : List α} {i j : Nat} {x : α} : (l.set i x)[j]? = if i = j ∧ i < l.length then some x else l[j]? := by
  rw [List.getElem?_set]
  by_cases h : i = j
  · subst h
    by_cases h2 : i < l.length
    · simp [h2]
    · simp [h2]
  · simp [h]
theorem GS.hd (g : GS M F H io env σ fs) {i : Nat} {b : Addr} (hb : b ∈ fs i) : H b ≠ none := by
  cases e : env[i]? with
  | none => rw [g.out i e] at hb; simp at hb
  | some s =>
    obtain ⟨x, _, r⟩ := g.sl i s e
    exact r.there b hb
/-- nothing of ours was touched -/
theorem GS.keep (g : GS M F H io env σ fs) (s : Same F F') (t : ∀ i b, b ∈ fs i → H' b = H b) (fh : Same F' H') (fn : ∀ i b, b ∈ fs i → F' b = none) : GS M F' H' io env σ fs :=
  ⟨g.len, fun i sl e => let ⟨x, h1, h2⟩ := g.sl i sl e; ⟨x, h1, h2.mono s fun b hb => t i b hb⟩, g.nd, g.dj, fn, g.out, fh, g.io⟩
theorem GS.same (g : GS M F H io env σ fs) (t : Same H H') : ∀ i b, b ∈ fs i → H' b = H b := fun i b hb => by
  cases e : H b with
  | none => exact absurd e (g.hd hb)
  | some o => exact t b o e
/-- a value that stands still is read off a slot -/
theorem GS.val (g : GS M F H io env σ fs) {i : Nat} {d : D} (e : env[i]? = some (.val d)) : ∃ v, σ[i]? = some (some v) ∧ Rep M F d v := by
  obtain ⟨x, h1, ⟨v, rfl, h3, _⟩⟩ := g.sl i _ e
  exact ⟨v, h1, h3⟩
def ownAt (env : Env) (i k : Nat) (d : D) : Prop := env[i]? = some (.own k d) ∨ env[i]? = some (.io k d)
theorem GS.own (g : GS M F H io env σ fs) {i k : Nat} {d : D} (e : ownAt env i k d) : ∃ v, σ[i]? = some (some v) ∧ Own M F H k d v (fs i) := by
  rcases e with e | e
  · obtain ⟨x, h1, ⟨v, rfl, h3⟩⟩ := g.sl i _ e
    exact ⟨v, h1, h3⟩
  · obtain ⟨x, h1, ⟨v, rfl, h3⟩⟩ := g.sl i _ e
    exact ⟨v, h1, h3⟩
theorem lt_of_get {α : Type} {l : List α} {i : Nat} {x : α} (h : l[i]? = some x) : i < l.length := (List.getElem?_eq_some_iff.mp h).1
/-- one slot changes, in what it holds or owns; elsewhere all is as it was -/
theorem GS.slot (g : GS M F H io env σ fs) {i : Nat} {s' : Sl} {x' : Option V} {f : List Addr} (hi : i < env.length) (ff : Same F F') (fh : Same F' H') (t : ∀ j b, j ≠ i → b ∈ fs j → H' b = H b) (fn : ∀ j b, j ≠ i → b ∈ fs j → F' b = none)
    (r : SlR M F' H' s' x' f) (nd : f.Nodup) (fnf : ∀ b ∈ f, F' b = none) (dj : ∀ j b, j ≠ i → b ∈ fs j → b ∉ f) (hio : ∀ p ∈ io, p.1 = i → x' = some p.2 ∧ ∃ k d, s' = .io k d) :
    GS M F' H' io (env.set i s') (σ.set i x') (fs.set i f) := by
  refine ⟨by simp [g.len], fun j s e => ?_, fun j => ?_, fun a c b hne hb hb2 => ?_, fun j b hb => ?_, fun j e => ?_, fh, fun p hp => ?_⟩
  · by_cases z : j = i
    · subst z
      rw [List.getElem?_set_self hi] at e
      cases e
      refine ⟨x', by rw [List.getElem?_set_self (by rw [g.len]; exact hi)], ?_⟩
      rw [Ft.set_same]; exact r
    · rw [List.getElem?_set_ne (Ne.symm z)] at e
      obtain ⟨x, h1, h2⟩ := g.sl j s e
      refine ⟨x, by rw [List.getElem?_set_ne (Ne.symm z)]; exact h1, ?_⟩
      rw [Ft.set_ne z]
      exact h2.mono ff fun b hb => t j b z hb
  · by_cases z : j = i
    · subst z; rw [Ft.set_same]; exact nd
    · rw [Ft.set_ne z]; exact g.nd j
  · by_cases z : a = i
    · subst z
      rw [Ft.set_same] at hb
      rw [Ft.set_ne (Ne.symm hne)] at hb2
      exact dj c b (Ne.symm hne) hb2 hb
    · rw [Ft.set_ne z] at hb
      by_cases z2 : c = i
      · subst z2
        rw [Ft.set_same] at hb2
        exact dj a b z hb hb2
      · rw [Ft.set_ne z2] at hb2
        exact g.dj a c b hne hb hb2
  · by_cases z : j = i
    · subst z; rw [Ft.set_same] at hb; exact fnf b hb
    · rw [Ft.set_ne z] at hb; exact fn j b z hb
  · by_cases z : j = i
    · subst z; rw [List.getElem?_set_self hi] at e; cases e
    · rw [List.getElem?_set_ne (Ne.symm z)] at e
      rw [Ft.set_ne z]; exact g.out j e
  · obtain ⟨q1, k, d, q2⟩ := g.io p hp
    by_cases z : p.1 = i
    · obtain ⟨rfl, k, d, rfl⟩ := hio p hp z
      rw [z, List.getElem?_set_self (by rw [g.len]; exact hi), List.getElem?_set_self hi]
      exact ⟨rfl, k, d, rfl⟩
    · rw [List.getElem?_set_ne (Ne.symm z), List.getElem?_set_ne (Ne.symm z)]
      exact ⟨q1, k, d, q2⟩
theorem GS.notIo (g : GS M F H io env σ fs) {i : Nat} {s : Sl} (e : env[i]? = some s) (ni : ∀ k d, s ≠ .io k d) : ∀ p ∈ io, p.1 ≠ i := fun p hp z => by
  obtain ⟨_, k, d, q⟩ := g.io p hp
  rw [z, e] at q
  cases q
  exact ni k d rfl
/-- a slot is stored; f: what the new thing owns -/
theorem GS.set (g : GS M F H io env σ fs) {i : Nat} {s s' : Sl} {v : V} {f : List Addr} (e : env[i]? = some s) (ni : ∀ k d, s ≠ .io k d) (r : SlR M F H s' (some v) f) (nd : f.Nodup) (fn : ∀ b ∈ f, F b = none) (dj : ∀ j b, b ∈ fs j → b ∉ f) :
    GS M F H io (env.set i s') (σ.set i (some v)) (fs.set i f) :=
  g.slot (lt_of_get e) (Same.refl F) g.fh (fun _ _ _ _ => rfl) (fun j b _ hb => g.fn j b hb) r nd fn (fun j b _ hb => dj j b hb) fun p hp z => absurd z (g.notIo e ni p hp)
/-- what a slot owns is changed in its place -/
theorem GS.change (g : GS M F H io env σ fs) {i k : Nat} {d : D} (e : ownAt env i k d) {v : V} (ev : σ[i]? = some (some v)) {H' : Hp} {k' : Nat} {d' : D} {f : List Addr} (fh : Same F H') (fr : ∀ b o, H b = some o → b ∉ fs i → H' b = some o)
    (o : Own M F H' k' d' v f) (nd : f.Nodup) (nw : ∀ b ∈ f, b ∈ fs i ∨ H b = none) :
    GS M F H' io (env.set i (match env[i]? with | some (.io _ _) => .io k' d' | _ => .own k' d')) σ (fs.set i f) ∧ Step F H fs.at F H' (fs.set i f).at := by
  have hi : i < env.length := by rcases e with e | e <;> exact lt_of_get e
  have q := g.slot (F' := F) (H' := H') (i := i) (s' := match env[i]? with | some (.io _ _) => .io k' d' | _ => .own k' d') (x' := some v) (f := f) hi (Same.refl F) fh (fun j b z hb => ?_) (fun j b _ hb => g.fn j b hb) ?_ nd (fun b hb => ?_) (fun j b z hb hb2 => ?_) (fun p hp z => ?_)
  · rw [set_self ev] at q
    refine ⟨q, Same.refl F, fun b o h n => fr b o h fun z => n ⟨i, z⟩, fun b h => .inl h, fun b ⟨j, hb⟩ => ?_⟩
    by_cases z : j = i
    · subst z
      rw [Ft.set_same] at hb
      exact (nw b hb).imp (fun x => ⟨j, x⟩) id
    · rw [Ft.set_ne z] at hb
      exact .inl ⟨j, hb⟩
  · cases q : H b with
    | none => exact absurd q (g.hd hb)
    | some u => exact fr b u q fun w => g.dj j i b z hb w
  · rcases e with e | e
    · rw [e]; exact ⟨v, rfl, o⟩
    · rw [e]; exact ⟨v, rfl, o⟩
  · rcases nw b hb with w | w
    · exact g.fn i b w
    · cases q : F b with
      | none => rfl
      | some u => rw [g.fh b u q] at w; cases w
  · rcases nw b hb2 with w | w
    · exact g.dj j i b z hb w
    · exact g.hd hb w
  · obtain ⟨q1, k2, d2, q2⟩ := g.io p hp
    rw [z] at q1 q2
    rw [ev] at q1
    refine ⟨by cases q1; rfl, k', d', ?_⟩
    rw [q2]
end
end DL

-- part DLc
set_option Elab.async false
set_option linter.all false
set_option maxRecDepth 100000
/-! DL, part c: the small language and what it computes, over plain data alone. -/
namespace DL
open PySem L2

inductive Res (α : Type) where
  | ok (a : α) | exn (c : Nat) (d : D) | stuck
def Res.bind {α β : Type} (x : Res α) (f : α → Res β) : Res β := match x with
  | .ok a => f a
  | .exn c d => .exn c d
  | .stuck => .stuck
instance : Monad Res where
  pure := .ok
  bind := Res.bind
def ofO {α : Type} : Option α → Res α
  | some a => .ok a
  | none => .stuck
@[simp] theorem Res.bind_ok {α β : Type} {a : α} {f : α → Res β} : Res.bind (.ok a) f = f a := rfl
@[simp] theorem Res.bind_exn {α β : Type} {c : Nat} {d : D} {f : α → Res β} : Res.bind (.exn c d) f = .exn c d := rfl
@[simp] theorem Res.bind_stuck {α β : Type} {f : α → Res β} : Res.bind .stuck f = .stuck := rfl
@[simp] theorem ofO_some {α : Type} {a : α} : ofO (some a) = .ok a := rfl
@[simp] theorem ofO_none {α : Type} : (ofO none : Res α) = .stuck := rfl

/-! ### operations on data -/
mutual
def toPy : D → PyData
  | .non => .none
  | .bl b => .bool b
  | .int i => .int i
  | .str x => .str x
  | .nd .lst ds => .list (toPys ds)
  | .nd .tup ds => .tuple (toPys ds)
  | .nd .scr ds => .list (toPys ds)
  | .nd _ _ => .none
def toPys : List D → List PyData
  | [] => []
  | d :: ds => toPy d :: toPys ds
end
mutual
def plain : D → Bool
  | .nd .lst ds => plains ds
  | .nd .tup ds => plains ds
  | .nd .scr ds => plains ds
  | .nd _ _ => false
  | _ => true
def plains : List D → Bool
  | [] => true
  | d :: ds => plain d && plains ds
end
mutual
/-- nothing in it may ever be written -/
def noLst : D → Bool
  | .nd .tup ds => noLsts ds
  | .nd _ _ => false
  | _ => true
def noLsts : List D → Bool
  | [] => true
  | d :: ds => noLst d && noLsts ds
end
/-- .. below so many levels -/
def noLstK : Nat → D → Bool
  | 0, d => noLst d
  | k + 1, .nd _ ds => ds.all (noLstK k)
  | _, _ => true
def noOuts : List Nat → List D → Bool
  | 0 :: ms, ds => noOuts ms ds
  | (k + 1) :: ms, d :: ds => noLstK (k + 1) d && noOuts ms ds
  | _, _ => true
def lim : Nat := 100000
def okPy (d : D) : Bool := plain d && SeqAt.shaped (toPy d)
def dEq (d e : D) : Res Bool := if okPy d && okPy e then .ok (PyData.eqv (toPy d) (toPy e)) else .stuck

abbrev Wk := Nat × D
inductive Bop | add | sub | mul | fdiv | mod | pow
  deriving DecidableEq
inductive Cop | eq | ne | lt | le | gt | ge | inn | nin | isn | nisn
  deriving DecidableEq
def MulOk (i j : Int) : Bool := decide (i.natAbs < 2 ^ 64) || decide (j.natAbs < 2 ^ 64) || decide (i.natAbs.log2 + j.natAbs.log2 < 1000000)
def DivOk (j : Int) : Bool := decide (j ≠ 0) && decide (j.natAbs.log2 < 9000)
def PowOk (i j : Int) : Bool := decide (0 ≤ j) && decide ((i.natAbs.log2 + 1 : Int) * j ≤ 2 ^ 27)
/-- a op b: the first number: how many levels of it may still be written -/
def dBin : Bop → Wk → Wk → Res D
  | .add, (_, .int i), (_, .int j) => .ok (.int (i + j))
  | .add, (_, .str x), (_, .str y) => if x.length + y.length ≤ lim then .ok (.str (x ++ y)) else .stuck
  | .add, (j, .nd .lst xs), (k, .nd .lst ys) => if j ≤ 1 ∧ k ≤ 1 ∧ xs.length + ys.length ≤ lim then .ok (.lst (xs ++ ys)) else .stuck
  | .add, (0, .nd .tup xs), (0, .nd .tup ys) => if xs.length + ys.length ≤ lim then .ok (.tup (xs ++ ys)) else .stuck
  | .sub, (_, .int i), (_, .int j) => .ok (.int (i - j))
  | .mul, (_, .int i), (_, .int j) => if MulOk i j then .ok (.int (i * j)) else .stuck
  | .mul, (j, .nd .lst xs), (_, .int n) => if j ≤ 1 ∧ -1000000 ≤ n ∧ n ≤ 1000000 ∧ xs.length * n.toNat ≤ lim then .ok (.lst (List.replicate n.toNat xs).flatten) else .stuck
  | .fdiv, (_, .int i), (_, .int j) => if DivOk j then .ok (.int (i.fdiv j)) else .stuck
  | .mod, (_, .int i), (_, .int j) => if j ≠ 0 then .ok (.int (i.fmod j)) else .stuck
  | .pow, (_, .int i), (_, .int j) => if PowOk i j then .ok (.int (i ^ j.toNat)) else .stuck
  | _, _, _ => .stuck
def flat : D → Bool
  | .nd _ _ => false
  | _ => true
def anyEq (d : D) (ds : List D) : Bool := ds.any fun e => PyData.eqv (toPy e) (toPy d)
def dIn (d : D) (x : Wk) : Res Bool := match d, x with
  | .str x, (_, .str y) => .ok (!(Builtin.Str.occurrences y x 0 y.length 1).isEmpty)
  | d, (_, .nd .lst ds) => if flat d ∧ ds.all flat = true then .ok (anyEq d ds) else .stuck
  | d, (_, .nd .tup ds) => if flat d ∧ ds.all flat = true then .ok (anyEq d ds) else .stuck
  | _, _ => .stuck
def dCmp : Cop → Wk → Wk → Res Bool
  | .eq, (_, d), (_, e) => dEq d e
  | .ne, (_, d), (_, e) => (dEq d e).bind fun b => .ok (!b)
  | .lt, (_, .int i), (_, .int j) => .ok (decide (i < j))
  | .le, (_, .int i), (_, .int j) => .ok (decide (i ≤ j))
  | .gt, (_, .int i), (_, .int j) => .ok (decide (j < i))
  | .ge, (_, .int i), (_, .int j) => .ok (decide (j ≤ i))
  | .inn, (0, d), x => dIn d x
  | .nin, (0, d), x => (dIn d x).bind fun b => .ok (!b)
  | .isn, (_, d), (_, .non) => .ok (match d with | .non => true | _ => false)
  | .nisn, (_, d), (_, .non) => .ok (match d with | .non => false | _ => true)
  | _, _, _ => .stuck
def dIdx : Wk → D → Res Wk
  | (k, .nd .lst ds), .int i => match atI ds i with | some d => .ok (k - 1, d) | none => .stuck
  | (k, .nd .tup ds), .int i => match atI ds i with | some d => .ok (k - 1, d) | none => .stuck
  | (k, .nd .scr ds), .int i => match atI ds i with | some d => .ok (k - 1, d) | none => .stuck
  | (_, .str x), .int i => if x.length ≤ lim then (match atI x.cps.toList i with | some c => .ok (0, .str ⟨#[c]⟩) | none => .stuck) else .stuck
  | _, _ => .stuck
def cutL {α : Type} (xs : List α) (lo hi : Option Int) : List α := (xs.drop (HT.sIx xs.length 0 lo)).take (HT.sIx xs.length xs.length hi - HT.sIx xs.length 0 lo)
def dPart : Option D → Option (Option Int)
  | none => some none
  | some (.int i) => some (some i)
  | some _ => none
def dSlc (x : Wk) (lo hi : Option Int) : Res D := match x with
  | (k, .nd .lst ds) => if k ≤ 1 then .ok (.lst (cutL ds lo hi)) else .stuck
  | (k, .nd .scr ds) => if k ≤ 1 then .ok (.lst (cutL ds lo hi)) else .stuck
  | (0, .nd .tup ds) => .ok (.tup (cutL ds lo hi))
  | _ => .stuck

/-! ### the language -/
/-- a def: for each parameter how many levels of it are lent (0: it stands still), what it computes: the result and the lent things behind it -/
structure FnD where
  name : Str
  ms : List Nat
  rk : Nat
  den : List D → Res (D × List D)
inductive Blt | len | abs | min2 | max2 | min1 | max1 | sum | all | any | sorted | list | tuple | int | str
  deriving DecidableEq
/-- where a value is stored: a slot, a field of the instance in a slot -/
inductive Ti | sl (i : Nat) | at (c i : Nat) (f : Str)
  deriving DecidableEq
inductive Tg | one (t : Ti) | tup (ts : List Ti)
  deriving DecidableEq
inductive E where
  | nil | cons (a b : E)
  | name (i : Nat) | lit (d : D)
  | bin (op : Bop) (a b : E) | neg (a : E)
  | cmp (op : Cop) (a b : E) | chn (op op' : Cop) (a b c : E)
  | andv (a b : E) | orv (a b : E) | notv (a : E) | ife (t a b : E)
  | tup (es : E) | lst (es : E)
  | idx (a b : E) | slc (a lo hi : E)
  | app (f : FnD) (es : E) | ioa (i : Nat) | wka (i : Nat)
  | blt (b : Blt) (es : E)
  | fld (c : Nat) (f : Str) (a : E)
  | prp (c : Nat) (f : FnD) (a : E)
  | mth (c : Nat) (f : FnD) (o es : E)
  | lno (c : Nat) (f : FnD) (a : E)
  | addo (c : Nat) (f : FnD) (a b : E)
  | eqo (c : Nat) (f : FnD) (a b : E)
  | mk (c : Nat) (f : FnD) (es : E)
  | isi (c : Nat) (nm : Str) (a : E) | lrg (a b : E)
  | star (a : E) | apps (f : FnD) (a : E) | dget (nm : Str) (kvs : List (Str × Int)) (a : E) | glc (nm : Str) (d : D)
  | appk (f : FnD) (ks : List Str) (pm : List Nat) (es : E)
  | mthk (c : Nat) (f : FnD) (ks : List Str) (pm : List Nat) (o es : E)
  | mkk (c : Nat) (f : FnD) (ks : List Str) (pm : List Nat) (es : E)
  | comp (tg : List Nat) (it t e : E)
  | ilst (e : E) | iscr (e : E) | itup (e : E) | irg1 (a : E) | irg2 (a b : E) | irg3 (a b c : E) | ienum (e : E) | izip (a b : E)
inductive S where
  | nil | cons (s ss : S)
  | pass | set (tg : Tg) (e : E) | seto (k i : Nat) (e : E) | aug (op : Bop) (i : Nat) (e : E)
  | par (is : List Nat) (es : E) | paro (is : List Nat) (os : List Bool) (es : E) | setm (is : List Nat) (e : E) | rett (es : E)
  | ife (t : E) (a b : S) | for_ (tg : List Nat) (it : E) (b : S) | whl (t : E) (b : S)
  | ret (e : E) | reto (e : E) | retm (i : Nat) | retn | drop (e : E) | appd (o e : E)
  | app (i : Nat) (path : E) (e : E) | ext (i : Nat) (path : E) (e : E) | sub (i : Nat) (j : E) (e : E)
  | frz (i : Nat) | brk | cnt | never

/-- no list is lent for reading -/
def E.noW : E → Bool
  | .cons (.wka _) _ => false
  | .cons _ es => es.noW
  | _ => true
/-- nothing that is lent is touched -/
def E.pure : E → Bool
  | .nil => true
  | .cons a b => a.pure && b.pure
  | .name _ => true
  | .lit _ => true
  | .bin _ a b => a.pure && b.pure
  | .neg a => a.pure
  | .cmp _ a b => a.pure && b.pure
  | .chn _ _ a b c => a.pure && b.pure && c.pure
  | .andv a b => a.pure && b.pure
  | .orv a b => a.pure && b.pure
  | .notv a => a.pure
  | .ife t a b => t.pure && a.pure && b.pure
  | .tup es => es.pure
  | .lst es => es.pure
  | .idx a b => a.pure && b.pure
  | .slc a lo hi => a.pure && lo.pure && hi.pure
  | .app f es => f.ms.all (· == 0) && es.pure
  | .ioa _ => false
  | .wka _ => true
  | .blt _ es => es.pure
  | .fld _ _ a => a.pure
  | .prp _ f a => f.ms.all (· == 0) && a.pure
  | .mth _ f o es => f.ms.all (· == 0) && o.pure && es.pure
  | .lno _ f a => f.ms.all (· == 0) && a.pure
  | .addo _ f a b => f.ms.all (· == 0) && a.pure && b.pure
  | .eqo _ f a b => f.ms.all (· == 0) && a.pure && b.pure
  | .mk _ _ es => es.pure && es.noW
  | .isi _ _ a => a.pure
  | .lrg a b => a.pure && b.pure
  | .star a => a.pure
  | .apps f a => f.ms.all (· == 0) && a.pure
  | .dget _ _ a => a.pure
  | .glc _ _ => true
  | .appk f _ _ es => f.ms.all (· == 0) && es.pure
  | .mthk _ f _ _ o es => f.ms.all (· == 0) && o.pure && es.pure
  | .mkk _ _ _ _ es => es.pure
  | .comp _ it t e => it.pure && t.pure && e.pure
  | .ilst e => e.pure
  | .iscr e => e.pure
  | .itup e => e.pure
  | .irg1 a => a.pure
  | .irg2 a b => a.pure && b.pure
  | .irg3 a b c => a.pure && b.pure && c.pure
  | .ienum e => e.pure
  | .izip a b => a.pure && b.pure

/-- an argument: a value; a slot whose thing is lent; a slot whose list is lent for reading -/
inductive Ar where
  | d (k : Nat) (d : D) | io (i : Nat) | wk (i : Nat)
def lent (env : Env) (i k : Nat) : Option D := match env[i]? with
  | some (.own j d) => if j = k then some d else none
  | some (.io j d) => if j = k then some d else none
  | _ => none
/-- the arguments' data -/
def argsOf (env : Env) : List Nat → List Ar → Option (List D)
  | [], [] => some []
  | 0 :: ms, .d 0 d :: ars => (argsOf env ms ars).map (d :: ·)
  | 0 :: ms, .wk i :: ars => match lent env i 1 with
    | some (.nd .lst ds) => (argsOf env ms ars).map (D.lst ds :: ·)
    | _ => none
  | (k + 1) :: ms, .io i :: ars => match lent env i (k + 1) with
    | some d => (argsOf env ms ars).map (d :: ·)
    | none => none
  | _, _ => none
def iosOf : List Ar → List Nat
  | [] => []
  | .io i :: r => i :: iosOf r
  | _ :: r => iosOf r
def wksOf : List Ar → List Nat
  | [] => []
  | .wk i :: r => i :: wksOf r
  | _ :: r => wksOf r
/-- behind a call the lent things are what the callee made of them -/
def putBack (env : Env) : List Nat → List D → Option Env
  | [], [] => some env
  | i :: is, d :: ds => match env[i]? with
    | some (.own k _) => putBack (env.set i (.own k d)) is ds
    | some (.io k _) => putBack (env.set i (.io k d)) is ds
    | _ => none
  | _, _ => none
def strong : List Ar → Option (List D)
  | [] => some []
  | .d 0 d :: r => (strong r).map (d :: ·)
  | _ => none
def weaks : List Ar → Option (List Wk)
  | [] => some []
  | .d k d :: r => (weaks r).map ((k, d) :: ·)
  | _ => none
def intsOf : List D → Option (List Int)
  | [] => some []
  | .int i :: r => (intsOf r).map (i :: ·)
  | _ => none
def boolsOf : List D → Option (List Bool)
  | [] => some []
  | .bl i :: r => (boolsOf r).map (i :: ·)
  | _ => none
def seqOf : D → Option (List D)
  | .nd .lst ds => some ds
  | .nd .tup ds => some ds
  | .nd .scr ds => some ds
  | _ => none
def lstOf : D → Option (List D)
  | .nd .lst ds => some ds
  | _ => none
def minL : List Int → Option Int
  | [] => none
  | x :: xs => some (xs.foldl min x)
def maxL : List Int → Option Int
  | [] => none
  | x :: xs => some (xs.foldl max x)
def insI (x : Int) : List Int → List Int
  | [] => [x]
  | y :: ys => if x ≤ y then x :: y :: ys else y :: insI x ys
def sortI : List Int → List Int
  | [] => []
  | x :: xs => insI x (sortI xs)
/-- (a, b) <= (c, d) as Python compares tuples -/
def leP (a b : Int × Int) : Bool := decide (a.1 < b.1) || (decide (a.1 = b.1) && decide (a.2 ≤ b.2))
def insP (x : Int × Int) : List (Int × Int) → List (Int × Int)
  | [] => [x]
  | y :: ys => if leP x y then x :: y :: ys else y :: insP x ys
def sortP : List (Int × Int) → List (Int × Int)
  | [] => []
  | x :: xs => insP x (sortP xs)
def pairsOf : List D → Option (List (Int × Int))
  | [] => some []
  | .nd .tup [.int a, .int b] :: r => (pairsOf r).map ((a, b) :: ·)
  | _ => none
def dSorted (ds : List D) : Res D := match intsOf ds with
  | some is => if ds.length ≤ lim then .ok (.lst ((sortI is).map .int)) else .stuck
  | none => match pairsOf ds with
    | some ps => if ds.length ≤ lim then .ok (.lst ((sortP ps).map fun p => .tup [.int p.1, .int p.2])) else .stuck
    | none => .stuck
def dBlt : Blt → List Wk → Res D
  | .len, [(_, .str x)] => if x.length ≤ lim then .ok (.int x.length) else .stuck
  | .len, [(_, d)] => match seqOf d with | some ds => .ok (.int ds.length) | none => .stuck
  | .abs, [(_, .int i)] => .ok (.int (if i < 0 then -i else i))
  | .min2, [(_, .int i), (_, .int j)] => .ok (.int (if j < i then j else i))
  | .max2, [(_, .int i), (_, .int j)] => .ok (.int (if j > i then j else i))
  | .min1, [(_, d)] => match (lstOf d).bind intsOf with | some is => (match minL is with | some m => .ok (.int m) | none => .stuck) | none => .stuck
  | .max1, [(_, d)] => match (lstOf d).bind intsOf with | some is => (match maxL is with | some m => .ok (.int m) | none => .stuck) | none => .stuck
  | .sum, [(_, d)] => match (lstOf d).bind intsOf with | some is => .ok (.int is.sum) | none => .stuck
  | .all, [(_, d)] => match (lstOf d).bind boolsOf with | some bs => .ok (.bl (bs.all id)) | none => .stuck
  | .any, [(_, d)] => match (lstOf d).bind boolsOf with | some bs => .ok (.bl (bs.any id)) | none => .stuck
  | .int, [(_, .int i)] => .ok (.int i)
  | .int, [(_, .bl b)] => .ok (.int (if b then 1 else 0))
  | .str, [(_, .int i)] => if i.natAbs.log2 < 1920 then .ok (.str (toString i)) else .stuck
  | .sorted, [(k, d)] => if k ≤ 1 then (match lstOf d with | some ds => dSorted ds | none => .stuck) else .stuck
  | .list, [(k, d)] => if k ≤ 1 then (match seqOf d with | some ds => .ok (.lst ds) | none => .stuck) else .stuck
  | .tuple, [(k, d)] => if k ≤ 1 then (match lstOf d with | some ds => .ok (.tup ds) | none => .stuck) else .stuck
  | _, _ => .stuck
def fieldOf (c : Nat) (f : Str) : Wk → Res Wk
  | (k, .nd (.obj c' fl) ds) => if c = c' then (match (fl.zip ds).lookup f with | some d => .ok (k - 1, d) | none => .stuck) else .stuck
  | _ => .stuck
def isObj (c : Nat) : D → Bool
  | .nd (.obj c' _) _ => c == c'
  | _ => false
/-- isinstance(d, the class c), where it is known -/
def isiD (c : Nat) : D → Option Bool
  | .nd (.obj c' _) _ => if c = c' then some true else none
  | .nd .lst _ => some false
  | .nd .tup _ => some false
  | .nd _ _ => none
  | _ => some false
/-- the names of the fields that an instance has are none of m -/
def notFl (m : Str) : D → Bool
  | .nd (.obj _ fl) _ => !fl.contains m
  | _ => false
def setSl (env : Env) (i : Nat) (s : Sl) : Res Env := match env[i]? with
  | some (.io _ _) => .stuck
  | some _ => .ok (env.set i s)
  | none => .stuck
def putFl (f : Str) (d : D) : List Str → List D → List Str × List D
  | g :: fl, e :: ds => if g = f then (g :: fl, d :: ds) else let r := putFl f d fl ds; (g :: r.1, e :: r.2)
  | fl, ds => (fl ++ [f], ds ++ [d])
def setTi (env : Env) : Ti → D → Res Env
  | .sl i, d => setSl env i (.val d)
  | .at c0 i f, d => match env[i]? with
    | some (.io 1 (.nd (.obj c fl) ds)) => if c0 = c ∧ fl.length < 100 then .ok (env.set i (.io 1 (.nd (.obj c (putFl f d fl ds).1) (putFl f d fl ds).2))) else .stuck
    | _ => .stuck
def setTis : Env → List Ti → List D → Res Env
  | env, [], [] => .ok env
  | env, t :: ts, d :: ds => (setTi env t d).bind fun env => setTis env ts ds
  | _, _, _ => .stuck
def setTg (env : Env) : Tg → D → Res Env
  | .one t, d => setTi env t d
  | .tup ts, .nd .tup ds => setTis env ts ds
  | _, _ => .stuck
/-- a loop's or comprehension's names -/
def setIs (env : Env) : List Nat → D → Res Env
  | [i], d => setSl env i (.val d)
  | is, .nd .tup ds => setTis env (is.map .sl) ds
  | _, _ => .stuck
/-- behind a comprehension its names are what they were -/
def back (old : Env) : List Nat → Env → Env
  | [], env => env
  | i :: is, env => match old[i]? with
    | some s => (back old is env).set i s
    | none => back old is env
def freeSl (env : Env) (tg : List Nat) : Bool := tg.all fun i => match env[i]? with | some .un => true | some (.val _) => true | _ => false
def blank (env : Env) : List Nat → Env
  | [] => env
  | i :: is => (blank env is).set i .un
def compL (tg : List Nat) (t : Env → Res (Bool × Env)) (e : Env → Res (D × Env)) : List D → Env → Res (List D × Env)
  | [], env => .ok ([], env)
  | x :: xs, env => (setIs env tg x).bind fun env1 => (t env1).bind fun (b, env2) =>
    if b then (e env2).bind fun (d, env3) => if freeSl env3 tg = true then (compL tg t e xs (blank env3 tg)).bind fun (ds, env4) => .ok (d :: ds, env4) else .stuck
    else if freeSl env2 tg = true then compL tg t e xs (blank env2 tg) else .stuck
def rangeL (lo : Int) (n : Nat) : List D := (List.range n).map fun (i : Nat) => D.int (lo + i)
/-- lo, lo - 1, .. -/
def rangeD (lo : Int) (n : Nat) : List D := (List.range n).map fun (i : Nat) => D.int (lo + (i : Nat) * (-1))
def enumL : Nat → List D → List D
  | _, [] => []
  | i, d :: ds => .tup [.int (i : Nat), d] :: enumL (i + 1) ds
def zipL : List D → List D → List D
  | x :: xs, y :: ys => .tup [x, y] :: zipL xs ys
  | _, _ => []
def str1 (x : Wk) : Res D := match x with
  | (0, d) => .ok d
  | _ => .stuck
def asB (d : D) : Res Bool := match d with
  | .bl b => .ok b
  | _ => .stuck
def asI (d : D) : Res Int := match d with
  | .int b => .ok b
  | _ => .stuck
/-- a call -/
def callD (f : FnD) (ars : List Ar) (env : Env) : Res (D × Env) := match argsOf env f.ms ars with
  | none => .stuck
  | some ds => if (iosOf ars).Nodup ∧ ∀ i ∈ wksOf ars, i ∉ iosOf ars then (f.den ds).bind fun (r, outs) => match putBack env (iosOf ars) outs with
      | some env' => if wksOf ars = [] ∨ (noLst r = true ∧ f.rk = 0 ∧ noOuts f.ms outs = true) then .ok (r, env') else .stuck
      | none => .stuck
    else .stuck
def held (env : Env) (i : Nat) : Bool := match env[i]? with
  | some (.own _ _) => true
  | some (.io _ _) => true
  | _ => false
/-- a test that may be wanting; an element; a bound that may be wanting -/
def tstOf (t : E) (r : Env → Res (Wk × Env)) : Env → Res (Bool × Env) := match t with
  | .nil => fun env => .ok (true, env)
  | _ => fun env => (r env).bind fun (x, env) => (asB x.2).bind fun k => .ok (k, env)
def eltOf (r : Env → Res (Wk × Env)) : Env → Res (D × Env) := fun env => (r env).bind fun (x, env) => (str1 x).bind fun d => .ok (d, env)
def prtOf (e : E) (r : Env → Res (Wk × Env)) : Env → Res (Option Int × Env) := match e with
  | .nil => fun env => .ok (none, env)
  | _ => fun env => (r env).bind fun (x, env) => (asI x.2).bind fun i => .ok (some i, env)
/-- some of a list, in an order -/
def permO {α : Type} : List Nat → List α → Option (List α)
  | [], _ => some []
  | i :: is, l => match l[i]?, permO is l with
    | some x, some r => some (x :: r)
    | _, _ => none
def kwO {α : Type} (ks : List Str) (pm : List Nat) (l : List α) : Option (List α) := if l.length = ks.length then permO pm l else none
/-- what stands in a list or tuple that stands still, as arguments -/
def seqArs : Wk → Option (List Ar)
  | (0, .nd .lst ds) => some (ds.map (Ar.d 0))
  | (0, .nd .tup ds) => some (ds.map (Ar.d 0))
  | _ => none
/-- d.get(x) of a written dict from texts to numbers -/
def dgetD (kvs : List (Str × Int)) : D → Option D
  | .str x => some (match kvs.lookup x with | some i => .int i | none => .non)
  | _ => none
/-- a new instance -/
def mkS (c : Nat) (f : FnD) (ds : List D) (env : Env) : Res (Wk × Env) := if f.ms = 1 :: List.replicate ds.length 0 ∧ f.rk = 0 then (f.den (.nd (.obj c []) [] :: ds)).bind fun (r, outs) => match r, outs with
    | .non, [o] => .ok ((0, o), env)
    | _, _ => .stuck
    else .stuck
/-- .. of lists that are lent for reading -/
def mkW (c : Nat) (f : FnD) (ars : List Ar) (env : Env) : Res (Wk × Env) := match argsOf env (List.replicate ars.length 0) ars with
  | none => .stuck
  | some ds => if (f.ms = 1 :: List.replicate ars.length 0 ∧ f.rk = 0) ∧ iosOf ars = [] then (f.den (.nd (.obj c []) [] :: ds)).bind fun (r, outs) => match r, outs with
    | .non, [o] => if noLstK 1 o = true then .ok ((0, o), env) else .stuck
    | _, _ => .stuck
    else .stuck
def mkD (c : Nat) (f : FnD) (nw : Bool) (ars : List Ar) (env : Env) : Res (Wk × Env) := match strong ars with
  | some ds => mkS c f ds env
  | none => if nw = true then .stuck else mkW c f ars env
mutual
def ev : E → Env → Res (Wk × Env)
  | .name i, env => match env[i]? with
    | some (.val d) => .ok ((0, d), env)
    | some (.own k d) => .ok ((k, d), env)
    | some (.io k d) => .ok ((k, d), env)
    | _ => .stuck
  | .lit d, env => .ok ((0, d), env)
  | .bin op a b, env => (ev a env).bind fun (x, env) => if x.1 = 0 ∨ b.pure = true then (ev b env).bind fun (y, env) => (dBin op x y).bind fun d => .ok ((0, d), env) else .stuck
  | .neg a, env => (ev a env).bind fun (x, env) => (asI x.2).bind fun i => .ok ((0, .int (-i)), env)
  | .cmp op a b, env => (ev a env).bind fun (x, env) => if x.1 = 0 ∨ b.pure = true then (ev b env).bind fun (y, env) => (dCmp op x y).bind fun c => .ok ((0, .bl c), env) else .stuck
  | .chn op op' a b c, env => (ev a env).bind fun (x, env) => if x.1 = 0 then (ev b env).bind fun (y, env) => if y.1 = 0 then (dCmp op x y).bind fun k =>
      if k then (ev c env).bind fun (z, env) => (dCmp op' y z).bind fun k' => .ok ((0, .bl k'), env) else .ok ((0, .bl false), env) else .stuck else .stuck
  | .andv a b, env => (ev a env).bind fun (x, env) => (asB x.2).bind fun k => if k then (ev b env).bind fun (y, env) => (asB y.2).bind fun k' => .ok ((0, .bl k'), env) else .ok ((0, .bl false), env)
  | .orv a b, env => (ev a env).bind fun (x, env) => (asB x.2).bind fun k => if k then .ok ((0, .bl true), env) else (ev b env).bind fun (y, env) => (asB y.2).bind fun k' => .ok ((0, .bl k'), env)
  | .notv a, env => (ev a env).bind fun (x, env) => (asB x.2).bind fun k => .ok ((0, .bl (!k)), env)
  | .ife t a b, env => (ev t env).bind fun (x, env) => (asB x.2).bind fun k => if k then ev a env else ev b env
  | .tup es, env => (evs es env).bind fun (ars, env) => (ofO (strong ars)).bind fun ds => if ds.length ≤ lim then .ok ((0, .tup ds), env) else .stuck
  | .lst es, env => (evs es env).bind fun (ars, env) => (ofO (strong ars)).bind fun ds => if ds.length ≤ lim then .ok ((0, .lst ds), env) else .stuck
  | .idx a b, env => (ev a env).bind fun (x, env) => if x.1 = 0 ∨ b.pure = true then (ev b env).bind fun (y, env) => (dIdx x y.2).bind fun w => .ok (w, env) else .stuck
  | .slc a lo hi, env => (ev a env).bind fun (x, env) => if x.1 = 0 ∨ (lo.pure && hi.pure) = true then (prtOf lo (ev lo) env).bind fun (l, env) => (prtOf hi (ev hi) env).bind fun (h, env) => (dSlc x l h).bind fun d => .ok ((0, d), env) else .stuck
  | .app f es, env => (evs es env).bind fun (ars, env) => (callD f ars env).bind fun (d, env) => .ok ((0, d), env)
  | .blt b es, env => (evs es env).bind fun (ars, env) => (ofO (weaks ars)).bind fun ws => (dBlt b ws).bind fun d => .ok ((0, d), env)
  | .fld c f a, env => (ev a env).bind fun (x, env) => (fieldOf c f x).bind fun w => .ok (w, env)
  | .prp c f a, env => (ev a env).bind fun (x, env) => if isObj c x.2 = true ∧ x.1 = 0 then (match callD f [.d x.1 x.2] env with | .ok (d, env) => .ok ((0, d), env) | _ => .stuck) else .stuck
  | .mth c f o es, env => (ev o env).bind fun (x, env) => if (isObj c x.2 = true ∧ x.1 = 0) ∧ notFl f.name x.2 = true then (evs es env).bind fun (ars, env) => (callD f (.d x.1 x.2 :: ars) env).bind fun (d, env) => .ok ((0, d), env) else .stuck
  | .lno c f a, env => (ev a env).bind fun (x, env) => if isObj c x.2 = true ∧ x.1 = 0 then (callD f [.d x.1 x.2] env).bind fun (d, env) => (asI d).bind fun n => if 0 ≤ n ∧ n < 2 ^ 63 then .ok ((0, .int n), env) else .stuck else .stuck
  | .addo c f a b, env => (ev a env).bind fun (x, env) => if isObj c x.2 = true ∧ x.1 = 0 then (ev b env).bind fun (y, env) => if isObj c y.2 = true ∧ y.1 = 0 then (callD f [.d x.1 x.2, .d y.1 y.2] env).bind fun (d, env) => .ok ((0, d), env) else .stuck else .stuck
  | .eqo c f a b, env => (ev a env).bind fun (x, env) => if isObj c x.2 = true ∧ x.1 = 0 then (ev b env).bind fun (y, env) => if (isiD c y.2).isSome = true ∧ y.1 = 0 then (callD f [.d x.1 x.2, .d y.1 y.2] env).bind fun (d, env) => (asB d).bind fun k => .ok ((0, .bl k), env) else .stuck else .stuck
  | .mk c f es, env => (evs es env).bind fun (ars, env) => mkD c f es.noW ars env
  | .isi c nm a, env => (ev a env).bind fun (x, env) => (ofO (isiD c x.2)).bind fun k => .ok ((0, .bl k), env)
  | .lrg a b, env => (ev a env).bind fun (x, env) => (asI x.2).bind fun i => (ev b env).bind fun (y, env) => (asI y.2).bind fun j => if (-(2 ^ 62) ≤ i ∧ i < 2 ^ 62) ∧ (-(2 ^ 62) ≤ j ∧ j < 2 ^ 62) ∧ (j - i).toNat ≤ lim then .ok ((0, .lst (rangeL i (j - i).toNat)), env) else .stuck
  | .apps f a, env => (ev a env).bind fun (x, env) => (ofO (seqArs x)).bind fun ars => (callD f ars env).bind fun (d, env) => .ok ((0, d), env)
  | .dget _ kvs a, env => (ev a env).bind fun (x, env) => (ofO (dgetD kvs x.2)).bind fun d => .ok ((0, d), env)
  | .glc _ d, env => .ok ((0, d), env)
  | .star a, env => ev a env
  | .appk f ks pm es, env => (evs es env).bind fun (ars, env) => (ofO (kwO ks pm ars)).bind fun ars => (callD f ars env).bind fun (d, env) => .ok ((0, d), env)
  | .mthk c f ks pm o es, env => (ev o env).bind fun (x, env) => if (isObj c x.2 = true ∧ x.1 = 0) ∧ notFl f.name x.2 = true then (evs es env).bind fun (ars, env) => (ofO (kwO ks pm ars)).bind fun ars => (callD f (.d x.1 x.2 :: ars) env).bind fun (d, env) => .ok ((0, d), env) else .stuck
  | .mkk c f ks pm es, env => (evs es env).bind fun (ars, env) => (ofO (kwO ks pm ars)).bind fun ars => (ofO (strong ars)).bind fun ds => if f.ms = 1 :: List.replicate ds.length 0 ∧ f.rk = 0 then (f.den (.nd (.obj c []) [] :: ds)).bind fun (r, outs) => match r, outs with
    | .non, [o] => .ok ((0, o), env)
    | _, _ => .stuck
    else .stuck
  | .comp tg it t e, env => (evi it env).bind fun (xs, env) => if freeSl env tg = true ∧ xs.length ≤ lim then match compL tg (tstOf t (ev t)) (eltOf (ev e)) xs (blank env tg) with
      | .ok (ds, env') => .ok ((0, .lst ds), back env tg env')
      | _ => .stuck
    else .stuck
  | _, _ => .stuck
def evs : E → Env → Res (List Ar × Env)
  | .nil, env => .ok ([], env)
  | .cons (.ioa i) es, env => if held env i = true then (evs es env).bind fun (r, env) => .ok (.io i :: r, env) else .stuck
  | .cons (.wka i) es, env => if held env i = true then (evs es env).bind fun (r, env) => .ok (.wk i :: r, env) else .stuck
  | .cons (.star a) es, env => (ev a env).bind fun (x, env) => (ofO (seqArs x)).bind fun ars => (evs es env).bind fun (r, env) => .ok (ars ++ r, env)
  | .cons a es, env => (ev a env).bind fun (x, env) => if x.1 = 0 ∨ es.pure = true then (evs es env).bind fun (r, env) => .ok (.d x.1 x.2 :: r, env) else .stuck
  | _, _ => .stuck
def evi : E → Env → Res (List D × Env)
  | .ilst e, env => (ev e env).bind fun (x, env) => match x with | (0, .nd .lst ds) => .ok (ds, env) | _ => .stuck
  | .iscr e, env => (ev e env).bind fun (x, env) => match x with | (0, .nd .scr ds) => .ok (ds, env) | _ => .stuck
  | .itup e, env => (ev e env).bind fun (x, env) => match x with | (0, .nd .tup ds) => .ok (ds, env) | _ => .stuck
  | .irg1 a, env => (ev a env).bind fun (x, env) => (asI x.2).bind fun j => if -(2 ^ 62) ≤ j ∧ j < 2 ^ 62 then .ok (rangeL 0 j.toNat, env) else .stuck
  | .irg2 a b, env => (ev a env).bind fun (x, env) => (asI x.2).bind fun i => (ev b env).bind fun (y, env) => (asI y.2).bind fun j => .ok (rangeL i (j - i).toNat, env)
  | .irg3 a b c, env => (ev a env).bind fun (x, env) => (asI x.2).bind fun i => (ev b env).bind fun (y, env) => (asI y.2).bind fun j => (ev c env).bind fun (z, env) => (asI z.2).bind fun k => if (k = -1 ∧ -(2 ^ 62) ≤ i ∧ i < 2 ^ 62) ∧ (-(2 ^ 62) ≤ j ∧ j < 2 ^ 62) then .ok (rangeD i (i - j).toNat, env) else .stuck
  | .ienum e, env => (ev e env).bind fun (x, env) => match x with | (0, .nd .lst ds) => .ok (enumL 0 ds, env) | _ => .stuck
  | .izip a b, env => (ev a env).bind fun (x, env) => (ev b env).bind fun (y, env) => match x, y with | (0, .nd .lst xs), (0, .nd .lst ys) => .ok (zipL xs ys, env) | _, _ => .stuck
  | _, _ => .stuck
end
end DL

namespace DL
open PySem L2
/-! ### statements -/
inductive Out where
  | nx (env : Env) | ret (d : D) (env : Env) | brk (env : Env) | cnt (env : Env)
def seqR (r : Res Out) (f : Env → Res Out) : Res Out := r.bind fun o => match o with
  | .nx env => f env
  | o => .ok o
def forL (tg : List Nat) (b : Env → Res Out) : List D → Env → Res Out
  | [], env => .ok (.nx env)
  | x :: xs, env => (setIs env tg x).bind fun env => (b env).bind fun o => match o with
    | .nx env => forL tg b xs env
    | .cnt env => forL tg b xs env
    | .brk env => .ok (.nx env)
    | .ret d env => .ok (.ret d env)
/-- a while loop, so many turns at most -/
def whlF (t : Env → Res (Wk × Env)) (b : Env → Res Out) : Nat → Env → Res Out
  | 0, _ => .stuck
  | n + 1, env => (t env).bind fun (x, env) => (asB x.2).bind fun k => if k then (b env).bind fun o => match o with
    | .nx env => whlF t b n env
    | .cnt env => whlF t b n env
    | .brk env => .ok (.nx env)
    | .ret d env => .ok (.ret d env)
    else .ok (.nx env)
open Classical in
noncomputable def whl (t : Env → Res (Wk × Env)) (b : Env → Res Out) (env : Env) : Res Out :=
  if h : ∃ n, whlF t b n env ≠ .stuck then whlF t b h.choose env else .stuck
theorem whlF_mono {t : Env → Res (Wk × Env)} {b : Env → Res Out} : ∀ {n : Nat} {env : Env} {m : Nat}, whlF t b n env ≠ .stuck → n ≤ m → whlF t b m env = whlF t b n env
  | 0, _, _, h, _ => absurd rfl h
  | n + 1, env, 0, _, l => absurd l (by omega)
  | n + 1, env, m + 1, h, l => by
    unfold whlF at h ⊢
    cases e1 : t env with
    | exn c d => rfl
    | stuck => rfl
    | ok p =>
      obtain ⟨x, env1⟩ := p
      simp only [e1, Res.bind_ok] at h ⊢
      cases e2 : asB x.2 with
      | exn c d => rfl
      | stuck => rfl
      | ok k =>
        simp only [e2, Res.bind_ok] at h ⊢
        cases k with
        | false => rfl
        | true =>
          simp only [if_true] at h ⊢
          cases q : b env1 with
          | exn c d => rfl
          | stuck => rfl
          | ok o =>
            simp only [q, Res.bind_ok] at h ⊢
            cases o with
            | nx env => exact whlF_mono h (by omega)
            | cnt env => exact whlF_mono h (by omega)
            | brk env => rfl
            | ret d env => rfl
theorem whl_eq {t : Env → Res (Wk × Env)} {b : Env → Res Out} {env : Env} {n : Nat} {r : Res Out} (h : whlF t b n env = r) (hr : r ≠ .stuck) : whl t b env = r := by
  have hn : whlF t b n env ≠ .stuck := by rw [h]; exact hr
  have ex : ∃ n, whlF t b n env ≠ .stuck := ⟨n, hn⟩
  unfold whl
  rw [dif_pos ex, ← h]
  rcases Nat.le_total n ex.choose with l | l
  · exact whlF_mono hn l
  · exact (whlF_mono ex.choose_spec l).symm
/-- the thing at the end of a path into what a slot owns: found[i] -/
def pathIx (d : D) (k : Nat) : Option Int → Option (Nat × List D × Nat)
  | none => none
  | some i => match d with
    | .nd .lst ds => match ixN ds.length i with
      | some j => some (k, ds, j)
      | none => none
    | _ => none
/-- x.append(e) for the slot i, or x[j].append(e): more is what comes behind -/
def growAt (env : Env) (i : Nat) (ix : Option Int) (more : List D) : Res Env := match env[i]? with
  | some (.own (k + 1) d) => (grow (k + 1) d).bind fun d' => .ok (env.set i (.own (k + 1) d'))
  | some (.io (k + 1) d) => (grow (k + 1) d).bind fun d' => .ok (env.set i (.io (k + 1) d'))
  | _ => .stuck
where
  grow (k : Nat) (d : D) : Res D := match ix, k, d with
    | none, 1, .nd .lst ds => if ds.length + more.length ≤ lim then .ok (.lst (ds ++ more)) else .stuck
    | some i, 2, .nd .lst ds => match ixN ds.length i with
      | some j => match ds[j]? with
        | some (.nd .lst es) => if es.length + more.length ≤ lim then .ok (.lst (ds.set j (.lst (es ++ more)))) else .stuck
        | _ => .stuck
      | none => .stuck
    | _, _, _ => .stuck
def subAt (env : Env) (i : Nat) (ix : Int) (d : D) : Res Env := match env[i]? with
  | some (.own 1 (.nd .lst ds)) => match ixN ds.length ix with | some j => .ok (env.set i (.own 1 (.lst (ds.set j d)))) | none => .stuck
  | some (.io 1 (.nd .lst ds)) => match ixN ds.length ix with | some j => .ok (env.set i (.io 1 (.lst (ds.set j d)))) | none => .stuck
  | _ => .stuck
def isL (env : Env) (i : Nat) : Bool := match env[i]? with
  | some (.own _ (.nd .lst _)) => true
  | some (.io _ (.nd .lst _)) => true
  | _ => false
def ownL : E → Bool
  | .lst _ => true
  | .comp _ _ _ _ => true
  | .lrg _ _ => true
  | .blt .list _ => true
  | .blt .sorted _ => true
  | .slc _ _ _ => true
  | .app f _ => f.rk == 1
  | .prp _ f _ => f.rk == 1
  | _ => false
def plainA : E → Bool
  | .ioa _ => false
  | .wka _ => false
  | .star _ => false
  | _ => true
/-- which values of a row are new lists of one's own -/
def okOs : List Bool → E → Bool
  | [], .nil => true
  | true :: os, .cons a es => ownL a && okOs os es
  | false :: os, .cons a es => plainA a && okOs os es
  | _, _ => false
/-- such a row -/
def evsO : List Bool → E → Env → Res (List D × Env)
  | [], .nil, env => .ok ([], env)
  | true :: os, .cons a es, env => if ownL a = true then (ev a env).bind fun (x, env) => match x with
    | (0, .nd .lst ds) => (evsO os es env).bind fun (r, env) => .ok (D.lst ds :: r, env)
    | _ => .stuck
    else .stuck
  | false :: os, .cons a es, env => if plainA a = true then (ev a env).bind fun (x, env) => (str1 x).bind fun d => (evsO os es env).bind fun (r, env) => .ok (d :: r, env) else .stuck
  | _, _, _ => .stuck
def setOwns (env : Env) : List Nat → List Bool → List D → Res Env
  | [], [], [] => .ok env
  | i :: is, true :: os, .nd .lst ds :: r => (setSl env i (.own 1 (.lst ds))).bind fun env => setOwns env is os r
  | i :: is, false :: os, d :: r => (setSl env i (.val d)).bind fun env => setOwns env is os r
  | _, _, _ => .stuck
def isLst : D → Bool
  | .nd .lst _ => true
  | _ => false
/-- a call that gives a tuple whose lists are one's own -/
def ownT : E → Bool
  | .app f _ => f.rk == 2
  | _ => false
/-- what a def gives away: its own lists, numbers, texts -/
def takeAll : List Ar → Env → Res (List D × Env)
  | [], env => .ok ([], env)
  | .d 0 d :: r, env => if flat d = true then (takeAll r env).bind fun (ds, env) => .ok (d :: ds, env) else .stuck
  | .wk i :: r, env => match env[i]? with
    | some (.own 1 (.nd .lst ds)) => (takeAll r (env.set i .un)).bind fun (es, env) => .ok (.lst ds :: es, env)
    | _ => .stuck
  | _, _ => .stuck
noncomputable def ex : S → Env → Res Out
  | .nil, env => .ok (.nx env)
  | .cons s ss, env => seqR (ex s env) (ex ss)
  | .pass, env => .ok (.nx env)
  | .set tg e, env => (ev e env).bind fun (x, env) => (str1 x).bind fun d => (setTg env tg d).bind fun env => .ok (.nx env)
  | .seto k i e, env => if ownL e = true ∧ k = 1 then (ev e env).bind fun (x, env) => (str1 x).bind fun d => match d with
      | .nd .lst ds => (setSl env i (.own 1 (.lst ds))).bind fun env => .ok (.nx env)
      | _ => .stuck
    else .stuck
  | .aug op i e, env => match env[i]? with
    | some (.val x) => (ev e env).bind fun (y, env) => (dBin op (0, x) y).bind fun d => match x with
      | .int _ => (setSl env i (.val d)).bind fun env => .ok (.nx env)
      | _ => .stuck
    | _ => .stuck
  | .par is es, env => (evs es env).bind fun (ars, env) => (ofO (strong ars)).bind fun ds => (setTis env (is.map .sl) ds).bind fun env => .ok (.nx env)
  | .paro is os es, env => (evsO os es env).bind fun (ds, env) => (setOwns env is os ds).bind fun env => .ok (.nx env)
  | .setm is e, env => if ownT e = true then (ev e env).bind fun (x, env) => match x with
    | (0, .nd .tup ds) => if (ds.all fun d => isLst d || flat d) = true then (setOwns env is (ds.map isLst) ds).bind fun env => .ok (.nx env) else .stuck
    | _ => .stuck
    else .stuck
  | .rett es, env => (evs es env).bind fun (ars, env) => (takeAll ars env).bind fun (ds, env) => if ds.length ≤ lim then .ok (.ret (.tup ds) env) else .stuck
  | .ife t a b, env => (ev t env).bind fun (x, env) => (asB x.2).bind fun k => if k then ex a env else ex b env
  | .for_ tg it b, env => (evi it env).bind fun (xs, env) => forL tg (ex b) xs env
  | .whl t b, env => whl (ev t) (ex b) env
  | .ret e, env => (ev e env).bind fun (x, env) => (str1 x).bind fun d => .ok (.ret d env)
  | .reto e, env => if ownL e = true then (ev e env).bind fun (x, env) => (str1 x).bind fun d => match d with
      | .nd .lst ds => .ok (.ret (.lst ds) env)
      | _ => .stuck
    else .stuck
  | .retm i, env => match env[i]? with
    | some (.own 1 (.nd .lst ds)) => .ok (.ret (.lst ds) (env.set i .un))
    | _ => .stuck
  | .retn, env => .ok (.ret .non env)
  | .drop e, env => (ev e env).bind fun (_, env) => .ok (.nx env)
  | .appd o e, env => if ownL o = true then (ev o env).bind fun (x, env) => match x with
    | (0, .nd .lst ds) => if ds.length + 1 ≤ lim then (ev e env).bind fun (y, env) => (str1 y).bind fun _ => .ok (.nx env) else .stuck
    | _ => .stuck
    else .stuck
  | .app i p e, env => if isL env i = true then (prtOf p (ev p) env).bind fun (ix, env) => (ev e env).bind fun (x, env) => (str1 x).bind fun d => (growAt env i ix [d]).bind fun env => .ok (.nx env) else .stuck
  | .ext i p e, env => if isL env i = true then (prtOf p (ev p) env).bind fun (ix, env) => (ev e env).bind fun (x, env) => (str1 x).bind fun d => match d with
    | .nd .lst ds => (growAt env i ix ds).bind fun env => .ok (.nx env)
    | _ => .stuck
    else .stuck
  | .sub i j e, env => if isL env i = true then (ev e env).bind fun (x, env) => (str1 x).bind fun d => (ev j env).bind fun (y, env) => (asI y.2).bind fun ix => (subAt env i ix d).bind fun env => .ok (.nx env) else .stuck
  | .frz i, env => match env[i]? with
    | some (.own _ d) => .ok (.nx (env.set i (.val d)))
    | _ => .stuck
  | .brk, env => .ok (.brk env)
  | .cnt, env => .ok (.cnt env)
  | .never, _ => .stuck

/-! ### defs -/
def initS : List Nat → List D → List Sl
  | 0 :: ms, d :: ds => .val d :: initS ms ds
  | (k + 1) :: ms, d :: ds => .io (k + 1) d :: initS ms ds
  | _, _ => []
def outsOf : List Nat → Env → List D
  | 0 :: ms, _ :: env => outsOf ms env
  | (k + 1) :: ms, .io _ d :: env => d :: outsOf ms env
  | _, _ => []
def okOuts : List Nat → Env → Bool
  | [], _ => true
  | 0 :: ms, _ :: env => okOuts ms env
  | (k + 1) :: ms, .io j _ :: env => decide (j = k + 1) && okOuts ms env
  | _, _ => false
def endR (ms : List Nat) : Out → Res (D × List D)
  | .nx env => if okOuts ms env = true then .ok (.non, outsOf ms env) else .stuck
  | .ret d env => if okOuts ms env = true then .ok (d, outsOf ms env) else .stuck
  | _ => .stuck
/-- n: how many names the def has -/
noncomputable def run (ms : List Nat) (n : Nat) (body : S) (ds : List D) : Res (D × List D) :=
  if ds.length = ms.length then (ex body (initS ms ds ++ List.replicate (n - ms.length) .un)).bind (endR ms) else .stuck
example (d : D) (env : Env) : ev (.lit d) env = .ok ((0, d), env) := rfl
example (d : D) (env : Env) : ev (.neg (.lit (.int 4))) env = .ok ((0, .int (-4)), env) := rfl
end DL

-- part DLd
set_option Elab.async false
set_option linter.all false
set_option maxRecDepth 100000
/-! DL, part d: readings by data; operations. -/
namespace DL
open PySem PySem.Spec PyProof.Rows L2

/-- an exception's object -/
def ExR (M : Mo) (F H : Hp) (c : Nat) (d : D) (cls : Value) (dx : Addr) : Prop := ∃ C v, M.cl c = some C ∧ cls = .ref C ∧ H dx = some (.xd [("value", v)]) ∧ Rep M F d v
def XP (M : Mo) (E : XK) (c : Nat) (d : D) (F H : Hp) (P : Addr → Prop) : Prop := ∀ cls dx F' H' P', Step F H P F' H' P' → Same F' H' → ExR M F' H' c d cls dx → E cls (some dx) H'
/-- what the frame is about: the world, the lent slots, what is wanted of an exception -/
structure Fr where
  M : Mo
  io : List (Nat × V)
  E : XK
/-- behind what gives r; p: nothing that is lent was touched -/
def Pst (G : Fr) (p : Bool) (σ : St) (F H : Hp) (fs : Ft) {α : Type} (r : Res (α × Env)) (k : α → Env → Hp → Hp → Ft → Prop) : Prop := match r with
  | .ok (x, env') => ∀ F' H' fs', GS G.M F' H' G.io env' σ fs' → Step F H fs.at F' H' fs'.at → (p = true → Same H H') → k x env' F' H' fs'
  | .exn c d => XP G.M G.E c d F H fs.at
  | .stuck => False
/-- readings -/
def tE (G : Fr) (p : Bool) (r : Env → Res (Wk × Env)) : TE := fun σ H Q => ∃ env F fs, GS G.M F H G.io env σ fs ∧ Pst G p σ F H fs (r env) fun x _ F' H' _ => ∀ v, RW G.M F' H' x.1 x.2 v → Q v H'
def ArR (M : Mo) (F H : Hp) (σ : St) : List Ar → List V → Prop
  | [], vs => vs = []
  | .d k d :: r, vs => ∃ v vs', vs = v :: vs' ∧ RW M F H k d v ∧ ArR M F H σ r vs'
  | .io i :: r, vs => ∃ v vs', vs = v :: vs' ∧ σ[i]? = some (some v) ∧ ArR M F H σ r vs'
  | .wk i :: r, vs => ∃ v vs', vs = v :: vs' ∧ σ[i]? = some (some v) ∧ ArR M F H σ r vs'
def tA (G : Fr) (p : Bool) (r : Env → Res (List Ar × Env)) : TA := fun σ H Q => ∃ env F fs, GS G.M F H G.io env σ fs ∧ Pst G p σ F H fs (r env) fun x _ F' H' _ => ∀ vs, ArR G.M F' H' σ x vs → Q vs H'
def tT (G : Fr) (p : Bool) (r : Env → Res (Bool × Env)) : TT := fun σ H Q => ∃ env F fs, GS G.M F H G.io env σ fs ∧ Pst G p σ F H fs (r env) fun x _ F' H' _ => Q x H'
def tO (G : Fr) (p : Bool) (r : Env → Res (Option Int × Env)) : TO := fun σ H Q => ∃ env F fs, GS G.M F H G.io env σ fs ∧ Pst G p σ F H fs (r env) fun x _ F' H' _ => Q x H'
/-- a new value, as a list that is no one's yet -/
def Nw (M : Mo) (F H : Hp) (z : D) (Q : VK) : Prop := match z with
  | .nd .lst ds => ∀ p vs, H p = none → Fa2 (Rep M F) ds vs → Q (.ref p) (upd H p (.lst vs))
  | z => ∀ v F' H', Same F F' → Same H H' → Same F' H' → (∀ b, F' b ≠ none → F b ≠ none ∨ H b = none) → Rep M F' z v → Q v H'
def tN (G : Fr) (p : Bool) (r : Env → Res (Wk × Env)) : TE := fun σ H Q => ∃ env F fs, GS G.M F H G.io env σ fs ∧ Pst G p σ F H fs (r env) fun x _ F' H' _ => x.1 = 0 → Nw G.M F' H' x.2 Q
/-- the thing of a slot, of so many levels: what is owned at f, apart from the slots -/
def Apart (fs : Ft) (f : List Addr) : Prop := ∀ i b, b ∈ fs i → b ∉ f
def atW (fs : Ft) (f : List Addr) (b : Addr) : Prop := fs.at b ∨ b ∈ f
/-- a new list of one's own -/
def tL (G : Fr) (p : Bool) (r : Env → Res (Wk × Env)) : TE := fun σ H Q => ∃ env F fs, GS G.M F H G.io env σ fs ∧ match r env with
  | .ok (x, env') => ∃ ds, x = (0, D.lst ds) ∧ ∀ F' H' fs' v f, GS G.M F' H' G.io env' σ fs' → Step F H fs.at F' H' (atW fs' f) → (p = true → Same H H') → Own G.M F' H' 1 (.lst ds) v f → f.Nodup → Apart fs' f → (∀ b ∈ f, F' b = none) → Q v H'
  | .exn c d => XP G.M G.E c d F H fs.at
  | .stuck => False

section
variable {G : Fr} {p p1 p2 : Bool} {σ : St} {F H F1 H1 : Hp} {fs fs1 : Ft}
theorem XP.step {M : Mo} {E : XK} {c : Nat} {d : D} {P P1 : Addr → Prop} (h : XP M E c d F H P) (s : Step F H P F1 H1 P1) : XP M E c d F1 H1 P1 := fun cls dx F' H' fp' a b x => h cls dx F' H' fp' (s.trans a) b x
/-- two in a row -/
theorem Pst.bind {α β : Type} {r : Res (α × Env)} {f : α × Env → Res (β × Env)} {k : β → Env → Hp → Hp → Ft → Prop} {k1 : α → Env → Hp → Hp → Ft → Prop} (h : Pst G p σ F H fs (r.bind f) k)
    (hp : p = true → p1 = true ∧ p2 = true)
    (next : ∀ x env1 F1 H1 fs1, r = .ok (x, env1) → GS G.M F1 H1 G.io env1 σ fs1 → Step F H fs.at F1 H1 fs1.at → (p1 = true → Same H H1) → Pst G p2 σ F1 H1 fs1 (f (x, env1)) k → k1 x env1 F1 H1 fs1) : Pst G p1 σ F H fs r k1 := by
  cases r with
  | stuck => exact h
  | exn c d => exact h
  | ok q =>
    obtain ⟨x, env1⟩ := q
    intro F1 H1 fs1 g s t
    refine next x env1 F1 H1 fs1 rfl g s t ?_
    have h : Pst G p σ F H fs (f (x, env1)) k := h
    cases e : f (x, env1) with
    | stuck => rw [e] at h; exact h
    | exn c d => rw [e] at h; exact h.step s
    | ok q =>
      obtain ⟨y, env2⟩ := q
      rw [e] at h
      intro F2 H2 fs2 g2 s2 t2
      exact h F2 H2 fs2 g2 (s.trans s2) fun z => (t (hp z).1).trans (t2 (hp z).2)
theorem Pst.weak {α : Type} {r : Res (α × Env)} {k k1 : α → Env → Hp → Hp → Ft → Prop} (h : Pst G p σ F H fs r k) (hp : p = true → p1 = true)
    (next : ∀ x env1 F1 H1 fs1, r = .ok (x, env1) → GS G.M F1 H1 G.io env1 σ fs1 → Step F H fs.at F1 H1 fs1.at → (p1 = true → Same H H1) → k x env1 F1 H1 fs1 → k1 x env1 F1 H1 fs1) : Pst G p1 σ F H fs r k1 := by
  cases r with
  | stuck => exact h
  | exn c d => exact h
  | ok q =>
    obtain ⟨x, env1⟩ := q
    intro F1 H1 fs1 g s t
    exact next x env1 F1 H1 fs1 rfl g s t (h F1 H1 fs1 g s fun z => t (hp z))
/-- nothing happens any more -/
theorem Pst.done {α : Type} {x : α} {env : Env} {k : α → Env → Hp → Hp → Ft → Prop} (h : Pst G p σ F H fs (.ok (x, env)) k) (g : GS G.M F H G.io env σ fs) : k x env F H fs :=
  h F H fs g Step.refl fun _ => Same.refl H
/-- a state with more that stands still -/
theorem GS.more {env : Env} (g : GS G.M F H G.io env σ fs) (a : Same F F1) (b : Same H H1) (c : Same F1 H1) (n : ∀ x, F1 x ≠ none → F x ≠ none ∨ H x = none) : GS G.M F1 H1 G.io env σ fs ∧ Step F H fs.at F1 H1 fs.at := by
  refine ⟨g.keep a (g.same b) c fun i x hx => ?_, a, fun x o e _ => b x o e, fun x h => (n x h).imp id .inl, fun x h => .inl h⟩
  cases e : F1 x with
  | none => rfl
  | some o =>
    rcases n x (by rw [e]; simp) with z | z
    · exact absurd (g.fn i x hx) z
    · exact absurd z (g.hd hx)
/-- a new thing is made -/
theorem new_same {p' : Addr} (h : H p' = none) {o : HO} : Same H (upd H p' o) := fun b u e => by rw [upd_ne (ne_of_none e h)]; exact e
/-- .. that is the frame's -/
theorem GS.newO {env : Env} (g : GS G.M F H G.io env σ fs) {q : Addr} {o : HO} (h : H q = none) : GS G.M F (upd H q o) G.io env σ fs ∧ Step F H fs.at F (upd H q o) (atW fs [q]) ∧ Apart fs [q] ∧ F q = none := by
  have hF : F q = none := by
    cases e : F q with
    | none => rfl
    | some u => rw [g.fh q u e] at h; cases h
  refine ⟨g.keep (Same.refl F) (g.same (new_same h)) (g.fh.trans (new_same h)) g.fn, ⟨Same.refl F, fun b u e _ => new_same h b u e, fun b hb => .inl hb, fun b hb => ?_⟩, fun i b hb z => ?_, hF⟩
  · rcases hb with hb | hb
    · exact .inl hb
    · rw [List.mem_singleton] at hb; subst hb; exact .inr h
  · rw [List.mem_singleton] at z; subst z; exact g.hd hb h
theorem Nw.scal {M : Mo} {z : D} {Q : VK} {v : V} (h : Nw M F H z Q) (hs : Same F H) (r : Rep M F z v) (n : ∀ ds, z ≠ .nd .lst ds) : Q v H := by
  unfold Nw at h
  split at h
  · exact absurd rfl (n _)
  · exact h v F H (Same.refl F) (Same.refl H) hs (fun b x => .inl x) r
/-- what stands still: by Nw -/
theorem Nw.of {M : Mo} {z : D} {Q : VK} (hs : Same F H) (h : ∀ v F' H', Same F F' → Same H H' → Same F' H' → (∀ b, F' b ≠ none → F b ≠ none ∨ H b = none) → Rep M F' z v → Q v H') : Nw M F H z Q := by
  unfold Nw
  split
  · intro p vs hp hv
    have hF : F p = none := by
      cases e : F p with
      | none => rfl
      | some u => rw [hs p u e] at hp; cases hp
    refine h (.ref p) (upd F p (.lst vs)) (upd H p (.lst vs)) (new_same hF) (new_same hp) (fun b u e => ?_) (fun x hx => ?_) (Rep.nd_iff.mpr ⟨p, vs, rfl, upd_same, hv.mono fun d _ v r => r.mono (new_same hF)⟩)
    · by_cases z : b = p
      · subst z; rw [upd_same] at e ⊢; exact e
      · rw [upd_ne z] at e ⊢; exact hs b u e
    · by_cases z : x = p
      · subst z; exact .inr hp
      · rw [upd_ne z] at hx; exact .inl hx
  · exact h
theorem tE_N {r : Env → Res (Wk × Env)} {Q : VK} (h : tE G p r σ H Q) : tN G p r σ H Q := by
  obtain ⟨env, F, fs, g, q⟩ := h
  refine ⟨env, F, fs, g, ?_⟩
  cases e : r env with
  | stuck => rw [e] at q; exact q
  | exn c d => rw [e] at q; exact q
  | ok y =>
    obtain ⟨x, env'⟩ := y
    rw [e] at q
    intro F' H' fs' g' s t hx
    refine Nw.of g'.fh fun v F2 H2 a b c n rv => ?_
    obtain ⟨g2, s2⟩ := g'.more a b c n
    refine q F2 H2 fs' g2 (s.trans s2) (fun z => (t z).trans b) v ?_
    rw [hx]
    exact rv
theorem own_strong {M : Mo} : ∀ {ds : List D} {vs : List V}, Fa2 (Rep M F) ds vs → Fa3 (Own M F H 0) ds vs []
  | [], _, h => ⟨h, rfl⟩
  | d :: ds, _, h => by
    obtain ⟨v, vs', rfl, a, b⟩ := h
    exact ⟨v, vs', [], [], rfl, rfl, ⟨a, rfl⟩, own_strong b⟩
theorem tL_N {r : Env → Res (Wk × Env)} {Q : VK} (h : tL G p r σ H Q) : tN G p r σ H Q := by
  obtain ⟨env, F, fs, g, q⟩ := h
  refine ⟨env, F, fs, g, ?_⟩
  cases e : r env with
  | stuck => rw [e] at q; exact q
  | exn c d => rw [e] at q; exact q
  | ok y =>
    obtain ⟨x, env'⟩ := y
    rw [e] at q
    obtain ⟨ds, rfl, q⟩ := q
    intro F' H' fs' g' s t _ l vs hl hv
    obtain ⟨g2, s2, ap, hF⟩ := g'.newO (o := .lst vs) hl
    exact q F' (upd H' l (.lst vs)) fs' (.ref l) [l] g2 (s.trans s2) (fun z => (t z).trans (new_same hl)) ⟨l, vs, [], [], rfl, ⟨upd_same, rfl⟩, own_strong hv, rfl⟩ (by simp) ap (by simpa using hF)
end

/-! ### operations on values -/
section
variable {X : Cx} {M : Mo} {F H : Hp}
theorem Rep.int {i : Int} : Rep M F (.int i) (.int i) := by simp [Rep]
theorem Rep.str {i : Str} : Rep M F (.str i) (.str i) := by simp [Rep]
theorem Rep.bl {i : Bool} : Rep M F (.bl i) (.bl i) := by simp [Rep]
theorem Rep.non : Rep M F .non .non := by simp [Rep]
theorem Nw.int {i : Int} {Q : VK} (h : Nw M F H (.int i) Q) (hs : Same F H) : Q (.int i) H := h.scal hs Rep.int (by simp)
theorem Nw.str {i : Str} {Q : VK} (h : Nw M F H (.str i) Q) (hs : Same F H) : Q (.str i) H := h.scal hs Rep.str (by simp)
theorem Nw.bl {i : Bool} {Q : VK} (h : Nw M F H (.bl i) Q) (hs : Same F H) : Q (.bl i) H := h.scal hs Rep.bl (by simp)
theorem lim_ok {n : Nat} (h : n ≤ lim) : n ≤ sizeLine := Nat.le_trans h (by decide)
theorem lim_lt {n : Nat} (h : n ≤ lim) : n < sizeLine := Nat.lt_of_le_of_lt h (by decide)
theorem fa_pred {k : Nat} (hk : k ≤ 1) {ds : List D} {vs : List V} (h : Fa2 (RW M F H (k - 1)) ds vs) : Fa2 (Rep M F) ds vs := by
  have e : k - 1 = 0 := by omega
  rw [e] at h
  exact h
/-- a op b, by data -/
def rBin (M : Mo) (op : Bop) : R2 := fun x y H Q => ∃ F j d k e z, Same F H ∧ RW M F H j d x ∧ RW M F H k e y ∧ dBin op (j, d) (k, e) = .ok z ∧ Nw M F H z Q
def Bop.py : Bop → Operator
  | .add => .Add | .sub => .Sub | .mul => .Mult | .fdiv => .FloorDiv | .mod => .Mod | .pow => .Pow
/-- a new tuple -/
theorem Nw.tup {M : Mo} {ds : List D} {Q : VK} (h : Nw M F H (.tup ds) Q) (hs : Same F H) {p : Addr} {vs : List V} (hp : H p = none) (hv : Fa2 (Rep M F) ds vs) : Q (.ref p) (upd H p (.tup vs)) := by
  have hF : F p = none := by
    cases e : F p with
    | none => rfl
    | some u => rw [hs p u e] at hp; cases hp
  refine h (.ref p) (upd F p (.tup vs)) (upd H p (.tup vs)) (new_same hF) (new_same hp) (fun b u e => ?_) (fun x hx => ?_) (Rep.nd_iff.mpr ⟨p, vs, rfl, upd_same, hv.mono fun d _ v r => r.mono (new_same hF)⟩)
  · by_cases z : b = p
    · subst z; rw [upd_same] at e ⊢; exact e
    · rw [upd_ne z] at e ⊢; exact hs b u e
  · by_cases z : x = p
    · subst z; exact .inr hp
    · rw [upd_ne z] at hx; exact .inl hx
theorem Fa2.nil {P : D → V → Prop} {vs : List V} (h : Fa2 P [] vs) : vs = [] := h
theorem Fa2.vnil {P : D → V → Prop} {ds : List D} (h : Fa2 P ds []) : ds = [] := by
  cases ds with
  | nil => rfl
  | cons d ds => obtain ⟨v, vs', e, _⟩ := h; cases e
theorem Fa2.flatten {P : D → V → Prop} {ds : List D} {vs : List V} (h : Fa2 P ds vs) : ∀ n : Nat, Fa2 P (List.replicate n ds).flatten (List.replicate n vs).flatten
  | 0 => rfl
  | n + 1 => by
    simp only [List.replicate_succ, List.flatten_cons]
    exact h.append (h.flatten n)
theorem ite_ok {α : Type} {c : Prop} [Decidable c] {a b : α} (h : (if c then Res.ok a else Res.stuck) = Res.ok b) : c ∧ a = b := by
  by_cases z : c
  · rw [if_pos z] at h; cases h; exact ⟨z, rfl⟩
  · rw [if_neg z] at h; cases h
theorem op_fdivG : OpR X (binaryOp .FloorDiv) (rI (fun _ j => DivOk j = true) fun i j => .int (i.fdiv j)) := opI fun i j t u tk Q E hc q => by
  have h := Bool.and_eq_true_iff.mp hc
  exact floordiv_int (of_decide_eq_true h.1) q (.inl (PyProof.noPylong_of_log2 (of_decide_eq_true h.2)))
theorem op_mulG : OpR X (binaryOp .Mult) (rI (fun i j => MulOk i j = true) fun i j => .int (i * j)) := opI fun i j t u tk Q E hc q => by
  unfold MulOk at hc
  simp only [Bool.or_eq_true, decide_eq_true_eq] at hc
  refine mul_int q ?_
  rcases hc with (hc | hc) | hc
  · exact CMul.ok (.inl (by omega))
  · exact CMul.ok (.inr (by omega))
  · exact CMulW.ok hc
theorem op_powG : OpR X (binaryOp .Pow) (rI (fun i j => PowOk i j = true) fun i j => .int (i ^ j.toNat)) := opI fun i j t u tk Q E hc q => by
  have h := Bool.and_eq_true_iff.mp hc
  have h1 := of_decide_eq_true h.1
  have h2 := of_decide_eq_true h.2
  refine pow_int h1 (Int.le_trans (Int.mul_le_mul_of_nonneg_right ?_ h1) h2) q
  unfold Builtin.Int.intBits
  split <;> omega
theorem op_bin (hK : X.K = M.K) (op : Bop) : OpR X (binaryOp op.py) (rBin M op) := by
  intro pins s σ H x y v u Q I rx ry h
  obtain ⟨F, j, d, k, e, z, hs, hx, hy, he, q⟩ := h
  cases op with
  | add =>
    cases d <;> cases e <;> try (simp [dBin] at he; done)
    · have he := Res.ok.inj he; subst he
      rw [hx.int] at rx; rw [hy.int] at ry
      exact op_add pins s σ H _ _ v u Q I rx ry ⟨_, _, rfl, rfl, q.int hs⟩
    · obtain ⟨hl, he⟩ := ite_ok he; subst he
      rw [hx.str] at rx; rw [hy.str] at ry
      exact op_add_str pins s σ H _ _ v u Q I rx ry ⟨_, _, rfl, rfl, lim_ok hl, q.str hs⟩
    · rename_i k1 xs k2 ys
      cases k1 <;> cases k2 <;> try (simp [dBin] at he; done)
      · obtain ⟨⟨h1, h2, h3⟩, he⟩ := ite_ok he; subst he
        obtain ⟨a, vs, rfl, r1, f1⟩ := hx.node hs
        obtain ⟨b, ws, rfl, r2, f2⟩ := hy.node hs
        refine op_cat pins s σ H _ _ v u Q I rx ry ⟨a, b, vs, ws, rfl, rfl, r1, r2, ?_, fun p hp => ?_⟩
        · rw [f1.length, f2.length]; exact lim_ok h3
        · exact q p (vs ++ ws) hp ((fa_pred h1 f1).append (fa_pred h2 f2))
      · cases j <;> cases k <;> try (simp [dBin] at he; done)
        obtain ⟨h3, he⟩ := ite_ok he; subst he
        obtain ⟨a, vs, rfl, r1, f1⟩ := hx.node hs
        obtain ⟨b, ws, rfl, r2, f2⟩ := hy.node hs
        refine op_catA pins s σ H _ _ v u Q I rx ry ⟨a, b, vs, ws, rfl, rfl, SqT.of r1, SqT.of r2, ?_, fun e => ?_, fun _ e => ?_, fun _ _ p hp => ?_⟩
        · rw [f1.length, f2.length]; exact lim_ok h3
        · subst e
          rw [f1.vnil] at q
          exact q.scal hs hy (by simp)
        · subst e
          rw [f2.vnil, List.append_nil] at q
          exact q.scal hs hx (by simp)
        · exact q.tup hs hp (f1.append f2)
  | sub =>
    cases d <;> cases e <;> try (simp [dBin] at he; done)
    have he := Res.ok.inj he; subst he
    rw [hx.int] at rx; rw [hy.int] at ry
    exact op_sub pins s σ H _ _ v u Q I rx ry ⟨_, _, rfl, rfl, q.int hs⟩
  | mul =>
    cases d <;> cases e <;> try (simp [dBin] at he; done)
    · obtain ⟨hl, he⟩ := ite_ok he; subst he
      rw [hx.int] at rx; rw [hy.int] at ry
      exact op_mulG pins s σ H _ _ v u Q I rx ry ⟨_, _, rfl, rfl, hl, q.int hs⟩
    · rename_i k1 xs n
      cases k1 <;> try (simp [dBin] at he; done)
      obtain ⟨⟨h1, h2, h3, h4⟩, he⟩ := ite_ok he; subst he
      obtain ⟨a, vs, rfl, r1, f1⟩ := hx.node hs
      rw [hy.int] at ry
      refine op_rep pins s σ H _ _ v u Q I rx ry ⟨a, _, vs, rfl, rfl, r1, by omega, by omega, ?_, fun p hp => ?_⟩
      · rw [f1.length]; exact lim_ok h4
      · exact q p _ hp ((fa_pred h1 f1).flatten _)
  | fdiv =>
    cases d <;> cases e <;> try (simp [dBin] at he; done)
    obtain ⟨hl, he⟩ := ite_ok he; subst he
    rw [hx.int] at rx; rw [hy.int] at ry
    exact op_fdivG pins s σ H _ _ v u Q I rx ry ⟨_, _, rfl, rfl, hl, q.int hs⟩
  | mod =>
    cases d <;> cases e <;> try (simp [dBin] at he; done)
    obtain ⟨hl, he⟩ := ite_ok he; subst he
    rw [hx.int] at rx; rw [hy.int] at ry
    exact op_modN pins s σ H _ _ v u Q I rx ry ⟨_, _, rfl, rfl, hl, q.int hs⟩
  | pow =>
    cases d <;> cases e <;> try (simp [dBin] at he; done)
    obtain ⟨hl, he⟩ := ite_ok he; subst he
    rw [hx.int] at rx; rw [hy.int] at ry
    exact op_powG pins s σ H _ _ v u Q I rx ry ⟨_, _, rfl, rfl, hl, q.int hs⟩
/-! ### comparisons -/
def rCmp (M : Mo) (op : Cop) : R2 := fun x y H Q => ∃ F j d k e b, Same F H ∧ RW M F H j d x ∧ RW M F H k e y ∧ dCmp op (j, d) (k, e) = .ok b ∧ Q (.bl b) H
def Cop.py : Cop → CmpOp
  | .eq => .Eq | .ne => .NotEq | .lt => .Lt | .le => .LtE | .gt => .Gt | .ge => .GtE | .inn => .In | .nin => .NotIn | .isn => .Is | .nisn => .IsNot
mutual
theorem RW.dp (hs : Same F H) : ∀ (d : D) (k : Nat) (v : V), RW M F H k d v → plain d = true → Dp M.K H v (toPy d)
  | .non, k, v, h, _ => by rw [h.non]; exact .non
  | .bl b, k, v, h, _ => by rw [h.bl]; exact .bl b
  | .int b, k, v, h, _ => by rw [h.int]; exact .int b
  | .str b, k, v, h, _ => by rw [h.str]; exact .str b
  | .nd .lst ds, k, v, h, p => by
    obtain ⟨a, vs, rfl, r, f⟩ := h.node hs
    exact .lst (SqL.of r) (RW.dps hs ds (k - 1) vs f (by simpa [plain] using p))
  | .nd .tup ds, k, v, h, p => by
    obtain ⟨a, vs, rfl, r, f⟩ := h.node hs
    exact .tup (SqT.of r) (RW.dps hs ds (k - 1) vs f (by simpa [plain] using p))
  | .nd .scr ds, k, v, h, p => by
    obtain ⟨a, vs, rfl, r, f⟩ := h.node hs
    exact .lst r (RW.dps hs ds (k - 1) vs f (by simpa [plain] using p))
  | .nd (.obj _ _) ds, k, v, h, p => by simp [plain] at p
  | .nd (.dic _) ds, k, v, h, p => by simp [plain] at p
theorem RW.dps (hs : Same F H) : ∀ (ds : List D) (k : Nat) (vs : List V), Fa2 (RW M F H k) ds vs → plains ds = true → DpAll M.K H vs (toPys ds)
  | [], k, vs, h, _ => by rw [show vs = [] from h]; exact .nil
  | d :: ds, k, vs, h, p => by
    obtain ⟨v, vs', rfl, a, b⟩ := h
    have p := Bool.and_eq_true_iff.mp (show (plain d && plains ds) = true from p)
    exact .cons (RW.dp hs d k v a p.1) (RW.dps hs ds k vs' b p.2)
end
theorem dEq_ok {d e : D} {b : Bool} (h : dEq d e = .ok b) : plain d = true ∧ plain e = true ∧ SeqAt.shaped (toPy d) = true ∧ SeqAt.shaped (toPy e) = true ∧ b = PyData.eqv (toPy d) (toPy e) := by
  obtain ⟨h1, h2⟩ := ite_ok h
  simp only [okPy, Bool.and_eq_true] at h1
  exact ⟨h1.1.1, h1.2.1, h1.1.2, h1.2.2, h2.symm⟩
theorem flat_V {k : Nat} {d : D} {v : V} (h : RW M F H k d v) (f : flat d = true) : flatV v = true := by
  cases d with
  | non => rw [h.non]; rfl
  | bl b => rw [h.bl]; rfl
  | int b => rw [h.int]; rfl
  | str b => rw [h.str]; rfl
  | nd k ds => simp [flat] at f
theorem eqv_V {j k : Nat} {d e : D} {v w : V} (h : RW M F H j d v) (h2 : RW M F H k e w) (f : flat d = true) (f2 : flat e = true) : eqV v w = PyData.eqv (toPy d) (toPy e) := by
  cases d <;> cases e <;> (try (simp [flat] at f f2; done)) <;> (first | rw [h.non] | rw [h.bl] | rw [h.int] | rw [h.str]) <;> (first | rw [h2.non] | rw [h2.bl] | rw [h2.int] | rw [h2.str]) <;> simp [eqV, toPy, PyData.eqv]
theorem in_V {j k : Nat} {d : D} {v : V} (h : RW M F H j d v) (f : flat d = true) : ∀ {ds : List D} {vs : List V}, Fa2 (RW M F H k) ds vs → ds.all flat = true → vs.all flatV = true ∧ inV v vs = anyEq d ds
  | [], vs, hv, _ => by rw [show vs = [] from hv]; exact ⟨rfl, rfl⟩
  | e :: ds, vs, hv, fa => by
    obtain ⟨w, vs', rfl, a, b⟩ := hv
    have fa := Bool.and_eq_true_iff.mp (show (flat e && ds.all flat) = true from fa)
    obtain ⟨i1, i2⟩ := in_V h f b fa.2
    refine ⟨by rw [List.all_cons, flat_V a fa.1, i1]; rfl, ?_⟩
    unfold inV anyEq at i2 ⊢
    rw [List.any_cons, List.any_cons, i2, eqv_V a h fa.1 f]
theorem dIn_ok (hK : X.K = M.K) (neg : Bool) {pins : List (Addr × Obj)} {s : Shared} {σ : L2.St} {x y : V} {v u : Value} {Q : VK} {k : Nat} {d e : D} {b : Bool} (hs : Same F H) (I : Inv X pins σ H s) (rx : RelV x v) (ry : RelV y u) (hx : RW M F H 0 d x) (hy : RW M F H k e y)
    (h : dIn d (k, e) = .ok b) (q : Q (.bl (if neg then !b else b)) H) : wpAny (model X.prog X.w) X.A (compareOp (if neg then .NotIn else .In) v u) (EP X pins σ Q) X.xe s := by
  have seq : ∀ (a : Addr) (ds : List D) (vs : List V), y = .ref a → (SqL X.K H a vs ∨ SqT X.K H a vs) → Fa2 (RW M F H (k - 1)) ds vs → flat d = true → ds.all flat = true → b = anyEq d ds → wpAny (model X.prog X.w) X.A (compareOp (if neg then .NotIn else .In) v u) (EP X pins σ Q) X.xe s := by
    intro a ds vs ey hsq hf f1 f2 eb
    subst ey
    obtain ⟨i1, i2⟩ := in_V hx f1 hf f2
    cases neg with
    | false =>
      refine op_in_seq pins s σ H x _ v u Q I rx ry ⟨a, vs, rfl, hsq, flat_V hx f1, i1, ?_⟩
      simp only [Bool.false_eq_true, if_false] at q ⊢
      rw [i2, ← eb]; exact q
    | true =>
      refine op_notIn_seq pins s σ H x _ v u Q I rx ry ⟨a, vs, rfl, hsq, flat_V hx f1, i1, ?_⟩
      simp only [if_true] at q ⊢
      rw [i2, ← eb]; exact q
  have node : ∀ (kd : Kd) (ds : List D), e = .nd kd ds → (kd = .lst ∨ kd = .tup) → flat d = true → ds.all flat = true → b = anyEq d ds → wpAny (model X.prog X.w) X.A (compareOp (if neg then .NotIn else .In) v u) (EP X pins σ Q) X.xe s := by
    intro kd ds ee hk f1 f2 eb
    subst ee
    obtain ⟨a, vs, ey, r, hf⟩ := hy.node hs
    rcases hk with rfl | rfl
    · exact seq a ds vs ey (.inl (SqL.of r)) hf f1 f2 eb
    · exact seq a ds vs ey (.inr (SqT.of r)) hf f1 f2 eb
  cases e with
  | str z =>
    cases d <;> try (simp [dIn] at h; done)
    have h := Res.ok.inj h; subst h
    rw [hx.str] at rx; rw [hy.str] at ry
    cases neg with
    | false => exact op_in_str pins s σ H _ _ v u Q I rx ry ⟨_, _, rfl, rfl, q⟩
    | true => exact op_notin_str pins s σ H _ _ v u Q I rx ry ⟨_, _, rfl, rfl, q⟩
  | nd kd ds =>
    cases kd with
    | lst =>
      have h : (if flat d = true ∧ ds.all flat = true then Res.ok (anyEq d ds) else Res.stuck) = Res.ok b := by
        cases d <;> exact h
      obtain ⟨⟨f1, f2⟩, eb⟩ := ite_ok h
      exact node .lst ds rfl (.inl rfl) f1 f2 eb.symm
    | tup =>
      have h : (if flat d = true ∧ ds.all flat = true then Res.ok (anyEq d ds) else Res.stuck) = Res.ok b := by
        cases d <;> exact h
      obtain ⟨⟨f1, f2⟩, eb⟩ := ite_ok h
      exact node .tup ds rfl (.inr rfl) f1 f2 eb.symm
    | _ => cases d <;> simp [dIn] at h
  | _ => cases d <;> simp [dIn] at h
theorem op_cmp (hK : X.K = M.K) (hu : X.A.units + 64 < cLine) (op : Cop) : OpR X (compareOp op.py) (rCmp M op) := by
  intro pins s σ H x y v u Q I rx ry h
  obtain ⟨F, j, d, k, e, b, hs, hx, hy, he, q⟩ := h
  cases op with
  | eq =>
    obtain ⟨p1, p2, s1, s2, rfl⟩ := dEq_ok he
    exact op_eqD hu pins s σ H x y v u Q I rx ry ⟨_, _, hK ▸ RW.dp hs d j x hx p1, hK ▸ RW.dp hs e k y hy p2, s1, s2, q⟩
  | ne =>
    have he : (dEq d e).bind (fun b => Res.ok (!b)) = Res.ok b := he
    cases e3 : dEq d e with
    | stuck => rw [e3] at he; cases he
    | exn c d => rw [e3] at he; cases he
    | ok b' =>
      rw [e3] at he
      have he := Res.ok.inj he; subst he
      obtain ⟨p1, p2, s1, s2, rfl⟩ := dEq_ok e3
      exact op_neD hu pins s σ H x y v u Q I rx ry ⟨_, _, hK ▸ RW.dp hs d j x hx p1, hK ▸ RW.dp hs e k y hy p2, s1, s2, q⟩
  | lt =>
    cases d <;> cases e <;> try (simp [dCmp] at he; done)
    have he := Res.ok.inj he; subst he
    rw [hx.int] at rx; rw [hy.int] at ry
    exact op_lt pins s σ H _ _ v u Q I rx ry ⟨_, _, rfl, rfl, q⟩
  | le =>
    cases d <;> cases e <;> try (simp [dCmp] at he; done)
    have he := Res.ok.inj he; subst he
    rw [hx.int] at rx; rw [hy.int] at ry
    exact op_le pins s σ H _ _ v u Q I rx ry ⟨_, _, rfl, rfl, q⟩
  | gt =>
    cases d <;> cases e <;> try (simp [dCmp] at he; done)
    have he := Res.ok.inj he; subst he
    rw [hx.int] at rx; rw [hy.int] at ry
    exact op_gt pins s σ H _ _ v u Q I rx ry ⟨_, _, rfl, rfl, q⟩
  | ge =>
    cases d <;> cases e <;> try (simp [dCmp] at he; done)
    have he := Res.ok.inj he; subst he
    rw [hx.int] at rx; rw [hy.int] at ry
    exact op_ge pins s σ H _ _ v u Q I rx ry ⟨_, _, rfl, rfl, q⟩
  | inn =>
    cases j with
    | succ j => cases d <;> simp [dCmp] at he
    | zero => exact dIn_ok hK false hs I rx ry hx hy he q
  | nin =>
    cases j with
    | succ j => cases d <;> simp [dCmp] at he
    | zero =>
      have he : (dIn d (k, e)).bind (fun b => Res.ok (!b)) = Res.ok b := he
      cases e3 : dIn d (k, e) with
      | stuck => rw [e3] at he; cases he
      | exn c d => rw [e3] at he; cases he
      | ok b' =>
        rw [e3] at he
        have he := Res.ok.inj he; subst he
        exact dIn_ok hK true hs I rx ry hx hy e3 q
  | isn =>
    cases e <;> try (cases d <;> simp [dCmp] at he; done)
    rw [hy.non] at ry
    refine op_isN pins s σ H _ _ v u Q I rx ry ⟨rfl, ?_⟩
    cases d with
    | nd kd ds =>
      obtain ⟨a, vs, rfl, _⟩ := hx.node hs
      have he := Res.ok.inj he; subst he
      exact q
    | non => have he := Res.ok.inj he; subst he; rw [hx.non]; exact q
    | bl b => have he := Res.ok.inj he; subst he; rw [hx.bl]; exact q
    | int b => have he := Res.ok.inj he; subst he; rw [hx.int]; exact q
    | str b => have he := Res.ok.inj he; subst he; rw [hx.str]; exact q
  | nisn =>
    cases e <;> try (cases d <;> simp [dCmp] at he; done)
    rw [hy.non] at ry
    refine op_notN pins s σ H _ _ v u Q I rx ry ⟨rfl, ?_⟩
    cases d with
    | nd kd ds =>
      obtain ⟨a, vs, rfl, _⟩ := hx.node hs
      have he := Res.ok.inj he; subst he
      exact q
    | non => have he := Res.ok.inj he; subst he; rw [hx.non]; exact q
    | bl b => have he := Res.ok.inj he; subst he; rw [hx.bl]; exact q
    | int b => have he := Res.ok.inj he; subst he; rw [hx.int]; exact q
    | str b => have he := Res.ok.inj he; subst he; rw [hx.str]; exact q

/-! ### subscripts, slices, built-ins -/
theorem Fa2.atI {P : D → V → Prop} {ds : List D} {vs : List V} {i : Int} {d : D} (h : Fa2 P ds vs) (e : L2.atI ds i = some d) : ∃ v, L2.atI vs i = some v ∧ P d v := by
  unfold L2.atI at e ⊢
  rw [h.length]
  cases q : ixN ds.length i with
  | none => rw [q] at e; cases e
  | some j =>
    rw [q] at e
    exact h.get (i := j) e
def rIdx (M : Mo) : R2 := fun x y H Q => ∃ F j d k e w, Same F H ∧ RW M F H j d x ∧ RW M F H k e y ∧ dIdx (j, d) e = .ok w ∧ ∀ v, RW M F H w.1 w.2 v → Q v H
theorem ix_idx (hK : X.K = M.K) : IxR X (rIdx M) := by
  intro value slice pins s σ H x y v u Q I rx ry h hsub
  obtain ⟨F, j, d, k, e, w, hs, hx, hy, he, q⟩ := h
  cases e with
  | int i =>
    rw [hy.int] at ry
    cases d with
    | str z =>
      obtain ⟨hl, he⟩ : z.length ≤ lim ∧ (match L2.atI z.cps.toList i with | some c => Res.ok ((0 : Nat), D.str ⟨#[c]⟩) | none => .stuck) = .ok w := by
        have he : (if z.length ≤ lim then (match L2.atI z.cps.toList i with | some c => Res.ok ((0 : Nat), D.str ⟨#[c]⟩) | none => .stuck) else .stuck) = Res.ok w := he
        by_cases c : z.length ≤ lim
        · rw [if_pos c] at he; exact ⟨c, he⟩
        · rw [if_neg c] at he; cases he
      cases e3 : L2.atI z.cps.toList i with
      | none => rw [e3] at he; cases he
      | some c =>
        rw [e3] at he
        have he := Res.ok.inj he; subst he
        rw [hx.str] at rx
        exact ix_str value slice pins s σ H _ _ v u Q I rx ry ⟨z, i, c, rfl, rfl, lim_ok hl, e3, q _ Rep.str⟩ hsub
    | nd kd ds =>
      have fin : (kd = .lst ∨ kd = .tup ∨ kd = .scr) ∧ ∃ d', L2.atI ds i = some d' ∧ w = (j - 1, d') := by
        cases kd with
        | lst =>
          refine ⟨.inl rfl, ?_⟩
          have he : (match L2.atI ds i with | some d => Res.ok (j - 1, d) | none => .stuck) = .ok w := he
          cases e3 : L2.atI ds i with
          | none => rw [e3] at he; cases he
          | some c => rw [e3] at he; exact ⟨c, rfl, (Res.ok.inj he).symm⟩
        | tup =>
          refine ⟨.inr (.inl rfl), ?_⟩
          have he : (match L2.atI ds i with | some d => Res.ok (j - 1, d) | none => .stuck) = .ok w := he
          cases e3 : L2.atI ds i with
          | none => rw [e3] at he; cases he
          | some c => rw [e3] at he; exact ⟨c, rfl, (Res.ok.inj he).symm⟩
        | scr =>
          refine ⟨.inr (.inr rfl), ?_⟩
          have he : (match L2.atI ds i with | some d => Res.ok (j - 1, d) | none => .stuck) = .ok w := he
          cases e3 : L2.atI ds i with
          | none => rw [e3] at he; cases he
          | some c => rw [e3] at he; exact ⟨c, rfl, (Res.ok.inj he).symm⟩
        | obj c fl => simp [dIdx] at he
        | dic ks => simp [dIdx] at he
      obtain ⟨hk, d', e3, rfl⟩ := fin
      obtain ⟨a, vs, rfl, r1, f1⟩ := hx.node hs
      obtain ⟨z, e4, rz⟩ := f1.atI e3
      rcases hk with rfl | rfl | rfl
      · exact ix_list value slice pins s σ H _ _ v u Q I rx ry ⟨a, vs, i, z, rfl, rfl, SqL.of r1, e4, q z rz⟩ hsub
      · exact ix_tup value slice pins s σ H _ _ v u Q I rx ry ⟨a, vs, i, z, rfl, rfl, SqT.of r1, e4, q z rz⟩ hsub
      · exact ix_list value slice pins s σ H _ _ v u Q I rx ry ⟨a, vs, i, z, rfl, rfl, hK ▸ r1, e4, q z rz⟩ hsub
    | _ => simp [dIdx] at he
  | _ => cases d <;> (try (rename_i kd ds; cases kd)) <;> simp [dIdx] at he
theorem Fa2.cut {P : D → V → Prop} {ds : List D} {vs : List V} (lo hi : Option Int) (h : Fa2 P ds vs) : Fa2 P (cutL ds lo hi) (cutV vs lo hi) := by
  unfold cutL cutV
  rw [h.length]
  exact (h.drop _).take _
def rSlc (M : Mo) : V → Option Int → Option Int → Hp → VK → Prop := fun x lo hi H Q => ∃ F j d z, Same F H ∧ RW M F H j d x ∧ dSlc (j, d) lo hi = .ok z ∧ Nw M F H z Q
theorem sl_slc (hK : X.K = M.K) : L2.SlR X (rSlc M) := by
  intro pins s σ H x v vl vu lo hi sl Q I rx hsl pl pu h
  obtain ⟨F, j, d, z, hs, hx, he, q⟩ := h
  cases d with
  | nd kd ds =>
    obtain ⟨a, vs, rfl, r1, f1⟩ := hx.node hs
    cases kd with
    | lst =>
      obtain ⟨hj, he⟩ := ite_ok he; subst he
      exact sl_list pins s σ H _ v vl vu lo hi sl Q I rx hsl pl pu ⟨a, vs, rfl, SqL.of r1, fun p hp => q p _ hp ((fa_pred hj f1).cut lo hi)⟩
    | scr =>
      obtain ⟨hj, he⟩ := ite_ok he; subst he
      exact sl_list pins s σ H _ v vl vu lo hi sl Q I rx hsl pl pu ⟨a, vs, rfl, hK ▸ r1, fun p hp => q p _ hp ((fa_pred hj f1).cut lo hi)⟩
    | tup =>
      cases j with
      | succ j => simp [dSlc] at he
      | zero =>
        have he := Res.ok.inj he; subst he
        refine sl_tupA pins s σ H _ v vl vu lo hi sl Q I rx hsl pl pu ⟨a, vs, rfl, SqT.of r1, fun w => ?_, fun w p hp => ?_⟩
        · have e : cutL ds lo hi = ds := by
            rw [f1.length] at w
            unfold cutL
            rw [w.1, w.2]
            simp
          rw [e] at q
          exact q.scal hs hx (by simp)
        · exact q.tup hs hp (f1.cut lo hi)
    | obj c fl => simp [dSlc] at he
    | dic ks => simp [dSlc] at he
  | _ => simp [dSlc] at he
def WkR (M : Mo) (F H : Hp) : List Wk → List V → Prop
  | [], vs => vs = []
  | w :: ws, vs => ∃ v vs', vs = v :: vs' ∧ RW M F H w.1 w.2 v ∧ WkR M F H ws vs'
def rBlt (M : Mo) (b : Blt) : List V → Hp → VK → Prop := fun vs H Q => ∃ F ws z, Same F H ∧ WkR M F H ws vs ∧ dBlt b ws = .ok z ∧ Nw M F H z Q
theorem seqOf_node {k : Nat} {d : D} {ds : List D} {x : V} (hs : Same F H) (hx : RW M F H k d x) (e : seqOf d = some ds) : ∃ a vs, x = .ref a ∧ (SqL M.K H a vs ∨ SqT M.K H a vs) ∧ Fa2 (RW M F H (k - 1)) ds vs := by
  cases d with
  | nd kd es =>
    obtain ⟨a, vs, rfl, r1, f1⟩ := hx.node hs
    cases kd <;> simp [seqOf] at e <;> subst e
    · exact ⟨a, vs, rfl, .inl (SqL.of r1), f1⟩
    · exact ⟨a, vs, rfl, .inr (SqT.of r1), f1⟩
    · exact ⟨a, vs, rfl, .inl r1, f1⟩
  | _ => simp [seqOf] at e
theorem lstOf_node {k : Nat} {d : D} {ds : List D} {x : V} (hs : Same F H) (hx : RW M F H k d x) (e : lstOf d = some ds) : ∃ a vs, x = .ref a ∧ H a = some (.lst vs) ∧ Fa2 (RW M F H (k - 1)) ds vs := by
  cases d with
  | nd kd es =>
    obtain ⟨a, vs, rfl, r1, f1⟩ := hx.node hs
    cases kd <;> simp [lstOf] at e
    subst e
    exact ⟨a, vs, rfl, r1, f1⟩
  | _ => simp [lstOf] at e
theorem ints_vals {k : Nat} : ∀ {ds : List D} {is : List Int} {vs : List V}, intsOf ds = some is → Fa2 (RW M F H k) ds vs → vs = is.map V.int
  | [], is, vs, e, h => by
    simp [intsOf] at e
    rw [e, show vs = [] from h]; rfl
  | d :: ds, is, vs, e, h => by
    obtain ⟨v, vs', rfl, a, b⟩ := h
    cases d <;> simp [intsOf] at e
    obtain ⟨r, e1, rfl⟩ := e
    rw [a.int, ints_vals e1 b]; rfl
theorem bools_vals {k : Nat} : ∀ {ds : List D} {is : List Bool} {vs : List V}, boolsOf ds = some is → Fa2 (RW M F H k) ds vs → vs = is.map V.bl
  | [], is, vs, e, h => by
    simp [boolsOf] at e
    rw [e, show vs = [] from h]; rfl
  | d :: ds, is, vs, e, h => by
    obtain ⟨v, vs', rfl, a, b⟩ := h
    cases d <;> simp [boolsOf] at e
    obtain ⟨r, e1, rfl⟩ := e
    rw [a.bl, bools_vals e1 b]; rfl
theorem Fa2.ints : ∀ is : List Int, Fa2 (Rep M F) (is.map D.int) (is.map V.int)
  | [] => rfl
  | i :: is => ⟨_, _, rfl, Rep.int, Fa2.ints is⟩

theorem minL_ok {is : List Int} {m : Int} (e : minL is = some m) : 0 < is.length ∧ ∀ z, z ∈ is → (∀ y, y ∈ is → z ≤ y) → z = m := by
  cases is with
  | nil => cases e
  | cons x xs =>
    have e : xs.foldl min x = m := Option.some.inj e
    have key : ∀ (xs : List Int) (x : Int), (xs.foldl min x = x ∨ xs.foldl min x ∈ xs) ∧ xs.foldl min x ≤ x ∧ ∀ y ∈ xs, xs.foldl min x ≤ y := by
      intro xs
      induction xs with
      | nil => intro x; simp
      | cons y ys ih =>
        intro x
        obtain ⟨i1, i2, i3⟩ := ih (min x y)
        rw [List.foldl_cons]
        refine ⟨?_, by omega, fun z hz => ?_⟩
        · rcases i1 with h | h
          · rw [h]
            by_cases c : x ≤ y
            · rw [Int.min_eq_left c]; exact .inl rfl
            · rw [Int.min_eq_right (by omega)]; exact .inr (by simp)
          · exact .inr (by simp [h])
        · rcases List.mem_cons.mp hz with rfl | hz
          · omega
          · exact i3 z hz
    obtain ⟨k1, k2, k3⟩ := key xs x
    rw [e] at k1 k2 k3
    refine ⟨by simp, fun z hz hy => ?_⟩
    have a : z ≤ m := hy m (by rcases k1 with rfl | h <;> simp_all)
    have b : m ≤ z := by
      rcases List.mem_cons.mp hz with rfl | hz
      · exact k2
      · exact k3 z hz
    omega
theorem maxL_ok {is : List Int} {m : Int} (e : maxL is = some m) : 0 < is.length ∧ ∀ z, z ∈ is → (∀ y, y ∈ is → y ≤ z) → z = m := by
  cases is with
  | nil => cases e
  | cons x xs =>
    have e : xs.foldl max x = m := Option.some.inj e
    have key : ∀ (xs : List Int) (x : Int), (xs.foldl max x = x ∨ xs.foldl max x ∈ xs) ∧ x ≤ xs.foldl max x ∧ ∀ y ∈ xs, y ≤ xs.foldl max x := by
      intro xs
      induction xs with
      | nil => intro x; simp
      | cons y ys ih =>
        intro x
        obtain ⟨i1, i2, i3⟩ := ih (max x y)
        rw [List.foldl_cons]
        refine ⟨?_, by omega, fun z hz => ?_⟩
        · rcases i1 with h | h
          · rw [h]
            by_cases c : x ≤ y
            · rw [Int.max_eq_right c]; exact .inr (by simp)
            · rw [Int.max_eq_left (by omega)]; exact .inl rfl
          · exact .inr (by simp [h])
        · rcases List.mem_cons.mp hz with rfl | hz
          · omega
          · exact i3 z hz
    obtain ⟨k1, k2, k3⟩ := key xs x
    rw [e] at k1 k2 k3
    refine ⟨by simp, fun z hz hy => ?_⟩
    have a : m ≤ z := hy m (by rcases k1 with rfl | h <;> simp_all)
    have b : z ≤ m := by
      rcases List.mem_cons.mp hz with rfl | hz
      · exact k2
      · exact k3 z hz
    omega
theorem insI_perm (x : Int) : ∀ xs, (insI x xs).Perm (x :: xs)
  | [] => List.Perm.refl _
  | y :: ys => by
    unfold insI
    split
    · exact List.Perm.refl _
    · exact (List.Perm.cons y (insI_perm x ys)).trans (List.Perm.swap x y ys)
theorem insI_sorted (x : Int) : ∀ xs : List Int, xs.Pairwise (· ≤ ·) → (insI x xs).Pairwise (· ≤ ·)
  | [], _ => by simp [insI]
  | y :: ys, h => by
    unfold insI
    obtain ⟨h1, h2⟩ := List.pairwise_cons.mp h
    split
    · rename_i c
      refine List.pairwise_cons.mpr ⟨fun z hz => ?_, h⟩
      rcases List.mem_cons.mp hz with rfl | hz
      · exact c
      · exact Int.le_trans c (h1 z hz)
    · rename_i c
      refine List.pairwise_cons.mpr ⟨fun z hz => ?_, insI_sorted x ys h2⟩
      rcases List.mem_cons.mp ((insI_perm x ys).mem_iff.mp hz) with rfl | hz
      · omega
      · exact h1 z hz
theorem sortI_perm : ∀ xs, (sortI xs).Perm xs
  | [] => List.Perm.refl _
  | x :: xs => (insI_perm x _).trans (List.Perm.cons x (sortI_perm xs))
theorem sortI_sorted : ∀ xs, (sortI xs).Pairwise (· ≤ ·)
  | [] => List.Pairwise.nil
  | x :: xs => insI_sorted x _ (sortI_sorted xs)
theorem sortI_uniq {ns xs : List Int} (p : ns.Perm xs) (s : ns.Pairwise (· ≤ ·)) : ns = sortI xs :=
  List.Perm.eq_of_pairwise (fun a b _ _ h1 h2 => Int.le_antisymm h1 h2) s (sortI_sorted xs) (p.trans (sortI_perm xs).symm)
theorem leP_iff {a b : Int × Int} : leP a b = true ↔ a.1 < b.1 ∨ (a.1 = b.1 ∧ a.2 ≤ b.2) := by
  unfold leP
  simp
theorem insP_perm (x : Int × Int) : ∀ xs, (insP x xs).Perm (x :: xs)
  | [] => List.Perm.refl _
  | y :: ys => by
    unfold insP
    split
    · exact List.Perm.refl _
    · exact (List.Perm.cons y (insP_perm x ys)).trans (List.Perm.swap x y ys)
theorem insP_sorted (x : Int × Int) : ∀ xs : List (Int × Int), xs.Pairwise (fun a b => leP a b = true) → (insP x xs).Pairwise (fun a b => leP a b = true)
  | [], _ => by simp [insP]
  | y :: ys, h => by
    unfold insP
    obtain ⟨h1, h2⟩ := List.pairwise_cons.mp h
    split
    · rename_i c
      refine List.pairwise_cons.mpr ⟨fun z hz => ?_, h⟩
      rcases List.mem_cons.mp hz with rfl | hz
      · exact c
      · have := h1 z hz
        rw [leP_iff] at *
        omega
    · rename_i c
      refine List.pairwise_cons.mpr ⟨fun z hz => ?_, insP_sorted x ys h2⟩
      rcases List.mem_cons.mp ((insP_perm x ys).mem_iff.mp hz) with rfl | hz
      · rw [leP_iff] at *
        omega
      · exact h1 z hz
theorem sortP_perm : ∀ xs, (sortP xs).Perm xs
  | [] => List.Perm.refl _
  | x :: xs => (insP_perm x _).trans (List.Perm.cons x (sortP_perm xs))
theorem sortP_sorted : ∀ xs, (sortP xs).Pairwise (fun a b => leP a b = true)
  | [] => List.Pairwise.nil
  | x :: xs => insP_sorted x _ (sortP_sorted xs)
theorem sortP_uniq {ns xs : List (Int × Int)} (p : ns.Perm xs) (s : ns.Pairwise (fun a b => leP a b = true)) : ns = sortP xs := by
  refine List.Perm.eq_of_pairwise (fun a b _ _ h1 h2 => ?_) s (sortP_sorted xs) (p.trans (sortP_perm xs).symm)
  rw [leP_iff] at h1 h2
  exact Prod.ext (by omega) (by omega)
theorem ints_len {ds : List D} : ∀ {is : List Int}, intsOf ds = some is → is.length = ds.length := by
  induction ds with
  | nil => intro is e; simp [intsOf] at e; rw [e]; rfl
  | cons d ds ih =>
    intro is e
    cases d <;> simp [intsOf] at e
    obtain ⟨r, e1, rfl⟩ := e
    simp [ih e1]
/-- the pair that stands at a place -/
def kP (F : Hp) : V → Int × Int
  | .ref t => match F t with
    | some (.tup [.int a, .int b]) => (a, b)
    | _ => (0, 0)
  | _ => (0, 0)
theorem pairs_vals : ∀ {ds : List D} {ps : List (Int × Int)} {vs : List V}, pairsOf ds = some ps → Fa2 (Rep M F) ds vs →
    ps = vs.map (kP F) ∧ ∀ v ∈ vs, ∃ t, v = V.ref t ∧ F t = some (.tup [.int (kP F v).1, .int (kP F v).2])
  | [], ps, vs, e, h => by
    simp [pairsOf] at e
    rw [e, show vs = [] from h]; exact ⟨rfl, by simp⟩
  | d :: ds, ps, vs, e, h => by
    obtain ⟨v, vs', rfl, a, b⟩ := h
    unfold pairsOf at e
    split at e
    · rename_i h1; cases h1
    · rename_i x y r h1
      cases h1
      cases e1 : pairsOf ds with
      | none => rw [e1] at e; cases e
      | some qs =>
        rw [e1] at e
        have e := Option.some.inj e; subst e
        obtain ⟨i1, i2⟩ := pairs_vals e1 b
        obtain ⟨t, ws, rfl, r1, f1⟩ := Rep.nd_iff.mp a
        obtain ⟨w1, ws1, rfl, g1, f2⟩ := f1
        obtain ⟨w2, ws2, rfl, g2, f3⟩ := f2
        rw [show ws2 = [] from f3] at r1
        rw [show w1 = .int x by simpa [Rep] using g1, show w2 = .int y by simpa [Rep] using g2] at r1
        have r1 : F t = some (.tup [.int x, .int y]) := r1
        have ek : kP F (.ref t) = (x, y) := by simp [kP, r1]
        refine ⟨by rw [List.map_cons, ek, ← i1], fun v hv => ?_⟩
        rcases List.mem_cons.mp hv with rfl | hv
        · exact ⟨t, rfl, by rw [ek]; exact r1⟩
        · exact i2 v hv
    · cases e
theorem pairs_rep : ∀ (vs : List V), (∀ v ∈ vs, ∃ t, v = V.ref t ∧ F t = some (.tup [.int (kP F v).1, .int (kP F v).2])) → Fa2 (Rep M F) ((vs.map (kP F)).map fun p => D.tup [.int p.1, .int p.2]) vs
  | [], _ => rfl
  | v :: vs, h => by
    obtain ⟨t, e, ht⟩ := h v (by simp)
    refine ⟨v, vs, rfl, Rep.nd_iff.mpr ⟨t, _, e, ht, _, _, rfl, Rep.int, _, _, rfl, Rep.int, rfl⟩, pairs_rep vs fun w hw => h w (by simp [hw])⟩
def Blt.nm : Blt → String
  | .len => "len" | .abs => "abs" | .min2 => "min" | .max2 => "max" | .min1 => "min" | .max1 => "max" | .sum => "sum" | .all => "all" | .any => "any" | .sorted => "sorted" | .list => "list" | .tuple => "tuple" | .int => "int" | .str => "str"
def Blt.ty : Blt → Bool
  | .list => true | .tuple => true | .int => true | .str => true | _ => false
def Blt.val (b : Blt) : Value := if b.ty then .type b.nm else .builtin b.nm
theorem wk1 {w : Wk} {vs : List V} (h : WkR M F H [w] vs) : ∃ v, vs = [v] ∧ RW M F H w.1 w.2 v := by
  obtain ⟨v, vs', rfl, a, b⟩ := h
  rw [show vs' = [] from b]
  exact ⟨v, rfl, a⟩
theorem wk2 {w w2 : Wk} {vs : List V} (h : WkR M F H [w, w2] vs) : ∃ v v2, vs = [v, v2] ∧ RW M F H w.1 w.2 v ∧ RW M F H w2.1 w2.2 v2 := by
  obtain ⟨v, vs', rfl, a, b⟩ := h
  obtain ⟨v2, rfl, c⟩ := wk1 b
  exact ⟨v, v2, rfl, a, c⟩
theorem blt_one (b : Blt) {ws : List Wk} {z : D} (h : dBlt b ws = .ok z) (hb : b ≠ .min2 ∧ b ≠ .max2) : ∃ k d, ws = [(k, d)] := by
  unfold dBlt at h
  split at h <;> first
    | exact ⟨_, _, rfl⟩
    | (simp at hb; done)
    | cases h
theorem ints_of_bind {d : D} {is : List Int} (h : (lstOf d).bind intsOf = some is) : ∃ ds, lstOf d = some ds ∧ intsOf ds = some is := by
  cases e : lstOf d with
  | none => rw [e] at h; cases h
  | some ds => rw [e] at h; exact ⟨ds, rfl, h⟩
theorem bools_of_bind {d : D} {is : List Bool} (h : (lstOf d).bind boolsOf = some is) : ∃ ds, lstOf d = some ds ∧ boolsOf ds = some is := by
  cases e : lstOf d with
  | none => rw [e] at h; cases h
  | some ds => rw [e] at h; exact ⟨ds, rfl, h⟩
theorem cr_blt (hK : X.K = M.K) (hc : X.calm = true) (b : Blt) : CallR X b.val (rBlt M b) := by
  intro pins s σ H vs us Q I rv h
  obtain ⟨F, ws, z, hs, hw, he, q⟩ := h
  by_cases hb : b ≠ .min2 ∧ b ≠ .max2
  · obtain ⟨k, d, rfl⟩ := blt_one b he hb
    obtain ⟨x, rfl, hx⟩ := wk1 hw
    have hx : RW M F H k d x := hx
    cases b with
    | min2 => exact absurd rfl hb.1
    | max2 => exact absurd rfl hb.2
    | len =>
      cases d with
      | str y =>
        obtain ⟨hl, he⟩ := ite_ok he; subst he
        rw [hx.str] at rv
        exact call_len_str pins s σ H _ us Q I rv ⟨y, rfl, lim_ok hl, q.int hs⟩
      | nd kd es =>
        have he : (match seqOf (.nd kd es) with | some ds => Res.ok (D.int ds.length) | none => .stuck) = .ok z := he
        cases e1 : seqOf (.nd kd es) with
        | none => rw [e1] at he; cases he
        | some ds =>
          rw [e1] at he
          have he := Res.ok.inj he; subst he
          obtain ⟨a, vs, rfl, r1, f1⟩ := seqOf_node hs hx e1
          rw [← hK] at r1
          refine call_len_seq pins s σ H _ us Q I rv ⟨a, vs, rfl, r1, ?_⟩
          rw [f1.length]; exact q.int hs
      | _ => simp [dBlt, seqOf] at he
    | abs =>
      cases d <;> try (simp [dBlt] at he; done)
      have he := Res.ok.inj he; subst he
      rw [hx.int] at rv
      exact call_abs pins s σ H _ us Q I rv ⟨_, rfl, q.int hs⟩
    | min1 =>
      have he : (match (lstOf d).bind intsOf with | some is => (match minL is with | some m => Res.ok (D.int m) | none => .stuck) | none => .stuck) = .ok z := he
      cases e1 : (lstOf d).bind intsOf with
      | none => rw [e1] at he; cases he
      | some is =>
        rw [e1] at he
        cases e2 : minL is with
        | none => simp [e2] at he
        | some m =>
          simp only [e2] at he
          have he := Res.ok.inj he; subst he
          obtain ⟨ds, e3, e4⟩ := ints_of_bind e1
          obtain ⟨a, vs, rfl, r1, f1⟩ := lstOf_node hs hx e3
          rw [ints_vals e4 f1] at r1
          obtain ⟨h1, h2⟩ := minL_ok e2
          exact cr_min hc pins s σ H _ us Q I rv ⟨a, is, rfl, SqL.of r1, h1, fun m' hm hy => by rw [h2 m' hm hy]; exact q.int hs⟩
    | max1 =>
      have he : (match (lstOf d).bind intsOf with | some is => (match maxL is with | some m => Res.ok (D.int m) | none => .stuck) | none => .stuck) = .ok z := he
      cases e1 : (lstOf d).bind intsOf with
      | none => rw [e1] at he; cases he
      | some is =>
        rw [e1] at he
        cases e2 : maxL is with
        | none => simp [e2] at he
        | some m =>
          simp only [e2] at he
          have he := Res.ok.inj he; subst he
          obtain ⟨ds, e3, e4⟩ := ints_of_bind e1
          obtain ⟨a, vs, rfl, r1, f1⟩ := lstOf_node hs hx e3
          rw [ints_vals e4 f1] at r1
          obtain ⟨h1, h2⟩ := maxL_ok e2
          exact cr_max hc pins s σ H _ us Q I rv ⟨a, is, rfl, SqL.of r1, h1, fun m' hm hy => by rw [h2 m' hm hy]; exact q.int hs⟩
    | sum =>
      have he : (match (lstOf d).bind intsOf with | some is => Res.ok (D.int is.sum) | none => .stuck) = .ok z := he
      cases e1 : (lstOf d).bind intsOf with
      | none => rw [e1] at he; cases he
      | some is =>
        rw [e1] at he
        have he := Res.ok.inj he; subst he
        obtain ⟨ds, e3, e4⟩ := ints_of_bind e1
        obtain ⟨a, vs, rfl, r1, f1⟩ := lstOf_node hs hx e3
        rw [ints_vals e4 f1] at r1
        exact cr_sum hc pins s σ H _ us Q I rv ⟨a, is, rfl, SqL.of r1, q.int hs⟩
    | all =>
      have he : (match (lstOf d).bind boolsOf with | some bs => Res.ok (D.bl (bs.all id)) | none => .stuck) = .ok z := he
      cases e1 : (lstOf d).bind boolsOf with
      | none => rw [e1] at he; cases he
      | some is =>
        rw [e1] at he
        have he := Res.ok.inj he; subst he
        obtain ⟨ds, e3, e4⟩ := bools_of_bind e1
        obtain ⟨a, vs, rfl, r1, f1⟩ := lstOf_node hs hx e3
        rw [bools_vals e4 f1] at r1
        exact cr_all hc pins s σ H _ us Q I rv ⟨a, is, rfl, SqL.of r1, q.bl hs⟩
    | any =>
      have he : (match (lstOf d).bind boolsOf with | some bs => Res.ok (D.bl (bs.any id)) | none => .stuck) = .ok z := he
      cases e1 : (lstOf d).bind boolsOf with
      | none => rw [e1] at he; cases he
      | some is =>
        rw [e1] at he
        have he := Res.ok.inj he; subst he
        obtain ⟨ds, e3, e4⟩ := bools_of_bind e1
        obtain ⟨a, vs, rfl, r1, f1⟩ := lstOf_node hs hx e3
        rw [bools_vals e4 f1] at r1
        exact cr_any hc pins s σ H _ us Q I rv ⟨a, is, rfl, SqL.of r1, q.bl hs⟩
    | int =>
      cases d <;> try (simp [dBlt] at he; done)
      · have he := Res.ok.inj he; subst he
        rw [hx.bl] at rv
        exact call_int1 pins s σ H _ us Q I rv (.inr ⟨_, rfl, q.int hs⟩)
      · have he := Res.ok.inj he; subst he
        rw [hx.int] at rv
        exact call_int1 pins s σ H _ us Q I rv (.inl ⟨_, rfl, q.int hs⟩)
    | str =>
      cases d <;> try (simp [dBlt] at he; done)
      obtain ⟨hl, he⟩ := ite_ok he; subst he
      rw [hx.int] at rv
      exact call_str_int pins s σ H _ us Q I rv ⟨_, rfl, hl, q.str hs⟩
    | sorted =>
      have he : (if k ≤ 1 then (match lstOf d with | some ds => dSorted ds | none => .stuck) else .stuck) = Res.ok z := he
      by_cases hk : k ≤ 1
      · rw [if_pos hk] at he
        cases e1 : lstOf d with
        | none => rw [e1] at he; cases he
        | some ds =>
          rw [e1] at he
          obtain ⟨a, vs, rfl, r1, f1⟩ := lstOf_node hs hx e1
          have f1 := fa_pred hk f1
          have he : dSorted ds = .ok z := he
          unfold dSorted at he
          cases e2 : intsOf ds with
          | some is =>
            simp only [e2] at he
            obtain ⟨hl, he⟩ := ite_ok he; subst he
            rw [ints_vals (k := 0) (H := H) e2 f1] at r1
            refine cr_sortedI pins s σ H _ us Q I rv ⟨a, is, rfl, SqL.of r1, fun ns p hp1 hp2 hp => ?_⟩
            rw [sortI_uniq hp1 hp2]
            exact q p _ hp (Fa2.ints _)
          | none =>
            simp only [e2] at he
            cases e3 : pairsOf ds with
            | none => rw [e3] at he; cases he
            | some ps =>
              simp only [e3] at he
              obtain ⟨hl, he⟩ := ite_ok he; subst he
              obtain ⟨i1, i2⟩ := pairs_vals e3 f1
              refine cr_sortedPO pins s σ H _ us Q I rv ⟨a, vs, kP F, rfl, SqL.of r1, fun v hv => ?_, fun ys p h1 h2 hp => ?_⟩
              · obtain ⟨t, e4, e5⟩ := i2 v hv
                exact ⟨t, e4, hs _ _ e5⟩
              · have hm : ys.map (kP F) = sortP ps := by
                  refine sortP_uniq ?_ ?_
                  · rw [i1]; exact h2.perm.map _
                  · rw [List.pairwise_map]
                    refine List.Pairwise.imp (fun {x y} hxy => ?_) h1
                    have := SrtO.lexB_no.mp hxy
                    rw [leP_iff]; omega
                rw [← hm] at q
                exact q p ys hp (pairs_rep ys fun v hv => i2 v (h2.perm.mem_iff.mp hv))
      · rw [if_neg hk] at he; cases he
    | list =>
      have he : (if k ≤ 1 then (match seqOf d with | some ds => Res.ok (D.lst ds) | none => .stuck) else .stuck) = Res.ok z := he
      by_cases hk : k ≤ 1
      · rw [if_pos hk] at he
        cases e1 : seqOf d with
        | none => rw [e1] at he; cases he
        | some ds =>
          rw [e1] at he
          have he := Res.ok.inj he; subst he
          obtain ⟨a, vs, rfl, r1, f1⟩ := seqOf_node hs hx e1
          rw [← hK] at r1
          exact call_list_of pins s σ H _ us Q I rv ⟨a, vs, rfl, r1, fun l hl => q l vs hl (fa_pred hk f1)⟩
      · rw [if_neg hk] at he; cases he
    | tuple =>
      have he : (if k ≤ 1 then (match lstOf d with | some ds => Res.ok (D.tup ds) | none => .stuck) else .stuck) = Res.ok z := he
      by_cases hk : k ≤ 1
      · rw [if_pos hk] at he
        cases e1 : lstOf d with
        | none => rw [e1] at he; cases he
        | some ds =>
          rw [e1] at he
          have he := Res.ok.inj he; subst he
          obtain ⟨a, vs, rfl, r1, f1⟩ := lstOf_node hs hx e1
          exact call_tuple_of pins s σ H _ us Q I rv ⟨a, vs, rfl, .inl ⟨SqL.of r1, fun l hl => q.tup hs hl (fa_pred hk f1)⟩⟩
      · rw [if_neg hk] at he; cases he
  · have hb : b = .min2 ∨ b = .max2 := by
      cases b <;> simp at hb ⊢
    rcases hb with rfl | rfl
    · unfold dBlt at he
      split at he <;> first
        | (rename_i h; cases h; done)
        | skip
      all_goals first
        | (cases he; done)
        | skip
      rename_i i j _
      obtain ⟨x, y, rfl, hx, hy⟩ := wk2 hw
      have he := Res.ok.inj he; subst he
      rw [RW.int hx, RW.int hy] at rv
      exact call_min2 hc pins s σ H _ us Q I rv ⟨_, _, rfl, q.int hs⟩
    · unfold dBlt at he
      split at he <;> first
        | (rename_i h; cases h; done)
        | skip
      all_goals first
        | (cases he; done)
        | skip
      rename_i i j _
      obtain ⟨x, y, rfl, hx, hy⟩ := wk2 hw
      have he := Res.ok.inj he; subst he
      rw [RW.int hx, RW.int hy] at rv
      exact call_max2 hc pins s σ H _ us Q I rv ⟨_, _, rfl, q.int hs⟩
end
end DL

-- part DLe
set_option Elab.async false
set_option linter.all false
set_option maxRecDepth 100000
/-! DL, part e: what a def promises; a call. -/
namespace DL
open PySem PySem.Spec PyProof.Rows L2

def ArgsR (M : Mo) (F H : Hp) : List Nat → List D → List V → List (List Addr) → Prop
  | [], ds, vs, fo => ds = [] ∧ vs = [] ∧ fo = []
  | 0 :: ms, ds, vs, fo => ∃ d ds' v vs', ds = d :: ds' ∧ vs = v :: vs' ∧ Rep M F d v ∧ ArgsR M F H ms ds' vs' fo
  | (k + 1) :: ms, ds, vs, fo => ∃ d ds' v vs' f fo', ds = d :: ds' ∧ vs = v :: vs' ∧ fo = f :: fo' ∧ Own M F H (k + 1) d v f ∧ ArgsR M F H ms ds' vs' fo'
def OutsR (M : Mo) (F H : Hp) : List Nat → List V → List D → List (List Addr) → Prop
  | [], vs, ds, fo => vs = [] ∧ ds = [] ∧ fo = []
  | 0 :: ms, vs, ds, fo => ∃ v vs', vs = v :: vs' ∧ OutsR M F H ms vs' ds fo
  | (k + 1) :: ms, vs, ds, fo => ∃ d ds' v vs' f fo', ds = d :: ds' ∧ vs = v :: vs' ∧ fo = f :: fo' ∧ Own M F H (k + 1) d v f ∧ OutsR M F H ms vs' ds' fo'
def inL (fo : List (List Addr)) (b : Addr) : Prop := b ∈ fo.flatten
/-- what a def promises -/
def Spec (M : Mo) (f : FnD) : Sp := fun vs H Q E => ∃ ds F fo, ArgsR M F H f.ms ds vs fo ∧ fo.flatten.Nodup ∧ (∀ b ∈ fo.flatten, F b = none) ∧ Same F H ∧ match f.den ds with
  | .ok (r, outs) => ∀ v F' H' fo' fr, Step F H (inL fo) F' H' (fun b => b ∈ fo'.flatten ∨ b ∈ fr) → Same F' H' → OutsR M F' H' f.ms vs outs fo' → Own M F' H' f.rk r v fr → (fo'.flatten ++ fr).Nodup → (∀ b ∈ fo'.flatten ++ fr, F' b = none) → Q v H'
  | .exn c d => XP M E c d F H (inL fo)
  | .stuck => False
theorem ArgsR.len {M : Mo} {F H : Hp} : ∀ {ms : List Nat} {ds : List D} {vs : List V} {fo : List (List Addr)}, ArgsR M F H ms ds vs fo → vs.length = ms.length ∧ ds.length = ms.length
  | [], _, _, _, h => by obtain ⟨rfl, rfl, _⟩ := h; exact ⟨rfl, rfl⟩
  | 0 :: ms, _, _, _, h => by
    obtain ⟨d, ds', v, vs', rfl, rfl, _, h⟩ := h
    simp [h.len]
  | (k + 1) :: ms, _, _, _, h => by
    obtain ⟨d, ds', v, vs', f, fo', rfl, rfl, rfl, _, h⟩ := h
    simp [h.len]

section
variable {M : Mo} {F H F' H' : Hp} {io : List (Nat × V)} {env env' : Env} {σ : St} {fs : Ft}
theorem lent_own {i k : Nat} {d : D} (h : lent env i k = some d) : ownAt env i k d := by
  unfold lent at h
  split at h
  · rename_i j d' e
    by_cases z : j = k
    · rw [if_pos z] at h; cases h; subst z; exact .inl e
    · rw [if_neg z] at h; cases h
  · rename_i j d' e
    by_cases z : j = k
    · rw [if_pos z] at h; cases h; subst z; exact .inr e
    · rw [if_neg z] at h; cases h
  · cases h
/-- the arguments of a call as the callee sees them -/
theorem args_ok (g : GS M F H io env σ fs) {F1 : Hp} (hF : Same F F1) : ∀ {ms : List Nat} {ars : List Ar} {vs : List V} {ds : List D}, argsOf env ms ars = some ds → ArR M F H σ ars vs →
    (∀ i ∈ wksOf ars, ∀ b ∈ fs i, F1 b = H b) → ArgsR M F1 H ms ds vs ((iosOf ars).map fs)
  | [], [], vs, ds, e, h, _ => by
    simp [argsOf] at e
    rw [e, show vs = [] from h]
    exact ⟨rfl, rfl, rfl⟩
  | [], a :: ars, vs, ds, e, h, _ => by cases a <;> simp [argsOf] at e
  | m :: ms, [], vs, ds, e, h, _ => by cases m <;> simp [argsOf] at e
  | 0 :: ms, .d k d :: ars, vs, ds, e, h, w => by
    obtain ⟨v, vs', rfl, r, q⟩ := h
    cases k with
    | succ k => simp [argsOf] at e
    | zero =>
      have e : (argsOf env ms ars).map (d :: ·) = some ds := e
      cases e1 : argsOf env ms ars with
      | none => rw [e1] at e; cases e
      | some es =>
        rw [e1] at e
        have e := Option.some.inj e; subst e
        exact ⟨d, es, v, vs', rfl, rfl, Rep.mono hF r, args_ok (ars := ars) g hF e1 q w⟩
  | 0 :: ms, .wk i :: ars, vs, ds, e, h, w => by
    obtain ⟨v, vs', rfl, r, q⟩ := h
    have e : (match lent env i 1 with | some (.nd .lst ds) => (argsOf env ms ars).map (D.lst ds :: ·) | _ => none) = some ds := e
    split at e
    · rename_i es e2
      cases e1 : argsOf env ms ars with
      | none => rw [e1] at e; cases e
      | some es' =>
        rw [e1] at e
        have e := Option.some.inj e; subst e
        obtain ⟨v', e3, o⟩ := g.own (lent_own e2)
        rw [r] at e3; cases e3
        exact ⟨_, es', v, vs', rfl, rfl, o.freeze hF fun b hb => w i (by simp [wksOf]) b hb, args_ok (ars := ars) g hF e1 q fun j hj => w j (by simp [wksOf, hj])⟩
    · cases e
  | 0 :: ms, .io i :: ars, vs, ds, e, h, w => by simp [argsOf] at e
  | (k + 1) :: ms, .io i :: ars, vs, ds, e, h, w => by
    obtain ⟨v, vs', rfl, r, q⟩ := h
    have e : (match lent env i (k + 1) with | some d => (argsOf env ms ars).map (d :: ·) | none => none) = some ds := e
    cases e2 : lent env i (k + 1) with
    | none => rw [e2] at e; cases e
    | some d =>
      simp only [e2] at e
      cases e1 : argsOf env ms ars with
      | none => rw [e1] at e; cases e
      | some es' =>
        rw [e1] at e
        have e := Option.some.inj e; subst e
        obtain ⟨v', e3, o⟩ := g.own (lent_own e2)
        rw [r] at e3; cases e3
        exact ⟨d, es', v, vs', fs i, _, rfl, rfl, rfl, o.mono hF fun _ _ => rfl, args_ok (ars := ars) g hF e1 q w⟩
  | (k + 1) :: ms, .d _ _ :: ars, vs, ds, e, h, w => by simp [argsOf] at e
  | (k + 1) :: ms, .wk _ :: ars, vs, ds, e, h, w => by simp [argsOf] at e
/-- .. and what they are behind it -/
theorem outs_ok : ∀ {ms : List Nat} {ars : List Ar} {vs : List V} {ds outs : List D} {fo : List (List Addr)}, argsOf env ms ars = some ds → ArR M F H σ ars vs → OutsR M F' H' ms vs outs fo →
    (iosOf ars).length = outs.length ∧ outs.length = fo.length ∧ ∀ (n i : Nat), (iosOf ars)[n]? = some i → ∃ (k : Nat) (d0 d : D) (v : V) (f : List Addr), ownAt env i k d0 ∧ σ[i]? = some (some v) ∧ outs[n]? = some d ∧ fo[n]? = some f ∧ Own M F' H' k d v f
  | [], [], vs, ds, outs, fo, e, h, q => by
    obtain ⟨_, rfl, rfl⟩ := q
    exact ⟨rfl, rfl, fun n i e => by simp [iosOf] at e⟩
  | [], a :: ars, vs, ds, _, _, e, h, _ => by cases a <;> simp [argsOf] at e
  | m :: ms, [], vs, ds, _, _, e, h, _ => by cases m <;> simp [argsOf] at e
  | 0 :: ms, .d k d :: ars, vs, ds, outs, fo, e, h, q => by
    obtain ⟨v, vs', rfl, r, h⟩ := h
    obtain ⟨v, vs', e2, q⟩ := q
    cases e2
    cases k with
    | succ k => simp [argsOf] at e
    | zero =>
      have e : (argsOf env ms ars).map (d :: ·) = some ds := e
      cases e1 : argsOf env ms ars with
      | none => rw [e1] at e; cases e
      | some es => exact outs_ok (ars := ars) e1 h q
  | 0 :: ms, .wk i :: ars, vs, ds, outs, fo, e, h, q => by
    obtain ⟨v, vs', rfl, r, h⟩ := h
    obtain ⟨v, vs', e2, q⟩ := q
    cases e2
    have e : (match lent env i 1 with | some (.nd .lst ds) => (argsOf env ms ars).map (D.lst ds :: ·) | _ => none) = some ds := e
    split at e
    · cases e1 : argsOf env ms ars with
      | none => rw [e1] at e; cases e
      | some es => exact outs_ok (ars := ars) e1 h q
    · cases e
  | 0 :: ms, .io i :: ars, vs, ds, _, _, e, h, _ => by simp [argsOf] at e
  | (k + 1) :: ms, .io i :: ars, vs, ds, outs, fo, e, h, q => by
    obtain ⟨v, vs', rfl, r, h⟩ := h
    obtain ⟨d, ds', v, vs', f, fo', rfl, e2, rfl, o, q⟩ := q
    cases e2
    have e : (match lent env i (k + 1) with | some d => (argsOf env ms ars).map (d :: ·) | none => none) = some ds := e
    cases e3 : lent env i (k + 1) with
    | none => rw [e3] at e; cases e
    | some d0 =>
      simp only [e3] at e
      cases e1 : argsOf env ms ars with
      | none => rw [e1] at e; cases e
      | some es' =>
        obtain ⟨i1, i2, i3⟩ := outs_ok (ars := ars) e1 h q
        refine ⟨by simp [iosOf, i1], by simp [i2], fun n j hj => ?_⟩
        cases n with
        | zero =>
          simp [iosOf] at hj
          subst hj
          exact ⟨k + 1, d0, d, v, f, lent_own e3, r, rfl, rfl, o⟩
        | succ n => simpa using i3 n j (by simpa [iosOf] using hj)
  | (k + 1) :: ms, .d _ _ :: ars, vs, ds, _, _, e, h, _ => by simp [argsOf] at e
  | (k + 1) :: ms, .wk _ :: ars, vs, ds, _, _, e, h, _ => by simp [argsOf] at e
theorem putBack_ok : ∀ {is : List Nat} {outs : List D} {env env' : Env}, putBack env is outs = some env' → is.Nodup → env'.length = env.length ∧ (∀ j, j ∉ is → env'[j]? = env[j]?) ∧
    ∀ (n i : Nat) (d : D), is[n]? = some i → outs[n]? = some d → ∀ (k : Nat) (d0 : D), (env[i]? = some (Sl.own k d0) → env'[i]? = some (Sl.own k d)) ∧ (env[i]? = some (Sl.io k d0) → env'[i]? = some (Sl.io k d))
  | [], [], env, env', h, _ => by
    cases h
    exact ⟨rfl, fun _ _ => rfl, fun n i d e => by simp at e⟩
  | [], _ :: _, env, env', h, _ => by cases h
  | _ :: _, [], env, env', h, _ => by cases h
  | i :: is, d :: outs, env, env', h, nd => by
    obtain ⟨n1, n2⟩ := List.nodup_cons.mp nd
    unfold putBack at h
    split at h
    · rename_i k d0 e
      obtain ⟨i1, i2, i3⟩ := putBack_ok h n2
      refine ⟨by rw [i1, List.length_set], fun j hj => ?_, fun n j d' hj hd k' d0' => ?_⟩
      · rw [i2 j fun z => hj (by simp [z]), List.getElem?_set_ne fun z => hj (by simp [z])]
      · cases n with
        | zero =>
          simp at hj hd
          subst hj; subst hd
          rw [i2 i n1, List.getElem?_set_self (lt_of_get e), e]
          exact ⟨(fun z => by cases z; rfl), fun z => by cases z⟩
        | succ n =>
          have hj : is[n]? = some j := by simpa using hj
          have ne : i ≠ j := fun z => n1 (z ▸ List.mem_of_getElem? hj)
          have := i3 n j d' hj (by simpa using hd) k' d0'
          rw [List.getElem?_set_ne ne] at this
          exact this
    · rename_i k d0 e
      obtain ⟨i1, i2, i3⟩ := putBack_ok h n2
      refine ⟨by rw [i1, List.length_set], fun j hj => ?_, fun n j d' hj hd k' d0' => ?_⟩
      · rw [i2 j fun z => hj (by simp [z]), List.getElem?_set_ne fun z => hj (by simp [z])]
      · cases n with
        | zero =>
          simp at hj hd
          subst hj; subst hd
          rw [i2 i n1, List.getElem?_set_self (lt_of_get e), e]
          exact ⟨(fun z => by cases z), fun z => by cases z; rfl⟩
        | succ n =>
          have hj : is[n]? = some j := by simpa using hj
          have ne : i ≠ j := fun z => n1 (z ▸ List.mem_of_getElem? hj)
          have := i3 n j d' hj (by simpa using hd) k' d0'
          rw [List.getElem?_set_ne ne] at this
          exact this
    · cases h
/-- what the slots own behind a call -/
def putF (fs : Ft) (is : List Nat) (fo : List (List Addr)) : Ft := fun i => if i ∈ is then (fo[is.idxOf i]?).getD [] else fs i
theorem putF_in {is : List Nat} {fo : List (List Addr)} (nd : is.Nodup) {n i : Nat} {f : List Addr} (h : is[n]? = some i) (hf : fo[n]? = some f) : putF fs is fo i = f := by
  unfold putF
  have hm := List.mem_of_getElem? h
  rw [if_pos hm]
  have e : is.idxOf i = n := by
    obtain ⟨h1, h2⟩ := List.getElem?_eq_some_iff.mp h
    rw [← h2]
    exact List.Nodup.idxOf_getElem nd n h1
  rw [e, hf]; rfl
theorem putF_out {is : List Nat} {fo : List (List Addr)} {i : Nat} (h : i ∉ is) : putF fs is fo i = fs i := if_neg h
/-- nothing in data without lists stands at a list's place -/
theorem noLst_out {F1 : Hp} (hF : ∀ b o, F b = some o → (∀ xs, o ≠ .lst xs) → F1 b = some o) : ∀ {d : D} {v : V}, noLst d = true → Rep M F d v → Rep M F1 d v := by
  intro d
  induction d using D.rec (motive_2 := fun ds => ∀ vs, noLsts ds = true → Reps M F ds vs → Reps M F1 ds vs) with
  | non => intro v _ h; simpa [Rep] using h
  | bl b => intro v _ h; simpa [Rep] using h
  | int i => intro v _ h; simpa [Rep] using h
  | str x => intro v _ h; simpa [Rep] using h
  | nd k ds ih =>
    intro v n h
    simp only [Rep] at h ⊢
    obtain ⟨a, vs, e, r, q⟩ := h
    cases k with
    | tup => exact ⟨a, vs, e, hF a _ r (by simp), ih vs (by simpa [noLst] using n) q⟩
    | _ => simp [noLst] at n
  | nil => rename_i vs _ h; simpa [Reps] using h
  | cons d ds ih1 ih2 =>
    rename_i vs n h
    have n := Bool.and_eq_true_iff.mp (show (noLst d && noLsts ds) = true from n)
    simp only [Reps] at h ⊢
    obtain ⟨v, vs', e, r, q⟩ := h
    exact ⟨v, vs', e, ih1 n.1 r, ih2 vs' n.2 q⟩

theorem own_noLst {F1 : Hp} (hF : ∀ b o, F b = some o → (∀ xs, o ≠ .lst xs) → F1 b = some o) : ∀ {k : Nat} {d : D} {v : V} {f : List Addr}, noLstK k d = true → Own M F H k d v f → Own M F1 H k d v f
  | 0, _, _, _, n, h => ⟨noLst_out hF n h.1, h.2⟩
  | k + 1, d, v, f, n, h => by
    cases d with
    | nd kd ds =>
      obtain ⟨a, vs, ex, fps, e, o, q, e2⟩ := h
      have n : ds.all (noLstK k) = true := n
      exact ⟨a, vs, ex, fps, e, o, q.mono fun d hd v f _ x => own_noLst hF (List.all_eq_true.mp n d hd) x, e2⟩
    | non => exact ⟨noLst_out hF rfl h.1, h.2⟩
    | bl b => exact ⟨noLst_out hF rfl h.1, h.2⟩
    | int b => exact ⟨noLst_out hF rfl h.1, h.2⟩
    | str b => exact ⟨noLst_out hF rfl h.1, h.2⟩
theorem outsR_noLst {F1 : Hp} (hF : ∀ b o, F b = some o → (∀ xs, o ≠ .lst xs) → F1 b = some o) : ∀ {ms : List Nat} {vs : List V} {ds : List D} {fo : List (List Addr)}, noOuts ms ds = true → OutsR M F H ms vs ds fo → OutsR M F1 H ms vs ds fo
  | [], _, _, _, _, h => h
  | 0 :: ms, _, _, _, n, h => by
    obtain ⟨v, vs', rfl, h⟩ := h
    exact ⟨v, vs', rfl, outsR_noLst hF n h⟩
  | (k + 1) :: ms, _, _, _, n, h => by
    obtain ⟨d, ds', v, vs', f, fo', rfl, rfl, rfl, o, h⟩ := h
    have n := Bool.and_eq_true_iff.mp (show (noLstK (k + 1) d && noOuts ms ds') = true from n)
    exact ⟨d, ds', v, vs', f, fo', rfl, rfl, rfl, own_noLst hF n.1 o, outsR_noLst hF n.2 h⟩
theorem mem_ios {G : GS M F H io env σ fs} {is : List Nat} {b : Addr} (h : b ∈ (is.map fs).flatten) : ∃ i ∈ is, b ∈ fs i := by
  obtain ⟨l, hl, hb⟩ := List.mem_flatten.mp h
  obtain ⟨i, hi, rfl⟩ := List.mem_map.mp hl
  exact ⟨i, hi, hb⟩
theorem nodup_ios (g : GS M F H io env σ fs) : ∀ {is : List Nat}, is.Nodup → (is.map fs).flatten.Nodup
  | [], _ => by simp
  | i :: is, h => by
    obtain ⟨h1, h2⟩ := List.nodup_cons.mp h
    rw [List.map_cons, List.flatten_cons, List.nodup_append]
    refine ⟨g.nd i, nodup_ios g h2, fun a ha b hb z => ?_⟩
    obtain ⟨j, hj, hb⟩ := mem_ios (G := g) hb
    subst z
    exact g.dj i j a (fun z => h1 (z ▸ hj)) ha hb
theorem flat_get {fo : List (List Addr)} {n : Nat} {f : List Addr} (h : fo[n]? = some f) {b : Addr} (hb : b ∈ f) : b ∈ fo.flatten := List.mem_flatten.mpr ⟨f, List.mem_of_getElem? h, hb⟩
theorem nodup_two {fo : List (List Addr)} : fo.flatten.Nodup → ∀ {m n : Nat} {f g : List Addr}, m ≠ n → fo[m]? = some f → fo[n]? = some g → ∀ b, b ∈ f → b ∉ g := by
  induction fo with
  | nil => intro _ m n f g _ h; simp at h
  | cons x fo ih =>
    intro nd m n f g ne h1 h2 b hb hb2
    rw [List.flatten_cons, List.nodup_append] at nd
    obtain ⟨n1, n2, n3⟩ := nd
    cases m with
    | zero =>
      cases n with
      | zero => exact ne rfl
      | succ n =>
        simp at h1 h2
        subst h1
        exact n3 b hb b (flat_get h2 hb2) rfl
    | succ m =>
      cases n with
      | zero =>
        simp at h1 h2
        subst h2
        exact n3 b hb2 b (flat_get h1 hb) rfl
      | succ n =>
        simp at h1 h2
        exact ih n2 (by omega) h1 h2 b hb hb2
theorem nodup_part {fo : List (List Addr)} (h : fo.flatten.Nodup) {n : Nat} {f : List Addr} (hf : fo[n]? = some f) : f.Nodup := by
  induction fo generalizing n with
  | nil => simp at hf
  | cons x fo ih =>
    rw [List.flatten_cons, List.nodup_append] at h
    cases n with
    | zero => simp at hf; subst hf; exact h.1
    | succ n => exact ih h.2.1 (by simpa using hf)
/-- THE CALL, by data -/
theorem call_spec {G : Fr} {f : FnD} {ars : List Ar} {vs : List V} {Q : VK} {r0 : Res (D × Env)} {k : D → Env → Hp → Hp → Ft → Prop} {p : Bool} (g : GS G.M F H G.io env σ fs) (ha : ArR G.M F H σ ars vs)
    (h : match callD f ars env with
      | .ok (r, env') => ∀ F' H' fs' v fr, GS G.M F' H' G.io env' σ fs' → Step F H fs.at F' H' (atW fs' fr) → (f.ms.all (· == 0) = true → Same H H') → Own G.M F' H' f.rk r v fr → fr.Nodup → Apart fs' fr → (∀ b ∈ fr, F' b = none) → Q v H'
      | .exn c d => XP G.M G.E c d F H fs.at
      | .stuck => False) : Spec G.M f vs H Q G.E := by
  unfold callD at h
  cases e : argsOf env f.ms ars with
  | none => rw [e] at h; exact h.elim
  | some ds =>
    simp only [e] at h
    by_cases hn : (iosOf ars).Nodup ∧ ∀ i ∈ wksOf ars, i ∉ iosOf ars
    · rw [if_pos hn] at h
      obtain ⟨nd, hw⟩ := hn
      -- what is lent for reading stands still for the while
      let wk : List Addr := ((wksOf ars).map fs).flatten
      have hF1 : Same F (frz F H wk) := frz_same g.fh
      have inwk : ∀ b ∈ wk, ∃ i ∈ wksOf ars, b ∈ fs i := fun b hb => mem_ios (G := g) hb
      have ofwk : ∀ i ∈ wksOf ars, ∀ b ∈ fs i, b ∈ wk := fun i hi b hb => List.mem_flatten.mpr ⟨fs i, List.mem_map.mpr ⟨i, hi, rfl⟩, hb⟩
      have iosat : ∀ b ∈ ((iosOf ars).map fs).flatten, fs.at b ∧ b ∉ wk := fun b hb => by
        obtain ⟨i, hi, hb⟩ := mem_ios (G := g) hb
        refine ⟨⟨i, hb⟩, fun z => ?_⟩
        obtain ⟨j, hj, hb2⟩ := inwk b z
        exact g.dj i j b (fun z => hw j hj (z ▸ hi)) hb hb2
      refine ⟨ds, frz F H wk, (iosOf ars).map fs, args_ok g hF1 e ha fun i hi b hb => frz_in (ofwk i hi b hb), nodup_ios g nd, fun b hb => ?_, frz_sub g.fh, ?_⟩
      · rw [frz_out (iosat b hb).2]
        obtain ⟨i, hi, hb⟩ := mem_ios (G := g) hb
        exact g.fn i b hb
      · cases ed : f.den ds with
        | stuck => rw [ed] at h; exact h
        | exn c d =>
          rw [ed] at h
          intro cls dx F' H' P' st s2 ex
          have h : XP G.M G.E c d F H fs.at := h
          refine h cls dx F' H' fs.at ⟨hF1.trans st.ff, fun b o q n => st.fr b o q fun z => n (iosat b z).1, fun b hb => ?_, fun b hb => .inl hb⟩ s2 ex
          rcases st.nw b hb with z | z | z
          · by_cases w : b ∈ wk
            · obtain ⟨i, _, hi⟩ := inwk b w
              exact .inr (.inr ⟨i, hi⟩)
            · rw [frz_out w] at z; exact .inl z
          · exact .inr (.inl z)
          · exact .inr (.inr (iosat b z).1)
        | ok ro =>
          obtain ⟨r, outs⟩ := ro
          simp only [ed, Res.bind_ok] at h
          intro v F' H' fo' fr st s2 ho own ndo fno
          cases ep : putBack env (iosOf ars) outs with
          | none => rw [ep] at h; exact h.elim
          | some env' =>
            simp only [ep] at h
            by_cases hl : wksOf ars = [] ∨ (noLst r = true ∧ f.rk = 0 ∧ noOuts f.ms outs = true)
            · rw [if_pos hl] at h
              obtain ⟨l1, l2, l3⟩ := outs_ok e ha ho
              obtain ⟨p1, p2, p3⟩ := putBack_ok ep nd
              obtain ⟨ndo1, ndo2, ndo3⟩ := List.nodup_append.mp ndo
              -- the slots' things behind it
              have hdiff : ∀ i b, i ∉ iosOf ars → b ∈ fs i → b ∉ ((iosOf ars).map fs).flatten := fun i b hi hb z => by
                obtain ⟨j, hj, hb2⟩ := mem_ios (G := g) z
                exact g.dj i j b (fun z => hi (z ▸ hj)) hb hb2
              have hkeep : ∀ i b, i ∉ iosOf ars → b ∈ fs i → H' b = H b := fun i b hi hb => by
                cases q : H b with
                | none => exact absurd q (g.hd hb)
                | some o => exact st.fr b o q (hdiff i b hi hb)
              have hnew : ∀ b, b ∈ fo'.flatten ∨ b ∈ fr → ∀ i, i ∉ iosOf ars → b ∉ fs i := fun b hb i hi hb2 => by
                rcases st.own b hb with z | z
                · exact hdiff i b hi hb2 z
                · exact g.hd hb2 z
              let F2 : Hp := fun b => if b ∈ wk then none else F' b
              have f2o : ∀ b, b ∉ wk → F2 b = F' b := fun b hb => if_neg hb
              have f2i : ∀ b, b ∈ wk → F2 b = none := fun b hb => if_pos hb
              have hFF2 : Same F F2 := fun b o q => by
                have nb : b ∉ wk := fun z => by
                  obtain ⟨i, _, hi⟩ := inwk b z
                  rw [g.fn i b hi] at q; cases q
                rw [f2o b nb]
                exact st.ff b o (hF1 b o q)
              have hF2H : Same F2 H' := fun b o q => by
                by_cases nb : b ∈ wk
                · rw [f2i b nb] at q; cases q
                · rw [f2o b nb] at q; exact s2 b o q
              have fnone : ∀ i b, i ∉ iosOf ars → b ∈ fs i → F2 b = none := fun i b hi hb => by
                by_cases nb : b ∈ wk
                · exact f2i b nb
                · rw [f2o b nb]
                  cases q : F' b with
                  | none => rfl
                  | some o =>
                    exfalso
                    rcases st.nw b (by rw [q]; simp) with z | z | z
                    · rw [frz_out nb, g.fn i b hb] at z; exact z rfl
                    · exact g.hd hb z
                    · exact hdiff i b hi hb z
              have both : Own G.M F2 H' f.rk r v fr ∧ OutsR G.M F2 H' f.ms vs outs fo' := by
                rcases hl with hl | hl
                · have ew : wk = [] := by show ((wksOf ars).map fs).flatten = []; rw [hl]; rfl
                  have ef : F2 = F' := funext fun b => f2o b (by rw [ew]; simp)
                  rw [ef]; exact ⟨own, ho⟩
                · have hx : ∀ b o, F' b = some o → (∀ xs, o ≠ .lst xs) → F2 b = some o := fun b o q nl => by
                    by_cases nb : b ∈ wk
                    · exfalso
                      obtain ⟨i, hi, hb⟩ := inwk b nb
                      -- a list stands there
                      have key : ∃ xs, H b = some (.lst xs) := by
                        have : ∀ {ms : List Nat} {ars : List Ar} {ds : List D}, argsOf env ms ars = some ds → i ∈ wksOf ars → ∃ es, ownAt env i 1 (.lst es) := by
                          intro ms ars
                          induction ars generalizing ms with
                          | nil => intro ds _ hi; simp [wksOf] at hi
                          | cons a ars ih =>
                            intro ds e hi
                            cases ms with
                            | nil => cases a <;> simp [argsOf] at e
                            | cons m ms =>
                              cases a with
                              | d k d =>
                                cases m with
                                | succ m => simp [argsOf] at e
                                | zero =>
                                  cases k with
                                  | succ k => simp [argsOf] at e
                                  | zero =>
                                    have e : (argsOf env ms ars).map (d :: ·) = some ds := e
                                    cases e1 : argsOf env ms ars with
                                    | none => rw [e1] at e; cases e
                                    | some es => exact ih e1 (by simpa [wksOf] using hi)
                              | io j =>
                                cases m with
                                | zero => simp [argsOf] at e
                                | succ m =>
                                  have e : (match lent env j (m + 1) with | some d => (argsOf env ms ars).map (d :: ·) | none => none) = some ds := e
                                  cases e3 : lent env j (m + 1) with
                                  | none => rw [e3] at e; cases e
                                  | some d0 =>
                                    simp only [e3] at e
                                    cases e1 : argsOf env ms ars with
                                    | none => rw [e1] at e; cases e
                                    | some es => exact ih e1 (by simpa [wksOf] using hi)
                              | wk j =>
                                cases m with
                                | succ m => simp [argsOf] at e
                                | zero =>
                                  have e : (match lent env j 1 with | some (.nd .lst ds) => (argsOf env ms ars).map (D.lst ds :: ·) | _ => none) = some ds := e
                                  split at e
                                  · rename_i es e2
                                    rcases List.mem_cons.mp (show i ∈ j :: wksOf ars from hi) with z | z
                                    · subst z; exact ⟨es, lent_own e2⟩
                                    · cases e1 : argsOf env ms ars with
                                      | none => rw [e1] at e; cases e
                                      | some es' => exact ih e1 z
                                  · cases e
                        obtain ⟨es, oa⟩ := this e hi
                        obtain ⟨v', _, a, vs', ex, fps, _, oA, fa, ef⟩ := g.own oa
                        obtain ⟨h1, rfl⟩ := oA
                        have fpn : ∀ {ds : List D} {vs : List V} {fp : List Addr}, Fa3 (Own G.M F H 0) ds vs fp → fp = [] := by
                          intro ds
                          induction ds with
                          | nil => intro vs fp h; exact h.2
                          | cons d ds ih =>
                            intro vs fp h
                            obtain ⟨v, vs', f1, f2, rfl, rfl, a1, b1⟩ := h
                            rw [a1.2, ih b1]; rfl
                        rw [ef, fpn fa] at hb
                        simp at hb
                        subst hb
                        exact ⟨vs', h1⟩
                      obtain ⟨xs, hx⟩ := key
                      have h3 := hkeep i b (hw i hi) hb
                      rw [hx, s2 b o q] at h3
                      cases h3
                      exact nl xs rfl
                    · rw [f2o b nb]; exact q
                  rw [hl.2.1] at own ⊢
                  exact ⟨⟨noLst_out hx hl.1 own.1, own.2⟩, outsR_noLst hx hl.2.2 ho⟩
              obtain ⟨own2, ho2⟩ := both
              obtain ⟨_, _, l3⟩ := outs_ok e ha ho2
              -- a lent slot, its place among them
              have pos : ∀ i, i ∈ iosOf ars → ∃ (n k : Nat) (d0 d : D) (w : V) (f1 : List Addr), (iosOf ars)[n]? = some i ∧ fo'[n]? = some f1 ∧ putF fs (iosOf ars) fo' i = f1 ∧ ownAt env i k d0 ∧ σ[i]? = some (some w) ∧ outs[n]? = some d ∧ Own G.M F2 H' k d w f1 := fun i hi => by
                obtain ⟨n, hn⟩ := List.getElem?_of_mem hi
                obtain ⟨k, d0, d, w, f1, a1, a2, a3, a4, a5⟩ := l3 n i hn
                exact ⟨n, k, d0, d, w, f1, hn, a4, putF_in nd hn a4, a1, a2, a3, a5⟩
              have inF : ∀ i, i ∈ iosOf ars → ∀ b ∈ putF fs (iosOf ars) fo' i, b ∈ fo'.flatten := fun i hi b hb => by
                obtain ⟨n, k, d0, d, w, f1, a1, a2, a3, _⟩ := pos i hi
                rw [a3] at hb
                exact flat_get a2 hb
              have fF2 : ∀ b, b ∈ fo'.flatten ∨ b ∈ fr → F2 b = none := fun b hb => by
                by_cases nb : b ∈ wk
                · exact f2i b nb
                · rw [f2o b nb]; exact fno b (List.mem_append.mpr hb)
              refine h F2 H' (putF fs (iosOf ars) fo') v fr ⟨by rw [p1]; exact g.len, fun i s es => ?_, fun i => ?_, fun i j b ne hb hb2 => ?_, fun i b hb => ?_, fun i es => ?_, hF2H, fun q hq => ?_⟩ ⟨hFF2, fun b o q n => ?_, fun b hb => ?_, fun b hb => ?_⟩ (fun hz => ?_) own2 ndo2 (fun i b hb => ?_) (fun b hb => fF2 b (.inr hb))
              · by_cases hi : i ∈ iosOf ars
                · obtain ⟨n, k, d0, d, w, f1, a1, a2, a3, a4, a5, a6, a7⟩ := pos i hi
                  refine ⟨some w, a5, ?_⟩
                  rw [a3]
                  have q := p3 n i d a1 a6 k d0
                  rcases a4 with a4 | a4
                  · rw [q.1 a4] at es; cases es; exact ⟨w, rfl, a7⟩
                  · rw [q.2 a4] at es; cases es; exact ⟨w, rfl, a7⟩
                · rw [p2 i hi] at es
                  obtain ⟨x, e1, e2⟩ := g.sl i s es
                  refine ⟨x, e1, ?_⟩
                  rw [putF_out hi]
                  exact e2.mono hFF2 fun b hb => hkeep i b hi hb
              · by_cases hi : i ∈ iosOf ars
                · obtain ⟨n, k, d0, d, w, f1, a1, a2, a3, _⟩ := pos i hi
                  rw [a3]; exact nodup_part ndo1 a2
                · rw [putF_out hi]; exact g.nd i
              · by_cases hi : i ∈ iosOf ars
                · by_cases hj : j ∈ iosOf ars
                  · obtain ⟨n, k, d0, d, w, f1, a1, a2, a3, _⟩ := pos i hi
                    obtain ⟨m, _, _, _, _, f3, c1, c2, c3, _⟩ := pos j hj
                    rw [a3] at hb; rw [c3] at hb2
                    exact nodup_two ndo1 (fun z => ne (by rw [z] at a1; rw [a1] at c1; exact Option.some.inj c1)) a2 c2 b hb hb2
                  · rw [putF_out hj] at hb2
                    exact hnew b (.inl (inF i hi b hb)) j hj hb2
                · rw [putF_out hi] at hb
                  by_cases hj : j ∈ iosOf ars
                  · exact hnew b (.inl (inF j hj b hb2)) i hi hb
                  · rw [putF_out hj] at hb2
                    exact g.dj i j b ne hb hb2
              · by_cases hi : i ∈ iosOf ars
                · exact fF2 b (.inl (inF i hi b hb))
                · rw [putF_out hi] at hb; exact fnone i b hi hb
              · have hi : i ∉ iosOf ars := fun hi => by
                  obtain ⟨n, k, d0, d, w, f1, a1, a2, a3, a4, _⟩ := pos i hi
                  have l : i < env.length := by rcases a4 with a4 | a4 <;> exact lt_of_get a4
                  rw [List.getElem?_eq_none_iff, p1] at es
                  omega
                rw [putF_out hi]
                rw [p2 i hi] at es
                exact g.out i es
              · obtain ⟨q1, k, d, q2⟩ := g.io q hq
                refine ⟨q1, ?_⟩
                by_cases hi : q.1 ∈ iosOf ars
                · obtain ⟨n, k2, d0, d2, w, f1, a1, a2, a3, a4, a5, a6, a7⟩ := pos _ hi
                  exact ⟨k, d2, (p3 n q.1 d2 a1 a6 k d).2 q2⟩
                · exact ⟨k, d, by rw [p2 _ hi]; exact q2⟩
              · refine st.fr b o q fun z => n ?_
                obtain ⟨i, _, hb⟩ := mem_ios (G := g) z
                exact ⟨i, hb⟩
              · by_cases nb : b ∈ wk
                · exact absurd (f2i b nb) hb
                · rw [f2o b nb] at hb
                  rcases st.nw b hb with z | z | z
                  · rw [frz_out nb] at z; exact .inl z
                  · exact .inr (.inl z)
                  · obtain ⟨i, _, hb⟩ := mem_ios (G := g) z
                    exact .inr (.inr ⟨i, hb⟩)
              · have key : b ∈ fo'.flatten ∨ b ∈ fr → fs.at b ∨ H b = none := fun hb => by
                  rcases st.own b hb with z | z
                  · obtain ⟨i, _, hb⟩ := mem_ios (G := g) z
                    exact .inl ⟨i, hb⟩
                  · exact .inr z
                rcases hb with ⟨i, hb⟩ | hb
                · by_cases hi : i ∈ iosOf ars
                  · exact key (.inl (inF i hi b hb))
                  · rw [putF_out hi] at hb; exact .inl ⟨i, hb⟩
                · exact key (.inr hb)
              · have ei : iosOf ars = [] := by
                  have : ∀ {ms : List Nat} {ars : List Ar} {ds : List D}, argsOf env ms ars = some ds → ms.all (· == 0) = true → iosOf ars = [] := by
                    intro ms ars
                    induction ars generalizing ms with
                    | nil => intro ds _ _; rfl
                    | cons a ars ih =>
                      intro ds e hz
                      cases ms with
                      | nil => cases a <;> simp [argsOf] at e
                      | cons m ms =>
                        simp only [List.all_cons, Bool.and_eq_true] at hz
                        obtain ⟨hz1, hz2⟩ := hz
                        have hz1 : m = 0 := by simpa using hz1
                        subst hz1
                        cases a with
                        | io j => simp [argsOf] at e
                        | d k d =>
                          cases k with
                          | succ k => simp [argsOf] at e
                          | zero =>
                            have e : (argsOf env ms ars).map (d :: ·) = some ds := e
                            cases e1 : argsOf env ms ars with
                            | none => rw [e1] at e; cases e
                            | some es => exact ih e1 hz2
                        | wk j =>
                          have e : (match lent env j 1 with | some (.nd .lst ds) => (argsOf env ms ars).map (D.lst ds :: ·) | _ => none) = some ds := e
                          split at e
                          · cases e1 : argsOf env ms ars with
                            | none => rw [e1] at e; cases e
                            | some es' => exact ih e1 hz2
                          · cases e
                  exact this e hz
                exact fun b o q => st.fr b o q (by rw [ei]; simp [inL])
              · intro hb2
                by_cases hi : i ∈ iosOf ars
                · exact ndo3 b (inF i hi b hb) b hb2 rfl
                · rw [putF_out hi] at hb
                  exact hnew b (.inr hb2) i hi hb
            · rw [if_neg hl] at h; exact h.elim
    · rw [if_neg hn] at h; exact h.elim
end
end DL

-- part DLf
set_option Elab.async false
set_option linter.all false
set_option maxRecDepth 100000
/-! DL, part f: expressions. -/
namespace DL
open PySem PySem.Spec PyProof.Rows L2

/-- the context of a frame -/
structure CO (CXv : CXT) (X : Cx) (G : Fr) (N : List Str) (sc : Scope) (lv : Nat) : Prop where
  K : X.K = G.M.K
  calm : X.calm = true
  hN : X.N = N
  sc : X.env.scope = sc
  nd : N.Nodup
  room : Room lv X.A
  nb : ∀ b : Blt, X.mg b.nm = none
  nr : X.mg "range" = none
  ne : X.mg "enumerate" = none
  nz : X.mg "zip" = none
  pass : Passes CXv X G.E
  pass0 : ∀ X', Passes CXv X' E0
theorem CO.hu {CXv : CXT} {X : Cx} {G : Fr} {N : List Str} {sc : Scope} {lv : Nat} (c : CO CXv X G N sc lv) : X.A.units + 64 < cLine := c.room.units

section
variable {X : Cx} {G : Fr} {σ : St} {H F : Hp} {p pa pb : Bool}
theorem pe_imp {x : Expr} {t t' : TE} (h : PE X x t) (i : ∀ σ H Q, t' σ H Q → t σ H Q) : PE X x t' := ⟨fun pins s σ H Q I q => h.run pins s σ H Q I (i σ H Q q)⟩
theorem pt_imp {x : Expr} {t t' : TT} (h : PT X x t) (i : ∀ σ H Q, t' σ H Q → t σ H Q) : PT X x t' := ⟨fun pins s σ H Q I q => h.run pins s σ H Q I (i σ H Q q)⟩
theorem pa_imp {x : List Expr} {t t' : TA} (h : PA X x t) (i : ∀ σ H Q, t' σ H Q → t σ H Q) : PA X x t' := ⟨fun pos pins s σ H Q I q => h.run pos pins s σ H Q I (i σ H Q q)⟩
theorem po_imp {x : Option Expr} {t t' : TO} (h : PO X x t) (i : ∀ σ H Q, t' σ H Q → t σ H Q) : PO X x t' := ⟨fun pins s σ H Q I q => h.run pins s σ H Q I (i σ H Q q)⟩
/-- an operation on two values, its answer new -/
theorem two {ra rb : Env → Res (Wk × Env)} {f : Wk → Wk → Res D} {Q : VK} {R : V → V → Hp → Prop}
    (h : tN G (pa && pb) (fun env => (ra env).bind fun (x, env) => if x.1 = 0 ∨ pb = true then (rb env).bind fun (y, env) => (f x y).bind fun d => .ok ((0, d), env) else .stuck) σ H Q)
    (hf : ∀ x y v w F H, Same F H → RW G.M F H x.1 x.2 v → RW G.M F H y.1 y.2 w → (∃ d, f x y = .ok d ∧ Nw G.M F H d Q) → R v w H)
    (fx : ∀ x y c d, f x y ≠ .exn c d) : tE G pa ra σ H fun v H1 => tE G pb rb σ H1 fun w H2 => R v w H2 := by
  obtain ⟨env, F, fs, g, q⟩ := h
  refine ⟨env, F, fs, g, q.bind (p2 := pb) (fun z => Bool.and_eq_true_iff.mp z) fun x env1 F1 H1 fs1 _ g1 s1 t1 q1 v rv => ?_⟩
  by_cases hc : x.1 = 0 ∨ pb = true
  · simp only [if_pos hc] at q1
    refine ⟨env1, F1, fs1, g1, q1.bind (p2 := true) (fun z => ⟨z, rfl⟩) fun y env2 F2 H2 fs2 _ g2 s2 t2 q2 w rw => ?_⟩
    have rv2 : RW G.M F2 H2 x.1 x.2 v := by
      rcases hc with hc | hc
      · rw [hc] at rv ⊢; exact Rep.mono s2.ff rv
      · exact rv.mono s2.ff (t2 hc)
    refine hf x y v w F2 H2 g2.fh rv2 rw ?_
    cases e : f x y with
    | stuck => rw [e] at q2; exact q2.elim
    | exn c d => exact absurd e (fx x y c d)
    | ok d =>
      rw [e] at q2
      exact ⟨d, rfl, q2.done g2 rfl⟩
  · simp only [if_neg hc] at q1
    exact q1.elim
theorem dBin_fx (op : Bop) (x y : Wk) (c : Nat) (d : D) : dBin op x y ≠ .exn c d := by
  intro h
  obtain ⟨i, x⟩ := x
  obtain ⟨j, y⟩ := y
  unfold dBin at h
  split at h <;> (try cases h) <;> (split at h <;> cases h)
theorem s_bin (hK : X.K = G.M.K) {a b : E} {x y : Expr} {op : Bop} {pos : Pos} (ha : PE X x (tE G a.pure (ev a))) (hb : PE X y (tE G b.pure (ev b))) : PE X (.BinOp x op.py y pos) (tE G (E.bin op a b).pure (ev (.bin op a b))) :=
  pe_imp (pe_op (op_bin hK op) ha hb) fun σ H Q h => two (tE_N h) (fun x y v w F H hs rv rw ⟨d, e, n⟩ => ⟨F, x.1, x.2, y.1, y.2, d, hs, rv, rw, e, n⟩) (dBin_fx op)

theorem dIdx_fx (x : Wk) (y : D) (c : Nat) (d : D) : dIdx x y ≠ .exn c d := by
  intro h
  obtain ⟨i, x⟩ := x
  unfold dIdx at h
  split at h <;> (try cases h)
  all_goals
    split at h <;> (try cases h)
  all_goals
    split at h <;> cases h
theorem dEq_fx (x y : D) (c : Nat) (d : D) : dEq x y ≠ .exn c d := by
  intro h
  unfold dEq at h
  split at h <;> cases h
theorem dIn_fx (x : D) (y : Wk) (c : Nat) (d : D) : dIn x y ≠ .exn c d := by
  intro h
  unfold dIn at h
  split at h <;> (try cases h)
  all_goals
    split at h <;> cases h
theorem dCmp_fx (op : Cop) (x y : Wk) (c : Nat) (d : D) : dCmp op x y ≠ .exn c d := by
  intro h
  obtain ⟨i, x⟩ := x
  obtain ⟨j, y⟩ := y
  unfold dCmp at h
  split at h <;> (try cases h)
  · exact dEq_fx _ _ _ _ h
  · rename_i _ d' _ e' _ _
    cases e : dEq d' e' with
    | ok b => rw [e] at h; cases h
    | stuck => rw [e] at h; cases h
    | exn c d => exact dEq_fx _ _ _ _ e
  · exact dIn_fx _ _ _ _ h
  · rename_i d' x'
    cases e : dIn d' (j, y) with
    | ok b => rw [e] at h; cases h
    | stuck => rw [e] at h; cases h
    | exn c d => exact dIn_fx _ _ _ _ e
/-- an operation on two values, its answer of any kind -/
theorem two' {α : Type} {ra rb : Env → Res (Wk × Env)} {f : Wk → Wk → Res α} {g' : α → Wk} {Q : VK} {R : V → V → Hp → Prop}
    (h : ∃ env F fs, GS G.M F H G.io env σ fs ∧ Pst G (pa && pb) σ F H fs ((ra env).bind fun (x, env) => if x.1 = 0 ∨ pb = true then (rb env).bind fun (y, env) => (f x y).bind fun d => Res.ok (g' d, env) else .stuck) fun x _ F' H' _ => ∀ v, RW G.M F' H' x.1 x.2 v → Q v H')
    (hf : ∀ x y v w F H, Same F H → RW G.M F H x.1 x.2 v → RW G.M F H y.1 y.2 w → (∃ d, f x y = .ok d ∧ ∀ v, RW G.M F H (g' d).1 (g' d).2 v → Q v H) → R v w H)
    (fx : ∀ x y c d, f x y ≠ .exn c d) : tE G pa ra σ H fun v H1 => tE G pb rb σ H1 fun w H2 => R v w H2 := by
  obtain ⟨env, F, fs, g, q⟩ := h
  refine ⟨env, F, fs, g, q.bind (p2 := pb) (fun z => Bool.and_eq_true_iff.mp z) fun x env1 F1 H1 fs1 _ g1 s1 t1 q1 v rv => ?_⟩
  by_cases hc : x.1 = 0 ∨ pb = true
  · simp only [if_pos hc] at q1
    refine ⟨env1, F1, fs1, g1, q1.bind (p2 := true) (fun z => ⟨z, rfl⟩) fun y env2 F2 H2 fs2 _ g2 s2 t2 q2 w rw => ?_⟩
    have rv2 : RW G.M F2 H2 x.1 x.2 v := by
      rcases hc with hc | hc
      · rw [hc] at rv ⊢; exact Rep.mono s2.ff rv
      · exact rv.mono s2.ff (t2 hc)
    refine hf x y v w F2 H2 g2.fh rv2 rw ?_
    cases e : f x y with
    | stuck => rw [e] at q2; exact q2.elim
    | exn c d => exact absurd e (fx x y c d)
    | ok d =>
      rw [e] at q2
      exact ⟨d, rfl, q2.done g2⟩
  · simp only [if_neg hc] at q1
    exact q1.elim
theorem nomark_of {op : CmpOp} {y : Expr} (h : behindInMarks op y = false) : behindInMarks op y = false := h
theorem s_cmp (hK : X.K = G.M.K) (hu : X.A.units + 64 < cLine) {a b : E} {x y : Expr} {op : Cop} {pos : Pos} (hm : behindInMarks op.py y = false) (ha : PE X x (tE G a.pure (ev a))) (hb : PE X y (tE G b.pure (ev b))) :
    PE X (.Compare x [op.py] [y] pos) (tE G (E.cmp op a b).pure (ev (.cmp op a b))) :=
  pe_imp (pe_cmpR (op_cmp hK hu op) ha hb hm) fun σ H Q h => two' (g' := fun k => (0, .bl k)) (f := dCmp op) h (fun x y v w F H hs rv rw ⟨d, e, n⟩ => ⟨F, x.1, x.2, y.1, y.2, d, hs, rv, rw, e, n _ Rep.bl⟩) (dCmp_fx op)
/-- a value's truth, as the language has it -/
def evT (e : E) (env : Env) : Res (Bool × Env) := (ev e env).bind fun (x, env) => (asB x.2).bind fun k => .ok (k, env)
theorem tT_of {a : E} {Q : Bool → Hp → Prop} (h : tT G p (evT a) σ H Q) : tE G p (ev a) σ H fun v H1 => ∃ k, v = .bl k ∧ Q k H1 := by
  obtain ⟨env, F, fs, g, q⟩ := h
  refine ⟨env, F, fs, g, q.bind (p2 := true) (fun z => ⟨z, rfl⟩) fun x env1 F1 H1 fs1 _ g1 s1 t1 q1 v rv => ?_⟩
  obtain ⟨k, d⟩ := x
  cases d <;> try exact q1.elim
  exact ⟨_, RW.bl rv, q1.done g1⟩
theorem s_cmpT (hK : X.K = G.M.K) (hu : X.A.units + 64 < cLine) {a b : E} {x y : Expr} {op : Cop} {pos : Pos} (hm : behindInMarks op.py y = false) (ha : PE X x (tE G a.pure (ev a))) (hb : PE X y (tE G b.pure (ev b))) :
    PT X (.Compare x [op.py] [y] pos) (tT G (E.cmp op a b).pure (evT (.cmp op a b))) :=
  pt_imp (pt_cmpR (op_cmp hK hu op) ha hb hm) fun σ H Q h => two' (g' := fun k => (0, .bl k)) (f := dCmp op) (tT_of h) (fun x y v w F H hs rv rw ⟨d, e, n⟩ => ⟨F, x.1, x.2, y.1, y.2, d, hs, rv, rw, e, n _ Rep.bl⟩) (dCmp_fx op)
theorem s_idx (hK : X.K = G.M.K) {a b : E} {x y : Expr} {pos : Pos} (hs : PlainIx y) (ha : PE X x (tE G a.pure (ev a))) (hb : PE X y (tE G b.pure (ev b))) : PE X (.Subscript x y pos) (tE G (E.idx a b).pure (ev (.idx a b))) :=
  pe_imp (pe_ix (ix_idx hK) ha hb hs) fun σ H Q h => two' (g' := fun k => k) (f := fun x y => dIdx x y.2) h (fun x y v w F H hs rv rw ⟨d, e, n⟩ => ⟨F, x.1, x.2, y.1, y.2, d, hs, rv, rw, e, n⟩) (fun x y => dIdx_fx x y.2)
theorem s_neg {a : E} {x : Expr} {pos : Pos} (ha : PE X x (tE G a.pure (ev a))) : PE X (.UnaryOp .USub x pos) (tE G (E.neg a).pure (ev (.neg a))) :=
  pe_imp (pe_un un_neg ha) fun σ H Q ⟨env, F, fs, g, q⟩ => ⟨env, F, fs, g, q.bind (p2 := true) (fun z => ⟨z, rfl⟩) fun x env1 F1 H1 fs1 _ g1 s1 t1 q1 v rv => by
    obtain ⟨k, d⟩ := x
    cases d <;> try exact q1.elim
    exact ⟨_, RW.int rv, q1.done g1 _ Rep.int⟩⟩
theorem s_name {i : Nat} {x : Str} {pos : Pos} (hN : X.N[i]? = some x) (hv : Vis X.env.scope x) (hd : (x == ("__debug__" : Str)) = false) (hcd : (x == ("__classdict__" : Str)) = false) : PE X (.Name x pos) (tE G (E.name i).pure (ev (.name i))) :=
  pe_imp (pe_var hN hv hd hcd) fun σ H Q ⟨env, F, fs, g, q⟩ => by
    cases e : env[i]? with
    | none => simp [ev, e] at q; exact q.elim
    | some s =>
      simp only [ev, e] at q
      cases s with
      | un => exact q.elim
      | val d =>
        obtain ⟨v, e1, r⟩ := g.val e
        exact ⟨v, e1, q.done g v r⟩
      | own k d =>
        obtain ⟨v, e1, r⟩ := g.own (.inl e)
        exact ⟨v, e1, q.done g v r.rw⟩
      | io k d =>
        obtain ⟨v, e1, r⟩ := g.own (.inr e)
        exact ⟨v, e1, q.done g v r.rw⟩
def litB : D → Const → Bool
  | .non, .none => true
  | .bl b, .bool c => b == c
  | .int i, .int j => decide (i = j)
  | .str x, .str y => decide (x = y)
  | _, _ => false
theorem s_lit {d : D} {c : Const} {k : Nat} {pos : Pos} (h : litB d c = true) : PE X (.Constant c k pos) (tE G (E.lit d).pure (ev (.lit d))) := by
  have key : ∀ v : V, PE X (.Constant c k pos) (tC v) → (∀ F, Rep G.M F d v) → PE X (.Constant c k pos) (tE G (E.lit d).pure (ev (.lit d))) := fun v h r => pe_imp h fun σ H Q ⟨env, F, fs, g, q⟩ => by
    refine q.done g v ?_
    cases d with
    | nd kd ds => cases c <;> simp [litB] at *
    | _ => exact r _
  unfold litB at h
  split at h
  · exact key _ pe_non fun _ => Rep.non
  · have h := beq_iff_eq.mp h; subst h; exact key _ pe_bl fun _ => Rep.bl
  · have h := of_decide_eq_true h; subst h; exact key _ pe_int fun _ => Rep.int
  · have h := of_decide_eq_true h; subst h; exact key _ pe_str fun _ => Rep.str
  · cases h
theorem s_not {a : E} {x : Expr} {pos : Pos} (ha : PE X x (tE G a.pure (ev a))) : PE X (.UnaryOp .Not x pos) (tE G (E.notv a).pure (ev (.notv a))) :=
  pe_imp (pe_not ha) fun σ H Q ⟨env, F, fs, g, q⟩ => ⟨env, F, fs, g, q.bind (p2 := true) (fun z => ⟨z, rfl⟩) fun x env1 F1 H1 fs1 _ g1 s1 t1 q1 v rv => by
    obtain ⟨k, d⟩ := x
    cases d <;> try exact q1.elim
    exact ⟨_, RW.bl rv, q1.done g1 _ Rep.bl⟩⟩
theorem s_and {a b : E} {x y : Expr} {rest : List Expr} {pos : Pos} (ha : PE X x (tE G a.pure (ev a))) (hb : PE X (.BoolOp .And (y :: rest) pos) (tE G b.pure (ev b))) : PE X (.BoolOp .And (x :: y :: rest) pos) (tE G (E.andv a b).pure (ev (.andv a b))) :=
  pe_imp (pe_and ha hb) fun σ H Q ⟨env, F, fs, g, q⟩ => ⟨env, F, fs, g, q.bind (p2 := b.pure) (fun z => Bool.and_eq_true_iff.mp z) fun x env1 F1 H1 fs1 _ g1 s1 t1 q1 v rv => by
    obtain ⟨k, d⟩ := x
    cases d with
    | non => exact q1.elim
    | int i => exact q1.elim
    | str i => exact q1.elim
    | nd i j => exact q1.elim
    | bl c =>
    refine ⟨c, RW.bl rv, ?_⟩
    cases c with
    | false => exact q1.weak (fun z => z) (fun _ _ _ _ _ _ _ _ _ z => z) |>.done g1 _ Rep.bl
    | true =>
      refine ⟨env1, F1, fs1, g1, Pst.bind (p2 := true) (f := fun (y, env) => (asB y.2).bind fun k' => Res.ok ((0, D.bl k'), env)) q1 (fun z => ⟨z, rfl⟩) fun y env2 F2 H2 fs2 _ g2 s2 t2 q2 w rw => ?_⟩
      obtain ⟨k, d⟩ := y
      cases d <;> try exact q2.elim
      rw [RW.bl rw]
      exact q2.done g2 _ Rep.bl⟩
theorem s_or {a b : E} {x y : Expr} {rest : List Expr} {pos : Pos} (ha : PE X x (tE G a.pure (ev a))) (hb : PE X (.BoolOp .Or (y :: rest) pos) (tE G b.pure (ev b))) : PE X (.BoolOp .Or (x :: y :: rest) pos) (tE G (E.orv a b).pure (ev (.orv a b))) :=
  pe_imp (pe_or ha hb) fun σ H Q ⟨env, F, fs, g, q⟩ => ⟨env, F, fs, g, q.bind (p2 := b.pure) (fun z => Bool.and_eq_true_iff.mp z) fun x env1 F1 H1 fs1 _ g1 s1 t1 q1 v rv => by
    obtain ⟨k, d⟩ := x
    cases d with
    | non => exact q1.elim
    | int i => exact q1.elim
    | str i => exact q1.elim
    | nd i j => exact q1.elim
    | bl c =>
    refine ⟨c, RW.bl rv, ?_⟩
    cases c with
    | true => exact q1.weak (fun z => z) (fun _ _ _ _ _ _ _ _ _ z => z) |>.done g1 _ Rep.bl
    | false =>
      refine ⟨env1, F1, fs1, g1, Pst.bind (p2 := true) (f := fun (y, env) => (asB y.2).bind fun k' => Res.ok ((0, D.bl k'), env)) q1 (fun z => ⟨z, rfl⟩) fun y env2 F2 H2 fs2 _ g2 s2 t2 q2 w rw => ?_⟩
      obtain ⟨k, d⟩ := y
      cases d <;> try exact q2.elim
      rw [RW.bl rw]
      exact q2.done g2 _ Rep.bl⟩

theorem bl_inv {k : Nat} {d : D} {α : Type} {f : Bool → Res α} {r : Res α} (h : (asB d).bind f = r) (n : r ≠ .stuck) : ∃ b, d = .bl b ∧ f b = r := by
  cases d with
  | bl b => exact ⟨b, rfl, h⟩
  | _ => exact absurd h.symm n
theorem s_ife {t a b : E} {c x y : Expr} {pos : Pos} (ht : PT X c (tT G t.pure (evT t))) (ha : PE X x (tE G a.pure (ev a))) (hb : PE X y (tE G b.pure (ev b))) : PE X (.IfExp c x y pos) (tE G (E.ife t a b).pure (ev (.ife t a b))) :=
  pe_imp (pe_ifExp ht ha hb) fun σ H Q ⟨env, F, fs, g, q⟩ => by
    refine ⟨env, F, fs, g, ?_⟩
    have q2 : Pst G (t.pure && a.pure && b.pure) σ F H fs ((evT t env).bind fun (k, env) => if k then ev a env else ev b env) fun x _ F' H' _ => ∀ v, RW G.M F' H' x.1 x.2 v → Q v H' := by
      have e : (evT t env).bind (fun (k, env) => if k then ev a env else ev b env) = ev (.ife t a b) env := by
        show ((ev t env).bind fun (x, env) => (asB x.2).bind fun k => Res.ok (k, env)).bind _ = (ev t env).bind fun (x, env) => (asB x.2).bind fun k => if k then ev a env else ev b env
        cases ev t env with
        | stuck => rfl
        | exn c d => rfl
        | ok p =>
          obtain ⟨x, env1⟩ := p
          show ((asB x.2).bind fun k => Res.ok (k, env1)).bind _ = (asB x.2).bind fun k => if k then ev a env1 else ev b env1
          cases asB x.2 <;> rfl
      rw [e]; exact q
    refine q2.bind (p2 := a.pure && b.pure) (fun z => by simpa [Bool.and_assoc] using z) fun k env1 F1 H1 fs1 _ g1 s1 t1 q1 => ?_
    cases k with
    | true => exact ⟨env1, F1, fs1, g1, Pst.weak (show Pst G (a.pure && b.pure) σ F1 H1 fs1 (ev a env1) _ from q1) (fun z => (Bool.and_eq_true_iff.mp z).1) fun _ _ _ _ _ _ _ _ _ z => z⟩
    | false => exact ⟨env1, F1, fs1, g1, Pst.weak (show Pst G (a.pure && b.pure) σ F1 H1 fs1 (ev b env1) _ from q1) (fun z => (Bool.and_eq_true_iff.mp z).2) fun _ _ _ _ _ _ _ _ _ z => z⟩
/-! ### arguments -/
def isStar : Expr → Bool
  | .Starred _ _ => true
  | _ => false
theorem star_cons {e : Expr} {es : List Expr} {env : PySem.Env} (h : isStar e = false) : starEach (e :: es) env = (false, eval e env) :: starEach es env := by
  cases e <;> first | rfl | (simp [isStar] at h)
theorem star_none {pos : Pos} {env : PySem.Env} : ∀ {es : List Expr}, es.all (fun e => !isStar e) = true → (backTo pos (starEach es env)).any (·.1) = false
  | [], _ => rfl
  | e :: es, h => by
    have h := Bool.and_eq_true_iff.mp (show ((!isStar e) && es.all fun e => !isStar e) = true from h)
    rw [star_cons (by simpa using h.1)]
    show (false || (backTo pos (starEach es env)).any (·.1)) = false
    rw [star_none h.2]; rfl
theorem s_anil : PA X [] (tA G E.nil.pure (evs .nil)) := pa_imp pa_nil fun σ H Q ⟨env, F, fs, g, q⟩ => q.done g [] rfl
theorem ArR.mono {M : Mo} {F F' H H' : Hp} {σ : St} (a : Same F F') (b : Same H H') : ∀ {ars : List Ar} {vs : List V}, ArR M F H σ ars vs → ArR M F' H' σ ars vs
  | [], _, h => h
  | .d k d :: r, _, ⟨v, vs', e, x, y⟩ => ⟨v, vs', e, x.mono a b, y.mono a b⟩
  | .io i :: r, _, ⟨v, vs', e, x, y⟩ => ⟨v, vs', e, x, y.mono a b⟩
  | .wk i :: r, _, ⟨v, vs', e, x, y⟩ => ⟨v, vs', e, x, y.mono a b⟩
theorem acons_imp {a es : E} (hi : ∀ i, a ≠ .ioa i ∧ a ≠ .wka i) (hst : ∀ b, a ≠ .star b) (σ : L2.St) (H : Hp) (Q : List V → Hp → Prop) (h : tA G (E.cons a es).pure (evs (.cons a es)) σ H Q) : tCons (tE G a.pure (ev a)) (tA G es.pure (evs es)) σ H Q := by
    obtain ⟨env, F, fs, g, q⟩ := h
    have e : evs (.cons a es) env = (ev a env).bind fun (x, env) => if x.1 = 0 ∨ es.pure = true then (evs es env).bind fun (r, env) => .ok (.d x.1 x.2 :: r, env) else .stuck := by
      cases a <;> first | rfl | exact absurd rfl (hi _).1 | exact absurd rfl (hi _).2 | exact absurd rfl (hst _)
    rw [e] at q
    refine ⟨env, F, fs, g, q.bind (p2 := es.pure) (fun z => Bool.and_eq_true_iff.mp z) fun x env1 F1 H1 fs1 _ g1 s1 t1 q1 v rv => ?_⟩
    by_cases hc : x.1 = 0 ∨ es.pure = true
    · simp only [if_pos hc] at q1
      refine ⟨env1, F1, fs1, g1, q1.bind (p2 := true) (fun z => ⟨z, rfl⟩) fun ars env2 F2 H2 fs2 _ g2 s2 t2 q2 vs rw => ?_⟩
      refine q2.done g2 (v :: vs) ⟨v, vs, rfl, ?_, rw⟩
      rcases hc with hc | hc
      · rw [hc] at rv ⊢; exact Rep.mono s2.ff rv
      · exact rv.mono s2.ff (t2 hc)
    · simp only [if_neg hc] at q1
      exact q1.elim
theorem s_acons {a es : E} {x : Expr} {xs : List Expr} (hi : ∀ i, a ≠ .ioa i ∧ a ≠ .wka i) (hst : ∀ b, a ≠ .star b) (hx : isStar x = false) (ha : PE X x (tE G a.pure (ev a))) (hb : PA X xs (tA G es.pure (evs es))) : PA X (x :: xs) (tA G (E.cons a es).pure (evs (.cons a es))) :=
  pa_imp (pa_cons ha hb (star_cons hx)) (acons_imp hi hst)
/-- a slot is handed on: its value is whatever stands there -/
theorem held_there {env : Env} {fs : Ft} {io : List (Nat × V)} {M : Mo} (g : GS M F H io env σ fs) {i : Nat} (h : held env i = true) : ∃ v, σ[i]? = some (some v) := by
  unfold held at h
  split at h
  · rename_i k d e
    obtain ⟨v, e1, _⟩ := g.own (.inl e)
    exact ⟨v, e1⟩
  · rename_i k d e
    obtain ⟨v, e1, _⟩ := g.own (.inr e)
    exact ⟨v, e1⟩
  · cases h
theorem aio_imp {i : Nat} {es : E} (σ : L2.St) (H : Hp) (Q : List V → Hp → Prop) (h : tA G (E.cons (.ioa i) es).pure (evs (.cons (.ioa i) es)) σ H Q) : tCons (tVar i) (tA G es.pure (evs es)) σ H Q := by
    obtain ⟨env, F, fs, g, q⟩ := h
    have q : Pst G (E.cons (.ioa i) es).pure σ F H fs (if held env i = true then (evs es env).bind fun (r, env) => .ok (.io i :: r, env) else .stuck) _ := q
    by_cases hh : held env i = true
    · rw [if_pos hh] at q
      obtain ⟨v, ev1⟩ := held_there g hh
      refine ⟨v, ev1, env, F, fs, g, q.bind (p2 := true) (fun z => ⟨(Bool.and_eq_true_iff.mp z).2, rfl⟩) fun ars env2 F2 H2 fs2 _ g2 s2 t2 q2 vs rw => ?_⟩
      exact q2.done g2 (v :: vs) ⟨v, vs, rfl, ev1, rw⟩
    · rw [if_neg hh] at q; exact q.elim
theorem s_aio {i : Nat} {es : E} {x : Str} {pos : Pos} {xs : List Expr} (hN : X.N[i]? = some x) (hv : Vis X.env.scope x) (hd : (x == ("__debug__" : Str)) = false) (hcd : (x == ("__classdict__" : Str)) = false)
    (hb : PA X xs (tA G es.pure (evs es))) : PA X (.Name x pos :: xs) (tA G (E.cons (.ioa i) es).pure (evs (.cons (.ioa i) es))) :=
  pa_imp (pa_cons (pe_var hN hv hd hcd) hb (star_cons rfl)) (aio_imp)
theorem awk_imp {i : Nat} {es : E} (σ : L2.St) (H : Hp) (Q : List V → Hp → Prop) (h : tA G (E.cons (.wka i) es).pure (evs (.cons (.wka i) es)) σ H Q) : tCons (tVar i) (tA G es.pure (evs es)) σ H Q := by
    obtain ⟨env, F, fs, g, q⟩ := h
    have q : Pst G (E.cons (.wka i) es).pure σ F H fs (if held env i = true then (evs es env).bind fun (r, env) => .ok (.wk i :: r, env) else .stuck) _ := q
    by_cases hh : held env i = true
    · rw [if_pos hh] at q
      obtain ⟨v, ev1⟩ := held_there g hh
      refine ⟨v, ev1, env, F, fs, g, q.bind (p2 := true) (fun z => ⟨(Bool.and_eq_true_iff.mp z).2, rfl⟩) fun ars env2 F2 H2 fs2 _ g2 s2 t2 q2 vs rw => ?_⟩
      exact q2.done g2 (v :: vs) ⟨v, vs, rfl, ev1, rw⟩
    · rw [if_neg hh] at q; exact q.elim
theorem s_awk {i : Nat} {es : E} {x : Str} {pos : Pos} {xs : List Expr} (hN : X.N[i]? = some x) (hv : Vis X.env.scope x) (hd : (x == ("__debug__" : Str)) = false) (hcd : (x == ("__classdict__" : Str)) = false)
    (hb : PA X xs (tA G es.pure (evs es))) : PA X (.Name x pos :: xs) (tA G (E.cons (.wka i) es).pure (evs (.cons (.wka i) es))) :=
  pa_imp (pa_cons (pe_var hN hv hd hcd) hb (star_cons rfl)) (awk_imp)
theorem strong_vs {M : Mo} {F H : Hp} {σ : St} : ∀ {ars : List Ar} {ds : List D} {vs : List V}, strong ars = some ds → ArR M F H σ ars vs → Fa2 (Rep M F) ds vs
  | [], ds, vs, e, h => by simp [strong] at e; rw [e, show vs = [] from h]; rfl
  | .d k d :: r, ds, vs, e, h => by
    obtain ⟨v, vs', rfl, x, y⟩ := h
    cases k with
    | succ k => simp [strong] at e
    | zero =>
      have e : (strong r).map (d :: ·) = some ds := e
      cases e1 : strong r with
      | none => rw [e1] at e; cases e
      | some es =>
        rw [e1] at e
        have e := Option.some.inj e; subst e
        exact ⟨v, vs', rfl, x, strong_vs e1 y⟩
  | .io i :: r, ds, vs, e, h => by simp [strong] at e
  | .wk i :: r, ds, vs, e, h => by simp [strong] at e
theorem weaks_vs {M : Mo} {F H : Hp} {σ : St} : ∀ {ars : List Ar} {ds : List Wk} {vs : List V}, weaks ars = some ds → ArR M F H σ ars vs → WkR M F H ds vs
  | [], ds, vs, e, h => by simp [weaks] at e; rw [e, show vs = [] from h]; rfl
  | .d k d :: r, ds, vs, e, h => by
    obtain ⟨v, vs', rfl, x, y⟩ := h
    have e : (weaks r).map ((k, d) :: ·) = some ds := e
    cases e1 : weaks r with
    | none => rw [e1] at e; cases e
    | some es =>
      rw [e1] at e
      have e := Option.some.inj e; subst e
      exact ⟨v, vs', rfl, x, weaks_vs e1 y⟩
  | .io i :: r, ds, vs, e, h => by simp [weaks] at e
  | .wk i :: r, ds, vs, e, h => by simp [weaks] at e
theorem ofO_inv {α β : Type} {o : Option α} {f : α → Res (β × Env)} {k : β → Env → Hp → Hp → Ft → Prop} {fs : Ft} (h : Pst G p σ F H fs ((ofO o).bind f) k) : ∃ a, o = some a ∧ Pst G p σ F H fs (f a) k := by
  cases o with
  | none => exact h.elim
  | some a => exact ⟨a, rfl, h⟩
theorem ite_inv {β : Type} {c : Prop} [Decidable c] {r : Res (β × Env)} {k : β → Env → Hp → Hp → Ft → Prop} {fs : Ft} (h : Pst G p σ F H fs (if c then r else .stuck) k) : c ∧ Pst G p σ F H fs r k := by
  by_cases z : c
  · rw [if_pos z] at h; exact ⟨z, h⟩
  · rw [if_neg z] at h; exact h.elim
theorem s_tup {es : E} {xs : List Expr} {pos : Pos} {j} (hb : PA X xs (tA G es.pure (evs es))) : PE X (.Tuple xs j pos) (tE G (E.tup es).pure (ev (.tup es))) :=
  pe_imp (pe_tup hb) fun σ H Q h => by
    obtain ⟨env, F, fs, g, q⟩ := tE_N h
    refine ⟨env, F, fs, g, q.bind (p2 := true) (fun z => ⟨z, rfl⟩) fun ars env1 F1 H1 fs1 _ g1 s1 t1 q1 vs rv => ?_⟩
    obtain ⟨ds, e, q1⟩ := ofO_inv q1
    obtain ⟨hl, q1⟩ := ite_inv q1
    have f := strong_vs e rv
    exact ⟨by rw [f.length]; exact lim_ok hl, fun p hp => (q1.done g1 rfl).tup g1.fh hp f⟩
/-- a new list, as no one's -/
theorem n_lst {es : E} {xs : List Expr} {pos : Pos} (hb : PA X xs (tA G es.pure (evs es))) : PE X (.List xs pos) (tN G (E.lst es).pure (ev (.lst es))) :=
  pe_imp (pe_lst hb) fun σ H Q ⟨env, F, fs, g, q⟩ => by
    refine ⟨env, F, fs, g, q.bind (p2 := true) (fun z => ⟨z, rfl⟩) fun ars env1 F1 H1 fs1 _ g1 s1 t1 q1 vs rv => ?_⟩
    obtain ⟨ds, e, q1⟩ := ofO_inv q1
    obtain ⟨hl, q1⟩ := ite_inv q1
    have f := strong_vs e rv
    exact ⟨by rw [f.length]; exact lim_ok hl, fun p hp => (q1.done g1 rfl) p vs hp f⟩
theorem dBlt_fx (b : Blt) (ws : List Wk) (c : Nat) (d : D) : dBlt b ws ≠ .exn c d := by
  intro h
  unfold dBlt at h
  have ds : ∀ l, dSorted l ≠ .exn c d := fun l h => by
    unfold dSorted at h
    split at h
    · split at h <;> cases h
    · split at h
      · split at h <;> cases h
      · cases h
  split at h <;> (try cases h) <;> (split at h <;> (try cases h)) <;> (try (split at h <;> (try cases h)))
  all_goals exact ds _ h
theorem boot_b : ∀ b : Blt, bootBuiltins b.nm = some b.val := by
  intro b
  cases b <;> decide +kernel
theorem blt_ne : ∀ b : Blt, ((b.nm : Str) ≠ "__name__") ∧ (((b.nm : Str) == ("__debug__" : Str)) = false) := by
  intro b
  cases b <;> exact ⟨by decide, by decide⟩
theorem n_blt (hK : X.K = G.M.K) (hc : X.calm = true) {b : Blt} {es : E} {x : Expr} {xs : List Expr} {pp pos : Pos} (hg : Gl X b.nm) (hm : X.mg b.nm = none) (hs : (x :: xs).all (fun e => !isStar e) = true) (hb : PA X (x :: xs) (tA G es.pure (evs es))) :
    PE X (.Call (.Name b.nm pp) (x :: xs) [] pos) (tN G (E.blt b es).pure (ev (.blt b es))) := by
  have hs := Bool.and_eq_true_iff.mp (show ((!isStar x) && xs.all fun e => !isStar e) = true from hs)
  have i : ∀ σ H Q, tN G (E.blt b es).pure (ev (.blt b es)) σ H Q → tCB (rBlt G.M b) (tA G es.pure (evs es)) σ H Q := fun σ H Q ⟨env, F, fs, g, q⟩ => by
    refine ⟨env, F, fs, g, q.bind (p2 := true) (fun z => ⟨z, rfl⟩) fun ars env1 F1 H1 fs1 _ g1 s1 t1 q1 vs rv => ?_⟩
    obtain ⟨ws, e, q1⟩ := ofO_inv q1
    cases e2 : dBlt b ws with
    | stuck => rw [e2] at q1; exact q1.elim
    | exn c d => exact absurd e2 (dBlt_fx b ws c d)
    | ok d =>
      rw [e2] at q1
      exact ⟨F1, ws, d, g1.fh, weaks_vs e rv, e2, q1.done g1 rfl⟩
  have hv := boot_b b
  have cr := cr_blt hK hc b
  unfold Blt.val at hv cr
  by_cases ht : b.ty = true
  · rw [if_pos ht] at hv cr
    exact pe_imp (pe_callTy cr hg hm hv hb (blt_ne b).1 (blt_ne b).2 (star_cons (by simpa using hs.1)) (star_none hs.2)) i
  · rw [if_neg ht] at hv cr
    exact pe_imp (pe_callB cr hg hm hv hb (blt_ne b).1 (blt_ne b).2 (star_cons (by simpa using hs.1)) (star_none hs.2)) i
theorem tO_prt {e : E} {x : Expr} (hn : e ≠ .nil) (h : PE X x (tE G e.pure (ev e))) : PO X (some x) (tO G e.pure (prtOf e (ev e))) :=
  po_imp (po_some h) fun σ H Q ⟨env, F, fs, g, q⟩ => by
    have eq : prtOf e (ev e) env = (ev e env).bind fun (x, env) => (asI x.2).bind fun i => .ok (some i, env) := by
      cases e <;> first | rfl | exact absurd rfl hn
    rw [eq] at q
    refine ⟨env, F, fs, g, q.bind (p2 := true) (fun z => ⟨z, rfl⟩) fun x env1 F1 H1 fs1 _ g1 s1 t1 q1 v rv => ?_⟩
    obtain ⟨k, d⟩ := x
    cases d <;> try exact q1.elim
    exact ⟨_, RW.int rv, q1.done g1⟩
theorem tO_nil : PO X none (tO G E.nil.pure (prtOf .nil (ev .nil))) := po_imp po_none fun σ H Q ⟨env, F, fs, g, q⟩ => q.done g
theorem dSlc_fx (x : Wk) (lo hi : Option Int) (c : Nat) (d : D) : dSlc x lo hi ≠ .exn c d := by
  intro h
  obtain ⟨k, x⟩ := x
  unfold dSlc at h
  split at h <;> (try cases h) <;> (split at h <;> cases h)
theorem n_slc (hK : X.K = G.M.K) {a lo hi : E} {x : Expr} {l h : Option Expr} {p2 pos : Pos} (ha : PE X x (tE G a.pure (ev a))) (hl : PO X l (tO G lo.pure (prtOf lo (ev lo)))) (hh : PO X h (tO G hi.pure (prtOf hi (ev hi)))) :
    PE X (.Subscript x (.Slice l h none p2) pos) (tN G (E.slc a lo hi).pure (ev (.slc a lo hi))) :=
  pe_imp (pe_slice (sl_slc hK) ha hl hh) fun σ H Q ⟨env, F, fs, g, q⟩ => by
    refine ⟨env, F, fs, g, q.bind (p2 := lo.pure && hi.pure) (fun z => by simpa [E.pure, Bool.and_assoc] using z) fun x env1 F1 H1 fs1 _ g1 s1 t1 q1 v rv => ?_⟩
    obtain ⟨hc, q1⟩ := ite_inv q1
    refine ⟨env1, F1, fs1, g1, q1.bind (p2 := hi.pure) (fun z => Bool.and_eq_true_iff.mp z) fun i env2 F2 H2 fs2 _ g2 s2 t2 q2 => ?_⟩
    refine ⟨env2, F2, fs2, g2, q2.bind (p2 := true) (fun z => ⟨z, rfl⟩) fun j env3 F3 H3 fs3 _ g3 s3 t3 q3 => ?_⟩
    have rv3 : RW G.M F3 H3 x.1 x.2 v := by
      rcases hc with hc | hc
      · rw [hc] at rv ⊢; exact Rep.mono (s2.trans s3).ff rv
      · have hc := Bool.and_eq_true_iff.mp hc
        exact rv.mono (s2.trans s3).ff ((t2 hc.1).trans (t3 hc.2))
    dsimp only at q3
    cases e2 : dSlc x i j with
    | stuck => rw [e2] at q3; exact q3.elim
    | exn c d => exact absurd e2 (dSlc_fx x i j c d)
    | ok d =>
      rw [e2] at q3
      exact ⟨F3, x.1, x.2, d, g3.fh, rv3, e2, q3.done g3 rfl⟩

/-! ### calls -/
/-- what is owned apart stands still from now on -/
theorem frz_state {M : Mo} {F H : Hp} {io : List (Nat × V)} {env : Env} {σ : St} {fs : Ft} {k : Nat} {d : D} {v : V} {f : List Addr} (g : GS M F H io env σ fs) (ap : Apart fs f) (o : Own M F H k d v f) (fn : ∀ b ∈ f, F b = none) :
    GS M (frz F H f) H io env σ fs ∧ Step F H (atW fs f) (frz F H f) H fs.at ∧ Rep M (frz F H f) d v := by
  refine ⟨g.keep (frz_same g.fh) (fun _ _ _ => rfl) (frz_sub g.fh) fun i b hb => ?_, ⟨frz_same g.fh, fun _ _ e _ => e, fun b hb => ?_, fun b hb => .inl (.inl hb)⟩, o.freeze (frz_same g.fh) fun b hb => frz_in hb⟩
  · rw [frz_out (ap i b hb)]; exact g.fn i b hb
  · by_cases z : b ∈ f
    · exact .inr (.inr (.inr z))
    · rw [frz_out z] at hb; exact .inl hb
def FnF (CXv : CXT) (X : Cx) (M : Mo) (lv : Nat) (f : FnD) (fa : Addr) : Prop := ∃ k fd ps, FnOk X.prog X.w X.K X.mg X.base CXv k fa fd ps (Spec M f) ∧ k + 2 ≤ lv ∧ Binds X.K fd ps []
/-- from what is wanted of a call's value to the callee's promise -/
theorem call_of {f : FnD} {ars : List Ar} {vs : List V} {Q : VK} {env : Env} {fs : Ft} (g : GS G.M F H G.io env σ fs) (ha : ArR G.M F H σ ars vs) (hp : p = true → f.ms.all (· == 0) = true)
    (q : Pst G p σ F H fs ((callD f ars env).bind fun (d, env) => .ok ((0, d), env)) fun x _ F' H' _ => ∀ v, RW G.M F' H' x.1 x.2 v → Q v H') : Spec G.M f vs H Q G.E := by
  refine call_spec (r0 := .stuck) (k := fun _ _ _ _ _ => True) (p := true) g ha ?_
  cases e : callD f ars env with
  | stuck => rw [e] at q; exact q
  | exn c d => rw [e] at q; exact q
  | ok ro =>
    obtain ⟨r, env'⟩ := ro
    rw [e] at q
    intro F' H' fs' v fr g' st t own nd ap fn
    obtain ⟨g2, s2, r2⟩ := frz_state g' ap own fn
    exact q _ _ fs' g2 (st.trans s2) (fun z => t (hp z)) v r2
theorem callL_of {f : FnD} {ars : List Ar} {vs : List V} {Q : VK} {env : Env} {fs : Ft} (g : GS G.M F H G.io env σ fs) (ha : ArR G.M F H σ ars vs) (hp : p = true → f.ms.all (· == 0) = true) (h1 : f.rk = 1)
    (q : match (callD f ars env).bind (fun (d, env) => Res.ok (((0 : Nat), d), env)) with
      | .ok (x, env') => ∃ ds, x = (0, D.lst ds) ∧ ∀ F' H' fs' v f, GS G.M F' H' G.io env' σ fs' → Step F H fs.at F' H' (atW fs' f) → (p = true → Same H H') → Own G.M F' H' 1 (.lst ds) v f → f.Nodup → Apart fs' f → (∀ b ∈ f, F' b = none) → Q v H'
      | .exn c d => XP G.M G.E c d F H fs.at
      | .stuck => False) : Spec G.M f vs H Q G.E := by
  refine call_spec (r0 := .stuck) (k := fun _ _ _ _ _ => True) (p := true) g ha ?_
  cases e : callD f ars env with
  | stuck => rw [e] at q; exact q
  | exn c d => rw [e] at q; exact q
  | ok ro =>
    obtain ⟨r, env'⟩ := ro
    rw [e] at q
    obtain ⟨ds, er, q⟩ := q
    intro F' H' fs' v fr g' st t own nd ap fn
    rw [h1] at own
    cases er
    exact q F' H' fs' v fr g' st (fun z => t (hp z)) own nd ap fn
theorem s_app {CXv : CXT} {lv : Nat} {f : FnD} {fa : Addr} (D : FnF CXv X G.M lv f fa) (hm : X.mg f.name = some (.ref fa)) (hk : PySem.W.keepIn X.K (.ref fa) = true) (hr : Room lv X.A) (hx : Passes CXv X G.E) (hg : Gl X f.name) (hd : (f.name == ("__debug__" : Str)) = false)
    {es : E} {x : Expr} {xs : List Expr} {pp pos : Pos} (hs : (x :: xs).all (fun e => !isStar e) = true) (hb : PA X (x :: xs) (tA G es.pure (evs es))) :
    PE X (.Call (.Name f.name pp) (x :: xs) [] pos) (tE G (E.app f es).pure (ev (.app f es))) := by
  obtain ⟨k, fd, ps, F1, hk1, hb1⟩ := D
  have hs := Bool.and_eq_true_iff.mp (show ((!isStar x) && xs.all fun e => !isStar e) = true from hs)
  refine pe_imp (pe_call F1 (hr.mono (by omega)) hg hm hk hb1 .nil hx hb hd (star_cons (by simpa using hs.1)) (star_none hs.2)) fun σ H Q ⟨env, F, fs, g, q⟩ => ?_
  refine ⟨env, F, fs, g, q.bind (p2 := f.ms.all (· == 0)) (fun z => (Bool.and_eq_true_iff.mp z).symm) fun ars env1 F1 H1 fs1 _ g1 s1 t1 q1 vs rv => ?_⟩
  show Spec G.M f (vs ++ []) H1 Q G.E
  rw [List.append_nil]
  exact call_of g1 rv (fun z => z) q1
theorem l_app {CXv : CXT} {lv : Nat} {f : FnD} {fa : Addr} (D : FnF CXv X G.M lv f fa) (h1 : f.rk = 1) (hm : X.mg f.name = some (.ref fa)) (hk : PySem.W.keepIn X.K (.ref fa) = true) (hr : Room lv X.A) (hx : Passes CXv X G.E) (hg : Gl X f.name) (hd : (f.name == ("__debug__" : Str)) = false)
    {es : E} {x : Expr} {xs : List Expr} {pp pos : Pos} (hs : (x :: xs).all (fun e => !isStar e) = true) (hb : PA X (x :: xs) (tA G es.pure (evs es))) :
    PE X (.Call (.Name f.name pp) (x :: xs) [] pos) (tL G (E.app f es).pure (ev (.app f es))) := by
  obtain ⟨k, fd, ps, F1, hk1, hb1⟩ := D
  have hs := Bool.and_eq_true_iff.mp (show ((!isStar x) && xs.all fun e => !isStar e) = true from hs)
  refine pe_imp (pe_call F1 (hr.mono (by omega)) hg hm hk hb1 .nil hx hb hd (star_cons (by simpa using hs.1)) (star_none hs.2)) fun σ H Q ⟨env, F, fs, g, q⟩ => ?_
  have e0 : ev (.app f es) env = (evs es env).bind fun (ars, env) => (callD f ars env).bind fun (d, env) => .ok ((0, d), env) := rfl
  rw [e0] at q
  refine ⟨env, F, fs, g, ?_⟩
  cases e : evs es env with
  | stuck => rw [e] at q; exact q
  | exn c d => rw [e] at q; exact q
  | ok ro =>
    obtain ⟨ars, env1⟩ := ro
    rw [e] at q
    intro F1 H1 fs1 g1 s1 t1 vs rv
    show Spec G.M f (vs ++ []) H1 Q G.E
    rw [List.append_nil]
    refine callL_of (p := f.ms.all (· == 0)) g1 rv (fun z => z) h1 ?_
    have q : (match (callD f ars env1).bind (fun (d, env) => Res.ok (((0 : Nat), d), env)) with
      | .ok (x, env') => ∃ ds, x = (0, D.lst ds) ∧ ∀ F' H' fs' v f', GS G.M F' H' G.io env' σ fs' → Step F H fs.at F' H' (atW fs' f') → ((E.app f es).pure = true → Same H H') → Own G.M F' H' 1 (.lst ds) v f' → f'.Nodup → Apart fs' f' → (∀ b ∈ f', F' b = none) → Q v H'
      | .exn c d => XP G.M G.E c d F H fs.at
      | .stuck => False) := q
    cases e2 : (callD f ars env1).bind (fun (d, env) => Res.ok (((0 : Nat), d), env)) with
    | stuck => rw [e2] at q; exact q
    | exn c d => rw [e2] at q; exact q.step s1
    | ok ro =>
      obtain ⟨x, env'⟩ := ro
      rw [e2] at q
      obtain ⟨ds, ex, q⟩ := q
      refine ⟨ds, ex, fun F' H' fs' v f' g' st t => q F' H' fs' v f' g' (s1.trans st) fun z => ?_⟩
      have z := Bool.and_eq_true_iff.mp z
      exact (t1 z.2).trans (t z.1)
/-! ### instances -/
theorem isObj_inv {c : Nat} {d : D} (h : isObj c d = true) : ∃ fl ds, d = .nd (.obj c fl) ds := by
  cases d with
  | nd k ds =>
    cases k with
    | obj c' fl =>
      have e : c = c' := by simpa [isObj] using h
      subst e
      exact ⟨fl, ds, rfl⟩
    | _ => simp [isObj] at h
  | _ => simp [isObj] at h
theorem obj_there' {M : Mo} {F H : Hp} {k c : Nat} {fl : List Str} {ds : List D} {v : V} (hs : Same F H) (h : RW M F H k (.nd (.obj c fl) ds) v) :
    ∃ a C dx fs, v = .ref a ∧ M.cl c = some C ∧ H a = some (.ins C dx fs) ∧ fs.map (·.1) = fl ∧ Fa2 (RW M F H (k - 1)) ds (fs.map (·.2)) := by
  obtain ⟨a, vs, e, ⟨C, dx, fs, h1, h2, h3, h4⟩, q⟩ := h.node hs
  subst h4
  exact ⟨a, C, dx, fs, e, h1, h2, h3, q⟩
theorem lookup_zip {P : D → V → Prop} {f : Str} : ∀ {fs : List (Str × V)} {ds : List D} {d : D}, Fa2 P ds (fs.map (·.2)) → ((fs.map (·.1)).zip ds).lookup f = some d → ∃ v, fs.lookup f = some v ∧ P d v
  | [], ds, d, _, h => by simp at h
  | (g, w) :: fs, [], d, h, e => by simp at e
  | (g, w) :: fs, d' :: ds, d, h, e => by
    obtain ⟨v, vs', e1, a, b⟩ := h
    simp at e1
    obtain ⟨rfl, rfl⟩ := e1
    rw [List.map_cons, List.zip_cons_cons, List.lookup_cons] at e
    rw [List.lookup_cons]
    by_cases z : (f == g) = true
    · simp only [z] at e ⊢
      cases e
      exact ⟨w, rfl, a⟩
    · simp only [Bool.not_eq_true] at z
      simp only [z] at e ⊢
      exact lookup_zip b e
def FdF (X : Cx) (M : Mo) (c : Nat) (f : Str) : Prop := ∃ C, M.cl c = some C ∧ Cls X.K C ∧ NoAttr X.K C f
theorem s_fld {c : Nat} {f : Str} (D : FdF X G.M c f) {a : E} {x : Expr} {pos : Pos} (hab : attributeBase x f X.env (eval x X.env) = eval x X.env) (ha : PE X x (tE G a.pure (ev a))) : PE X (.Attribute x f pos) (tE G (E.fld c f a).pure (ev (.fld c f a))) :=
  pe_imp (pe_fld ha hab) fun σ H Q ⟨env, F, fs, g, q⟩ => by
    obtain ⟨C, d1, d2, d3⟩ := D
    refine ⟨env, F, fs, g, q.bind (p2 := true) (fun z => ⟨z, rfl⟩) fun x env1 F1 H1 fs1 _ g1 s1 t1 q1 v rv => ?_⟩
    obtain ⟨k, d⟩ := x
    have q2 : Pst G true σ F1 H1 fs1 ((fieldOf c f (k, d)).bind fun w => .ok (w, env1)) _ := q1
    have key : ∃ fl ds d', d = .nd (.obj c fl) ds ∧ (fl.zip ds).lookup f = some d' ∧ fieldOf c f (k, d) = .ok (k - 1, d') := by
      cases e : fieldOf c f (k, d) with
      | stuck => rw [e] at q2; exact q2.elim
      | exn c' d' =>
        unfold fieldOf at e
        split at e
        · split at e
          · split at e <;> cases e
          · cases e
        · cases e
      | ok w =>
        have e0 := e
        unfold fieldOf at e
        split at e
        · rename_i k' c' fl ds hd
          cases hd
          split at e
          · rename_i hc
            subst hc
            split at e
            · rename_i d' hl
              cases e
              exact ⟨fl, ds, d', rfl, hl, rfl⟩
            · cases e
          · cases e
        · cases e
    obtain ⟨fl, ds, d', rfl, e, e2⟩ := key
    rw [e2] at q2
    obtain ⟨a, C', dx, fs', rfl, h1, h2, rfl, h4⟩ := obj_there' g1.fh rv
    rw [d1] at h1; cases h1
    obtain ⟨w, l, rw⟩ := lookup_zip h4 e
    exact ⟨a, C, dx, fs', w, rfl, h2, d2, d3, l, q2.done g1 w rw⟩
theorem form_ok {env : PySem.Env} {pos : Pos} {es : List Expr} (hs : es.all (fun e => !isStar e) = true) (hl : es.length < 30) : methodCallForm es.length (backTo pos (starEach es env)) [] = true := by
  have key : ∀ es : List Expr, es.all (fun e => !isStar e) = true → (backTo pos (starEach es env)).all (fun x => !x.1) = true := by
    intro es
    induction es with
    | nil => intro _; rfl
    | cons e es ih =>
      intro h
      have h := Bool.and_eq_true_iff.mp (show ((!isStar e) && es.all fun e => !isStar e) = true from h)
      rw [star_cons (by simpa using h.1)]
      show (true && (backTo pos (starEach es env)).all (fun x => !x.1)) = true
      rw [ih h.2]; rfl
  unfold methodCallForm
  rw [key es hs]
  simp [hl]
def noCall : Expr → Bool
  | .Call _ [] [] _ => false
  | _ => true
theorem ab_ok {o : Expr} (h : noCall o = true) (m : Str) (env : PySem.Env) : attributeBase o m env (eval o env) = eval o env := by
  cases o with
  | Call f as ks p =>
    cases as with
    | cons a as => cases f <;> rfl
    | nil =>
      cases ks with
      | cons k ks => cases f <;> rfl
      | nil => simp [noCall] at h
  | _ => rfl
theorem meth_ht (o : Expr) (m : Str) (apos pos : Pos) (es : List Expr) (env : PySem.Env) (hs : es.all (fun e => !isStar e) = true) (hl : es.length < 30) (hp : (apos.endLine == pos.line) = true) (hab : attributeBase o m env (eval o env) = eval o env) : eval (.Call (.Attribute o m apos) es [] pos) env = (do
      let ov ← eval o env
      standAt apos.atName
      let (f, first) ← holding [ov] (getMethod ov m (do return (← importBound o env).getD true))
      callWith pos f first (backTo pos (starEach es env)) (backToKw pos (keywordEach [] env))) := by
  have e1 : eval (.Call (.Attribute o m apos) es [] pos) env = (do
      let ov ← attributeBase o m env (eval o env)
      standAt apos.atName
      methodCall o m apos pos env ov (es.length + ([] : List Keyword).length) (backTo pos (starEach es env)) (backToKw pos (keywordEach [] env))) := by
    first | rfl | skip
  rw [e1, hab]
  unfold methodCall calleeOf methodCallPos
  have hf : methodCallForm (es.length + ([] : List Keyword).length) (backTo pos (starEach es env)) (backToKw pos (keywordEach [] env)) = true := form_ok hs hl
  rw [hf, hp]
  rfl

theorem Fa2.one {P : D → V → Prop} {d : D} {v : V} (h : P d v) : Fa2 P [d] [v] := ⟨v, [], rfl, h, rfl⟩
/-- a call's frame about a method: the receiver stands still -/
theorem ev_obj {c : Nat} {x : Wk} {v : V} {M : Mo} (hs : Same F H) (h : isObj c x.2 = true ∧ x.1 = 0) (rv : RW M F H x.1 x.2 v) : ∃ a C dx fs, v = .ref a ∧ M.cl c = some C ∧ H a = some (.ins C dx fs) ∧ (∃ fl ds, x.2 = .nd (.obj c fl) ds ∧ fs.map (·.1) = fl) ∧ Rep M F x.2 v := by
  obtain ⟨k, d⟩ := x
  obtain ⟨h1, h2⟩ := h
  obtain ⟨fl, ds, rfl⟩ := isObj_inv h1
  have h2 : k = 0 := h2
  subst h2
  obtain ⟨a, C, dx, fs, e1, e2, e3, e4, _⟩ := obj_there' hs rv
  exact ⟨a, C, dx, fs, e1, e2, e3, ⟨fl, ds, rfl, e4⟩, rv⟩
/-- what an instance's class says: its fields are not its methods' names -/
structure MtF (CXv : CXT) (X : Cx) (M : Mo) (lv : Nat) (c : Nat) (f : FnD) : Prop where
  ex : ∃ C fa, M.cl c = some C ∧ Cls X.K C ∧ Meth X.K C f.name fa ∧ FnF CXv X M lv f fa
theorem lookup_none {m : Str} : ∀ {fs : List (Str × V)}, (fs.map (·.1)).contains m = false → fs.lookup m = none
  | [], _ => rfl
  | (g, w) :: fs, h => by
    simp only [List.map_cons, List.contains_cons, Bool.or_eq_false_iff] at h
    rw [List.lookup_cons, h.1]
    exact lookup_none h.2
theorem s_mth {CXv : CXT} {lv c : Nat} {f : FnD} (D : MtF CXv X G.M lv c f) (hr : Room lv X.A) (hx : Passes CXv X G.E) {o es : E} {y x : Expr} {xs : List Expr} {apos pos : Pos} (hy : noCall y = true) (hs : (x :: xs).all (fun e => !isStar e) = true) (hl : (x :: xs).length < 30) (hp : (apos.endLine == pos.line) = true)
    (ho : PE X y (tE G o.pure (ev o))) (hb : PA X (x :: xs) (tA G es.pure (evs es))) : PE X (.Call (.Attribute y f.name apos) (x :: xs) [] pos) (tE G (E.mth c f o es).pure (ev (.mth c f o es))) := by
  obtain ⟨C, fa, d1, d2, d3, k, fd, ps, F1, hk1, hb1⟩ := D.ex
  have hs2 := Bool.and_eq_true_iff.mp (show ((!isStar x) && xs.all fun e => !isStar e) = true from hs)
  refine pe_imp (pe_meth (pl := do return (← importBound y X.env).getD true) ho d2 d3 F1 (hr.mono (by omega)) hb1 .nil hx hb (star_cons (by simpa using hs2.1)) (star_none hs2.2) (meth_ht y f.name apos pos (x :: xs) X.env hs hl hp (ab_ok hy _ _))) fun σ H Q ⟨env, F, fs, g, q⟩ => ?_
  refine ⟨env, F, fs, g, q.bind (p2 := f.ms.all (· == 0) && es.pure) (fun z => by simp only [E.pure, Bool.and_eq_true] at z ⊢; exact ⟨z.1.2, z.1.1, z.2⟩) fun x env1 F1 H1 fs1 _ g1 s1 t1 q1 v rv => ?_⟩
  obtain ⟨⟨hc, hn⟩, q1⟩ := ite_inv q1
  obtain ⟨a, C', dx, fs', rfl, h1, h2, ⟨fl, ds, hx1, hx2⟩, rv⟩ := ev_obj g1.fh hc rv
  rw [d1] at h1; cases h1
  refine ⟨a, dx, fs', rfl, h2, ?_, ?_⟩
  · rw [hx1] at hn
    refine lookup_none ?_
    rw [hx2]
    simpa [notFl] using hn
  · refine ⟨env1, F1, fs1, g1, q1.bind (p2 := f.ms.all (· == 0)) (fun z => by simp only [Bool.and_eq_true] at z; exact ⟨z.2, z.1⟩) fun ars env2 F2 H2 fs2 _ g2 s2 t2 q2 vs rw => ?_⟩
    show Spec G.M f (.ref a :: (vs ++ [])) H2 Q G.E
    rw [List.append_nil]
    refine call_of g2 (ars := .d x.1 x.2 :: ars) ⟨.ref a, vs, rfl, ?_, rw⟩ (fun z => z) q2
    rw [hc.2]; exact Rep.mono s2.ff rv

theorem s_mth0 {CXv : CXT} {lv c : Nat} {f : FnD} (D : MtF CXv X G.M lv c f) (hr : Room lv X.A) (hx : Passes CXv X G.E) {o : E} {y : Expr} {apos pos : Pos} (hy : noCall y = true) (hp : (apos.endLine == pos.line) = true)
    (ho : PE X y (tE G o.pure (ev o))) : PE X (.Call (.Attribute y f.name apos) [] [] pos) (tE G (E.mth c f o .nil).pure (ev (.mth c f o .nil))) := by
  obtain ⟨C, fa, d1, d2, d3, k, fd, ps, F1, hk1, hb1⟩ := D.ex
  refine pe_imp (pe_meth0 (pl := do return (← importBound y X.env).getD true) ho d2 d3 F1 (hr.mono (by omega)) hb1 .nil hx (meth_ht y f.name apos pos [] X.env rfl (by simp) hp (ab_ok hy _ _))) fun σ H Q ⟨env, F, fs, g, q⟩ => ?_
  refine ⟨env, F, fs, g, q.bind (p2 := f.ms.all (· == 0) && true) (fun z => by simp only [E.pure, Bool.and_eq_true] at z ⊢; exact ⟨z.1.2, z.1.1, trivial⟩) fun x env1 F1 H1 fs1 _ g1 s1 t1 q1 v rv => ?_⟩
  obtain ⟨⟨hc, hn⟩, q1⟩ := ite_inv q1
  obtain ⟨a, C', dx, fs', rfl, h1, h2, ⟨fl, ds, hx1, hx2⟩, rv⟩ := ev_obj g1.fh hc rv
  rw [d1] at h1; cases h1
  refine ⟨a, dx, fs', rfl, h2, ?_, ?_⟩
  · rw [hx1] at hn
    refine lookup_none ?_
    rw [hx2]
    simpa [notFl] using hn
  · show Spec G.M f [.ref a] H1 Q G.E
    refine call_of (p := f.ms.all (· == 0) && true) g1 (ars := [.d x.1 x.2]) ⟨.ref a, [], rfl, ?_, rfl⟩ (fun z => (Bool.and_eq_true_iff.mp z).1) q1
    rw [hc.2]; exact rv
structure PrF (CXv : CXT) (X : Cx) (M : Mo) (lv : Nat) (c : Nat) (f : FnD) : Prop where
  ex : ∃ C pp fa, M.cl c = some C ∧ Cls X.K C ∧ PropOf X.K C f.name pp fa ∧ FnF CXv X M lv f fa
theorem s_prp {CXv : CXT} {lv c : Nat} {f : FnD} (D : PrF CXv X G.M lv c f) (hr : Room lv X.A) (p0 : ∀ X', Passes CXv X' E0) {o : E} {y : Expr} {pos : Pos} (hy : noCall y = true)
    (ho : PE X y (tE G o.pure (ev o))) : PE X (.Attribute y f.name pos) (tE G (E.prp c f o).pure (ev (.prp c f o))) := by
  obtain ⟨C, pp, fa, d1, d2, d3, k, fd, ps, F1, hk1, hb1⟩ := D.ex
  refine pe_imp (pe_prop ho d2 d3 F1 (hr.mono (by omega)) hb1 .nil (p0 _) (ab_ok hy _ _)) fun σ H Q ⟨env, F, fs, g, q⟩ => ?_
  refine ⟨env, F, fs, g, q.bind (p2 := f.ms.all (· == 0)) (fun z => (Bool.and_eq_true_iff.mp z).symm) fun x env1 F1 H1 fs1 _ g1 s1 t1 q1 v rv => ?_⟩
  obtain ⟨hc, q1⟩ := ite_inv q1
  obtain ⟨a, C', dx, fs', rfl, h1, h2, ⟨fl, ds, hx1, hx2⟩, rv⟩ := ev_obj g1.fh hc rv
  rw [d1] at h1; cases h1
  refine ⟨a, dx, fs', rfl, h2, ?_⟩
  show Spec G.M f [.ref a] H1 Q E0
  refine call_spec (G := { G with E := E0 }) (r0 := .stuck) (k := fun _ _ _ _ _ => True) (p := true) (ars := [.d x.1 x.2]) g1 ⟨.ref a, [], rfl, by rw [hc.2]; exact rv, rfl⟩ ?_
  cases e : callD f [.d x.1 x.2] env1 with
  | stuck => rw [e] at q1; exact q1
  | exn c d => rw [e] at q1; exact q1.elim
  | ok ro =>
    obtain ⟨r, env'⟩ := ro
    rw [e] at q1
    intro F' H' fs' v fr g' st t own nd ap fn
    obtain ⟨g2, s2, r2⟩ := frz_state g' ap own fn
    exact q1 _ _ fs' g2 (st.trans s2) (fun z => t z) v r2

theorem l_prp {CXv : CXT} {lv c : Nat} {f : FnD} (D : PrF CXv X G.M lv c f) (hk1 : f.rk = 1) (hr : Room lv X.A) (p0 : ∀ X', Passes CXv X' E0) {o : E} {y : Expr} {pos : Pos} (hy : noCall y = true)
    (ho : PE X y (tE G o.pure (ev o))) : PE X (.Attribute y f.name pos) (tL G (E.prp c f o).pure (ev (.prp c f o))) := by
  obtain ⟨C, pp, fa, d1, d2, d3, k, fd, ps, F1, hkk, hb1⟩ := D.ex
  refine pe_imp (pe_prop ho d2 d3 F1 (hr.mono (by omega)) hb1 .nil (p0 _) (ab_ok hy _ _)) fun σ H Q ⟨env, F, fs, g, q⟩ => ?_
  have e0 : ev (.prp c f o) env = (ev o env).bind fun (x, env) => if isObj c x.2 = true ∧ x.1 = 0 then (match callD f [.d x.1 x.2] env with | .ok (d, env) => .ok ((0, d), env) | _ => .stuck) else .stuck := rfl
  rw [e0] at q
  refine ⟨env, F, fs, g, ?_⟩
  cases e : ev o env with
  | stuck => rw [e] at q; exact q
  | exn c d => rw [e] at q; exact q
  | ok ro =>
    obtain ⟨x, env1⟩ := ro
    rw [e] at q
    intro F1 H1 fs1 g1 s1 t1 v rv
    by_cases hc : isObj c x.2 = true ∧ x.1 = 0
    · simp only [Res.bind_ok, if_pos hc] at q
      obtain ⟨a, C', dx, fs', rfl, h1, h2, ⟨fl, ds, hx1, hx2⟩, rv⟩ := ev_obj g1.fh hc rv
      rw [d1] at h1; cases h1
      refine ⟨a, dx, fs', rfl, h2, ?_⟩
      show Spec G.M f [.ref a] H1 Q E0
      refine call_spec (G := { G with E := E0 }) (r0 := .stuck) (k := fun _ _ _ _ _ => True) (p := true) (ars := [.d x.1 x.2]) g1 ⟨.ref a, [], rfl, by rw [hc.2]; exact rv, rfl⟩ ?_
      cases e2 : callD f [.d x.1 x.2] env1 with
      | stuck => rw [e2] at q; exact q.elim
      | exn c d => rw [e2] at q; exact q.elim
      | ok ro =>
        obtain ⟨r, env'⟩ := ro
        rw [e2] at q
        obtain ⟨es, er, q⟩ := q
        have er : r = .nd .lst es := congrArg Prod.snd er
        subst er
        intro F' H' fs' v fr g' st t own nd ap fn
        rw [hk1] at own
        exact q F' H' fs' v fr g' (s1.trans st) (fun z => (t1 (Bool.and_eq_true_iff.mp z).2).trans (t (Bool.and_eq_true_iff.mp z).1)) own nd ap fn
    · simp only [Res.bind_ok, if_neg hc] at q
/-! ### len, +, == of instances -/
theorem run_at {CXv : CXT} {k : Nat} {fa : Addr} {fd : FuncData} {ps : List Str} {sp : Sp} {A : Around} {pins : List (Addr × Obj)} {s : Shared} {Q : VK} {us : List Value} {vs : List V} {E : XK} (hA : A = X.A ∨ A = X.A.in1) (F1 : FnOk X.prog X.w X.K X.mg X.base CXv k fa fd ps sp) (hr : Room (k + 1) X.A)
    (hb : Binds X.K fd ps []) (hx : Passes CXv X E) (I : Inv X pins σ H s) (r : Vals vs us) (h : sp vs H Q E) : wpAny (model X.prog X.w) A (call (.ref fa) us) (EP X pins σ Q) X.xe s := by
  have hl : (us ++ []).length = ps.length := by rw [List.append_nil, ← r.length]; exact F1.len _ _ _ _ h
  have hbt := hb s us I.kIn hl
  rw [List.append_nil] at hbt
  have e0 : Env0 X.prog X.w X.K X.mg X.base A X.stack s H := by
    rcases hA with rfl | rfl
    · exact I.env0
    · exact I.env0.in1
  have rm : Room k A := by
    rcases hA with rfl | rfl
    · exact hr.mono (by omega)
    · exact hr.in1
  refine wpAny_call (codeAny_mono (F1.run A X.stack s H ⟨us, []⟩ us vs Q E rm e0 hbt r h) fun r s' hq => ?_)
  cases r with
  | error e => exact hx pins σ H s e s' I hq
  | ok fl =>
    cases fl with
    | ret u => exact I.after hq
    | next => exact False.elim hq
    | brk => exact False.elim hq
    | cont => exact False.elim hq
theorem spec_imp {M : Mo} {f : FnD} {vs : List V} {Q Q' : VK} {E : XK} (h : Spec M f vs H Q E) (i : ∀ v H, Q v H → Q' v H) : Spec M f vs H Q' E := by
  obtain ⟨ds, F, fo, a, b, c, d, e⟩ := h
  refine ⟨ds, F, fo, a, b, c, d, ?_⟩
  cases q : f.den ds with
  | stuck => rw [q] at e; exact e
  | exn c d => rw [q] at e; exact e
  | ok ro =>
    rw [q] at e
    exact fun v F' H' fo' fr x y z w u t => i _ _ (e v F' H' fo' fr x y z w u t)
structure LnF (CXv : CXT) (X : Cx) (M : Mo) (lv : Nat) (c : Nat) (f : FnD) : Prop where
  ex : ∃ C fa, M.cl c = some C ∧ PySem.W.findIn X.K (.ref C) "__len__" = some (some (.ref fa)) ∧ PySem.W.isFn X.K (.ref fa) = true ∧ FnF CXv X M lv f fa
theorem s_lno {CXv : CXT} {lv c : Nat} {f : FnD} (D : LnF CXv X G.M lv c f) (hr : Room lv X.A) (hx : Passes CXv X G.E) (hg : Gl X "len") (hm : X.mg "len" = none) {o : E} {y : Expr} {pp pos : Pos} (hy : isStar y = false)
    (ho : PE X y (tE G o.pure (ev o))) : PE X (.Call (.Name "len" pp) [y] [] pos) (tE G (E.lno c f o).pure (ev (.lno c f o))) := by
  obtain ⟨C, fa, d1, d2, d3, k, fd, ps, F1, hk1, hb1⟩ := D.ex
  have cr : CallR X (.builtin "len") (fun xs H Q => ∃ a dx fs, xs = [.ref a] ∧ H a = some (.ins C dx fs) ∧ Spec G.M f [.ref a] H (fun v H' => ∃ n, v = .int n ∧ (0 ≤ n ∧ n < 2 ^ 63) ∧ Q (.int n) H') G.E) := by
    intro pins s σ H xs us Q I rv h
    obtain ⟨a, dx, fs, rfl, ea, q⟩ := h
    have e := Vals.ref1 rv
    subst e
    obtain ⟨mA, O, _, _, _, _⟩ := ins_get I.hok ea
    obtain ⟨od, J, _⟩ := O.look
    obtain ⟨m, hF⟩ := I.fr
    refine PySem.W.len_K hF I.ok.mod.kin J d2 d3 (wpAny_mono (run_at (.inr rfl) F1 (hr.mono (by omega)) hb1 hx I rv q) (fun u s' hq => ?_) fun _ _ e => e)
    obtain ⟨v, H', I', rv', n, rfl, hn, q'⟩ := hq
    obtain ⟨t, rfl⟩ := rv'
    exact ⟨hn, .int n, H', I'.tok _, ⟨_, rfl⟩, q'⟩
  refine pe_imp (pe_callB cr hg hm (boot_b .len) (pa_cons ho pa_nil (star_cons hy)) (by decide) (by decide) (star_cons hy) rfl) fun σ H Q ⟨env, F, fs, g, q⟩ => ?_
  refine ⟨env, F, fs, g, q.bind (p2 := f.ms.all (· == 0)) (fun z => (Bool.and_eq_true_iff.mp z).symm) fun x env1 F1 H1 fs1 _ g1 s1 t1 q1 v rv => ?_⟩
  obtain ⟨hc, q1⟩ := ite_inv q1
  obtain ⟨a, C', dx, fs', rfl, h1, h2, ⟨fl, ds, hx1, hx2⟩, rv⟩ := ev_obj g1.fh hc rv
  rw [d1] at h1; cases h1
  refine ⟨a, dx, fs', rfl, h2, call_spec (r0 := .stuck) (k := fun _ _ _ _ _ => True) (p := true) (ars := [.d x.1 x.2]) g1 ⟨.ref a, [], rfl, by rw [hc.2]; exact rv, rfl⟩ ?_⟩
  cases e : callD f [.d x.1 x.2] env1 with
  | stuck => rw [e] at q1; exact q1
  | exn c d => rw [e] at q1; exact q1
  | ok ro =>
    obtain ⟨r, env'⟩ := ro
    rw [e] at q1
    intro F' H' fs' v fr g' st t own nd ap fn
    obtain ⟨g2, s2, r2⟩ := frz_state g' ap own fn
    cases r with
    | int n =>
      obtain ⟨hn, q1⟩ := ite_inv (r := Res.ok (((0 : Nat), DL.D.int n), env')) q1
      exact ⟨n, by simpa [Rep] using r2, hn, q1 _ _ fs' g2 (st.trans s2) (fun z => t z) _ Rep.int⟩
    | _ => exact q1.elim
structure AdF (CXv : CXT) (X : Cx) (M : Mo) (lv : Nat) (c : Nat) (f : FnD) : Prop where
  ex : ∃ C fa, M.cl c = some C ∧ PySem.W.selfFirst X.K C = true ∧ PySem.W.findIn X.K (.ref C) (PySem.dunder Operator.Add.info.2) = some (some (.ref fa)) ∧ PySem.W.isFn X.K (.ref fa) = true ∧ FnF CXv X M lv f fa
/-- the built-in types that data have -/
def bTys : List String := ["NoneType", "bool", "int", "str", "list", "tuple"]
/-- what isinstance asks of an own class, with both answers -/
structure IsC (K : PySem.W.Frag) (C : Addr) : Prop where
  me : C8.InsC K C
  no : ∀ T ∈ bTys, PySem.W.kitOne K (.type T) (.ref C) = some false
theorem IsC.sub {K : PySem.W.Frag} {C : Addr} (c : IsC K C) {T : String} (h : T ∈ bTys) : PySem.W.subIn K (.type T) (.ref C) = some false := by
  have e := c.no T h
  unfold PySem.W.kitOne at e
  split at e
  · cases e
  · unfold PySem.W.kitCls at e
    simp only at e
    split at e
    · exact e
    · cases e
/-- a datum's type: an instance of c, or a built-in one -/
def TyD (M : Mo) (H : Hp) (c : Nat) (C : Addr) (v : V) : Prop := (∃ a dx fs, v = .ref a ∧ H a = some (.ins C dx fs)) ∨ ∃ T ∈ bTys, TyX M.K H v (.type T)
theorem tyD_of {M : Mo} {c k : Nat} {C : Addr} {d : D} {v : V} {b : Bool} (hs : Same F H) (hC : M.cl c = some C) (e : isiD c d = some b) (r : RW M F H k d v) : (b = true ∧ ∃ a dx fs, v = .ref a ∧ H a = some (.ins C dx fs)) ∨ (b = false ∧ ∃ T ∈ bTys, TyX M.K H v (.type T)) := by
  cases d with
  | non =>
    cases e
    rw [r.non]
    exact .inr ⟨rfl, "NoneType", by simp [bTys], .base .non⟩
  | bl x =>
    cases e
    rw [r.bl]
    exact .inr ⟨rfl, "bool", by simp [bTys], .base (.bl _)⟩
  | int x =>
    cases e
    rw [r.int]
    exact .inr ⟨rfl, "int", by simp [bTys], .base (.int _)⟩
  | str x =>
    cases e
    rw [r.str]
    exact .inr ⟨rfl, "str", by simp [bTys], .base (.str _)⟩
  | nd kd ds =>
    obtain ⟨a, vs, rfl, rd, _⟩ := r.node hs
    cases kd with
    | lst =>
      cases e
      exact .inr ⟨rfl, "list", by simp [bTys], .base (.lst rd)⟩
    | tup =>
      cases e
      exact .inr ⟨rfl, "tuple", by simp [bTys], .base (.tup rd)⟩
    | scr => cases e
    | dic _ => cases e
    | obj c' fl =>
      have e' : (if c = c' then some true else none) = some b := e
      by_cases hc : c = c'
      · rw [if_pos hc] at e'
        have e2 := Option.some.inj e'
        subst hc
        subst e2
        obtain ⟨C', dx, fs, h1, h2, _⟩ := rd
        rw [hC] at h1; cases h1
        exact .inl ⟨rfl, a, dx, fs, rfl, h2⟩
      · rw [if_neg hc] at e'
        cases e'
structure EqF (CXv : CXT) (X : Cx) (M : Mo) (lv : Nat) (c : Nat) (f : FnD) : Prop where
  ex : ∃ C fa, M.cl c = some C ∧ IsC X.K C ∧ PySem.W.findIn X.K (.ref C) "__eq__" = some (some (.ref fa)) ∧ PySem.W.isFn X.K (.ref fa) = true ∧ FnF CXv X M lv f fa
theorem cmp_back {Q : Value → Shared → Prop} {v : V} {u : Value} {s' : Shared} (r : RelV v u) (h : Q u s') : PySem.W.CmpBack Q u s' := by
  cases v with
  | non => cases r; exact h
  | bl b => cases r; exact h
  | int i => obtain ⟨t, rfl⟩ := r; exact h
  | str i => obtain ⟨t, rfl⟩ := r; exact h
  | byt i => obtain ⟨t, rfl⟩ := r; exact h
  | flt i => obtain ⟨t, rfl⟩ := r; exact h
  | ref a => cases r; exact h
  | ty n => cases r; exact h
theorem s_addo {CXv : CXT} {lv c : Nat} {f : FnD} (D : AdF CXv X G.M lv c f) (hr : Room lv X.A) (hx : Passes CXv X G.E) {a b : E} {x y : Expr} {pos : Pos}
    (ha : PE X x (tE G a.pure (ev a))) (hb : PE X y (tE G b.pure (ev b))) : PE X (.BinOp x .Add y pos) (tE G (E.addo c f a b).pure (ev (.addo c f a b))) := by
  obtain ⟨C, fa, d1, d2, d3, d4, k, fd, ps, F1, hk1, hb1⟩ := D.ex
  have cr : OpR X (binaryOp .Add) (fun x y H Q => ∃ a b dx fs dy fs', x = .ref a ∧ y = .ref b ∧ H a = some (.ins C dx fs) ∧ H b = some (.ins C dy fs') ∧ Spec G.M f [.ref a, .ref b] H Q G.E) := by
    intro pins s σ H x y v u Q I rx ry h
    obtain ⟨a, b, dx, fs, dy, fs', rfl, rfl, ea, eb, q⟩ := h
    cases rx
    cases ry
    obtain ⟨mA, O, _⟩ := ins_get I.hok ea
    obtain ⟨od, J, _⟩ := O.look
    obtain ⟨mB, O', _⟩ := ins_get I.hok eb
    obtain ⟨od', J', _⟩ := O'.look
    obtain ⟨m, hF⟩ := I.fr
    refine PySem.W.binop_K (op := .Add) hF I.ok.mod.kin J J'.type d2 d3 d4 (wpAny_mono (run_at (.inl rfl) F1 (hr.mono (by omega)) hb1 hx I (vs := [.ref a, .ref b]) (.cons rfl (.cons rfl .nil)) q) (fun u s' hq => ?_) fun _ _ e => e)
    obtain ⟨v, H', I', rv', q'⟩ := hq
    exact cmp_back rv' ⟨v, H', I', rv', q'⟩
  refine pe_imp (pe_op cr ha hb) fun σ H Q ⟨env, F, fs, g, q⟩ => ?_
  refine ⟨env, F, fs, g, q.bind (p2 := f.ms.all (· == 0) && b.pure) (fun z => by simp only [E.pure, Bool.and_eq_true] at z ⊢; exact ⟨z.1.2, z.1.1, z.2⟩) fun x env1 F1 H1 fs1 _ g1 s1 t1 q1 v rv => ?_⟩
  obtain ⟨hc, q1⟩ := ite_inv q1
  refine ⟨env1, F1, fs1, g1, q1.bind (p2 := f.ms.all (· == 0)) (fun z => by simp only [Bool.and_eq_true] at z; exact ⟨z.2, z.1⟩) fun y env2 F2 H2 fs2 _ g2 s2 t2 q2 w rw => ?_⟩
  obtain ⟨hc2, q2⟩ := ite_inv q2
  rw [hc.2] at rv
  have rv : RW G.M F2 H2 x.1 x.2 v := by rw [hc.2]; exact Rep.mono s2.ff rv
  obtain ⟨a, C', dx, fs', rfl, h1, h2, _, rv⟩ := ev_obj g2.fh hc rv
  rw [d1] at h1; cases h1
  obtain ⟨b, C', dy, fs'', rfl, h1, h3, _, rw⟩ := ev_obj g2.fh hc2 rw
  rw [d1] at h1; cases h1
  exact ⟨a, b, dx, fs', dy, fs'', rfl, rfl, h2, h3, call_of g2 (ars := [.d x.1 x.2, .d y.1 y.2]) ⟨.ref a, [.ref b], rfl, by rw [hc.2]; exact rv, .ref b, [], rfl, by rw [hc2.2]; exact rw, rfl⟩ (fun z => z) q2⟩
theorem op_eqo {CXv : CXT} {lv c : Nat} {f : FnD} (hK : X.K = G.M.K) (D : EqF CXv X G.M lv c f) (hr : Room lv X.A) (hx : Passes CXv X G.E) : OpR X (compareOp .Eq) (fun x y H Q => ∃ C a dx fs, G.M.cl c = some C ∧ x = .ref a ∧ H a = some (.ins C dx fs) ∧ TyD G.M H c C y ∧ Spec G.M f [.ref a, y] H Q G.E) := by
  obtain ⟨C, fa, d1, d0, d2, d3, k, fd, ps, F1, hk1, hb1⟩ := D.ex
  intro pins s σ H x y v u Q I rx ry h
  obtain ⟨C', a, dx, fs, e1, rfl, ea, ty, q⟩ := h
  rw [d1] at e1; cases e1
  cases rx
  obtain ⟨mA, O, _⟩ := ins_get I.hok ea
  obtain ⟨od, J, _⟩ := O.look
  obtain ⟨m, hF⟩ := I.fr
  have main : ∀ tb : Value, PySem.W.Looks (model X.prog X.w) s.heap (typeOf u) tb → PySem.W.notFirst X.K C tb = true → wpAny (model X.prog X.w) X.A (compareOp .Eq (.ref a) u) (fun u' s' => ∃ v H', Inv X pins σ H' s' ∧ RelV v u' ∧ Q v H') X.xe s := fun tb lk nf => by
    refine PySem.W.cmp_K (op := .Eq) (tb := tb) hr.units0 hF I.ok.mod.kin J lk nf d2 d3 (wpAny_mono (run_at (.inl rfl) F1 (hr.mono (by omega)) hb1 hx I (vs := [.ref a, y]) (.cons rfl (.cons ry .nil)) q) (fun u s' hq => ?_) fun _ _ e => e)
    obtain ⟨v, H', I', rv', q'⟩ := hq
    exact cmp_back rv' ⟨v, H', I', rv', q'⟩
  rcases ty with ⟨b, dy, fs', rfl, eb⟩ | ⟨T, hT, ty⟩
  · cases ry
    obtain ⟨mB, O', _⟩ := ins_get I.hok eb
    obtain ⟨od', J', _⟩ := O'.look
    exact main (.ref C) J'.type (by simp [PySem.W.notFirst])
  · rw [← hK] at ty
    obtain ⟨P, Z, p, _⟩ := kit_of I ry ty
    exact main (.type T) (Z.ty _ _ I.kIn p) (by simp [PySem.W.notFirst, d0.sub hT])
theorem eqo_of {CXv : CXT} {lv c : Nat} {f : FnD} (D : EqF CXv X G.M lv c f) {a b : E} {Q : VK} (h : tE G (E.eqo c f a b).pure (ev (.eqo c f a b)) σ H Q) :
    tOp (fun x y H Q => ∃ C a dx fs, G.M.cl c = some C ∧ x = .ref a ∧ H a = some (.ins C dx fs) ∧ TyD G.M H c C y ∧ Spec G.M f [.ref a, y] H Q G.E) (tE G a.pure (ev a)) (tE G b.pure (ev b)) σ H (fun v H' => ∃ k, v = .bl k ∧ Q v H') := by
  obtain ⟨C, fa, d1, _⟩ := D.ex
  obtain ⟨env, F, fs, g, q⟩ := h
  refine ⟨env, F, fs, g, q.bind (p2 := f.ms.all (· == 0) && b.pure) (fun z => by simp only [E.pure, Bool.and_eq_true] at z ⊢; exact ⟨z.1.2, z.1.1, z.2⟩) fun x env1 F1 H1 fs1 _ g1 s1 t1 q1 v rv => ?_⟩
  obtain ⟨hc, q1⟩ := ite_inv q1
  refine ⟨env1, F1, fs1, g1, q1.bind (p2 := f.ms.all (· == 0)) (fun z => by simp only [Bool.and_eq_true] at z; exact ⟨z.2, z.1⟩) fun y env2 F2 H2 fs2 _ g2 s2 t2 q2 w rw => ?_⟩
  obtain ⟨hc2, q2⟩ := ite_inv q2
  rw [hc.2] at rv
  have rv : RW G.M F2 H2 x.1 x.2 v := by rw [hc.2]; exact Rep.mono s2.ff rv
  obtain ⟨a, C', dx, fs', rfl, h1, h2, _, rv⟩ := ev_obj g2.fh hc rv
  rw [d1] at h1; cases h1
  obtain ⟨b, hb⟩ := Option.isSome_iff_exists.mp hc2.1
  have ty : TyD G.M H2 c C w := (tyD_of g2.fh d1 hb rw).imp (fun z => z.2) fun z => z.2
  have rw : Rep G.M F2 y.2 w := by
    have rw := rw
    rw [hc2.2] at rw
    exact rw
  refine ⟨C, a, dx, fs', d1, rfl, h2, ty, call_spec (r0 := .stuck) (k := fun _ _ _ _ _ => True) (p := true) (ars := [.d x.1 x.2, .d y.1 y.2]) g2 ⟨.ref a, [w], rfl, by rw [hc.2]; exact rv, w, [], rfl, by rw [hc2.2]; exact rw, rfl⟩ ?_⟩
  cases e : callD f [.d x.1 x.2, .d y.1 y.2] env2 with
  | stuck => rw [e] at q2; exact q2
  | exn c d => rw [e] at q2; exact q2
  | ok ro =>
    obtain ⟨r, env'⟩ := ro
    rw [e] at q2
    intro F' H' fs' v fr g' st t own nd ap fn
    obtain ⟨g2, s2, r2⟩ := frz_state g' ap own fn
    cases r with
    | bl n =>
      have ev : v = .bl n := by simpa [Rep] using r2
      subst ev
      exact ⟨n, rfl, q2 _ _ fs' g2 (st.trans s2) (fun z => t z) _ Rep.bl⟩
    | _ => exact q2.elim
theorem s_eqo {CXv : CXT} {lv c : Nat} {f : FnD} (hK : X.K = G.M.K) (D : EqF CXv X G.M lv c f) (hr : Room lv X.A) (hx : Passes CXv X G.E) {a b : E} {x y : Expr} {pos : Pos}
    (ha : PE X x (tE G a.pure (ev a))) (hb : PE X y (tE G b.pure (ev b))) : PE X (.Compare x [.Eq] [y] pos) (tE G (E.eqo c f a b).pure (ev (.eqo c f a b))) :=
  pe_imp (pe_cmpR (op_eqo hK D hr hx) ha hb (nomark y)) fun σ H Q h => by
    have q := eqo_of D h
    obtain ⟨env, F, fs, g, q⟩ := q
    refine ⟨env, F, fs, g, q.weak id fun x env1 F1 H1 fs1 _ g1 s1 t1 q1 v rv => ?_⟩
    obtain ⟨env, F, fs, g, q⟩ := q1 v rv
    refine ⟨env, F, fs, g, q.weak id fun x env1 F1 H1 fs1 _ g1 s1 t1 q1 v rv => ?_⟩
    obtain ⟨C, a, dx, fs', h1, h2, h3, h4, h6⟩ := q1 v rv
    exact ⟨C, a, dx, fs', h1, h2, h3, h4, spec_imp h6 fun v H ⟨k, _, q⟩ => q⟩
theorem s_eqoT {CXv : CXT} {lv c : Nat} {f : FnD} (hK : X.K = G.M.K) (D : EqF CXv X G.M lv c f) (hr : Room lv X.A) (hx : Passes CXv X G.E) {a b : E} {x y : Expr} {pos : Pos}
    (ha : PE X x (tE G a.pure (ev a))) (hb : PE X y (tE G b.pure (ev b))) : PT X (.Compare x [.Eq] [y] pos) (tT G (E.eqo c f a b).pure (evT (.eqo c f a b))) :=
  pt_imp (pt_cmpR (op_eqo hK D hr hx) ha hb (nomark y)) fun σ H Q h => by
    have q := eqo_of D (tT_of h)
    obtain ⟨env, F, fs, g, q⟩ := q
    refine ⟨env, F, fs, g, q.weak id fun x env1 F1 H1 fs1 _ g1 s1 t1 q1 v rv => ?_⟩
    obtain ⟨env, F, fs, g, q⟩ := q1 v rv
    refine ⟨env, F, fs, g, q.weak id fun x env1 F1 H1 fs1 _ g1 s1 t1 q1 v rv => ?_⟩
    obtain ⟨C, a, dx, fs', h1, h2, h3, h4, h6⟩ := q1 v rv
    exact ⟨C, a, dx, fs', h1, h2, h3, h4, spec_imp h6 fun v H ⟨k, _, q⟩ => q⟩

/-! ### a new instance -/
structure MkF (CXv : CXT) (X : Cx) (M : Mo) (lv : Nat) (c : Nat) (f : FnD) : Prop where
  ex : ∃ C fa, M.cl c = some C ∧ Mk X.K C fa ∧ X.mg f.name = some (.ref C) ∧ FnF CXv X M lv f fa
theorem args0 {M : Mo} {F H : Hp} : ∀ {ds : List D} {vs : List V}, Fa2 (Rep M F) ds vs → ArgsR M F H (List.replicate ds.length 0) ds vs []
  | [], vs, h => ⟨rfl, h, rfl⟩
  | d :: ds, vs, h => by
    obtain ⟨v, vs', rfl, a, b⟩ := h
    exact ⟨d, ds, v, vs', rfl, rfl, a, args0 b⟩
theorem outs0 {M : Mo} {F H : Hp} : ∀ {n : Nat} {vs : List V} {ds : List D} {fo : List (List Addr)}, OutsR M F H (List.replicate n 0) vs ds fo → ds = [] ∧ fo = []
  | 0, _, _, _, h => h.2
  | n + 1, _, _, _, h => by
    obtain ⟨v, vs', rfl, h⟩ := h
    exact outs0 h
theorem mk_core {c : Nat} {f : FnD} {Cl : Addr} {ds : List D} {vs : List V} {env1 : Env} {Q : VK} {x dx : Addr} (d1 : G.M.cl c = some Cl) (hm : f.ms = 1 :: List.replicate ds.length 0) (hk0 : f.rk = 0) (g1 : GS G.M F1 H1 G.io env1 σ fs1) (fv : Fa2 (Rep G.M F1) ds vs)
    {p : Bool} (q1 : Pst G p σ F1 H1 fs1 ((f.den (.nd (.obj c []) [] :: ds)).bind fun (r, outs) => match r, outs with
      | .non, [o] => .ok ((0, o), env1)
      | _, _ => .stuck) fun x _ F' H' _ => ∀ v, RW G.M F' H' x.1 x.2 v → Q v H') (nx : H1 x = none) (ndx : H1 dx = none) (ne : dx ≠ x) :
    Spec G.M f (.ref x :: vs) (upd (upd H1 dx (.own x)) x (.ins Cl dx [])) (fun v H3 => v = .non ∧ Q (.ref x) H3) G.E := by
  have F0 : ∀ b, H1 b = none → F1 b = none := fun b hb => by
    cases q : F1 b with
    | none => rfl
    | some o => rw [g1.fh b o q] at hb; cases hb
  generalize hH2 : upd (upd H1 dx (.own x)) x (.ins Cl dx []) = H2
  have ndx2 : (upd H1 dx (.own x)) x = none := by rw [upd_ne (Ne.symm ne)]; exact nx
  have sm : Same H1 H2 := by
    rw [← hH2]
    exact (new_same ndx).trans (new_same ndx2)
  have h2x : H2 x = some (.ins Cl dx []) := by rw [← hH2]; exact upd_same
  have h2d : H2 dx = some (.own x) := by rw [← hH2, upd_ne ne]; exact upd_same
  have back : ∀ b, H2 b = none → H1 b = none := fun b hb => by
    cases q : H1 b with
    | none => rfl
    | some o => rw [sm b o q] at hb; cases hb
  have inl : ∀ b, inL [[x, dx]] b → H1 b = none := fun b hb => by
    simp [inL] at hb
    rcases hb with rfl | rfl
    · exact nx
    · exact ndx
  show Spec G.M f (.ref x :: vs) H2 _ G.E
  refine ⟨.nd (.obj c []) [] :: ds, F1, [[x, dx]], ?_, ?_, fun b hb => F0 b (inl b hb), g1.fh.trans sm, ?_⟩
  · rw [hm]
    exact ⟨_, ds, .ref x, vs, [x, dx], [], rfl, rfl, rfl, ⟨x, [], [dx], [], rfl, ⟨Cl, dx, [], d1, h2x, h2d, rfl, rfl, rfl⟩, ⟨rfl, rfl⟩, by simp⟩, args0 fv⟩
  · simp [Ne.symm ne]
  · cases ed : f.den (.nd (.obj c []) [] :: ds) with
    | stuck => rw [ed] at q1; exact q1
    | exn c' d' =>
      rw [ed] at q1
      intro cls dx' F' H' P' st s2 ex
      have q1 : XP G.M G.E c' d' F1 H1 fs1.at := q1
      refine q1 cls dx' F' H' P' ⟨st.ff, fun b o q n => st.fr b o (sm b o q) fun z => ?_, fun b hb => ?_, fun b hb => ?_⟩ s2 ex
      · rw [inl b z] at q; cases q
      · rcases st.nw b hb with z | z | z
        · exact .inl z
        · exact .inr (.inl (back b z))
        · exact .inr (.inl (inl b z))
      · rcases st.own b hb with z | z
        · exact .inr (inl b z)
        · exact .inr (back b z)
    | ok ro =>
      obtain ⟨r, outs⟩ := ro
      rw [ed] at q1
      intro v F' H' fo' fr st s2 ho own nd fno
      rw [hm] at ho
      obtain ⟨o, os, v', vs', f1, fo2, rfl, ev, rfl, oo, ho⟩ := ho
      cases ev
      obtain ⟨rfl, rfl⟩ := outs0 ho
      rw [hk0] at own
      cases r with
      | non =>
        have q1 : Pst G p σ F1 H1 fs1 (Res.ok (((0 : Nat), o), env1)) _ := q1
        refine ⟨by simpa [Rep] using own.1, ?_⟩
        have keepF : ∀ i b, b ∈ fs1 i → H' b = H1 b := fun i b hb => by
          cases q : H1 b with
          | none => exact absurd q (g1.hd hb)
          | some u => exact st.fr b u (sm b u q) fun z => by rw [inl b z] at q; cases q
        have nf : ∀ b, b ∈ f1 → H1 b = none := fun b hb => by
          rcases st.own b (.inl (by simp [hb])) with z | z
          · exact inl b z
          · exact back b z
        have g' : GS G.M F' H' G.io env1 σ fs1 := g1.keep st.ff keepF s2 fun i b hb => by
          cases q : F' b with
          | none => rfl
          | some u =>
            exfalso
            rcases st.nw b (by rw [q]; simp) with z | z | z
            · exact z (g1.fn i b hb)
            · exact g1.hd hb (back b z)
            · exact g1.hd hb (inl b z)
        obtain ⟨g2, s3, r3⟩ := frz_state g' (fun i b hb z => g1.hd hb (nf b z)) oo fun b hb => fno b (by simp [hb])
        have s4 : Step F1 H1 fs1.at F' H' (atW fs1 f1) := by
          refine ⟨st.ff, fun b o q n => st.fr b o (sm b o q) fun z => (by rw [inl b z] at q; cases q), fun b hb => ?_, fun b hb => ?_⟩
          · rcases st.nw b hb with z | z | z
            · exact .inl z
            · exact .inr (.inl (back b z))
            · exact .inr (.inl (inl b z))
          · rcases hb with hb | hb
            · exact .inl hb
            · exact .inr (nf b hb)
        refine q1 _ _ fs1 g2 (s4.trans s3) (fun _ b u q => st.fr b u (sm b u q) fun z => by rw [inl b z] at q; cases q) _ r3
      | _ => exact q1.elim
theorem args_ext {env : Env} {x : Sl} : ∀ {ms : List Nat} {ars : List Ar} {ds : List D}, argsOf env ms ars = some ds → (argsOf (env ++ [x]) ms ars = some ds) ∧ (∀ i ∈ wksOf ars, i < env.length) := by
  have lx : ∀ {i k : Nat} {d : D}, lent env i k = some d → lent (env ++ [x]) i k = some d ∧ i < env.length := fun {i k d} e => by
    unfold lent at e ⊢
    cases q : env[i]? with
    | none => rw [q] at e; cases e
    | some s =>
      have hi := lt_of_get q
      rw [List.getElem?_append_left hi]
      exact ⟨e, hi⟩
  intro ms ars
  induction ars generalizing ms with
  | nil =>
    intro ds e
    cases ms with
    | nil => exact ⟨e, by simp [wksOf]⟩
    | cons m ms => cases m <;> simp [argsOf] at e
  | cons a ars ih =>
    intro ds e
    cases ms with
    | nil => cases a <;> simp [argsOf] at e
    | cons m ms =>
      cases a with
      | d k d =>
        cases m with
        | succ m => simp [argsOf] at e
        | zero =>
          cases k with
          | succ k => simp [argsOf] at e
          | zero =>
            have e : (argsOf env ms ars).map (d :: ·) = some ds := e
            cases e1 : argsOf env ms ars with
            | none => rw [e1] at e; cases e
            | some es =>
              rw [e1] at e
              obtain ⟨a1, a2⟩ := ih e1
              refine ⟨?_, by simpa [wksOf] using a2⟩
              show (argsOf (env ++ [x]) ms ars).map (d :: ·) = some ds
              rw [a1]; exact e
      | wk i =>
        cases m with
        | succ m => simp [argsOf] at e
        | zero =>
          have e : (match lent env i 1 with | some (.nd .lst ds) => (argsOf env ms ars).map (D.lst ds :: ·) | _ => none) = some ds := e
          cases q : lent env i 1 with
          | none => rw [q] at e; cases e
          | some d =>
            obtain ⟨l1, l2⟩ := lx q
            rw [q] at e
            cases d with
            | nd kd xs =>
              cases kd with
              | lst =>
                have e : (argsOf env ms ars).map (D.lst xs :: ·) = some ds := e
                cases e1 : argsOf env ms ars with
                | none => rw [e1] at e; cases e
                | some es =>
                  rw [e1] at e
                  obtain ⟨a1, a2⟩ := ih e1
                  refine ⟨?_, fun j hj => ?_⟩
                  · show (match lent (env ++ [x]) i 1 with | some (.nd .lst ds) => (argsOf (env ++ [x]) ms ars).map (D.lst ds :: ·) | _ => none) = some ds
                    rw [l1]
                    show (argsOf (env ++ [x]) ms ars).map (D.lst xs :: ·) = some ds
                    rw [a1]; exact e
                  · simp only [wksOf, List.mem_cons] at hj
                    rcases hj with rfl | hj
                    · exact l2
                    · exact a2 j hj
              | _ => cases e
            | _ => cases e
      | io i =>
        cases m with
        | zero => simp [argsOf] at e
        | succ k =>
          have e : (match lent env i (k + 1) with | some d => (argsOf env ms ars).map (d :: ·) | none => none) = some ds := e
          cases q : lent env i (k + 1) with
          | none => rw [q] at e; cases e
          | some d =>
            obtain ⟨l1, l2⟩ := lx q
            rw [q] at e
            have e : (argsOf env ms ars).map (d :: ·) = some ds := e
            cases e1 : argsOf env ms ars with
            | none => rw [e1] at e; cases e
            | some es =>
              rw [e1] at e
              obtain ⟨a1, a2⟩ := ih e1
              refine ⟨?_, by simpa [wksOf] using a2⟩
              show (match lent (env ++ [x]) i (k + 1) with | some d => (argsOf (env ++ [x]) ms ars).map (d :: ·) | none => none) = some ds
              rw [l1]
              show (argsOf (env ++ [x]) ms ars).map (d :: ·) = some ds
              rw [a1]; exact e
theorem arR_ext0 {M : Mo} {F H : Hp} {σ : St} {y : Option V} : ∀ {ars : List Ar} {vs : List V}, ArR M F H σ ars vs → ArR M F H (σ ++ [y]) ars vs := by
  intro ars vs h
  induction ars generalizing vs with
  | nil => exact h
  | cons a ars ih =>
    have up : ∀ {i : Nat} {v : V}, σ[i]? = some (some v) → (σ ++ [y])[i]? = some (some v) := fun {i v} e => by rw [List.getElem?_append_left (lt_of_get e)]; exact e
    cases a with
    | d k d => obtain ⟨v, vs', e, r, h⟩ := h; exact ⟨v, vs', e, r, ih h⟩
    | io i => obtain ⟨v, vs', e, r, h⟩ := h; exact ⟨v, vs', e, up r, ih h⟩
    | wk i => obtain ⟨v, vs', e, r, h⟩ := h; exact ⟨v, vs', e, up r, ih h⟩
theorem arR_ext {M : Mo} {F H H2 : Hp} {σ : St} {y : Option V} (s : Same H H2) {ars : List Ar} {vs : List V} (h : ArR M F H σ ars vs) : ArR M F H2 (σ ++ [y]) ars vs := arR_ext0 (h.mono (Same.refl F) s)
theorem noOuts0 : ∀ {n : Nat} {ds : List D}, noOuts (List.replicate n 0) ds = true
  | 0, ds => by cases ds <;> rfl
  | n + 1, ds => by show noOuts (0 :: List.replicate n 0) ds = true; exact noOuts0 (n := n)
theorem mkw_core {c : Nat} {f : FnD} {Cl : Addr} {ars : List Ar} {vs : List V} {env1 : Env} {Q : VK} {x dx : Addr} (d1 : G.M.cl c = some Cl) (g1 : GS G.M F1 H1 G.io env1 σ fs1) (fv : ArR G.M F1 H1 σ ars vs)
    (q1 : Pst G false σ F1 H1 fs1 (mkW c f ars env1) fun x _ F' H' _ => ∀ v, RW G.M F' H' x.1 x.2 v → Q v H') (nx : H1 x = none) (ndx : H1 dx = none) (ne : dx ≠ x) :
    Spec G.M f (.ref x :: vs) (upd (upd H1 dx (.own x)) x (.ins Cl dx [])) (fun v H3 => v = .non ∧ Q (.ref x) H3) G.E := by
  unfold mkW at q1
  cases ea : argsOf env1 (List.replicate ars.length 0) ars with
  | none => rw [ea] at q1; exact q1.elim
  | some ds =>
    simp only [ea] at q1
    obtain ⟨⟨⟨hm, hk0⟩, hio⟩, q1⟩ := ite_inv q1
    obtain ⟨ea2, hwl⟩ := args_ext (x := .own 1 (.nd (.obj c []) [])) ea
    have F0 : ∀ b, H1 b = none → F1 b = none := fun b hb => by
      cases q : F1 b with
      | none => rfl
      | some o => rw [g1.fh b o q] at hb; cases hb
    generalize hH2 : upd (upd H1 dx (.own x)) x (.ins Cl dx []) = H2
    have ndx2 : (upd H1 dx (.own x)) x = none := by rw [upd_ne (Ne.symm ne)]; exact nx
    have sm : Same H1 H2 := by
      rw [← hH2]
      exact (new_same ndx).trans (new_same ndx2)
    have h2x : H2 x = some (.ins Cl dx []) := by rw [← hH2]; exact upd_same
    have h2d : H2 dx = some (.own x) := by rw [← hH2, upd_ne ne]; exact upd_same
    have back : ∀ b, H2 b = none → H1 b = none := fun b hb => by
      cases q : H1 b with
      | none => rfl
      | some o => rw [sm b o q] at hb; cases hb
    have inl : ∀ b, b ∈ [x, dx] → H1 b = none := fun b hb => by
      simp at hb
      rcases hb with rfl | rfl
      · exact nx
      · exact ndx
    generalize hn : env1.length = n at *
    have hsn : σ.length = n := by rw [g1.len, hn]
    have fo : fs1 n = [] := g1.out n (by rw [List.getElem?_eq_none]; omega)
    have gat : ∀ b, (fs1.set n [x, dx]).at b → fs1.at b ∨ b ∈ [x, dx] := fun b ⟨i, hb⟩ => by
      by_cases z : i = n
      · subst z; rw [Ft.set_same] at hb; exact .inr hb
      · rw [Ft.set_ne z] at hb; exact .inl ⟨i, hb⟩
    have g2 : GS G.M F1 H2 G.io (env1 ++ [.own 1 (.nd (.obj c []) [])]) (σ ++ [some (.ref x)]) (fs1.set n [x, dx]) := by
      refine ⟨by simp [g1.len], fun i s e => ?_, fun i => ?_, fun i j b hne hb hb2 => ?_, fun i b hb => ?_, fun i e => ?_, g1.fh.trans sm, fun p hp => ?_⟩
      · by_cases z : i < n
        · rw [List.getElem?_append_left (by omega)] at e
          obtain ⟨y, h1, h2⟩ := g1.sl i s e
          refine ⟨y, by rw [List.getElem?_append_left (by omega)]; exact h1, ?_⟩
          rw [Ft.set_ne (by omega)]
          exact h2.mono (Same.refl F1) fun b hb => g1.same sm i b hb
        · have hz : i = n := by have := lt_of_get e; simp at this; omega
          subst hz
          rw [List.getElem?_append_right (by omega), show i - env1.length = 0 by omega] at e
          cases e
          refine ⟨some (.ref x), by rw [List.getElem?_append_right (by omega), show i - σ.length = 0 by omega]; rfl, ?_⟩
          rw [Ft.set_same]
          exact ⟨.ref x, rfl, ⟨x, [], [dx], [], rfl, ⟨Cl, dx, [], d1, h2x, h2d, rfl, rfl, rfl⟩, ⟨rfl, rfl⟩, by simp⟩⟩
      · by_cases z : i = n
        · subst z; rw [Ft.set_same]; simp [Ne.symm ne]
        · rw [Ft.set_ne z]; exact g1.nd i
      · by_cases z : i = n
        · subst z
          rw [Ft.set_same] at hb
          rw [Ft.set_ne (Ne.symm hne)] at hb2
          exact g1.hd hb2 (inl b hb)
        · rw [Ft.set_ne z] at hb
          by_cases z2 : j = n
          · subst z2
            rw [Ft.set_same] at hb2
            exact g1.hd hb (inl b hb2)
          · rw [Ft.set_ne z2] at hb2
            exact g1.dj i j b hne hb hb2
      · by_cases z : i = n
        · subst z; rw [Ft.set_same] at hb; exact F0 b (inl b hb)
        · rw [Ft.set_ne z] at hb; exact g1.fn i b hb
      · have hi : n < i := by
          have := List.getElem?_eq_none_iff.mp e
          simp at this; omega
        rw [Ft.set_ne (by omega)]
        exact g1.out i (by rw [List.getElem?_eq_none]; omega)
      · obtain ⟨h1, k, d, h2⟩ := g1.io p hp
        exact ⟨by rw [List.getElem?_append_left (lt_of_get h1)]; exact h1, k, d, by rw [List.getElem?_append_left (lt_of_get h2)]; exact h2⟩
    have stp : ∀ {F' H' : Hp} {P' : Addr → Prop}, Step F1 H2 (fs1.set n [x, dx]).at F' H' P' → Step F1 H1 fs1.at F' H' P' := fun {F' H' P'} st => by
      refine ⟨st.ff, fun b o q z => st.fr b o (sm b o q) fun y => ?_, fun b hb => ?_, fun b hb => ?_⟩
      · rcases gat b y with y | y
        · exact z y
        · rw [inl b y] at q; cases q
      · rcases st.nw b hb with z | z | z
        · exact .inl z
        · exact .inr (.inl (back b z))
        · rcases gat b z with z | z
          · exact .inr (.inr z)
          · exact .inr (.inl (inl b z))
      · rcases st.own b hb with z | z
        · rcases gat b z with z | z
          · exact .inl z
          · exact .inr (inl b z)
        · exact .inr (back b z)
    have hio2 : iosOf (.io n :: ars) = [n] := by show n :: iosOf ars = [n]; rw [hio]
    have hen : (env1 ++ [Sl.own 1 (.nd (.obj c []) [])])[n]? = some (.own 1 (.nd (.obj c []) [])) := by rw [List.getElem?_append_right (by omega), show n - env1.length = 0 by omega]; rfl
    have hln : lent (env1 ++ [Sl.own 1 (.nd (.obj c []) [])]) n 1 = some (.nd (.obj c []) []) := by unfold lent; rw [hen]; rfl
    have ea3 : argsOf (env1 ++ [Sl.own 1 (.nd (.obj c []) [])]) f.ms (.io n :: ars) = some (.nd (.obj c []) [] :: ds) := by
      rw [hm]
      show (match lent (env1 ++ [Sl.own 1 (.nd (.obj c []) [])]) n (0 + 1) with | some d => (argsOf _ _ ars).map (d :: ·) | none => none) = _
      rw [hln]
      show (argsOf _ _ ars).map _ = _
      rw [ea2]; rfl
    refine call_spec (r0 := .stuck) (k := fun _ _ _ _ _ => True) (p := false) (ars := .io n :: ars) g2 ⟨.ref x, vs, rfl, by rw [List.getElem?_append_right (by omega), show n - σ.length = 0 by omega]; rfl, arR_ext sm fv⟩ ?_
    unfold callD
    rw [ea3]
    simp only []
    rw [hio2, if_pos ⟨by simp, fun i hi => by
      have := hwl i (by simpa [wksOf] using hi)
      simp; omega⟩]
    cases ed : f.den (.nd (.obj c []) [] :: ds) with
    | stuck => rw [ed] at q1; exact q1
    | exn c' d' =>
      rw [ed] at q1
      have q1 : XP G.M G.E c' d' F1 H1 fs1.at := q1
      intro cls dx' F' H' P' st s2 ex
      exact q1 cls dx' F' H' P' (stp st) s2 ex
    | ok ro =>
      obtain ⟨r, outs⟩ := ro
      rw [ed] at q1
      simp only [Res.bind_ok] at q1 ⊢
      cases r with
      | non =>
        match outs, q1 with
        | [o], q1 =>
          simp only [] at q1
          obtain ⟨hnl, q1⟩ := ite_inv q1
          have ep : putBack (env1 ++ [Sl.own 1 (.nd (.obj c []) [])]) [n] [o] = some (env1 ++ [Sl.own 1 o]) := by
            show (match (env1 ++ [Sl.own 1 (.nd (.obj c []) [])])[n]? with | some (.own k _) => putBack ((env1 ++ [Sl.own 1 (.nd (.obj c []) [])]).set n (.own k o)) [] [] | some (.io k _) => putBack ((env1 ++ [Sl.own 1 (.nd (.obj c []) [])]).set n (.io k o)) [] [] | _ => none) = _
            rw [hen]
            show some _ = _
            congr 1
            rw [List.set_append_right _ _ (by omega), show n - env1.length = 0 by omega]; rfl
          rw [ep]
          simp only []
          rw [if_pos (.inr ⟨rfl, hk0, by rw [hm]; show (noLstK 1 o && noOuts (List.replicate ars.length 0) []) = true; rw [hnl, noOuts0]; rfl⟩)]
          intro F' H' fs' v fr g' st _ own _ _ _
          rw [hk0] at own
          have hv : v = .non := by simpa [Rep] using own.1
          refine ⟨hv, ?_⟩
          have hen' : (env1 ++ [Sl.own 1 o])[n]? = some (.own 1 o) := by rw [List.getElem?_append_right (by omega), show n - env1.length = 0 by omega]; rfl
          obtain ⟨y, hy, v', ev', oo⟩ := g'.sl n _ hen'
          rw [List.getElem?_append_right (by omega), show n - σ.length = 0 by omega] at hy
          cases hy
          cases ev'
          have g3 : GS G.M F' H' G.io env1 σ (fs'.set n []) := by
            refine ⟨g1.len, fun i s e => ?_, fun i => ?_, fun i j b hne hb hb2 => ?_, fun i b hb => ?_, fun i e => ?_, g'.fh, fun p hp => ?_⟩
            · have hi := lt_of_get e
              obtain ⟨z, h1, h2⟩ := g'.sl i s (by rw [List.getElem?_append_left (by omega)]; exact e)
              rw [List.getElem?_append_left (by omega)] at h1
              refine ⟨z, h1, ?_⟩
              rw [Ft.set_ne (by omega)]
              exact h2
            · by_cases z : i = n
              · subst z; rw [Ft.set_same]; simp
              · rw [Ft.set_ne z]; exact g'.nd i
            · by_cases z : i = n
              · subst z; rw [Ft.set_same] at hb; simp at hb
              · rw [Ft.set_ne z] at hb
                by_cases z2 : j = n
                · subst z2; rw [Ft.set_same] at hb2; simp at hb2
                · rw [Ft.set_ne z2] at hb2
                  exact g'.dj i j b hne hb hb2
            · by_cases z : i = n
              · subst z; rw [Ft.set_same] at hb; simp at hb
              · rw [Ft.set_ne z] at hb; exact g'.fn i b hb
            · have := List.getElem?_eq_none_iff.mp e
              by_cases z : i = n
              · subst z; exact Ft.set_same
              · rw [Ft.set_ne z]
                exact g'.out i (by rw [List.getElem?_eq_none]; simp; omega)
            · exact g1.io p hp
          have ap : Apart (fs'.set n []) (fs' n) := fun i b hb => by
            by_cases z : i = n
            · subst z; rw [Ft.set_same] at hb; simp at hb
            · rw [Ft.set_ne z] at hb
              exact g'.dj i n b z hb
          obtain ⟨g4, s4, r4⟩ := frz_state g3 ap oo fun b hb => g'.fn n b hb
          have s5 : Step F1 H1 fs1.at F' H' (atW (fs'.set n []) (fs' n)) := by
            have s6 := stp st
            refine ⟨s6.ff, s6.fr, s6.nw, fun b hb => ?_⟩
            refine s6.own b (.inl ?_)
            rcases hb with ⟨i, hb⟩ | hb
            · by_cases z : i = n
              · subst z; rw [Ft.set_same] at hb; simp at hb
              · rw [Ft.set_ne z] at hb; exact ⟨i, hb⟩
            · exact ⟨n, hb⟩
          have q1 : Pst G false σ F1 H1 fs1 (Res.ok (((0 : Nat), o), env1)) _ := q1
          exact q1 _ _ _ g4 (s5.trans s4) (fun z => by cases z) _ r4
        | [], q1 => exact q1.elim
        | _ :: _ :: _, q1 => exact q1.elim
      | _ => exact q1.elim
theorem s_mk {CXv : CXT} {lv c : Nat} {f : FnD} (D : MkF CXv X G.M lv c f) (hr : Room lv X.A) (hx : Passes CXv X G.E) (hg : Gl X f.name) (hd : (f.name == ("__debug__" : Str)) = false) {es : E} {x : Expr} {xs : List Expr} {pp pos : Pos} (hs : (x :: xs).all (fun e => !isStar e) = true)
    (hb : PA X (x :: xs) (tA G es.pure (evs es))) : PE X (.Call (.Name f.name pp) (x :: xs) [] pos) (tE G (E.mk c f es).pure (ev (.mk c f es))) := by
  obtain ⟨C, fa, d1, d2, d3, k, fd, ps, F1, hk1, hb1⟩ := D.ex
  have hs := Bool.and_eq_true_iff.mp (show ((!isStar x) && xs.all fun e => !isStar e) = true from hs)
  refine pe_imp (pe_make d2 F1 (hr.mono (by omega)) hg d3 hb1 .nil hx hb hd (star_cons (by simpa using hs.1)) (star_none hs.2)) fun σ H Q ⟨env, F, fs, g, q⟩ => ?_
  refine ⟨env, F, fs, g, q.bind (p2 := es.noW) (fun z => Bool.and_eq_true_iff.mp z) fun ars env1 F1 H1 fs1 _ g1 s1 t1 q1 vs rv x dx nx ndx ne => ?_⟩
  show Spec G.M f (.ref x :: (vs ++ [])) _ _ G.E
  rw [List.append_nil]
  replace q1 : Pst G es.noW σ F1 H1 fs1 (mkD c f es.noW ars env1) _ := q1
  unfold mkD at q1
  cases e : strong ars with
  | some ds =>
    simp only [e] at q1
    obtain ⟨⟨hm, hk0⟩, q1⟩ := ite_inv q1
    exact mk_core d1 hm hk0 g1 (strong_vs e rv) q1 nx ndx ne
  | none =>
    simp only [e] at q1
    cases hw : es.noW with
    | true => rw [hw, if_pos rfl] at q1; exact q1.elim
    | false =>
      rw [hw, if_neg (by simp)] at q1
      exact mkw_core d1 g1 rv q1 nx ndx ne
end
end DL

-- part DLfk
set_option Elab.async false
set_option linter.all false
set_option maxRecDepth 100000
/-! DL, part fk: calls by keywords alone. -/
namespace DL
open PySem PySem.Spec PyProof.Rows L2
/-! ### an order -/
def permL {α : Type} (pm : List Nat) (l : List α) : List α := (permO pm l).getD []
theorem permO_vals {pm : List Nat} {zs : List V} {ws : List Value} (r : Vals zs ws) : (permO pm zs = none ∧ permO pm ws = none) ∨ ∃ a b, permO pm zs = some a ∧ permO pm ws = some b ∧ Vals a b := by
  induction pm with
  | nil => exact .inr ⟨[], [], rfl, rfl, .nil⟩
  | cons i is ih =>
    have hl : zs.length = ws.length := r.length
    cases e : zs[i]? with
    | none =>
      have e2 : ws[i]? = none := List.getElem?_eq_none (by have := List.getElem?_eq_none_iff.mp e; omega)
      exact .inl ⟨by simp [permO, e], by simp [permO, e2]⟩
    | some x =>
      obtain ⟨u, hu, ru⟩ := r.get e
      rcases ih with ⟨h1, h2⟩ | ⟨a, b, h1, h2, h3⟩
      · exact .inl ⟨by simp [permO, e, h1], by simp [permO, hu, h2]⟩
      · exact .inr ⟨x :: a, u :: b, by simp [permO, e, h1], by simp [permO, hu, h2], .cons ru h3⟩
theorem permL_vals {pm : List Nat} {zs : List V} {ws : List Value} (r : Vals zs ws) : Vals (permL pm zs) (permL pm ws) := by
  rcases permO_vals (pm := pm) r with ⟨h1, h2⟩ | ⟨a, b, h1, h2, h3⟩
  · simp only [permL, h1, h2]; exact .nil
  · simp only [permL, h1, h2]; exact h3
section
variable {M : Mo} {F H : Hp} {σ : L2.St}
theorem arR_get : ∀ {ars : List Ar} {vs : List V} {i : Nat} {a : Ar}, ArR M F H σ ars vs → ars[i]? = some a → ∃ v, vs[i]? = some v ∧ ∀ r ws, ArR M F H σ r ws → ArR M F H σ (a :: r) (v :: ws)
  | [], _, i, a, _, e => by simp at e
  | b :: r, vs, i, a, h, e => by
    have key : ∃ v vs', vs = v :: vs' ∧ ArR M F H σ r vs' ∧ ∀ r ws, ArR M F H σ r ws → ArR M F H σ (b :: r) (v :: ws) := by
      cases b with
      | d k d => obtain ⟨v, vs', e1, h1, h2⟩ := h; exact ⟨v, vs', e1, h2, fun r ws h3 => ⟨v, ws, rfl, h1, h3⟩⟩
      | io j => obtain ⟨v, vs', e1, h1, h2⟩ := h; exact ⟨v, vs', e1, h2, fun r ws h3 => ⟨v, ws, rfl, h1, h3⟩⟩
      | wk j => obtain ⟨v, vs', e1, h1, h2⟩ := h; exact ⟨v, vs', e1, h2, fun r ws h3 => ⟨v, ws, rfl, h1, h3⟩⟩
    obtain ⟨v, vs', rfl, h2, h3⟩ := key
    cases i with
    | zero => simp at e; subst e; exact ⟨v, rfl, h3⟩
    | succ i =>
      obtain ⟨w, a1, a2⟩ := arR_get h2 (by simpa using e)
      exact ⟨w, by simpa using a1, a2⟩
theorem arR_perm {ars : List Ar} {vs : List V} (h : ArR M F H σ ars vs) : ∀ {pm : List Nat} {ars' : List Ar}, permO pm ars = some ars' → ∃ vs', permO pm vs = some vs' ∧ ArR M F H σ ars' vs'
  | [], ars', e => by cases e; exact ⟨[], rfl, rfl⟩
  | i :: is, ars', e => by
    unfold permO at e
    split at e
    · rename_i x r e1 e2
      cases e
      obtain ⟨v, a1, a2⟩ := arR_get h e1
      obtain ⟨vs', b1, b2⟩ := arR_perm h e2
      exact ⟨v :: vs', by simp [permO, a1, b1], a2 _ _ b2⟩
    · cases e
theorem arR_len : ∀ {ars : List Ar} {vs : List V}, ArR M F H σ ars vs → vs.length = ars.length
  | [], _, h => by rw [show _ = [] from h]; rfl
  | .d k d :: r, _, ⟨v, vs', e, _, y⟩ => by rw [e, List.length_cons, List.length_cons, arR_len y]
  | .io i :: r, _, ⟨v, vs', e, _, y⟩ => by rw [e, List.length_cons, List.length_cons, arR_len y]
  | .wk i :: r, _, ⟨v, vs', e, _, y⟩ => by rw [e, List.length_cons, List.length_cons, arR_len y]
theorem kwO_inv {ks : List Str} {pm : List Nat} {ars ars' : List Ar} {vs : List V} (e : kwO ks pm ars = some ars') (h : ArR M F H σ ars vs) : vs.length = ks.length ∧ ArR M F H σ ars' (permL pm vs) := by
  unfold kwO at e
  split at e
  · rename_i hl
    obtain ⟨vs', a, b⟩ := arR_perm h e
    refine ⟨by rw [arR_len h, hl], ?_⟩
    simp only [permL, a]; exact b
  · cases e
end
/-! ### keywords in the model -/
def kwB (ks : List Str) : List Keyword → Bool
  | [] => ks.isEmpty
  | k :: kws => match ks with
    | x :: ks => decide (k.arg = some x) && kwB ks kws
    | [] => false
theorem kw_all {pos : Pos} {env : PySem.Env} : ∀ {kws : List Keyword} {ks : List Str}, kwB ks kws = true → (backToKw pos (keywordEach kws env)).all (·.1.isSome) = true ∧ (backToKw pos (keywordEach kws env)).filterMap (·.1) = ks ∧ (backToKw pos (keywordEach kws env)).any (·.1.isNone) = false ∧ ks.length = kws.length
  | [], ks, h => by
    cases ks with
    | nil => exact ⟨rfl, rfl, rfl, rfl⟩
    | cons _ _ => cases h
  | ⟨nm, v, p⟩ :: kws, [], h => by cases h
  | ⟨nm, v, p⟩ :: kws, x :: ks, h => by
    have h := Bool.and_eq_true_iff.mp (show (decide (nm = some x) && kwB ks kws) = true from h)
    have e : nm = some x := of_decide_eq_true h.1
    subst e
    obtain ⟨a, b, c, d⟩ := kw_all (pos := pos) (env := env) h.2
    refine ⟨?_, ?_, ?_, by simp [d]⟩
    · show (true && (backToKw pos (keywordEach kws env)).all (·.1.isSome)) = true
      rw [a]; rfl
    · show x :: (backToKw pos (keywordEach kws env)).filterMap (·.1) = x :: ks
      rw [b]
    · show (false || (backToKw pos (keywordEach kws env)).any (·.1.isNone)) = false
      rw [c]; rfl
section
variable {X : Cx} {G : Fr} {σ : L2.St} {H F : Hp} {p : Bool}
theorem pk_imp {x : List Keyword} {t t' : TA} (h : PK X x t) (i : ∀ σ H Q, t' σ H Q → t σ H Q) : PK X x t' := ⟨fun pos pins s σ H Q I q => h.run pos pins s σ H Q I (i σ H Q q)⟩
theorem s_knil : PK X [] (tA G E.nil.pure (evs .nil)) := pk_imp pk_nil fun σ H Q ⟨env, F, fs, g, q⟩ => q.done g [] rfl
theorem s_kcons {a es : E} {nm : Option Str} {kp : Pos} {x : Expr} {xs : List Keyword} (hi : ∀ i, a ≠ .ioa i ∧ a ≠ .wka i) (hst : ∀ b, a ≠ .star b) (ha : PE X x (tE G a.pure (ev a))) (hb : PK X xs (tA G es.pure (evs es))) : PK X (⟨nm, x, kp⟩ :: xs) (tA G (E.cons a es).pure (evs (.cons a es))) :=
  pk_imp (pk_cons ha hb) (acons_imp hi hst)
theorem s_kio {i : Nat} {es : E} {nm : Option Str} {kp : Pos} {x : Str} {pos : Pos} {xs : List Keyword} (hN : X.N[i]? = some x) (hv : Vis X.env.scope x) (hd : (x == ("__debug__" : Str)) = false) (hcd : (x == ("__classdict__" : Str)) = false)
    (hb : PK X xs (tA G es.pure (evs es))) : PK X (⟨nm, .Name x pos, kp⟩ :: xs) (tA G (E.cons (.ioa i) es).pure (evs (.cons (.ioa i) es))) := pk_imp (pk_cons (pe_var hN hv hd hcd) hb) aio_imp
theorem s_kwk {i : Nat} {es : E} {nm : Option Str} {kp : Pos} {x : Str} {pos : Pos} {xs : List Keyword} (hN : X.N[i]? = some x) (hv : Vis X.env.scope x) (hd : (x == ("__debug__" : Str)) = false) (hcd : (x == ("__classdict__" : Str)) = false)
    (hb : PK X xs (tA G es.pure (evs es))) : PK X (⟨nm, .Name x pos, kp⟩ :: xs) (tA G (E.cons (.wka i) es).pure (evs (.cons (.wka i) es))) := pk_imp (pk_cons (pe_var hN hv hd hcd) hb) awk_imp
section
variable {CX : CXT} {k n : Nat} {f C : Addr} {fd : FuncData} {ps ks : List Str} {sp : Sp} {E : XK} {x m : Str} {p pos apos : Pos} {o : Expr} {ta : TE} {kws : List Keyword} {tk : TA} {g : List Value → List Value → List Value} {gV : List V → List V → List V}
theorem pe_kw (F : FnOk X.prog X.w X.K X.mg X.base CX k f fd ps sp) (hr : Room k X.A) (hg : Gl X x) (hm : X.mg x = some (.ref f)) (hk : PySem.W.keepIn X.K (.ref f) = true) (hb : KBn X.K fd ps 0 ks g gV) (hx : Passes CX X E) (hkw : PK X kws tk) (hB : kwB ks kws = true)
    (hdb : (x == ("__debug__" : Str)) = false) : PE X (.Call (.Name x p) [] kws pos) (tCallN 0 ks.length sp gV E tNil tk) := by
  refine ⟨fun pins s σ H Q I h => wpAny_Call_Name_kw (ld_glob I hg hm ?_ hdb)⟩
  obtain ⟨a1, a2, a3, _⟩ := kw_all (pos := pos) (env := X.env) hB
  refine PySem.W.callWith_KW0 (h₀ := X.base) I.ok.mod.kin hk a1 (thn (hkw.run pos pins s σ H _ I h) fun ws s2 ⟨zs, H2, I2, rz, l1, l2, q2⟩ => ⟨I2.kIn, ?_⟩) (by rw [a3]; rfl)
  rw [a2]
  exact run_fnN (us := []) (vs := []) F hr hb hx I2 .nil rz rfl l2 q2
/-- o.m(k = v, ..) -/
def tMethN (C : Addr) (m : Str) (n : Nat) (sp : Sp) (gV : List V → List V → List V) (E : XK) (ta : TE) (tk : TA) : TE := fun σ H Q => ta σ H fun x H1 => ∃ a dx fs, x = .ref a ∧ H1 a = some (.ins C dx fs) ∧ fs.lookup m = none ∧ tk σ H1 fun zs H2 => zs.length = n ∧ sp (gV [.ref a] zs) H2 Q E
theorem meth_htk {kws : List Keyword} {ks : List Str} (hB : kwB ks kws = true) (o : Expr) (m : Str) (apos pos : Pos) (env : PySem.Env) (hl : kws.length < 29) (hp : (apos.endLine == pos.line) = true) (hab : attributeBase o m env (eval o env) = eval o env) : eval (.Call (.Attribute o m apos) [] kws pos) env = (do
      let ov ← eval o env
      standAt apos.atName
      let (f, first) ← holding [ov] (getMethod ov m (do return (← importBound o env).getD true))
      callWith pos f first (backTo pos (starEach [] env)) (backToKw pos (keywordEach kws env))) := by
  have e1 : eval (.Call (.Attribute o m apos) [] kws pos) env = (do
      let ov ← attributeBase o m env (eval o env)
      standAt apos.atName
      methodCall o m apos pos env ov (([] : List Expr).length + kws.length) (backTo pos (starEach [] env)) (backToKw pos (keywordEach kws env))) := by
    first | rfl | skip
  rw [e1, hab]
  unfold methodCall calleeOf methodCallPos
  have hf : methodCallForm (([] : List Expr).length + kws.length) (backTo pos (starEach [] env)) (backToKw pos (keywordEach kws env)) = true := by
    obtain ⟨a1, a2, a3, _⟩ := kw_all (pos := pos) (env := env) hB
    unfold methodCallForm
    rw [a1]
    simp only [List.length_nil, Nat.zero_add, Bool.and_true, decide_eq_true_eq, Bool.and_eq_true]
    refine ⟨rfl, ?_⟩
    split <;> omega
  rw [hf, hp]
  rfl
theorem pe_methK (he : PE X o ta) (c : Cls X.K C) (hm : Meth X.K C m f) (F : FnOk X.prog X.w X.K X.mg X.base CX k f fd ps sp) (hr : Room k X.A) (hb : KBn X.K fd ps 1 ks g gV) (hx : Passes CX X E) (hkw : PK X kws tk) (hB : kwB ks kws = true) (hl : kws.length < 29) (hp : (apos.endLine == pos.line) = true) (ho : noCall o = true) :
    PE X (.Call (.Attribute o m apos) [] kws pos) (tMethN C m ks.length sp gV E ta tk) := by
  refine ⟨fun pins s σ H Q I h => ?_⟩
  refine PySem.W.methodCall_KW (thn (he.run pins s σ H _ I h) fun u s1 ⟨x, H1, I1, rx, a, dx, fs, ex, ea, l, q⟩ => ?_) (meth_htk hB o m apos pos X.env hl hp (ab_ok ho _ _))
  subst ex
  obtain rfl : u = Value.ref a := rx
  obtain ⟨a1, a2, a3, _⟩ := kw_all (pos := pos) (env := X.env) hB
  refine getmeth_ok I1 ea c hm l ?_
  refine PySem.W.callWith_KW0 (first := [.ref a]) (h₀ := X.base) I.ok.mod.kin hm.kp a1 (thn (hkw.run pos pins s1 σ H1 _ I1 q) fun ws s2 ⟨zs, H2, I2, rz, l2, q2⟩ => ⟨I2.kIn, ?_⟩) (by rw [a3]; rfl)
  rw [a2]
  exact run_fnN (us := [.ref a]) (vs := [.ref a]) F hr hb hx I2 (.cons rfl .nil) rz rfl l2 q2
end
def KwF (CXv : CXT) (X : Cx) (M : Mo) (lv : Nat) (f : FnD) (n : Nat) (ks : List Str) (pm : List Nat) (fa : Addr) : Prop := ∃ k fd ps, FnOk X.prog X.w X.K X.mg X.base CXv k fa fd ps (Spec M f) ∧ k + 2 ≤ lv ∧ KBn X.K fd ps n ks (fun us ws => us ++ permL pm ws) (fun vs zs => vs ++ permL pm zs)
structure GkF (CXv : CXT) (X : Cx) (M : Mo) (lv : Nat) (f : FnD) (ks : List Str) (pm : List Nat) : Prop where
  ex : ∃ fa, KwF CXv X M lv f 0 ks pm fa ∧ X.mg f.name = some (.ref fa) ∧ PySem.W.keepIn X.K (.ref fa) = true
structure MtkF (CXv : CXT) (X : Cx) (M : Mo) (lv : Nat) (c : Nat) (f : FnD) (ks : List Str) (pm : List Nat) : Prop where
  ex : ∃ C fa, M.cl c = some C ∧ Cls X.K C ∧ Meth X.K C f.name fa ∧ KwF CXv X M lv f 1 ks pm fa
structure MkkF (CXv : CXT) (X : Cx) (M : Mo) (lv : Nat) (c : Nat) (f : FnD) (ks : List Str) (pm : List Nat) : Prop where
  ex : ∃ C fa, M.cl c = some C ∧ Mk X.K C fa ∧ X.mg f.name = some (.ref C) ∧ KwF CXv X M lv f 1 ks pm fa
section
variable {CXv : CXT} {lv c : Nat} {f : FnD} {ks : List Str} {pm : List Nat} {o es : E} {y : Expr} {kws : List Keyword} {pp apos pos : Pos}
theorem s_appk (D : GkF CXv X G.M lv f ks pm) (hr : Room lv X.A) (hx : Passes CXv X G.E) (hg : Gl X f.name) (hd : (f.name == ("__debug__" : Str)) = false) (hB : kwB ks kws = true) (hb : PK X kws (tA G es.pure (evs es))) :
    PE X (.Call (.Name f.name pp) [] kws pos) (tE G (E.appk f ks pm es).pure (ev (.appk f ks pm es))) := by
  obtain ⟨fa, ⟨k, fd, ps, F1, hk1, hb1⟩, hm, hk⟩ := D.ex
  refine pe_imp (pe_kw F1 (hr.mono (by omega)) hg hm hk hb1 hx hb hB hd) fun σ H Q ⟨env, F, fs, g, q⟩ => ?_
  refine ⟨env, F, fs, g, q.bind (p2 := f.ms.all (· == 0)) (fun z => (Bool.and_eq_true_iff.mp z).symm) fun ars env1 F1 H1 fs1 _ g1 s1 t1 q1 vs rv => ?_⟩
  obtain ⟨ars', e, q1⟩ := ofO_inv q1
  obtain ⟨l, rv'⟩ := kwO_inv e rv
  exact ⟨rfl, l, call_of g1 rv' (fun z => z) q1⟩
theorem s_mkk (D : MkkF CXv X G.M lv c f ks pm) (hr : Room lv X.A) (hx : Passes CXv X G.E) (hg : Gl X f.name) (hd : (f.name == ("__debug__" : Str)) = false) (hB : kwB ks kws = true) (hb : PK X kws (tA G es.pure (evs es))) :
    PE X (.Call (.Name f.name pp) [] kws pos) (tE G (E.mkk c f ks pm es).pure (ev (.mkk c f ks pm es))) := by
  obtain ⟨C, fa, d1, d2, d3, k, fd, ps, F1, hk1, hb1⟩ := D.ex
  obtain ⟨a1, a2, a3, _⟩ := kw_all (pos := pos) (env := X.env) hB
  refine pe_imp (pe_makeK0 d2 F1 (hr.mono (by omega)) hg d3 hb1 hx hb a1 a2 hd (by rw [a3]; rfl)) fun σ H Q ⟨env, F, fs, g, q⟩ => ?_
  refine ⟨env, F, fs, g, q.bind (p2 := true) (fun z => ⟨z, rfl⟩) fun ars env1 F1 H1 fs1 _ g1 s1 t1 q1 vs rv => ?_⟩
  obtain ⟨ars', e, q1⟩ := ofO_inv q1
  obtain ⟨l, rv'⟩ := kwO_inv e rv
  refine ⟨rfl, l, fun x dx nx ndx ne => ?_⟩
  obtain ⟨ds, e, q1⟩ := ofO_inv q1
  obtain ⟨⟨hm, hk0⟩, q1⟩ := ite_inv q1
  exact mk_core d1 hm hk0 g1 (strong_vs e rv') q1 nx ndx ne
theorem s_mthk (D : MtkF CXv X G.M lv c f ks pm) (hr : Room lv X.A) (hx : Passes CXv X G.E) (hy : noCall y = true) (hB : kwB ks kws = true) (hl : kws.length < 29) (hp : (apos.endLine == pos.line) = true)
    (ho : PE X y (tE G o.pure (ev o))) (hb : PK X kws (tA G es.pure (evs es))) : PE X (.Call (.Attribute y f.name apos) [] kws pos) (tE G (E.mthk c f ks pm o es).pure (ev (.mthk c f ks pm o es))) := by
  obtain ⟨C, fa, d1, d2, d3, k, fd, ps, F1, hk1, hb1⟩ := D.ex
  refine pe_imp (pe_methK ho d2 d3 F1 (hr.mono (by omega)) hb1 hx hb hB hl hp hy) fun σ H Q ⟨env, F, fs, g, q⟩ => ?_
  refine ⟨env, F, fs, g, q.bind (p2 := f.ms.all (· == 0) && es.pure) (fun z => by simp only [E.pure, Bool.and_eq_true] at z ⊢; exact ⟨z.1.2, z.1.1, z.2⟩) fun x env1 F1 H1 fs1 _ g1 s1 t1 q1 v rv => ?_⟩
  obtain ⟨⟨hc, hn⟩, q1⟩ := ite_inv q1
  obtain ⟨a, C', dx, fs', rfl, h1, h2, ⟨fl, ds, hx1, hx2⟩, rv⟩ := ev_obj g1.fh hc rv
  rw [d1] at h1; cases h1
  refine ⟨a, dx, fs', rfl, h2, ?_, ?_⟩
  · rw [hx1] at hn
    refine lookup_none ?_
    rw [hx2]
    simpa [notFl] using hn
  · refine ⟨env1, F1, fs1, g1, q1.bind (p2 := f.ms.all (· == 0)) (fun z => by simp only [Bool.and_eq_true] at z; exact ⟨z.2, z.1⟩) fun ars env2 F2 H2 fs2 _ g2 s2 t2 q2 vs rw => ?_⟩
    obtain ⟨ars', e, q2⟩ := ofO_inv q2
    obtain ⟨l, rv'⟩ := kwO_inv e rw
    refine ⟨l, call_of g2 (ars := .d x.1 x.2 :: ars') ⟨.ref a, _, rfl, ?_, rv'⟩ (fun z => z) q2⟩
    rw [hc.2]; exact Rep.mono s2.ff rv
end
end
end DL

-- part DLg
set_option Elab.async false
set_option linter.all false
set_option maxRecDepth 100000
/-! DL, part g: what loops and comprehensions walk. -/
namespace DL
open PySem PySem.Spec PyProof.Rows L2

/-! ### range of any ints -/
theorem turn_long {P : Program} {w : World} {K : PySem.W.Frag} {tg : Expr} (it : Addr) (lo : Int) (n : Nat) : Turn P w K tg (Itr lo n) [it] it (fun i h => IsLongIter h it (lo + (i : Nat) * 1) ((n : Int) - (i : Nat)) 1) where
  mem := by simp
  obj := fun i h st b hb => by
    have z : b = it := by simpa using hb
    rw [z]
    exact ⟨_, st, fun v q => by
      have q' : Data.fields _ = Data.cell v := q
      cases q'⟩
  keep := fun i h h' st k => k it (by simp) _ st
  item := by
    intro X e1 e2 e3 hc i pins s σ H E I hf st hg
    subst e1 e2 e3
    obtain ⟨f0, f1, f2, f3, f4, f5⟩ := hf it (by simp)
    have hg' : i < n := hg
    refine wpAny_pyNext_long_item st (by omega) fun h' st' sb => ?_
    have I1 : Inv X pins σ H { s with heap := h', toks := s.toks + 1 } := I.turned (fun b o hb e => (sb.2 b hb).trans e) f0 f1 f3 f4 f5
    refine ⟨_, rfl, go_of (s := { s with heap := h', toks := s.toks + 1 }) (n := "longrange_iterator") st' rfl rfl (by decide) ⟨.int (lo + i), H, I1, ⟨s.toks, ?_⟩, ⟨rfl, rfl⟩, ?_, fun b hb => (hf b hb).1⟩⟩
    · rw [Int.mul_one]
    · have a1 : lo + ((i + 1 : Nat) : Int) * 1 = lo + (i : Nat) * 1 + 1 := by omega
      have a2 : (n : Int) - ((i + 1 : Nat) : Int) = (n : Int) - (i : Nat) - 1 := by omega
      show IsLongIter h' it (lo + ((i + 1 : Nat) : Int) * 1) ((n : Int) - ((i + 1 : Nat) : Int)) 1
      rw [a1, a2]; exact st'
  done := by
    intro X e1 e2 e3 hc i pins s σ H E I hf st hg
    subst e1 e2 e3
    obtain ⟨f0, f1, f2, f3, f4, f5⟩ := hf it (by simp)
    exact wpAny_pyNext_long_end (I.ok.hd hc) st (by have : n ≤ i := hg; omega) fun h' eb => ⟨rfl, I.turned (t' := s.toks) (fun b o hb e => eb b o hb e) f0 f1 f3 f4 f5⟩
  self := fun _ _ _ _ _ st h => wpAny_pyIter_longiter st h
section
variable {X : Cx} {tg : Expr}
theorem range_any {pins : List (Addr × Obj)} {σ : L2.St} {H : Hp} {s : Shared} {R : It → Hp → Prop} {E : Value → Shared → Prop} {lo hi : Int} {t u v : Tok} {tk : Nat} (I : Inv X pins σ H s)
    (q : R (Itr lo (hi - lo).toNat) H) : wpAny (model X.prog X.w) X.A (pyIter (.ref s.heap.objs.size)) (PIE X pins σ tg R) E { s with heap := s.heap.push { cls := .type "range", data := .fields #[.int lo t, .int hi u, .int 1 v] }, toks := tk } := by
  generalize hr : ({ cls := .type "range", data := .fields #[.int lo t, .int hi u, .int 1 v] } : Obj) = ro
  have IR : IsRange (s.heap.push ro) s.heap.objs.size lo hi 1 t u v := by rw [← hr]; exact IsRange.new ..
  have I1 : Inv X pins σ H { s with heap := s.heap.push ro, toks := tk } := I.kept fun b o e => Heap.get?_push_of_some _ e
  have fin : ∀ (nm : String) (b : Addr), b ∈ [(s.heap.push ro).objs.size] → FpOk X pins H b := fun nm b hb => by
    have e : b = (s.heap.push ro).objs.size := by simpa using hb
    rw [e]
    exact I1.fpOk (Nat.le_refl _) (I1.hok.fresh (Nat.le_refl _))
  have z1 : lo + ((0 : Nat) : Int) * 1 = lo := by simp
  have z2 : (((hi - lo).toNat : Nat) : Int) - ((0 : Nat) : Int) = Builtin.Range.rangeSize lo hi 1 := by rw [rangeSize_one]; split <;> omega
  cases hs : Builtin.Range.small lo hi 1 with
  | true =>
    refine wpAny_pyIter_range IR hs ⟨(s.heap.push ro).objs.size, [(s.heap.push ro).objs.size], _, _, H, rfl, I1.kept (t' := tk) fun b o e => Heap.get?_push_of_some _ e, turn_range _ lo (hi - lo).toNat, ?_, fin "", q⟩
    show IsRangeIter _ _ (lo + ((0 : Nat) : Int) * 1) ((((hi - lo).toNat : Nat) : Int) - ((0 : Nat) : Int)) 1
    rw [z1, z2]
    exact Heap.get?_push_size _ rfl
  | false =>
    refine wpAny_pyIter_longrange IR hs ⟨(s.heap.push ro).objs.size, [(s.heap.push ro).objs.size], _, _, H, rfl, I1.kept (t' := tk) fun b o e => Heap.get?_push_of_some _ e, turn_long _ lo (hi - lo).toNat, ?_, fin "", q⟩
    show IsLongIter _ _ (lo + ((0 : Nat) : Int) * 1) ((((hi - lo).toNat : Nat) : Int) - ((0 : Nat) : Int)) 1
    rw [z1, z2]
    exact Heap.get?_push_size _ rfl
def iR1 (ta : TA) : TI := fun σ H R => ta σ H fun vs H1 => ∃ j : Int, vs = [.int j] ∧ R (Itr 0 j.toNat) H1
def iR2 (ta : TA) : TI := fun σ H R => ta σ H fun vs H1 => ∃ i j : Int, vs = [.int i, .int j] ∧ R (Itr i (j - i).toNat) H1
theorem pi_r1 {a : Expr} {ta : TA} {p pos : Pos} (hg : Gl X "range") (hm : X.mg "range" = none) (ha : PA X [a] ta) (hs : isStar a = false) : PI X tg (.Call (.Name "range" p) [a] [] pos) (iR1 ta) := by
  refine ⟨fun pins s σ H R I h => ?_⟩
  refine Call_ (ld_blt I hg hm boot_range (PyProof.Rows.callWith_type1 (thn (ha.run pos pins s σ H _ I h) fun us s1 ⟨vs, H1, I1, r1, q1⟩ => ?_) (star_cons hs) rfl))
  obtain ⟨j, e, q⟩ := q1
  subst e
  cases r1 with
  | cons r rr =>
    cases rr
    obtain ⟨t, rfl⟩ := r
    exact call_range_1 (range_any I1 (by simpa using q))
theorem pi_r2 {a b : Expr} {ta : TA} {p pos : Pos} (hg : Gl X "range") (hm : X.mg "range" = none) (ha : PA X [a, b] ta) (hs : isStar a = false) (hs2 : isStar b = false) : PI X tg (.Call (.Name "range" p) [a, b] [] pos) (iR2 ta) := by
  refine ⟨fun pins s σ H R I h => ?_⟩
  refine Call_ (ld_blt I hg hm boot_range (PyProof.Rows.callWith_type1 (thn (ha.run pos pins s σ H _ I h) fun us s1 ⟨vs, H1, I1, r1, q1⟩ => ?_) (star_cons hs) (star_none (by simp [hs2]))))
  obtain ⟨i, j, e, q⟩ := q1
  subst e
  cases r1 with
  | cons r rr =>
    cases rr with
    | cons r' rr =>
      cases rr
      obtain ⟨t, rfl⟩ := r
      obtain ⟨t', rfl⟩ := r'
      exact call_range_2 (range_any I1 q)
end

/-! ### what is walked, by data -/
/-- what a turn gives -/
def Yd (M : Mo) (F H H' : Hp) (d : D) (x : V) : Prop := ∃ F', Same F F' ∧ Same H H' ∧ Same F' H' ∧ (∀ b, F' b ≠ none → F b ≠ none ∨ H b = none) ∧ Rep M F' d x
def Jy (M : Mo) (F : Hp) (ds : List D) (J : It) : Prop := ∀ (i : Nat) (F' H' : Hp), Same F F' → Same F' H' → (∀ d, ds[i]? = some d → J.go i H' ∧ ∀ x H'', J.yld i H' x H'' → Yd M F' H' H'' d x) ∧ (ds.length ≤ i → J.stop i H')
def tI (G : Fr) (p : Bool) (r : Env → Res (List D × Env)) : TI := fun σ H R => ∃ env F fs, GS G.M F H G.io env σ fs ∧ Pst G p σ F H fs (r env) fun ds _ F' H' _ => ∀ J, Jy G.M F' ds J → R J H'
theorem Yd.stay {M : Mo} {F H : Hp} {d : D} {x : V} (hs : Same F H) (r : Rep M F d x) : Yd M F H H d x := ⟨F, Same.refl F, Same.refl H, hs, fun _ h => .inl h, r⟩
section
variable {M : Mo} {F : Hp}
theorem jy_list {K : PySem.W.Frag} {a : Addr} {ds : List D} {vs : List V} (h : ∀ H, Same F H → SqL K H a vs) (f : Fa2 (Rep M F) ds vs) : Jy M F ds (Itl K a) := fun i F' H' s t =>
  ⟨fun d e => by
    obtain ⟨v, e1, r⟩ := f.get e
    have q := h H' (s.trans t)
    refine ⟨⟨vs, v, q, e1⟩, fun x H'' y => ?_⟩
    obtain ⟨rfl, y⟩ := y
    have e2 := y vs q
    rw [e1] at e2; cases e2
    exact Yd.stay t (r.mono s), fun l => ⟨vs, h H' (s.trans t), by rw [f.length]; exact l⟩⟩
theorem jy_tup {K : PySem.W.Frag} {a : Addr} {ds : List D} {vs : List V} (h : ∀ H, Same F H → SqT K H a vs) (f : Fa2 (Rep M F) ds vs) : Jy M F ds (Itt K a) := fun i F' H' s t =>
  ⟨fun d e => by
    obtain ⟨v, e1, r⟩ := f.get e
    have q := h H' (s.trans t)
    refine ⟨⟨vs, v, q, e1⟩, fun x H'' y => ?_⟩
    obtain ⟨rfl, y⟩ := y
    have e2 := y vs q
    rw [e1] at e2; cases e2
    exact Yd.stay t (r.mono s), fun l => ⟨vs, h H' (s.trans t), by rw [f.length]; exact l⟩⟩
theorem jy_rng {lo : Int} {n : Nat} : Jy M F (rangeL lo n) (Itr lo n) := fun i F' H' s t =>
  ⟨fun d e => by
    have hi : i < n := by
      have := lt_of_get e
      simpa [rangeL] using this
    refine ⟨hi, fun x H'' y => ?_⟩
    obtain ⟨rfl, rfl⟩ := y
    have ed : d = .int (lo + i) := by
      simp [rangeL, hi] at e
      exact e.symm
    subst ed
    exact Yd.stay t Rep.int, fun l => by
    have l : n ≤ i := by simpa [rangeL] using l
    exact l⟩
theorem enumL_get : ∀ {ds : List D} {k i : Nat} {d : D}, (enumL k ds)[i]? = some d → ∃ e, ds[i]? = some e ∧ d = .tup [.int ((k + i : Nat) : Int), e]
  | [], _, _, _, h => by simp [enumL] at h
  | e :: ds, k, 0, d, h => by
    simp [enumL] at h
    exact ⟨e, rfl, by simp [h]⟩
  | e :: ds, k, i + 1, d, h => by
    obtain ⟨e', h1, h2⟩ := enumL_get (ds := ds) (k := k + 1) (i := i) (by simpa [enumL] using h)
    exact ⟨e', by simpa using h1, by rw [h2, show k + 1 + i = k + (i + 1) by omega]⟩
theorem enumL_len : ∀ {ds : List D} {k : Nat}, (enumL k ds).length = ds.length
  | [], _ => rfl
  | _ :: ds, k => by simp [enumL, enumL_len (ds := ds)]
theorem zipL_get : ∀ {xs ys : List D} {i : Nat} {d : D}, (zipL xs ys)[i]? = some d → ∃ x y, xs[i]? = some x ∧ ys[i]? = some y ∧ d = .tup [x, y]
  | [], _, _, _, h => by simp [zipL] at h
  | _ :: _, [], _, _, h => by simp [zipL] at h
  | x :: xs, y :: ys, 0, d, h => by
    simp [zipL] at h
    exact ⟨x, y, rfl, rfl, h.symm⟩
  | x :: xs, y :: ys, i + 1, d, h => by
    obtain ⟨x', y', h1, h2, h3⟩ := zipL_get (xs := xs) (ys := ys) (i := i) (by simpa [zipL] using h)
    exact ⟨x', y', by simpa using h1, by simpa using h2, h3⟩
theorem zipL_len : ∀ {xs ys : List D}, (zipL xs ys).length = min xs.length ys.length
  | [], _ => by simp [zipL]
  | _ :: _, [] => by simp [zipL]
  | x :: xs, y :: ys => by simp only [zipL, List.length_cons, zipL_len (xs := xs)]; omega
theorem Yd.new {H : Hp} {T : Addr} {vs : List V} {ds : List D} (hs : Same F H) (hT : H T = none) (f : Fa2 (Rep M F) ds vs) : Yd M F H (upd H T (.tup vs)) (.tup ds) (.ref T) := by
  have hF : F T = none := by
    cases e : F T with
    | none => rfl
    | some u => rw [hs T u e] at hT; cases hT
  refine ⟨upd F T (.tup vs), new_same hF, new_same hT, fun b u e => ?_, fun x hx => ?_, Rep.nd_iff.mpr ⟨T, vs, rfl, upd_same, f.mono fun d _ v r => r.mono (new_same hF)⟩⟩
  · by_cases z : b = T
    · subst z; rw [upd_same] at e ⊢; exact e
    · rw [upd_ne z] at e ⊢; exact hs b u e
  · by_cases z : x = T
    · subst z; exact .inr hT
    · rw [upd_ne z] at hx; exact .inl hx
theorem jy_enum {K : PySem.W.Frag} {a : Addr} {ds : List D} {vs : List V} (h : F a = some (.lst vs)) (f : Fa2 (Rep M F) ds vs) : Jy M F (enumL 0 ds) (Ite K a) := fun i F' H' s t =>
  ⟨fun d e => by
    obtain ⟨e', g1, g2⟩ := enumL_get e
    obtain ⟨v, e1, r⟩ := f.get g1
    have q : SqL K H' a vs := SqL.of (t _ _ (s _ _ h))
    refine ⟨⟨vs, v, q, e1⟩, fun x H'' y => ?_⟩
    obtain ⟨T, x', rfl, hT, rfl, y⟩ := y
    have e2 := y vs q
    rw [e1] at e2; cases e2
    rw [g2, Nat.zero_add]
    exact Yd.new t hT ⟨_, _, rfl, Rep.int, _, _, rfl, r.mono s, rfl⟩, fun l => ⟨vs, SqL.of (t _ _ (s _ _ h)), by rw [f.length]; rw [enumL_len] at l; exact l⟩⟩
theorem jy_zip {K : PySem.W.Frag} {a b : Addr} {ds es : List D} {vs ws : List V} (h : F a = some (.lst vs)) (h2 : F b = some (.lst ws)) (f : Fa2 (Rep M F) ds vs) (f2 : Fa2 (Rep M F) es ws) : Jy M F (zipL ds es) (Itz K a b) := fun i F' H' s t =>
  ⟨fun d e => by
    obtain ⟨x, y, g1, g2, g3⟩ := zipL_get e
    obtain ⟨v, e1, r⟩ := f.get g1
    obtain ⟨w, e2, r2⟩ := f2.get g2
    have q : SqL K H' a vs := SqL.of (t _ _ (s _ _ h))
    have q2 : SqL K H' b ws := SqL.of (t _ _ (s _ _ h2))
    refine ⟨⟨vs, ws, v, w, q, q2, e1, e2⟩, fun x H'' y => ?_⟩
    obtain ⟨T, x', y', rfl, hT, rfl, y1, y2⟩ := y
    have k1 := y1 vs q
    rw [e1] at k1; cases k1
    have k2 := y2 ws q2
    rw [e2] at k2; cases k2
    rw [g3]
    exact Yd.new t hT ⟨_, _, rfl, r.mono s, _, _, rfl, r2.mono s, rfl⟩, fun l => ⟨vs, ws, SqL.of (t _ _ (s _ _ h)), SqL.of (t _ _ (s _ _ h2)), by rw [f.length, f2.length]; rw [zipL_len] at l; omega⟩⟩
end
section
variable {X : Cx} {G : Fr} {tg : Expr}
theorem pi_imp {x tg : Expr} {t t' : TI} (h : PI X tg x t) (i : ∀ σ H Q, t' σ H Q → t σ H Q) : PI X tg x t' := ⟨fun pins s σ H Q I q => h.run pins s σ H Q I (i σ H Q q)⟩
theorem s_ilst {e : E} {x : Expr} (h : PE X x (tE G e.pure (ev e))) : PI X tg x (tI G (E.ilst e).pure (evi (.ilst e))) :=
  pi_imp (pi_list h) fun σ H Q ⟨env, F, fs, g, q⟩ => ⟨env, F, fs, g, q.bind (p2 := true) (fun z => ⟨z, rfl⟩) fun x env1 F1 H1 fs1 _ g1 s1 t1 q1 v rv => by
    obtain ⟨k, d⟩ := x
    cases k with
    | succ k => exact q1.elim
    | zero =>
      cases d with
      | nd kd ds =>
        cases kd with
        | lst =>
          obtain ⟨a, vs, rfl, r1, f1⟩ := Rep.nd_iff.mp rv
          exact ⟨a, rfl, ⟨vs, SqL.of (g1.fh _ _ r1)⟩, q1.done g1 _ (jy_list (fun H s => SqL.of (s _ _ r1)) f1)⟩
        | _ => exact q1.elim
      | _ => exact q1.elim⟩
theorem s_iscr (hK : X.K = G.M.K) {e : E} {x : Expr} (h : PE X x (tE G e.pure (ev e))) : PI X tg x (tI G (E.iscr e).pure (evi (.iscr e))) :=
  pi_imp (pi_list h) fun σ H Q ⟨env, F, fs, g, q⟩ => ⟨env, F, fs, g, q.bind (p2 := true) (fun z => ⟨z, rfl⟩) fun x env1 F1 H1 fs1 _ g1 s1 t1 q1 v rv => by
    obtain ⟨k, d⟩ := x
    cases k with
    | succ k => exact q1.elim
    | zero =>
      cases d with
      | nd kd ds =>
        cases kd with
        | scr =>
          obtain ⟨a, vs, rfl, r1, f1⟩ := Rep.nd_iff.mp rv
          have r1 : SqL X.K F1 a vs := hK ▸ r1
          exact ⟨a, rfl, ⟨vs, g1.fh.seq r1⟩, q1.done g1 _ (jy_list (fun H s => s.seq r1) f1)⟩
        | _ => exact q1.elim
      | _ => exact q1.elim⟩
theorem s_itup {e : E} {x : Expr} (h : PE X x (tE G e.pure (ev e))) : PI X tg x (tI G (E.itup e).pure (evi (.itup e))) :=
  pi_imp (pi_tup h) fun σ H Q ⟨env, F, fs, g, q⟩ => ⟨env, F, fs, g, q.bind (p2 := true) (fun z => ⟨z, rfl⟩) fun x env1 F1 H1 fs1 _ g1 s1 t1 q1 v rv => by
    obtain ⟨k, d⟩ := x
    cases k with
    | succ k => exact q1.elim
    | zero =>
      cases d with
      | nd kd ds =>
        cases kd with
        | tup =>
          obtain ⟨a, vs, rfl, r1, f1⟩ := Rep.nd_iff.mp rv
          exact ⟨a, rfl, ⟨vs, SqT.of (g1.fh _ _ r1)⟩, q1.done g1 _ (jy_tup (fun H s => SqT.of (s _ _ r1)) f1)⟩
        | _ => exact q1.elim
      | _ => exact q1.elim⟩
theorem s_irg1 (hg : Gl X "range") (hm : X.mg "range" = none) {a : E} {x : Expr} {pp pos : Pos} (hx : isStar x = false) (h : PE X x (tE G a.pure (ev a))) : PI X tg (.Call (.Name "range" pp) [x] [] pos) (tI G (E.irg1 a).pure (evi (.irg1 a))) :=
  pi_imp (pi_r1 hg hm (pa_cons h pa_nil (star_cons hx)) hx) fun σ H Q ⟨env, F, fs, g, q⟩ => ⟨env, F, fs, g, q.bind (p2 := true) (fun z => ⟨z, rfl⟩) fun x env1 F1 H1 fs1 _ g1 s1 t1 q1 v rv => by
    obtain ⟨k, d⟩ := x
    cases d <;> try exact q1.elim
    rw [RW.int rv]
    obtain ⟨_, q1⟩ := ite_inv (r := Res.ok _) q1
    exact ⟨_, rfl, q1.done g1 _ jy_rng⟩⟩
theorem jy_rngD {M : Mo} {F : Hp} {lo : Int} {n : Nat} : Jy M F (rangeD lo n) (Itc lo (-1) n) := fun i F' H' s t =>
  ⟨fun d e => by
    have hi : i < n := by
      have := lt_of_get e
      simpa [rangeD] using this
    refine ⟨hi, fun x H'' y => ?_⟩
    obtain ⟨rfl, rfl⟩ := y
    have ed : d = .int (lo + (i : Nat) * (-1)) := by
      simp [rangeD, hi] at e
      rw [← e]
      simp
    subst ed
    exact Yd.stay t Rep.int, fun l => by
    have l : n ≤ i := by simpa [rangeD] using l
    exact l⟩
theorem s_irg3 (hg : Gl X "range") (hm : X.mg "range" = none) {a b c : E} {x y z : Expr} {pp pos : Pos} (hx : isStar x = false) (hy : isStar y = false) (hz : isStar z = false) (h : PE X x (tE G a.pure (ev a))) (h2 : PE X y (tE G b.pure (ev b))) (h3 : PE X z (tE G c.pure (ev c))) : PI X tg (.Call (.Name "range" pp) [x, y, z] [] pos) (tI G (E.irg3 a b c).pure (evi (.irg3 a b c))) :=
  pi_imp (pi_range3 hg hm (pa_cons h (pa_cons h2 (pa_cons h3 pa_nil (star_cons hz)) (star_cons hy)) (star_cons hx)) (star_cons hx) (star_none (by simp [hy, hz]))) fun σ H Q ⟨env, F, fs, g, q⟩ => ⟨env, F, fs, g, q.bind (p2 := b.pure && c.pure) (fun z => by simpa [E.pure, Bool.and_assoc] using z) fun x env1 F1 H1 fs1 _ g1 s1 t1 q1 v rv => by
    obtain ⟨k, d⟩ := x
    cases d with
    | non => exact q1.elim
    | bl b => exact q1.elim
    | str b => exact q1.elim
    | nd a b => exact q1.elim
    | int i =>
    rw [RW.int rv]
    refine ⟨env1, F1, fs1, g1, Pst.bind (p2 := c.pure) (f := fun (y, env) => (asI y.2).bind fun j => (ev c env).bind fun (z, env) => (asI z.2).bind fun k => if (k = -1 ∧ -(2 ^ 62) ≤ i ∧ i < 2 ^ 62) ∧ (-(2 ^ 62) ≤ j ∧ j < 2 ^ 62) then Res.ok (rangeD i (i - j).toNat, env) else .stuck) q1 (fun z => Bool.and_eq_true_iff.mp z) fun y env2 F2 H2 fs2 _ g2 s2 t2 q2 w rw => ?_⟩
    obtain ⟨k2, d2⟩ := y
    cases d2 with
    | non => exact q2.elim
    | bl b => exact q2.elim
    | str b => exact q2.elim
    | nd a b => exact q2.elim
    | int j =>
    rw [RW.int rw]
    refine ⟨env2, F2, fs2, g2, Pst.bind (p2 := true) (f := fun (z, env) => (asI z.2).bind fun k => if (k = -1 ∧ -(2 ^ 62) ≤ i ∧ i < 2 ^ 62) ∧ (-(2 ^ 62) ≤ j ∧ j < 2 ^ 62) then Res.ok (rangeD i (i - j).toNat, env) else .stuck) q2 (fun z => ⟨z, rfl⟩) fun z env3 F3 H3 fs3 _ g3 s3 t3 q3 u ru => ?_⟩
    obtain ⟨k3, d3⟩ := z
    cases d3 with
    | non => exact q3.elim
    | bl b => exact q3.elim
    | str b => exact q3.elim
    | nd a b => exact q3.elim
    | int k =>
    rw [RW.int ru]
    obtain ⟨⟨⟨rfl, c1, c2⟩, c3, c4⟩, q4⟩ := ite_inv (r := Res.ok _) q3
    exact ⟨_, _, _, _, rfl, RgC.neg c1 c2 c3 c4, q4.done g3 _ jy_rngD⟩⟩
theorem s_irg2 (hg : Gl X "range") (hm : X.mg "range" = none) {a b : E} {x y : Expr} {pp pos : Pos} (hx : isStar x = false) (hy : isStar y = false) (h : PE X x (tE G a.pure (ev a))) (h2 : PE X y (tE G b.pure (ev b))) : PI X tg (.Call (.Name "range" pp) [x, y] [] pos) (tI G (E.irg2 a b).pure (evi (.irg2 a b))) :=
  pi_imp (pi_r2 hg hm (pa_cons h (pa_cons h2 pa_nil (star_cons hy)) (star_cons hx)) hx hy) fun σ H Q ⟨env, F, fs, g, q⟩ => ⟨env, F, fs, g, q.bind (p2 := b.pure) (fun z => Bool.and_eq_true_iff.mp z) fun x env1 F1 H1 fs1 _ g1 s1 t1 q1 v rv => by
    obtain ⟨k, d⟩ := x
    cases d with
    | non => exact q1.elim
    | bl b => exact q1.elim
    | str b => exact q1.elim
    | nd a b => exact q1.elim
    | int i =>
    rw [RW.int rv]
    refine ⟨env1, F1, fs1, g1, Pst.bind (p2 := true) (f := fun (y, env) => (asI y.2).bind fun j => Res.ok (rangeL i (j - i).toNat, env)) q1 (fun z => ⟨z, rfl⟩) fun y env2 F2 H2 fs2 _ g2 s2 t2 q2 w rw => ?_⟩
    obtain ⟨k, d⟩ := y
    cases d <;> try exact q2.elim
    rw [RW.int rw]
    exact ⟨_, _, rfl, q2.done g2 _ jy_rng⟩⟩
end
end DL

-- part DLh
set_option Elab.async false
set_option linter.all false
set_option maxRecDepth 100000
/-! DL, part h: targets; list comprehensions. -/
namespace DL
open PySem PySem.Spec PyProof.Rows L2

/-! ### targets -/
def setV (σ : St) : List Nat → List V → St
  | i :: is, v :: vs => setV (σ.set i (some v)) is vs
  | _, _ => σ
def gIs : List Nat → TGs
  | [] => gNil
  | i :: is => gCons (gName i) (gIs is)
theorem gIs_of {H : Hp} {Q : L2.St → Hp → Prop} : ∀ {is : List Nat} {vs : List V} {σ : L2.St}, is.length = vs.length → Q (setV σ is vs) H → gIs is vs σ H Q
  | [], [], σ, _, h => ⟨rfl, h⟩
  | i :: is, v :: vs, σ, l, h => ⟨v, vs, rfl, gIs_of (is := is) (vs := vs) (by simpa using l) h⟩
  | [], _ :: _, σ, l, _ => by simp at l
  | _ :: _, [], σ, l, _ => by simp at l
section
variable {M : Mo} {F H : Hp} {io : List (Nat × V)} {env env' : Env} {σ : St} {fs : Ft}
theorem setSl_val {i : Nat} {d : D} {v : V} (g : GS M F H io env σ fs) (r : Rep M F d v) (e : setSl env i (.val d) = .ok env') : GS M F H io env' (σ.set i (some v)) (fs.set i []) := by
  unfold setSl at e
  cases q : env[i]? with
  | none => rw [q] at e; cases e
  | some s =>
    rw [q] at e
    have ni : ∀ k d, s ≠ .io k d := fun k d z => by rw [z] at e; cases e
    have e2 : Res.ok (env.set i (.val d)) = .ok env' := by
      cases s with
      | io k d => exact absurd rfl (ni k d)
      | _ => exact e
    cases e2
    exact g.set q ni ⟨v, rfl, r, rfl⟩ (by simp) (by simp) (by simp)
theorem set_less {i : Nat} : ∀ b, (fs.set i []).at b → fs.at b := fun b ⟨j, hb⟩ => by
  by_cases z : j = i
  · subst z; rw [Ft.set_same] at hb; simp at hb
  · rw [Ft.set_ne z] at hb; exact ⟨j, hb⟩
theorem setTis_vals : ∀ {is : List Nat} {ds : List D} {vs : List V} {env : Env} {σ : St} {fs : Ft}, GS M F H io env σ fs → Fa2 (Rep M F) ds vs → setTis env (is.map .sl) ds = .ok env' →
    is.length = vs.length ∧ ∃ fs', GS M F H io env' (setV σ is vs) fs' ∧ ∀ b, fs'.at b → fs.at b
  | [], [], vs, env, σ, fs, g, h, e => by
    rw [show vs = [] from h]
    cases e
    exact ⟨rfl, fs, g, fun _ h => h⟩
  | [], _ :: _, vs, env, σ, fs, g, h, e => by cases e
  | _ :: _, [], vs, env, σ, fs, g, h, e => by cases e
  | i :: is, d :: ds, vs, env, σ, fs, g, h, e => by
    obtain ⟨v, vs', rfl, a, b⟩ := h
    have e : (setSl env i (.val d)).bind (fun env => setTis env (is.map .sl) ds) = .ok env' := e
    cases e1 : setSl env i (.val d) with
    | stuck => rw [e1] at e; cases e
    | exn c d => rw [e1] at e; cases e
    | ok env1 =>
      rw [e1] at e
      obtain ⟨l, fs', g', s'⟩ := setTis_vals (setSl_val g a e1) b e
      exact ⟨by simp [l], fs', g', fun b hb => set_less b (s' b hb)⟩
/-- a loop's target: one name or a tuple of names -/
def gTg (K : PySem.W.Frag) : List Nat → TG
  | [i] => gName i
  | is => gTup K is.length (gIs is)
theorem setIs_ok {K : PySem.W.Frag} {tg : List Nat} {d : D} {v : V} (g : GS M F H io env σ fs) (r : Rep M F d v) (e : setIs env tg d = .ok env') :
    ∃ is vs fs', GS M F H io env' (setV σ is vs) fs' ∧ (∀ b, fs'.at b → fs.at b) ∧ (∀ i, i ∈ is → i ∈ tg) ∧ ∀ Q : L2.St → Hp → Prop, Q (setV σ is vs) H → gTg K tg v σ H Q := by
  unfold setIs at e
  split at e
  · rename_i i
    exact ⟨[i], [v], _, setSl_val g r e, set_less, fun _ h => h, fun Q q => q⟩
  · rename_i ds hn
    obtain ⟨a, vs, rfl, r1, f1⟩ := Rep.nd_iff.mp r
    obtain ⟨l, fs', g', s'⟩ := setTis_vals g f1 e
    refine ⟨tg, vs, fs', g', s', fun _ h => h, fun Q q => ?_⟩
    have q2 : gTup K tg.length (gIs tg) (.ref a) σ H Q := ⟨a, vs, rfl, SqT.of (g.fh _ _ r1), l.symm, gIs_of l q⟩
    unfold gTg
    split
    · rename_i i
      exact absurd rfl (hn i)
    · exact q2
  · cases e
end
/-- the target's check -/
def tgB (fnc : Str → Bool) (N : List Str) (sc : Scope) (i : Nat) : Expr → Bool
  | .Name x _ => decide (N[i]? = some x) && (decide (sc.names.lookup x = some .local) || (decide (sc.names.lookup x = some .cell) && fnc x))
  | _ => false
def tgsB (fnc : Str → Bool) (N : List Str) (sc : Scope) : List Nat → List Expr → Bool
  | [], [] => true
  | i :: is, e :: es => tgB fnc N sc i e && tgsB fnc N sc is es
  | _, _ => false
def tgtB (fnc : Str → Bool) (N : List Str) (sc : Scope) : List Nat → Expr → Bool
  | [i], e => tgB fnc N sc i e
  | is, .Tuple es _ _ => tgsB fnc N sc is es
  | _, _ => false
section
variable {X : Cx} {fnc : Str → Bool} {N : List Str} {sc : Scope}
theorem pg_tgB (hN : X.N = N) (nd : N.Nodup) (hsc : X.env.scope = sc) (hf : ∀ x, fnc x = true → X.fn x = true) {i : Nat} {e : Expr} (h : tgB fnc N sc i e = true) : PG X e (gName i) ∧ (assignEach [e] X.env).map (·.2) = [assign e X.env] ∧ (∀ es, (assignEach (e :: es) X.env).map (·.2) = assign e X.env :: (assignEach es X.env).map (·.2)) ∧ ∀ es, assignEach (e :: es) X.env = (false, assign e X.env) :: assignEach es X.env := by
  cases e with
  | Name x p =>
    simp only [tgB, Bool.and_eq_true, Bool.or_eq_true, decide_eq_true_eq] at h
    obtain ⟨h1, h2⟩ := h
    refine ⟨?_, rfl, fun _ => rfl, fun _ => rfl⟩
    rcases h2 with h2 | ⟨h2, h3⟩
    · exact pg_name (hN ▸ nd) (by rw [hN]; exact h1) (.inl (by rw [hsc]; exact h2)) (.inr (by rw [hsc]; exact h2))
    · exact pg_name (hN ▸ nd) (by rw [hN]; exact h1) (.inr (by rw [hsc]; exact h2)) (.inl (hf x h3))
  | _ => simp [tgB] at h
theorem pgs_tgsB (hN : X.N = N) (nd : N.Nodup) (hsc : X.env.scope = sc) (hf : ∀ x, fnc x = true → X.fn x = true) : ∀ {is : List Nat} {es : List Expr}, tgsB fnc N sc is es = true → PGs X es (gIs is) ∧ (assignEach es X.env).length = is.length ∧ (assignEach es X.env).findIdx? (·.1) = none
  | [], [], _ => ⟨pgs_nil, rfl, rfl⟩
  | [], _ :: _, h => by simp [tgsB] at h
  | _ :: _, [], h => by simp [tgsB] at h
  | i :: is, e :: es, h => by
    have h := Bool.and_eq_true_iff.mp (show (tgB fnc N sc i e && tgsB fnc N sc is es) = true from h)
    obtain ⟨a1, _, a3, a4⟩ := pg_tgB hN nd hsc hf h.1
    obtain ⟨b1, b2, b3⟩ := pgs_tgsB hN nd hsc hf h.2
    refine ⟨pgs_cons a1 b1 (a3 es), by rw [a4, List.length_cons, b2, List.length_cons], ?_⟩
    rw [a4, List.findIdx?_cons, b3]
    rfl
theorem pg_tgtB (hc : X.calm = true) (hN : X.N = N) (nd : N.Nodup) (hsc : X.env.scope = sc) (hf : ∀ x, fnc x = true → X.fn x = true) {tg : List Nat} {e : Expr} (h : tgtB fnc N sc tg e = true) : PG X e (gTg X.K tg) := by
  unfold tgtB at h
  split at h
  · exact (pg_tgB hN nd hsc hf h).1
  · rename_i is es k p hn
    obtain ⟨b1, b2, b3⟩ := pgs_tgsB hN nd hsc hf h
    have q := pg_tup (pos := p) (k := k) hc b1 b2 b3
    unfold gTg
    split
    · rename_i i
      exact absurd rfl (hn i)
    · exact q
  · cases h
end
/-! ### a comprehension's slots -/
theorem wipe_get {σ : L2.St} {i : Nat} : ∀ {vs : List Nat}, i ∉ vs → (wipe σ vs)[i]? = σ[i]?
  | [], _ => rfl
  | v :: vs, h => by
    unfold wipe
    rw [List.getElem?_set_ne (fun z => h (by simp [z])), wipe_get (vs := vs) fun z => h (by simp [z])]
theorem wipe_in {σ : L2.St} {i : Nat} (hi : i < σ.length) : ∀ {vs : List Nat}, i ∈ vs → (wipe σ vs)[i]? = some none
  | [], h => by simp at h
  | v :: vs, h => by
    unfold wipe
    by_cases z : v = i
    · subst z
      rw [List.getElem?_set_self (by rw [wipe_length]; exact hi)]
    · rw [List.getElem?_set_ne z]
      exact wipe_in hi (by rcases List.mem_cons.mp h with h | h; exact absurd h.symm z; exact h)
theorem list_ext {α : Type} {l m : List α} (h : ∀ i : Nat, l[i]? = m[i]?) : l = m := List.ext_getElem? h
theorem setV_length : ∀ {is : List Nat} {vs : List V} {σ : L2.St}, (setV σ is vs).length = σ.length
  | [], _, _ => rfl
  | _ :: _, [], _ => rfl
  | i :: is, v :: vs, σ => by
    unfold setV
    rw [setV_length (is := is)]
    simp
theorem setV_get {i : Nat} : ∀ {is : List Nat} {vs : List V} {σ : L2.St}, i ∉ is → (setV σ is vs)[i]? = σ[i]?
  | [], _, _, _ => rfl
  | _ :: _, [], _, _ => rfl
  | j :: is, v :: vs, σ, h => by
    unfold setV
    rw [setV_get (is := is) fun z => h (by simp [z]), List.getElem?_set_ne fun z => h (by simp [z])]
theorem wipe_setV {σ : L2.St} {is vs : List Nat} {ws : List V} (h : ∀ i, i ∈ is → i ∈ vs) : wipe (setV σ is ws) vs = wipe σ vs := by
  refine list_ext fun i => ?_
  by_cases hi : i ∈ vs
  · by_cases l : i < σ.length
    · rw [wipe_in l hi, wipe_in (by rw [setV_length]; exact l) hi]
    · rw [List.getElem?_eq_none (by rw [wipe_length, setV_length]; omega), List.getElem?_eq_none (by rw [wipe_length]; omega)]
  · rw [wipe_get hi, wipe_get hi, setV_get fun z => hi (h i z)]
theorem wipe_wipe {σ : L2.St} {vs : List Nat} : wipe (wipe σ vs) vs = wipe σ vs := by
  refine list_ext fun i => ?_
  by_cases hi : i ∈ vs
  · by_cases l : i < σ.length
    · rw [wipe_in l hi, wipe_in (by rw [wipe_length]; exact l) hi]
    · rw [List.getElem?_eq_none (by rw [wipe_length, wipe_length]; omega), List.getElem?_eq_none (by rw [wipe_length]; omega)]
  · rw [wipe_get hi]
theorem blank_len {env : Env} : ∀ {tg : List Nat}, (blank env tg).length = env.length
  | [] => rfl
  | i :: is => by unfold blank; rw [List.length_set, blank_len]
theorem blank_get {env : Env} {i : Nat} : ∀ {tg : List Nat}, i ∉ tg → (blank env tg)[i]? = env[i]?
  | [], _ => rfl
  | j :: is, h => by
    unfold blank
    rw [List.getElem?_set_ne fun z => h (by simp [z]), blank_get fun z => h (by simp [z])]
theorem blank_in {env : Env} {i : Nat} (hi : i < env.length) : ∀ {tg : List Nat}, i ∈ tg → (blank env tg)[i]? = some .un
  | [], h => by simp at h
  | j :: is, h => by
    unfold blank
    by_cases z : j = i
    · subst z; rw [List.getElem?_set_self (by rw [blank_len]; exact hi)]
    · rw [List.getElem?_set_ne z]
      exact blank_in hi (by rcases List.mem_cons.mp h with h | h; exact absurd h.symm z; exact h)
theorem back_len {old env : Env} : ∀ {tg : List Nat}, (back old tg env).length = env.length
  | [] => rfl
  | i :: is => by
    unfold back
    split
    · rw [List.length_set, back_len]
    · exact back_len
theorem back_get {old env : Env} {i : Nat} : ∀ {tg : List Nat}, i ∉ tg → (back old tg env)[i]? = env[i]?
  | [], _ => rfl
  | j :: is, h => by
    unfold back
    split
    · rw [List.getElem?_set_ne fun z => h (by simp [z]), back_get fun z => h (by simp [z])]
    · exact back_get fun z => h (by simp [z])
theorem back_in {old env : Env} {i : Nat} {s : Sl} (hi : i < env.length) (e : old[i]? = some s) : ∀ {tg : List Nat}, i ∈ tg → (back old tg env)[i]? = some s
  | [], h => by simp at h
  | j :: is, h => by
    unfold back
    by_cases z : j = i
    · subst z
      rw [e]
      show ((back old is env).set j s)[j]? = some s
      rw [List.getElem?_set_self (by rw [back_len]; exact hi)]
    · have hm : i ∈ is := by rcases List.mem_cons.mp h with h | h; exact absurd h.symm z; exact h
      split
      · rw [List.getElem?_set_ne z]; exact back_in hi e hm
      · exact back_in hi e hm
theorem freeSl_inv {env : Env} {tg : List Nat} (h : freeSl env tg = true) {i : Nat} (hi : i ∈ tg) : env[i]? = some .un ∨ ∃ d, env[i]? = some (.val d) := by
  have := List.all_eq_true.mp h i hi
  cases e : env[i]? with
  | none => simp [e] at this
  | some s =>
    cases s with
    | un => exact .inl rfl
    | val d => exact .inr ⟨d, rfl⟩
    | _ => simp [e] at this
section
variable {M : Mo} {F H : Hp} {io : List (Nat × V)} {env env' : Env} {σ : St} {fs : Ft}
/-- slots without owned things -/
theorem GS.bare (g : GS M F H io env σ fs) {tg : List Nat} (h : freeSl env tg = true) {i : Nat} (hi : i ∈ tg) : fs i = [] := by
  rcases freeSl_inv h hi with e | ⟨d, e⟩
  · obtain ⟨x, _, r⟩ := g.sl i _ e
    exact r
  · obtain ⟨x, _, v, _, _, r⟩ := g.sl i _ e
    exact r
theorem GS.blank (g : GS M F H io env σ fs) {tg : List Nat} (h : freeSl env tg = true) : GS M F H io (blank env tg) (wipe σ tg) fs := by
  refine ⟨by rw [wipe_length, blank_len, g.len], fun i s e => ?_, g.nd, g.dj, g.fn, fun i e => ?_, g.fh, fun p hp => ?_⟩
  · by_cases hi : i ∈ tg
    · have hl : i < env.length := by
        have := lt_of_get e
        rwa [blank_len] at this
      rw [blank_in hl hi] at e
      cases e
      exact ⟨none, wipe_in (by rw [g.len]; exact hl) hi, g.bare h hi⟩
    · rw [blank_get hi] at e
      obtain ⟨x, e1, e2⟩ := g.sl i s e
      exact ⟨x, by rw [wipe_get hi]; exact e1, e2⟩
  · refine g.out i ?_
    rw [List.getElem?_eq_none_iff] at e ⊢
    rwa [blank_len] at e
  · obtain ⟨q1, k, d, q2⟩ := g.io p hp
    have hn : p.1 ∉ tg := fun z => by
      rcases freeSl_inv h z with e | ⟨d', e⟩ <;> (rw [q2] at e; cases e)
    exact ⟨by rw [wipe_get hn]; exact q1, k, d, by rw [blank_get hn]; exact q2⟩
/-- behind it -/
theorem GS.back {F1 H1 : Hp} {env1 : Env} {fs1 : Ft} (g : GS M F H io env σ fs) {tg : List Nat} (h : freeSl env tg = true) (g1 : GS M F1 H1 io env1 (wipe σ tg) fs1) (hl : env1.length = env.length) (hb : ∀ i ∈ tg, fs1 i = []) (s : Same F F1) : GS M F1 H1 io (back env tg env1) σ fs1 := by
  refine ⟨by rw [back_len, hl, g.len], fun i s' e => ?_, g1.nd, g1.dj, g1.fn, fun i e => ?_, g1.fh, fun p hp => ?_⟩
  · by_cases hi : i ∈ tg
    · rcases freeSl_inv h hi with e1 | ⟨d, e1⟩
      · have hl2 := lt_of_get e1
        rw [back_in (by rw [hl]; exact hl2) e1 hi] at e
        cases e
        exact ⟨_, List.getElem?_eq_getElem (by rw [g.len]; exact hl2), hb i hi⟩
      · have hl2 := lt_of_get e1
        rw [back_in (by rw [hl]; exact hl2) e1 hi] at e
        cases e
        obtain ⟨x, e2, v, e3, r, _⟩ := g.sl i _ e1
        exact ⟨x, e2, v, e3, r.mono s, hb i hi⟩
    · rw [back_get hi] at e
      obtain ⟨x, e1, e2⟩ := g1.sl i s' e
      rw [wipe_get hi] at e1
      exact ⟨x, e1, e2⟩
  · refine g1.out i ?_
    rw [List.getElem?_eq_none_iff] at e ⊢
    rwa [back_len] at e
  · obtain ⟨q1, k, d, q2⟩ := g.io p hp
    have hn : p.1 ∉ tg := fun z => by
      rcases freeSl_inv h z with e | ⟨d', e⟩ <;> (rw [q2] at e; cases e)
    obtain ⟨_, k2, d2, q3⟩ := g1.io p hp
    exact ⟨q1, k2, d2, by rw [back_get hn]; exact q3⟩
end

/-! ### list comprehensions -/
section
variable {M : Mo} {F F' H H' : Hp} {fs fs' : Ft} {D : Addr} {o : HO}
theorem apart_step (s : Step F H fs.at F' H' fs'.at) (ap : Apart fs [D]) (hF : F D = none) (hH : H D = some o) : Apart fs' [D] ∧ F' D = none ∧ H' D = some o := by
  have nd : ¬ fs.at D := fun ⟨i, h⟩ => ap i D h (by simp)
  refine ⟨fun i b hb z => ?_, ?_, s.fr D o hH nd⟩
  · rw [List.mem_singleton] at z
    subst z
    rcases s.own b ⟨i, hb⟩ with h | h
    · exact nd h
    · rw [hH] at h; cases h
  · cases q : F' D with
    | none => rfl
    | some u =>
      exfalso
      rcases s.nw D (by rw [q]; simp) with h | h | h
      · exact h hF
      · rw [hH] at h; cases h
      · exact nd h
theorem step_with (s : Step F H fs.at F' H' fs'.at) : Step F H (atW fs [D]) F' H' (atW fs' [D]) :=
  s.mono (fun b h => .inl h) fun b h => h.elim .inl fun h => .inr (.inl (.inr h))
theorem step_put {u : HO} : Step F H (atW fs [D]) F (upd H D u) (atW fs [D]) :=
  ⟨Same.refl F, fun b o e n => by rw [upd_ne (fun z => n (.inr (by simp [z])))]; exact e, fun b h => .inl h, fun b h => .inl h⟩
end
section
variable {X : Cx} {G : Fr}
theorem pts_imp {xs : List Expr} {t t' : TT} (h : PTs X xs t) (i : ∀ σ H Q, t' σ H Q → t σ H Q) : PTs X xs t' := ⟨fun pins s σ H Q I q => h.run pins s σ H Q I (i σ H Q q)⟩
theorem lc_imp {K : PySem.W.Frag} {tg : List Nat} {it t e : E} (σ : L2.St) (H : Hp) (Q : VK) (h : tN G (E.comp tg it t e).pure (ev (.comp tg it t e)) σ H Q) :
    tLc (tI G it.pure (evi it)) (gTg K tg) (tT { G with E := E0 } t.pure (tstOf t (ev t))) (tE { G with E := E0 } e.pure (ev e)) tg σ H Q := by
  obtain ⟨env, F, fs, g, q⟩ := h
  refine ⟨env, F, fs, g, q.bind (p2 := t.pure && e.pure) (fun z => by simpa [E.pure, Bool.and_assoc] using z) fun xs env1 F1 H1 fs1 _ g1 s1 t1 q1 J hJ D hD => ?_⟩
  obtain ⟨⟨hf, hx⟩, q1⟩ := ite_inv q1
  cases ec : compL tg (tstOf t (ev t)) (eltOf (ev e)) xs (blank env1 tg) with
  | stuck => rw [ec] at q1; exact q1.elim
  | exn c d => rw [ec] at q1; exact q1.elim
  | ok ro =>
    obtain ⟨ds, env'⟩ := ro
    rw [ec] at q1
    have F1D : F1 D = none := by
      cases q : F1 D with
      | none => rfl
      | some u => rw [g1.fh D u q] at hD; cases hD
    refine ⟨fun i m H => m = xs.length - i ∧ i ≤ xs.length ∧ ∃ env F fs acc done rest, GS G.M F H G.io env (wipe σ tg) fs ∧ Apart fs [D] ∧ F D = none ∧ H D = some (.lst acc) ∧ Fa2 (Rep G.M F) done acc ∧ acc.length ≤ i ∧
      Step F1 H1 fs1.at F H (atW fs [D]) ∧ (∀ j ∈ tg, fs j = []) ∧ ((t.pure && e.pure) = true → Same H1 H) ∧ compL tg (tstOf t (ev t)) (eltOf (ev e)) (xs.drop i) env = .ok (rest, env') ∧ ds = done ++ rest, ⟨xs.length, by simp, Nat.zero_le _, blank env1 tg, F1, fs1, [], [], ds, ?_⟩, ?_⟩
    · obtain ⟨g2, s2, ap, _⟩ := (g1.blank hf).newO (o := .lst []) hD
      exact ⟨g2, ap, F1D, upd_same, rfl, Nat.le_refl _, s2, fun j hj => g1.bare hf hj, fun _ => new_same hD, by simpa using ec, rfl⟩
    · rintro i m H ⟨rfl, hil, env, F, fs, acc, done, rest, g2, ap, hFD, hHD, fa, hacc, st, hb, hp, hl, hds⟩
      have sF : Same F1 F := st.ff
      by_cases hlt : i < xs.length
      · -- a turn
        obtain ⟨x, hx1⟩ : ∃ x, xs[i]? = some x := ⟨xs[i], List.getElem?_eq_getElem hlt⟩
        have hdr : xs.drop i = x :: xs.drop (i + 1) := by
          rw [List.drop_eq_getElem_cons hlt]
          rw [List.getElem?_eq_getElem hlt] at hx1
          rw [Option.some.inj hx1]
        rw [hdr] at hl
        obtain ⟨go, yl⟩ := (hJ i F H sF g2.fh).1 x hx1
        refine .inr ⟨go, fun H' => ∃ env F fs acc done rest, GS G.M F H' G.io env (wipe σ tg) fs ∧ Apart fs [D] ∧ F D = none ∧ H' D = some (.lst acc) ∧ Fa2 (Rep G.M F) done acc ∧ acc.length ≤ i + 1 ∧
          Step F1 H1 fs1.at F H' (atW fs [D]) ∧ (∀ j ∈ tg, fs j = []) ∧ ((t.pure && e.pure) = true → Same H1 H') ∧ compL tg (tstOf t (ev t)) (eltOf (ev e)) (xs.drop (i + 1)) env = .ok (rest, env') ∧ ds = done ++ rest,
          fun H' hN => ⟨xs.length - (i + 1), by omega, rfl, hlt, hN⟩, fun xv H' hy => ?_⟩
        obtain ⟨F2, a1, a2, a3, a4, a5⟩ := yl xv H' hy
        obtain ⟨g3, s3⟩ := g2.more a1 a2 a3 a4
        -- the names
        cases e1 : setIs env tg x with
        | stuck => simp [compL, e1] at hl
        | exn c d => simp [compL, e1] at hl
        | ok env2 =>
          obtain ⟨is, vs, fs2, g4, l4, hi4, k4⟩ := setIs_ok (K := K) g3 a5 e1
          refine k4 _ ?_
          have hw : wipe (setV (wipe σ tg) is vs) tg = wipe σ tg := by rw [wipe_setV hi4, wipe_wipe]
          refine ⟨hw.trans wipe_wipe.symm |>.trans wipe_wipe, ?_⟩
          have s4 : Step F H fs.at F2 H' fs2.at := s3.less l4
          -- the test
          cases e2 : tstOf t (ev t) env2 with
          | stuck => simp [compL, e1, e2] at hl
          | exn c d => simp [compL, e1, e2] at hl
          | ok rb =>
            obtain ⟨b, env3⟩ := rb
            refine ⟨env2, F2, fs2, g4, ?_⟩
            rw [e2]
            intro F3 H3 fs3 g5 s5 t5
            have s5' : Step F H fs.at F3 H3 fs3.at := s4.trans s5
            obtain ⟨ap3, hF3, hH3⟩ := apart_step s5' ap hFD hHD
            cases b with
            | false =>
              simp only [compL, e1, e2, Res.bind_ok, Bool.false_eq_true, if_false] at hl
              by_cases hfr : freeSl env3 tg = true
              · rw [if_pos hfr] at hl
                simp only [Bool.false_eq_true, if_false]
                have g6 := g5.blank hfr
                rw [hw] at g6
                refine ⟨blank env3 tg, F3, fs3, acc, done, rest, g6, ap3, hF3, hH3, fa.mono fun d _ v r => r.mono s5'.ff, by omega, st.trans (step_with s5'), fun j hj => g5.bare hfr hj, fun z => ?_, hl, hds⟩
                have z := Bool.and_eq_true_iff.mp z
                exact (hp (by simp [z.1, z.2])).trans (a2.trans (t5 z.1))
              · rw [if_neg hfr] at hl; cases hl
            | true =>
              simp only [compL, e1, e2, Res.bind_ok, if_true] at hl
              simp only [if_true]
              -- the element
              cases e3 : eltOf (ev e) env3 with
              | stuck => simp [e3] at hl
              | exn c d => simp [e3] at hl
              | ok rd =>
                obtain ⟨d, env4⟩ := rd
                simp only [e3, Res.bind_ok] at hl
                by_cases hfr : freeSl env4 tg = true
                · rw [if_pos hfr] at hl
                  refine ⟨env3, F3, fs3, g5, ?_⟩
                  have e4 : ev e env3 = .ok ((0, d), env4) := by
                    unfold eltOf at e3
                    cases e5 : ev e env3 with
                    | stuck => rw [e5] at e3; cases e3
                    | exn c d => rw [e5] at e3; cases e3
                    | ok ro =>
                      obtain ⟨⟨k, z⟩, env5⟩ := ro
                      rw [e5] at e3
                      cases k with
                      | succ k => cases e3
                      | zero => cases e3; rfl
                  rw [e4]
                  intro F4 H4 fs4 g6 s6 t6 y ry
                  have s6' := s5'.trans s6
                  obtain ⟨ap4, hF4, hH4⟩ := apart_step s6' ap hFD hHD
                  cases e6 : compL tg (tstOf t (ev t)) (eltOf (ev e)) (xs.drop (i + 1)) (blank env4 tg) with
                  | stuck => simp [e6] at hl
                  | exn c d => simp [e6] at hl
                  | ok rr =>
                    obtain ⟨rest', env5⟩ := rr
                    simp only [e6, Res.bind_ok] at hl
                    cases hl
                    refine ⟨acc, hH4, Nat.lt_of_lt_of_le (Nat.lt_of_le_of_lt hacc hlt) (lim_ok hx), ?_⟩
                    have g7 := g6.blank hfr
                    rw [hw] at g7
                    have hne : ∀ i b, b ∈ fs4 i → b ≠ D := fun i b hb z => ap4 i b hb (by simp [z])
                    refine ⟨blank env4 tg, F4, fs4, acc ++ [y], done ++ [d], rest', g7.keep (Same.refl F4) (fun i b hb => by rw [upd_ne (hne i b hb)]) (fun b o q => ?_) g7.fn, ap4, hF4, upd_same, (fa.mono fun d _ v r => r.mono s6'.ff).append ⟨y, [], rfl, ry, rfl⟩, by simp; omega,
                      (st.trans (step_with s6')).trans step_put, fun j hj => g6.bare hfr hj, fun z => ?_, e6, by rw [hds]; simp⟩
                    · by_cases z : b = D
                      · subst z; rw [hF4] at q; cases q
                      · rw [upd_ne z]; exact g6.fh b o q
                    · have z := Bool.and_eq_true_iff.mp z
                      have sm := ((hp (by simp [z.1, z.2])).trans (a2.trans (t5 z.1))).trans (t6 z.2)
                      intro b o q
                      have : b ≠ D := fun w => by rw [w, hD] at q; cases q
                      rw [upd_ne this]; exact sm b o q
                · rw [if_neg hfr] at hl; cases hl
      · -- the end
        have hi2 : i = xs.length := by omega
        refine .inl ⟨(hJ i F H sF g2.fh).2 (by omega), ?_⟩
        rw [hi2, List.drop_length] at hl
        cases hl
        rw [List.append_nil] at hds
        subst hds
        -- the heap as if the list were not yet
        generalize hH' : (fun b => if b = D then none else H b : Hp) = H'
        have n1 : ∀ b, b ≠ D → H' b = H b := fun b hb => by rw [← hH']; exact if_neg hb
        have n2 : H' D = none := by rw [← hH']; exact if_pos rfl
        have hne : ∀ i b, b ∈ fs i → b ≠ D := fun i b hb z => ap i b hb (by simp [z])
        have hFH' : Same F H' := fun b o q => by
          have : b ≠ D := fun z => by rw [z, hFD] at q; cases q
          rw [n1 b this]; exact g2.fh b o q
        have g3 : GS G.M F H' G.io _ (wipe σ tg) fs := g2.keep (Same.refl F) (fun i b hb => n1 b (hne i b hb)) hFH' g2.fn
        have g4 := g1.back hf g3 (by rw [← g3.len, wipe_length, g1.len]) hb sF
        have sm : ∀ b o, H1 b = some o → b ≠ D := fun b o q z => by rw [z, hD] at q; cases q
        have st2 : Step F1 H1 fs1.at F H' fs.at := ⟨sF, fun b o q n => by rw [n1 b (sm b o q)]; exact st.fr b o q n, st.nw, fun b h => st.own b (.inl h)⟩
        have q2 := q1 F H' fs g4 st2 (fun z b o q => by rw [n1 b (sm b o q)]; exact hp z b o q) rfl
        have q3 := q2 D acc n2 fa
        have e : upd H' D (.lst acc) = H := by
          funext b
          by_cases z : b = D
          · subst z; rw [upd_same, hHD]
          · rw [upd_ne z, n1 b z]
        rw [e] at q3
        exact q3
theorem n_comp {tg : List Nat} {it t e : E} {tgt iter elt : Expr} {ifs : List Expr} {scope : Scope} {pos : Pos} {own : List (Str × Nat)} (hc : X.calm = true) (hN : X.N.Nodup) (hi : PI X tgt iter (tI G it.pure (evi it))) (ok : BlkOk X.N X.env.scope scope own) (hown : own.map (·.2) = tg)
    (hg : ∀ (s : Shared) (H : Hp) (C : Addr) (cl : List (Str × Addr)) (fp : List Addr), PG (X.blk s H scope (compEnvC scope cl C X.env) fp) tgt (gTg X.K tg))
    (ht : ∀ (s : Shared) (H : Hp) (C : Addr) (cl : List (Str × Addr)) (fp : List Addr), PTs (X.blk s H scope (compEnvC scope cl C X.env) fp) ifs (tT { G with E := E0 } t.pure (tstOf t (ev t))))
    (he : ∀ (s : Shared) (H : Hp) (C : Addr) (cl : List (Str × Addr)) (fp : List Addr), PE (X.blk s H scope (compEnvC scope cl C X.env) fp) elt (tE { G with E := E0 } e.pure (ev e))) (hs : ∀ x, foldedSetIterable iter X.env x = pure x) :
    PE X (.ListComp elt [⟨tgt, iter, ifs, 0⟩] scope pos) (tN G (E.comp tg it t e).pure (ev (.comp tg it t e))) := by
  refine pe_imp (pe_lc hc hN hi ok hg ht he hs) fun σ H Q h => ?_
  rw [hown]
  exact lc_imp σ H Q h
end
end DL

-- part DLi
set_option Elab.async false
set_option linter.all false
set_option maxRecDepth 100000
/-! DL, part i: the check of an expression against its code; its soundness. -/
namespace DL
open PySem PySem.Spec PyProof.Rows L2

section
variable {X : Cx} {G : Fr} {σ : L2.St} {H : Hp} {p : Bool}
theorem chn_of {a b c : E} {op op' : Cop} {Q : VK} (h : tE G (E.chn op op' a b c).pure (ev (.chn op op' a b c)) σ H Q) :
    tChain (rCmp G.M op) (rCmp G.M op') (tE G a.pure (ev a)) (tE G b.pure (ev b)) (tE G c.pure (ev c)) σ H (fun v H' => ∃ k, v = .bl k ∧ Q v H') := by
  obtain ⟨env, F, fs, g, q⟩ := h
  refine ⟨env, F, fs, g, q.bind (p2 := b.pure && c.pure) (fun z => by simpa [E.pure, Bool.and_assoc] using z) fun x env1 F1 H1 fs1 _ g1 s1 t1 q1 v rv => ?_⟩
  obtain ⟨hx, q1⟩ := ite_inv q1
  refine ⟨env1, F1, fs1, g1, q1.bind (p2 := c.pure) (fun z => Bool.and_eq_true_iff.mp z) fun y env2 F2 H2 fs2 _ g2 s2 t2 q2 w rw => ?_⟩
  obtain ⟨hy, q2⟩ := ite_inv q2
  rw [hx] at rv
  have rv2 : RW G.M F2 H2 x.1 x.2 v := by rw [hx]; exact Rep.mono s2.ff rv
  dsimp only at q2
  cases e : dCmp op x y with
  | stuck => rw [e] at q2; exact q2.elim
  | exn c d => exact absurd e (dCmp_fx op x y c d)
  | ok k =>
    rw [e] at q2
    refine ⟨F2, x.1, x.2, y.1, y.2, k, g2.fh, rv2, rw, e, k, rfl, ?_⟩
    have q2 : Pst G c.pure σ F2 H2 fs2 (if k = true then (ev c env2).bind fun (z, env) => (dCmp op' y z).bind fun k' => Res.ok (((0 : Nat), D.bl k'), env) else Res.ok (((0 : Nat), D.bl false), env2)) _ := q2
    cases k with
    | false => exact ⟨false, rfl, q2.weak id (fun _ _ _ _ _ _ _ _ _ z => z) |>.done g2 _ Rep.bl⟩
    | true =>
      simp only [if_true] at q2 ⊢
      refine ⟨env2, F2, fs2, g2, q2.bind (p2 := true) (fun z => ⟨z, rfl⟩) fun z env3 F3 H3 fs3 _ g3 s3 t3 q3 u ru => ?_⟩
      dsimp only at q3
      cases e2 : dCmp op' y z with
      | stuck => rw [e2] at q3; exact q3.elim
      | exn c d => exact absurd e2 (dCmp_fx op' y z c d)
      | ok k' =>
        rw [e2] at q3
        rw [hy] at rw
        exact ⟨F3, y.1, y.2, z.1, z.2, k', g3.fh, by rw [hy]; exact Rep.mono s3.ff rw, ru, e2, k', rfl, q3.done g3 _ Rep.bl⟩
theorem chain_imp {r r' : R2} {ta tb tc : TE} {Q Q' : VK} (ra : ∀ x y H Q Q', r x y H Q → (∀ v H, Q v H → Q' v H) → r x y H Q') (rb : ∀ x y H Q Q', r' x y H Q → (∀ v H, Q v H → Q' v H) → r' x y H Q')
    (ma : ∀ σ H Q Q', ta σ H Q → (∀ v H, Q v H → Q' v H) → ta σ H Q') (mb : ∀ σ H Q Q', tb σ H Q → (∀ v H, Q v H → Q' v H) → tb σ H Q') (mc : ∀ σ H Q Q', tc σ H Q → (∀ v H, Q v H → Q' v H) → tc σ H Q')
    (h : tChain r r' ta tb tc σ H Q) (i : ∀ v H, Q v H → Q' v H) : tChain r r' ta tb tc σ H Q' := by
  refine ma _ _ _ _ h fun x H1 h1 => mb _ _ _ _ h1 fun y H2 h2 => ra _ _ _ _ _ h2 fun z H3 ⟨k, e, h3⟩ => ⟨k, e, ?_⟩
  cases k with
  | false =>
    simp only [Bool.false_eq_true, if_false] at h3 ⊢
    exact i _ _ h3
  | true =>
    simp only [if_true] at h3 ⊢
    exact mc _ _ _ _ h3 fun w H4 h4 => rb _ _ _ _ _ h4 i
theorem rCmp_imp {M : Mo} {op : Cop} (x y : V) (H : Hp) (Q Q' : VK) (h : rCmp M op x y H Q) (i : ∀ v H, Q v H → Q' v H) : rCmp M op x y H Q' := by
  obtain ⟨F, j, d, k, e, b, h1, h2, h3, h4, h5⟩ := h
  exact ⟨F, j, d, k, e, b, h1, h2, h3, h4, i _ _ h5⟩
theorem tE_mono {r : Env → Res (Wk × Env)} (σ : L2.St) (H : Hp) (Q Q' : VK) (h : tE G p r σ H Q) (i : ∀ v H, Q v H → Q' v H) : tE G p r σ H Q' := by
  obtain ⟨env, F, fs, g, q⟩ := h
  exact ⟨env, F, fs, g, q.weak id fun x env1 F1 H1 fs1 _ _ _ _ q v rv => i _ _ (q v rv)⟩
theorem s_chn (hK : X.K = G.M.K) (hu : X.A.units + 64 < cLine) {a b c : E} {x y z : Expr} {op op' : Cop} {pos : Pos} (hm : lastMarks [op.py, op'.py] [y, z] = false) (ha : PE X x (tE G a.pure (ev a))) (hb : PE X y (tE G b.pure (ev b))) (hc : PE X z (tE G c.pure (ev c))) :
    PE X (.Compare x [op.py, op'.py] [y, z] pos) (tE G (E.chn op op' a b c).pure (ev (.chn op op' a b c))) :=
  pe_imp (pe_chain (op_cmp hK hu op) (op_cmp hK hu op') ha hb hc hm) fun σ H Q h => chain_imp rCmp_imp rCmp_imp tE_mono tE_mono tE_mono (chn_of h) fun v H ⟨k, _, q⟩ => q
theorem s_chnT (hK : X.K = G.M.K) (hu : X.A.units + 64 < cLine) {a b c : E} {x y z : Expr} {op op' : Cop} {pos : Pos} (hm : lastMarks [op.py, op'.py] [y, z] = false) (ha : PE X x (tE G a.pure (ev a))) (hb : PE X y (tE G b.pure (ev b))) (hc : PE X z (tE G c.pure (ev c))) :
    PT X (.Compare x [op.py, op'.py] [y, z] pos) (tT G (E.chn op op' a b c).pure (evT (.chn op op' a b c))) :=
  pt_imp (pt_chain (op_cmp hK hu op) (op_cmp hK hu op') ha hb hc hm) fun σ H Q h => chain_imp rCmp_imp rCmp_imp tE_mono tE_mono tE_mono (chn_of (tT_of h)) fun v H ⟨k, _, q⟩ => q
/-! ### tests -/
theorem evT_bind {e : E} {f : Bool × Env → Res (Bool × Env)} {env : Env} : (evT e env).bind f = (ev e env).bind fun (x, env) => (asB x.2).bind fun k => f (k, env) := by
  unfold evT
  cases ev e env with
  | stuck => rfl
  | exn c d => rfl
  | ok p =>
    obtain ⟨x, env1⟩ := p
    show ((asB x.2).bind fun k => Res.ok (k, env1)).bind f = (asB x.2).bind fun k => f (k, env1)
    cases asB x.2 <;> rfl
theorem bind_assoc {α β γ : Type} {r : Res α} {f : α → Res β} {g : β → Res γ} : (r.bind f).bind g = r.bind fun x => (f x).bind g := by
  cases r <;> rfl
theorem evT_not {a : E} {env : Env} : evT (.notv a) env = (evT a env).bind fun (k, env) => .ok (!k, env) := by
  rw [evT_bind]
  show ((ev a env).bind fun (x, env) => (asB x.2).bind fun k => Res.ok (((0 : Nat), D.bl (!k)), env)).bind _ = _
  rw [bind_assoc]
  cases ev a env with
  | stuck => rfl
  | exn c d => rfl
  | ok p =>
    obtain ⟨x, env1⟩ := p
    show ((asB x.2).bind fun k => Res.ok (((0 : Nat), D.bl (!k)), env1)).bind _ = (asB x.2).bind fun k => Res.ok (!k, env1)
    cases asB x.2 <;> rfl
theorem evT_and {a b : E} {env : Env} : evT (.andv a b) env = (evT a env).bind fun (k, env) => if k then evT b env else .ok (false, env) := by
  rw [evT_bind]
  show ((ev a env).bind fun (x, env) => (asB x.2).bind fun k => if k then (ev b env).bind fun (y, env) => (asB y.2).bind fun k' => Res.ok (((0 : Nat), D.bl k'), env) else .ok ((0, .bl false), env)).bind _ = _
  rw [bind_assoc]
  cases ev a env with
  | stuck => rfl
  | exn c d => rfl
  | ok p =>
    obtain ⟨x, env1⟩ := p
    cases e : asB x.2 with
    | stuck => simp [e]
    | exn c d => simp [e]
    | ok k =>
      cases k with
      | false =>
        simp only [e, Res.bind_ok]
        rfl
      | true =>
        simp only [e, Res.bind_ok, if_true]
        unfold evT
        cases ev b env1 with
        | stuck => rfl
        | exn c d => rfl
        | ok p =>
          obtain ⟨y, env2⟩ := p
          show ((asB y.2).bind fun k' => Res.ok (((0 : Nat), D.bl k'), env2)).bind _ = (asB y.2).bind fun k' => Res.ok (k', env2)
          cases asB y.2 <;> rfl
theorem evT_or {a b : E} {env : Env} : evT (.orv a b) env = (evT a env).bind fun (k, env) => if k then .ok (true, env) else evT b env := by
  rw [evT_bind]
  show ((ev a env).bind fun (x, env) => (asB x.2).bind fun k => if k then .ok ((0, .bl true), env) else (ev b env).bind fun (y, env) => (asB y.2).bind fun k' => Res.ok (((0 : Nat), D.bl k'), env)).bind _ = _
  rw [bind_assoc]
  cases ev a env with
  | stuck => rfl
  | exn c d => rfl
  | ok p =>
    obtain ⟨x, env1⟩ := p
    cases e : asB x.2 with
    | stuck => simp [e]
    | exn c d => simp [e]
    | ok k =>
      cases k with
      | true =>
        simp only [e, Res.bind_ok]
        rfl
      | false =>
        simp only [e, Res.bind_ok, Bool.false_eq_true, if_false]
        unfold evT
        cases ev b env1 with
        | stuck => rfl
        | exn c d => rfl
        | ok p =>
          obtain ⟨y, env2⟩ := p
          show ((asB y.2).bind fun k' => Res.ok (((0 : Nat), D.bl k'), env2)).bind _ = (asB y.2).bind fun k' => Res.ok (k', env2)
          cases asB y.2 <;> rfl
theorem s_notT {a : E} {x : Expr} {pos : Pos} (ha : PT X x (tT G a.pure (evT a))) : PT X (.UnaryOp .Not x pos) (tT G (E.notv a).pure (evT (.notv a))) :=
  pt_imp (pt_not ha) fun σ H Q ⟨env, F, fs, g, q⟩ => by
    rw [evT_not] at q
    exact ⟨env, F, fs, g, q.bind (p2 := true) (fun z => ⟨z, rfl⟩) fun k env1 F1 H1 fs1 _ g1 s1 t1 q1 => q1.done g1⟩
theorem pw_andT {a b : E} {x y : Expr} {rest : List Expr} {pos : Pos} (ha : PT X x (tT G a.pure (evT a))) (hb : PW X (.BoolOp .And (y :: rest) pos) (tT G b.pure (evT b))) : PW X (.BoolOp .And (x :: y :: rest) pos) (tT G (E.andv a b).pure (evT (.andv a b))) := by
  have h := pw_and ha hb
  refine ⟨fun whole pins s σ H Q I ⟨env, F, fs, g, q⟩ => h.run whole pins s σ H Q I ?_⟩
  rw [evT_and] at q
  refine ⟨env, F, fs, g, q.bind (p2 := b.pure) (fun z => Bool.and_eq_true_iff.mp z) fun k env1 F1 H1 fs1 _ g1 s1 t1 q1 => ?_⟩
  cases k with
  | false => exact q1.weak id (fun _ _ _ _ _ _ _ _ _ z => z) |>.done g1
  | true => exact ⟨env1, F1, fs1, g1, q1⟩
theorem pw_orT {a b : E} {x y : Expr} {rest : List Expr} {pos : Pos} (ha : PT X x (tT G a.pure (evT a))) (hb : PW X (.BoolOp .Or (y :: rest) pos) (tT G b.pure (evT b))) : PW X (.BoolOp .Or (x :: y :: rest) pos) (tT G (E.orv a b).pure (evT (.orv a b))) := by
  have h := pw_or ha hb
  refine ⟨fun whole pins s σ H Q I ⟨env, F, fs, g, q⟩ => h.run whole pins s σ H Q I ?_⟩
  rw [evT_or] at q
  refine ⟨env, F, fs, g, q.bind (p2 := b.pure) (fun z => Bool.and_eq_true_iff.mp z) fun k env1 F1 H1 fs1 _ g1 s1 t1 q1 => ?_⟩
  cases k with
  | true => exact q1.weak id (fun _ _ _ _ _ _ _ _ _ z => z) |>.done g1
  | false => exact ⟨env1, F1, fs1, g1, q1⟩
/-- a value as a test -/
def plainT : Expr → Bool
  | .Name _ _ => true
  | .Call _ _ _ _ => true
  | .Subscript _ _ _ => true
  | .Attribute _ _ _ => true
  | _ => false
theorem s_valT {a : E} {x : Expr} (hx : plainT x = true) (ha : PE X x (tE G a.pure (ev a))) : PT X x (tT G a.pure (evT a)) :=
  pt_imp (pt_val ha (by intro w; cases x <;> first | rfl | (simp [plainT] at hx))) fun σ H Q h => tT_of h
/-! ### enumerate, zip, of lists -/
theorem s_ienum {elts : List Expr} {kk : Nat} {tpos : Pos} (hg : Gl X "enumerate") (hm : X.mg "enumerate" = none) {a : E} {x : Expr} {pp pos : Pos} (hx : isStar x = false) (h : PE X x (tE G a.pure (ev a))) : PI X (.Tuple elts kk tpos) (.Call (.Name "enumerate" pp) [x] [] pos) (tI G (E.ienum a).pure (evi (.ienum a))) :=
  pi_imp (pi_enum hg hm (pa_cons h pa_nil (star_cons hx)) (star_cons hx)) fun σ H Q ⟨env, F, fs, g, q⟩ => ⟨env, F, fs, g, q.bind (p2 := true) (fun z => ⟨z, rfl⟩) fun x env1 F1 H1 fs1 _ g1 s1 t1 q1 v rv => by
    obtain ⟨k, d⟩ := x
    cases k with
    | succ k => exact q1.elim
    | zero =>
      cases d with
      | nd kd ds =>
        cases kd with
        | lst =>
          obtain ⟨a, vs, rfl, r1, f1⟩ := Rep.nd_iff.mp rv
          exact ⟨a, vs, rfl, SqL.of (g1.fh _ _ r1), q1.done g1 _ (jy_enum r1 f1)⟩
        | _ => exact q1.elim
      | _ => exact q1.elim⟩
theorem s_izip {elts : List Expr} {kk : Nat} {tpos : Pos} (hg : Gl X "zip") (hm : X.mg "zip" = none) {a b : E} {x y : Expr} {pp pos : Pos} (hx : isStar x = false) (hy : isStar y = false) (h : PE X x (tE G a.pure (ev a))) (h2 : PE X y (tE G b.pure (ev b))) : PI X (.Tuple elts kk tpos) (.Call (.Name "zip" pp) [x, y] [] pos) (tI G (E.izip a b).pure (evi (.izip a b))) :=
  pi_imp (pi_zip hg hm (pa_cons h (pa_cons h2 pa_nil (star_cons hy)) (star_cons hx)) (star_cons hx) (star_none (by simp [hy]))) fun σ H Q ⟨env, F, fs, g, q⟩ => ⟨env, F, fs, g, q.bind (p2 := b.pure) (fun z => Bool.and_eq_true_iff.mp z) fun x env1 F1 H1 fs1 _ g1 s1 t1 q1 v rv => by
    refine ⟨env1, F1, fs1, g1, q1.bind (p2 := true) (fun z => ⟨z, rfl⟩) fun y env2 F2 H2 fs2 _ g2 s2 t2 q2 w rw => ?_⟩
    obtain ⟨k, d⟩ := x
    obtain ⟨j, d2⟩ := y
    cases k with
    | succ k => exact q2.elim
    | zero =>
      cases j with
      | succ k =>
        exfalso
        cases d with
        | nd kd ds =>
          cases kd with
          | lst => cases d2 with
            | nd kd2 ds2 => cases kd2 <;> exact q2.elim
            | _ => exact q2.elim
          | _ => exact q2.elim
        | _ => exact q2.elim
      | zero =>
        cases d with
        | nd kd ds =>
          cases kd with
          | lst =>
            cases d2 with
            | nd kd2 ds2 =>
              cases kd2 with
              | lst =>
                have rv2 : Rep G.M F2 (.lst ds) v := Rep.mono s2.ff rv
                obtain ⟨a, vs, rfl, r1, f1⟩ := Rep.nd_iff.mp rv2
                obtain ⟨b, ws, rfl, r2, f2⟩ := Rep.nd_iff.mp rw
                exact ⟨a, b, vs, ws, rfl, SqL.of (g2.fh _ _ r1), SqL.of (g2.fh _ _ r2), q2.done g2 _ (jy_zip r1 r2 f1 f2)⟩
              | _ => exact q2.elim
            | _ => exact q2.elim
          | _ => exact q2.elim
        | _ => exact q2.elim⟩
end
end DL

-- part DLfi
set_option Elab.async false
set_option linter.all false
set_option maxRecDepth 100000
/-! DL, part fi: isinstance, list(range(..)). -/
namespace DL
open PySem PySem.Spec PyProof.Rows L2
structure IsF (X : Cx) (M : Mo) (c : Nat) (nm : Str) : Prop where
  ex : ∃ C, M.cl c = some C ∧ IsC X.K C ∧ X.mg "isinstance" = none ∧ X.mg nm = some (.ref C)
section
variable {X : Cx} {G : Fr} {σ : L2.St} {H F : Hp} {p pa pb : Bool}
theorem s_isi {c : Nat} {nm : Str} (hK : X.K = G.M.K) (D : IsF X G.M c nm) {a : E} {x : Expr} {pp qp pos : Pos} (hg : Gl X "isinstance") (hgc : Gl X nm) (hd : (nm == ("__debug__" : Str)) = false) (hs : isStar x = false) (ha : PE X x (tE G a.pure (ev a))) :
    PE X (.Call (.Name "isinstance" pp) [x, .Name nm qp] [] pos) (tE G (E.isi c nm a).pure (ev (.isi c nm a))) := by
  obtain ⟨C, d1, d2, d3, d4⟩ := D.ex
  refine pe_imp (pe_callB call_isi hg d3 rfl (pa_cons ha (pa_cons (pe_glob hgc d4 (v := .ref C) rfl hd) pa_nil) (star_cons hs)) (by decide) (by decide) (star_cons hs) rfl) fun σ H Q ⟨env, F, fs, g, q⟩ => ?_
  refine ⟨env, F, fs, g, q.bind (p2 := true) (fun z => ⟨z, rfl⟩) fun x env1 F1 H1 fs1 _ g1 s1 t1 q1 v rv => ?_⟩
  obtain ⟨b, e, q1⟩ := ofO_inv q1
  have qb : Q (.bl b) H1 := q1.done g1 _ Rep.bl
  rcases tyD_of g1.fh d1 e rv with ⟨rfl, a, dx, fs', rfl, h2⟩ | ⟨rfl, T, hT, ty⟩
  · exact ⟨_, _, _, _, true, rfl, .own C, .base (.ins h2 d2.me.cl d2.me.ha d2.me.hn d2.me.htk d2.me.hm), d2.me.me, qb⟩
  · rw [← hK] at ty
    exact ⟨_, _, _, _, false, rfl, .own C, ty, d2.no T hT, qb⟩
theorem n_lrg {a b : E} {x y : Expr} {p1 p2 p3 p4 : Pos} (hc : X.calm = true) (hg : Gl X "list") (hm : X.mg "list" = none) (hg2 : Gl X "range") (hm2 : X.mg "range" = none) (hs : isStar x = false) (hs2 : isStar y = false) (ha : PE X x (tE G a.pure (ev a))) (hb : PE X y (tE G b.pure (ev b))) :
    PE X (.Call (.Name "list" p1) [.Call (.Name "range" p2) [x, y] [] p3] [] p4) (tN G (E.lrg a b).pure (ev (.lrg a b))) := by
  refine pe_imp (pe_listRg hc hg hm (prg_2 hg2 hm2 ha hb (star_cons hs) (star_cons hs2) (by rw [star_cons hs2]; rfl))) fun σ H Q ⟨env, F, fs, g, q⟩ => ?_
  refine ⟨env, F, fs, g, q.bind (p2 := b.pure) (fun z => Bool.and_eq_true_iff.mp z) fun x env1 F1 H1 fs1 _ g1 s1 t1 q1 v rv => ?_⟩
  obtain ⟨k, d⟩ := x
  cases d with
  | int i =>
    refine ⟨env1, F1, fs1, g1, Pst.bind (p2 := true) q1 (fun z => ⟨z, rfl⟩) fun y env2 F2 H2 fs2 _ g2 s2 t2 q2 w rw => ?_⟩
    obtain ⟨k2, d2⟩ := y
    cases d2 with
    | int j =>
      obtain ⟨hc, q2⟩ := ite_inv q2
      refine ⟨i, j, RW.int rv, RW.int rw, ⟨hc.1.1, hc.1.2, hc.2.1.1, hc.2.1.2, Nat.le_trans hc.2.2 (by decide)⟩, fun q hq => ?_⟩
      refine (q2.done g2 rfl) q _ hq ?_
      have : rangeL i (j - i).toNat = ((List.range (j - i).toNat).map fun n : Nat => (i + (n : Int))).map D.int := by simp [rangeL, Function.comp_def]
      rw [this]
      have := Fa2.ints (M := G.M) (F := F2) ((List.range (j - i).toNat).map fun n : Nat => (i + (n : Int)))
      simpa [rgV, Function.comp_def] using this
    | _ => exact q2.elim
  | _ => exact q1.elim
end
end DL

-- part DLfj
set_option Elab.async false
set_option linter.all false
set_option maxRecDepth 100000
/-! DL, part fj: stars, constants of the module, get of a written dict. -/
namespace DL
open PySem PySem.Spec PyProof.Rows L2
section
variable {X : Cx} {G : Fr} {σ : L2.St} {H F : Hp} {p : Bool}
theorem seqArs_node {M : Mo} {F H : Hp} {w : Wk} {v : V} {ars : List Ar} (hs : Same F H) (e : seqArs w = some ars) (r : RW M F H w.1 w.2 v) : ∃ ds a vs, ars = ds.map (Ar.d 0) ∧ v = .ref a ∧ (SqT M.K H a vs ∨ SqL M.K H a vs) ∧ Fa2 (Rep M F) ds vs := by
  obtain ⟨k, d⟩ := w
  cases k with
  | succ k => cases d <;> simp [seqArs] at e
  | zero =>
    cases d with
    | nd kd ds =>
      obtain ⟨a, vs, rfl, r1, f1⟩ := RW.node hs r
      cases kd <;> simp [seqArs] at e <;> subst e
      · exact ⟨ds, a, vs, rfl, rfl, .inr (SqL.of r1), f1⟩
      · exact ⟨ds, a, vs, rfl, rfl, .inl (SqT.of r1), f1⟩
    | _ => simp [seqArs] at e
theorem arR_app {M : Mo} {F H : Hp} {σ : L2.St} : ∀ {ds : List D} {vs ws : List V} {ars : List Ar}, Fa2 (Rep M F) ds vs → ArR M F H σ ars ws → ArR M F H σ (ds.map (Ar.d 0) ++ ars) (vs ++ ws)
  | [], vs, ws, ars, h, q => by rw [show vs = [] from h]; exact q
  | d :: ds, _, ws, ars, ⟨v, vs', e, a, b⟩, q => by subst e; exact ⟨v, vs' ++ ws, rfl, a, arR_app b q⟩
theorem s_astar (hK : X.K = G.M.K) {a es : E} {x : Expr} {sp : Pos} {xs : List Expr} (ha : PE X x (tE G a.pure (ev a))) (hb : PA X xs (tA G es.pure (evs es))) : PA X (.Starred x sp :: xs) (tA G (E.cons (.star a) es).pure (evs (.cons (.star a) es))) :=
  pa_imp (StX.pa_star ha hb) fun σ H Q ⟨env, F, fs, g, q⟩ => by
    have q : Pst G (a.pure && es.pure) σ F H fs ((ev a env).bind fun (x, env) => (ofO (seqArs x)).bind fun ars => (evs es env).bind fun (r, env) => .ok (ars ++ r, env)) _ := q
    refine ⟨env, F, fs, g, q.bind (p2 := es.pure) (fun z => Bool.and_eq_true_iff.mp z) fun x env1 F1 H1 fs1 _ g1 s1 t1 q1 v rv => ?_⟩
    obtain ⟨ars, e, q1⟩ := ofO_inv q1
    obtain ⟨ds, b, vs, rfl, rfl, sq, f1⟩ := seqArs_node g1.fh e rv
    rw [← hK] at sq
    refine ⟨b, vs, rfl, sq, env1, F1, fs1, g1, q1.bind (p2 := true) (fun z => ⟨z, rfl⟩) fun r env2 F2 H2 fs2 _ g2 s2 t2 q2 ws rw => ?_⟩
    exact q2.done g2 (vs ++ ws) (arR_app (f1.mono fun _ _ _ h => Rep.mono s2.ff h) rw)
theorem s_apps {CXv : CXT} {lv : Nat} {f : FnD} {fa : Addr} (hK : X.K = G.M.K) (D : FnF CXv X G.M lv f fa) (hm : X.mg f.name = some (.ref fa)) (hk : PySem.W.keepIn X.K (.ref fa) = true) (hr : Room lv X.A) (hx : Passes CXv X G.E) (hg : Gl X f.name) (hd : (f.name == ("__debug__" : Str)) = false)
    {a : E} {x : Expr} {sp pp pos : Pos} (ha : PE X x (tE G a.pure (ev a))) : PE X (.Call (.Name f.name pp) [.Starred x sp] [] pos) (tE G (E.apps f a).pure (ev (.apps f a))) := by
  obtain ⟨k, fd, ps, F1, hk1, hb1⟩ := D
  refine pe_imp (StX.pe_callS1 (F1.raw hb1 .nil) (hr.mono (by omega)) hk hg hm hx ha hd) fun σ H Q ⟨env, F, fs, g, q⟩ => ?_
  have q : Pst G (f.ms.all (· == 0) && a.pure) σ F H fs ((ev a env).bind fun (x, env) => (ofO (seqArs x)).bind fun ars => (callD f ars env).bind fun (d, env) => .ok ((0, d), env)) _ := q
  refine ⟨env, F, fs, g, q.bind (p2 := f.ms.all (· == 0)) (fun z => (Bool.and_eq_true_iff.mp z).symm) fun x env1 F1 H1 fs1 _ g1 s1 t1 q1 v rv => ?_⟩
  obtain ⟨ars, e, q1⟩ := ofO_inv q1
  obtain ⟨ds, b, vs, rfl, rfl, sq, f1⟩ := seqArs_node g1.fh e rv
  rw [← hK] at sq
  refine ⟨b, vs, rfl, sq, ?_⟩
  show Spec G.M f (vs ++ []) H1 Q G.E
  have aa := arR_app (ars := []) (ws := []) (H := H1) (σ := σ) f1 rfl
  rw [List.append_nil, List.append_nil] at aa
  rw [List.append_nil]
  exact call_of g1 aa (fun z => z) q1
/-- a name of the module that holds a number or a text -/
structure GcF (X : Cx) (nm : Str) (d : D) : Prop where
  ex : ∃ u v, X.mg nm = some u ∧ RelV v u ∧ ∀ M F, Rep M F d v
theorem s_glc {nm : Str} {d : D} {pos : Pos} (D : GcF X nm d) (hg : Gl X nm) (hd : (nm == ("__debug__" : Str)) = false) : PE X (.Name nm pos) (tE G (E.glc nm d).pure (ev (.glc nm d))) := by
  obtain ⟨u, v, h1, h2, h3⟩ := D.ex
  exact pe_imp (pe_glob hg h1 h2 hd) fun σ H Q ⟨env, F, fs, g, q⟩ => q.done g v (h3 _ _)
/-- a written dict of the module, from texts to numbers -/
structure DgF (X : Cx) (nm : Str) (kvs : List (Str × Int)) : Prop where
  ex : ∃ a es n, X.mg nm = some (.ref a) ∧ KDict X.K X.w a es n ∧ ∀ z : Str, ∃ r : Option Value, PySem.W.nsIn X.K a z = some r ∧ match kvs.lookup z with
    | some i => ∃ u, r = some u ∧ RelV (.int i) u
    | none => r = none
theorem s_dget {nm : Str} {kvs : List (Str × Int)} (D : DgF X nm kvs) {a : E} {x : Expr} {np ap cp : Pos} (hg : Gl X nm) (hd : (nm == ("__debug__" : Str)) = false) (hs : isStar x = false) (hl : (ap.endLine == cp.line) = true) (ha : PE X x (tE G a.pure (ev a))) :
    PE X (.Call (.Attribute (.Name nm np) "get" ap) [x] [] cp) (tE G (E.dget nm kvs a).pure (ev (.dget nm kvs a))) := by
  obtain ⟨d, es, n, h1, D1, h2⟩ := D.ex
  refine ⟨fun pins s σ H Q I h => ?_⟩
  have hb : attributeBase (.Name nm np) "get" X.env (eval (.Name nm np) X.env) = eval (.Name nm np) X.env := ab_ok rfl _ _
  have ht : backTo cp (starEach [x] X.env) = [(false, eval x X.env)] := by rw [star_cons hs]; rfl
  refine wpAny_Call_method hb (by rw [ht]; rfl) hl PySem.F.plainAttrs_dict PySem.F.slot_dict_get PySem.F.type_dict_get (thn ((pe_glob (v := .ref d) hg h1 rfl hd).run pins s σ H (fun v H1 => v = .ref d ∧ tE G a.pure (ev a) σ H1 fun w H2 => ∃ (z : Str) (y : V), w = .str z ∧ (match kvs.lookup z with | some i => y = .int i | none => y = .non) ∧ Q y H2) I ⟨rfl, ?_⟩) fun u s1 ⟨x1, H1, I1, rx, q1⟩ => ?_)
  · obtain ⟨env, F, fs, g, q⟩ := h
    have q : Pst G a.pure σ F H fs ((ev a env).bind fun (x, env) => (ofO (dgetD kvs x.2)).bind fun d => .ok ((0, d), env)) _ := q
    refine ⟨env, F, fs, g, q.bind (p2 := true) (fun z => ⟨z, rfl⟩) fun x env1 F1 H1 fs1 _ g1 s1 t1 q1 v rv => ?_⟩
    obtain ⟨d', e, q1⟩ := ofO_inv q1
    obtain ⟨k, dd⟩ := x
    cases dd with
    | str z =>
      cases hz : kvs.lookup z with
      | some i =>
        simp only [dgetD, hz] at e
        cases e
        exact ⟨z, _, RW.str rv, by rw [hz], q1.done g1 _ Rep.int⟩
      | none =>
        simp only [dgetD, hz] at e
        cases e
        exact ⟨z, _, RW.str rv, by rw [hz], q1.done g1 _ (by simp [RW, Rep])⟩
    | _ => simp [dgetD] at e
  · obtain ⟨rfl, q1⟩ := q1
    cases (show u = Value.ref d from rx)
    have hm := PySem.W.mapOf_K (prog := X.prog) (w := X.w) I1.kIn D1.at_ D1.lit
    refine ⟨hm.typeIs, fun b e => ?_, ?_⟩
    · cases e
      exact ⟨_, I1.kIn _ _ D1.at_, rfl⟩
    · rw [ht]
      refine Calls.callWith_builtin rfl (Calls.evalArgs_plain (Calls.spliced_cons (thn (ha.run pins s1 σ H1 _ I1 q1) fun iv s2 ⟨y, H2, I2, ry, z, y', ez, hz, q2⟩ => Calls.spliced_nil ?_)))
      subst ez
      obtain ⟨t, rfl⟩ := (show ∃ t, iv = Value.str z t from ry)
      have hm2 := PySem.W.mapOf_K (prog := X.prog) (w := X.w) I2.kIn D1.at_ D1.lit
      obtain ⟨r, hr, hk⟩ := h2 z
      refine call_meetsIn PySem.F.slot_dict_get hm2.typeIs PySem.F.entry_dict_get (PySem.F.args_dict_get_2 _ _) (meets_dict_get (strKind X.prog X.w) d (PySem.strKind_is X.prog X.w z t) D1.low) ⟨_, hm2, ?_⟩
      rw [PySem.W.find_K D1.at_ hr]
      refine ⟨y', H2, I2.tok _, ?_, q2⟩
      cases hl : kvs.lookup z with
      | some i =>
        rw [hl] at hk hz
        obtain ⟨u, rfl, ru⟩ := hk
        rw [hz]; exact ru
      | none =>
        rw [hl] at hk hz
        rw [hk, hz]; rfl
end
end DL

-- part DLj
set_option Elab.async false
set_option linter.all false
set_option maxRecDepth 100000
/-! DL, part j: the check of expressions, as a whole. -/
namespace DL
open PySem PySem.Spec PyProof.Rows L2

/-- what the code of a def leans on -/
inductive Fact where
  | is (c : Nat) (nm : Str) | gc (nm : Str) (d : D) | dg (nm : Str) (kvs : List (Str × Int)) | gl (f : FnD) | mt (c : Nat) (f : FnD) | pr (c : Nat) (f : FnD) | ln (c : Nat) (f : FnD) | ad (c : Nat) (f : FnD) | eq (c : Nat) (f : FnD) | fd (c : Nat) (x : Str) | mk (c : Nat) (f : FnD) | gk (f : FnD) (ks : List Str) (pm : List Nat) | mtk (c : Nat) (f : FnD) (ks : List Str) (pm : List Nat) | mkk (c : Nat) (f : FnD) (ks : List Str) (pm : List Nat)
structure GlF (CXv : CXT) (X : Cx) (M : Mo) (lv : Nat) (f : FnD) : Prop where
  ex : ∃ fa, FnF CXv X M lv f fa ∧ X.mg f.name = some (.ref fa) ∧ PySem.W.keepIn X.K (.ref fa) = true
def FactOk (CXv : CXT) (X : Cx) (M : Mo) (lv : Nat) : Fact → Prop
  | .is c nm => IsF X M c nm
  | .gc nm d => GcF X nm d
  | .dg nm kvs => DgF X nm kvs
  | .gl f => GlF CXv X M lv f
  | .mt c f => MtF CXv X M lv c f
  | .pr c f => PrF CXv X M lv c f
  | .ln c f => LnF CXv X M lv c f
  | .ad c f => AdF CXv X M lv c f
  | .eq c f => EqF CXv X M lv c f
  | .fd c x => FdF X M c x
  | .mk c f => MkF CXv X M lv c f
  | .gk f ks pm => GkF CXv X M lv f ks pm
  | .mtk c f ks pm => MtkF CXv X M lv c f ks pm
  | .mkk c f ks pm => MkkF CXv X M lv c f ks pm
def E.needs : E → List Fact
  | .nil => []
  | .cons a b => a.needs ++ b.needs
  | .name _ => []
  | .lit _ => []
  | .bin _ a b => a.needs ++ b.needs
  | .neg a => a.needs
  | .cmp _ a b => a.needs ++ b.needs
  | .chn _ _ a b c => a.needs ++ (b.needs ++ c.needs)
  | .andv a b => a.needs ++ b.needs
  | .orv a b => a.needs ++ b.needs
  | .notv a => a.needs
  | .ife t a b => t.needs ++ (a.needs ++ b.needs)
  | .tup es => es.needs
  | .lst es => es.needs
  | .idx a b => a.needs ++ b.needs
  | .slc a lo hi => a.needs ++ (lo.needs ++ hi.needs)
  | .app f es => .gl f :: es.needs
  | .ioa _ => []
  | .wka _ => []
  | .blt _ es => es.needs
  | .fld c f a => .fd c f :: a.needs
  | .prp c f a => .pr c f :: a.needs
  | .mth c f o es => .mt c f :: (o.needs ++ es.needs)
  | .lno c f a => .ln c f :: a.needs
  | .addo c f a b => .ad c f :: (a.needs ++ b.needs)
  | .eqo c f a b => .eq c f :: (a.needs ++ b.needs)
  | .mk c f es => .mk c f :: es.needs
  | .isi c nm a => .is c nm :: a.needs
  | .lrg a b => a.needs ++ b.needs
  | .star a => a.needs
  | .apps f a => .gl f :: a.needs
  | .dget nm kvs a => .dg nm kvs :: a.needs
  | .glc nm d => [.gc nm d]
  | .appk f ks pm es => .gk f ks pm :: es.needs
  | .mthk c f ks pm o es => .mtk c f ks pm :: (o.needs ++ es.needs)
  | .mkk c f ks pm es => .mkk c f ks pm :: es.needs
  | .comp _ it t e => it.needs ++ (t.needs ++ e.needs)
  | .ilst e => e.needs
  | .iscr e => e.needs
  | .itup e => e.needs
  | .irg1 a => a.needs
  | .irg2 a b => a.needs ++ b.needs
  | .irg3 a b c => a.needs ++ (b.needs ++ c.needs)
  | .ienum e => e.needs
  | .izip a b => a.needs ++ b.needs

/-! ### the check -/
def dbg (x : Str) : Bool := !(x == ("__debug__" : Str))
def nmB (N : List Str) (sc : Scope) (i : Nat) : Expr → Bool
  | .Name x _ => decide (N[i]? = some x) && (decide (sc.names.lookup x = some .local) || decide (sc.names.lookup x = some .cell) || decide (sc.names.lookup x = some .free)) && dbg x && !(x == ("__classdict__" : Str))
  | _ => false
def glB (sc : Scope) (x : Str) : Bool := decide (sc.names.lookup x = some .globalImplicit) && dbg x
def noStars (xs : List Expr) : Bool := xs.all fun e => !isStar e
def isNilE : E → Bool
  | .nil => true
  | _ => false
def isSl : Expr → Bool
  | .Slice _ _ _ _ => true
  | _ => false
def ownOf (N : List Str) : List Nat → List (Str × Nat)
  | [] => []
  | i :: is => match N[i]? with
    | some x => (x, i) :: ownOf N is
    | none => ownOf N is
def notSet : Expr → Bool
  | .Set _ _ _ => false
  | _ => true
mutual
/-- t: as a test -/
def chk (N : List Str) : Bool → Scope → E → Expr → Bool
  | t, sc, .name i, x => nmB N sc i x
  | t, sc, .lit d, .Constant c _ _ => !t && litB d c
  | t, sc, .bin op a b, .BinOp x o y _ => !t && decide (o = op.py) && chk N false sc a x && chk N false sc b y
  | t, sc, .neg a, .UnaryOp .USub x _ => !t && chk N false sc a x
  | t, sc, .cmp op a b, .Compare x [o] [y] _ => decide (o = op.py) && !behindInMarks o y && chk N false sc a x && chk N false sc b y
  | t, sc, .chn op op' a b c, .Compare x [o, o'] [y, z] _ => decide (o = op.py) && decide (o' = op'.py) && !lastMarks [o, o'] [y, z] && chk N false sc a x && chk N false sc b y && chk N false sc c z
  | t, sc, .andv a b, .BoolOp .And (x :: y :: rest) p => chk N t sc a x && (match rest with | [] => chk N t sc b y | _ => chk N t sc b (.BoolOp .And (y :: rest) p))
  | t, sc, .orv a b, .BoolOp .Or (x :: y :: rest) p => chk N t sc a x && (match rest with | [] => chk N t sc b y | _ => chk N t sc b (.BoolOp .Or (y :: rest) p))
  | t, sc, .notv a, .UnaryOp .Not x _ => chk N t sc a x
  | t, sc, .ife u a b, .IfExp c x y _ => !t && chk N true sc u c && chk N false sc a x && chk N false sc b y
  | t, sc, .tup es, .Tuple xs _ _ => !t && chks N sc es xs
  | t, sc, .lst es, .List xs _ => !t && chks N sc es xs
  | t, sc, .idx a b, .Subscript x y _ => !isSl y && chk N false sc a x && chk N false sc b y
  | t, sc, .slc a lo hi, .Subscript x (.Slice l h none _) _ => !t && chk N false sc a x && (match l with | none => isNilE lo | some l => !isNilE lo && chk N false sc lo l) && (match h with | none => isNilE hi | some h => !isNilE hi && chk N false sc hi h)
  | t, sc, .app f es, .Call (.Name g _) (x :: xs) [] _ => decide (g = f.name) && glB sc g && noStars (x :: xs) && chks N sc es (x :: xs)
  | t, sc, .blt b es, .Call (.Name g _) (x :: xs) [] _ => decide (g = (b.nm : Str)) && glB sc g && noStars (x :: xs) && chks N sc es (x :: xs)
  | t, sc, .fld c f a, .Attribute x g _ => decide (g = f) && noCall x && chk N false sc a x
  | t, sc, .prp c f a, .Attribute x g _ => decide (g = f.name) && noCall x && chk N false sc a x
  | t, sc, .mth c f o es, .Call (.Attribute y g ap) xs [] p => decide (g = f.name) && noCall y && noStars xs && decide (xs.length < 30) && (ap.endLine == p.line) && chk N false sc o y && chks N sc es xs
  | t, sc, .lno c f a, .Call (.Name g _) [x] [] _ => decide (g = ("len" : Str)) && glB sc g && !isStar x && chk N false sc a x
  | t, sc, .addo c f a b, .BinOp x .Add y _ => !t && chk N false sc a x && chk N false sc b y
  | t, sc, .eqo c f a b, .Compare x [.Eq] [y] _ => chk N false sc a x && chk N false sc b y
  | t, sc, .mk c f es, .Call (.Name g _) (x :: xs) [] _ => decide (g = f.name) && glB sc g && noStars (x :: xs) && chks N sc es (x :: xs)
  | t, sc, .isi c nm a, .Call (.Name g _) [x, .Name h _] [] _ => decide (g = ("isinstance" : Str)) && glB sc g && decide (h = nm) && glB sc h && !isStar x && chk N false sc a x
  | t, sc, .lrg a b, .Call (.Name g _) [.Call (.Name h _) [x, y] [] _] [] _ => decide (g = ("list" : Str)) && glB sc g && decide (h = ("range" : Str)) && glB sc h && !isStar x && !isStar y && chk N false sc a x && chk N false sc b y
  | t, sc, .apps f a, .Call (.Name g _) [.Starred x _] [] _ => decide (g = f.name) && glB sc g && chk N false sc a x
  | t, sc, .dget nm kvs a, .Call (.Attribute (.Name g _) m ap) [x] [] p => decide (g = nm) && glB sc g && decide (m = ("get" : Str)) && !isStar x && (ap.endLine == p.line) && chk N false sc a x
  | t, sc, .star a, x => !t && chk N false sc a x
  | t, sc, .glc nm d, .Name g _ => !t && decide (g = nm) && glB sc g
  | t, sc, .appk f ks pm es, .Call (.Name g _) [] kws _ => decide (g = f.name) && glB sc g && kwB ks kws && chkk N sc es kws
  | t, sc, .mthk c f ks pm o es, .Call (.Attribute y g ap) [] kws p => decide (g = f.name) && noCall y && kwB ks kws && decide (kws.length < 29) && (ap.endLine == p.line) && chk N false sc o y && chkk N sc es kws
  | t, sc, .mkk c f ks pm es, .Call (.Name g _) [] kws _ => decide (g = f.name) && glB sc g && kwB ks kws && chkk N sc es kws
  | t, sc, .comp tg it u e, .ListComp elt [⟨tgt, iter, ifs, asy⟩] scope _ => !t && decide (asy = 0) && notSet iter && chkI N sc it tgt iter && blkC N sc scope (ownOf N tg) && decide ((ownOf N tg).map (·.2) = tg) && tgtB (fun x => scope.names.lookup x == some .cell) N (relS scope sc) tg tgt &&
      (match ifs with | [] => isNilE u | [c] => !isNilE u && chk N true (relS scope sc) u c | _ => false) && chk N false (relS scope sc) e elt
  | _, _, _, _ => false
def chks (N : List Str) : Scope → E → List Expr → Bool
  | sc, .nil, [] => true
  | sc, .cons (.ioa i) es, x :: xs => nmB N sc i x && chks N sc es xs
  | sc, .cons (.wka i) es, x :: xs => nmB N sc i x && chks N sc es xs
  | sc, .cons (.star a) es, .Starred x _ :: xs => chk N false sc (.star a) x && chks N sc es xs
  | sc, .cons (.star _) es, _ => false
  | sc, .cons a es, x :: xs => !isStar x && chk N false sc a x && chks N sc es xs
  | _, _, _ => false
def chkk (N : List Str) : Scope → E → List Keyword → Bool
  | sc, .nil, [] => true
  | sc, .cons (.ioa i) es, ⟨_, x, _⟩ :: xs => nmB N sc i x && chkk N sc es xs
  | sc, .cons (.wka i) es, ⟨_, x, _⟩ :: xs => nmB N sc i x && chkk N sc es xs
  | sc, .cons (.star _) es, _ => false
  | sc, .cons a es, ⟨_, x, _⟩ :: xs => chk N false sc a x && chkk N sc es xs
  | _, _, _ => false
def chkI (N : List Str) : Scope → E → Expr → Expr → Bool
  | sc, .ilst e, _, x => chk N false sc e x
  | sc, .iscr e, _, x => chk N false sc e x
  | sc, .itup e, _, x => chk N false sc e x
  | sc, .irg1 a, _, .Call (.Name g _) [x] [] _ => decide (g = ("range" : Str)) && glB sc g && !isStar x && chk N false sc a x
  | sc, .irg2 a b, _, .Call (.Name g _) [x, y] [] _ => decide (g = ("range" : Str)) && glB sc g && !isStar x && !isStar y && chk N false sc a x && chk N false sc b y
  | sc, .irg3 a b c, _, .Call (.Name g _) [x, y, z] [] _ => decide (g = ("range" : Str)) && glB sc g && !isStar x && !isStar y && !isStar z && chk N false sc a x && chk N false sc b y && chk N false sc c z
  | sc, .ienum a, .Tuple _ _ _, .Call (.Name g _) [x] [] _ => decide (g = ("enumerate" : Str)) && glB sc g && !isStar x && chk N false sc a x
  | sc, .izip a b, .Tuple _ _ _, .Call (.Name g _) [x, y] [] _ => decide (g = ("zip" : Str)) && glB sc g && !isStar x && !isStar y && chk N false sc a x && chk N false sc b y
  | _, _, _, _ => false
end
end DL

-- part DLk
set_option Elab.async false
set_option linter.all false
set_option maxRecDepth 100000
set_option maxHeartbeats 1000000
/-! DL, part k: the check of expressions is sound. -/
namespace DL
open PySem PySem.Spec PyProof.Rows L2

abbrev Facts (CXv : CXT) (X : Cx) (M : Mo) (lv : Nat) (l : List Fact) : Prop := ∀ f ∈ l, FactOk CXv X M lv f
structure SE (N : List Str) (e : E) : Prop where
  v : ∀ {CXv : CXT} {X : Cx} {G : Fr} {sc : Scope} {lv : Nat} {x : Expr}, CO CXv X G N sc lv → Facts CXv X G.M lv e.needs → chk N false sc e x = true → PE X x (tE G e.pure (ev e))
  t : ∀ {CXv : CXT} {X : Cx} {G : Fr} {sc : Scope} {lv : Nat} {x : Expr}, CO CXv X G N sc lv → Facts CXv X G.M lv e.needs → chk N true sc e x = true → PT X x (tT G e.pure (evT e))
  w : ∀ {CXv : CXT} {X : Cx} {G : Fr} {sc : Scope} {lv : Nat} {op : BoolOp} {xs : List Expr} {p : Pos}, CO CXv X G N sc lv → Facts CXv X G.M lv e.needs → chk N true sc e (.BoolOp op xs p) = true → PW X (.BoolOp op xs p) (tT G e.pure (evT e))
  a : ∀ {CXv : CXT} {X : Cx} {G : Fr} {sc : Scope} {lv : Nat} {xs : List Expr}, CO CXv X G N sc lv → Facts CXv X G.M lv e.needs → chks N sc e xs = true → PA X xs (tA G e.pure (evs e))
  i : ∀ {CXv : CXT} {X : Cx} {G : Fr} {sc : Scope} {lv : Nat} {tg x : Expr}, CO CXv X G N sc lv → Facts CXv X G.M lv e.needs → chkI N sc e tg x = true → PI X tg x (tI G e.pure (evi e))
  l : ∀ {CXv : CXT} {X : Cx} {G : Fr} {sc : Scope} {lv : Nat} {x : Expr}, CO CXv X G N sc lv → Facts CXv X G.M lv e.needs → ownL e = true → chk N false sc e x = true → PE X x (tL G e.pure (ev e))
  k : ∀ {CXv : CXT} {X : Cx} {G : Fr} {sc : Scope} {lv : Nat} {kws : List Keyword}, CO CXv X G N sc lv → Facts CXv X G.M lv e.needs → chkk N sc e kws = true → PK X kws (tA G e.pure (evs e)) := by
    intro _ _ _ _ _ kws _ _ h
    cases kws with
    | nil => exact absurd (show false = true from h) Bool.false_ne_true
    | cons k ks => exact absurd (show false = true from h) Bool.false_ne_true
section
variable {CXv : CXT} {X : Cx} {G : Fr} {N : List Str} {sc : Scope} {lv : Nat}
theorem factOk_blk {M : Mo} {s : Shared} {H : Hp} {scope : Scope} {cenv : PySem.Env} {fp : List Addr} {f : Fact} (h : FactOk CXv X M lv f) : FactOk CXv (X.blk s H scope cenv fp) M lv f := by
  cases f with
  | is c x => exact ⟨h.ex⟩
  | gl f => exact ⟨h.ex⟩
  | mt c f => exact ⟨h.ex⟩
  | pr c f => exact ⟨h.ex⟩
  | ln c f => exact ⟨h.ex⟩
  | ad c f => exact ⟨h.ex⟩
  | eq c f => exact ⟨h.ex⟩
  | fd c x => exact h
  | mk c f => exact ⟨h.ex⟩
  | gk f ks pm => exact ⟨h.ex⟩
  | mtk c f ks pm => exact ⟨h.ex⟩
  | mkk c f ks pm => exact ⟨h.ex⟩
  | gc nm d => exact ⟨h.ex⟩
  | dg nm kvs => exact ⟨h.ex⟩
theorem CO.blk (c : CO CXv X G N sc lv) (s : Shared) (H : Hp) (scope : Scope) (C : Addr) (cl : List (Str × Addr)) (fp : List Addr) : CO CXv (X.blk s H scope (compEnvC scope cl C X.env) fp) { G with E := E0 } N (relS scope sc) lv :=
  ⟨c.K, c.calm, c.hN, by
    have e := c.sc
    show relabel scope X.env = relS scope sc
    rw [← e]; rfl, c.nd, c.room, c.nb, c.nr, c.ne, c.nz, c.pass0 _, c.pass0⟩
theorem nmB_inv {i : Nat} {x : Expr} (c : CO CXv X G N sc lv) (h : nmB N sc i x = true) : ∃ n p, x = .Name n p ∧ X.N[i]? = some n ∧ Vis X.env.scope n ∧ (n == ("__debug__" : Str)) = false ∧ (n == ("__classdict__" : Str)) = false := by
  cases x with
  | Name n p =>
    simp only [nmB, dbg, Bool.and_eq_true, Bool.or_eq_true, decide_eq_true_eq, Bool.not_eq_true'] at h
    obtain ⟨⟨⟨h1, h2⟩, h3⟩, h4⟩ := h
    refine ⟨n, p, rfl, by rw [c.hN]; exact h1, ?_, h3, h4⟩
    rw [c.sc]
    rcases h2 with (h2 | h2) | h2
    · exact .inl h2
    · exact .inr (.inl h2)
    · exact .inr (.inr h2)
  | _ => simp [nmB] at h
theorem glB_inv {x : Str} (c : CO CXv X G N sc lv) (h : glB sc x = true) : Gl X x ∧ (x == ("__debug__" : Str)) = false := by
  simp only [glB, dbg, Bool.and_eq_true, decide_eq_true_eq, Bool.not_eq_true'] at h
  refine ⟨?_, h.2⟩
  show X.env.kindOf x = _
  unfold Env.kindOf
  rw [c.sc]; exact h.1
theorem plainIx_of {y : Expr} (h : isSl y = false) : PlainIx y := by
  intro o i
  cases y <;> first | rfl | (simp [isSl] at h)
theorem set_iter {x : Expr} (h : notSet x = true) (env : PySem.Env) : ∀ v, foldedSetIterable x env v = pure v := by
  intro v
  cases x <;> first | rfl | (simp [notSet] at h)
theorem ff_true {p : Prop} (h : false = true) : p := nomatch h
theorem fact_l {a b : List Fact} {M : Mo} (h : Facts CXv X M lv (a ++ b)) : Facts CXv X M lv a := fun f hf => h f (List.mem_append_left _ hf)
theorem fact_r {a b : List Fact} {M : Mo} (h : Facts CXv X M lv (a ++ b)) : Facts CXv X M lv b := fun f hf => h f (List.mem_append_right _ hf)
theorem fact_t {a : Fact} {b : List Fact} {M : Mo} (h : Facts CXv X M lv (a :: b)) : Facts CXv X M lv b := fun f hf => h f (List.mem_cons_of_mem _ hf)
theorem fact_h {a : Fact} {b : List Fact} {M : Mo} (h : Facts CXv X M lv (a :: b)) : FactOk CXv X M lv a := h a List.mem_cons_self
/-- an expression by its value alone -/
theorem SE.val {e : E} (ha : ∀ sc xs, chks N sc e xs = false) (hi : ∀ sc tg x, chkI N sc e tg x = false) (ho : ownL e = false) (hp : ∀ sc x, chk N true sc e x = true → chk N false sc e x = true ∧ plainT x = true)
    (v : ∀ {CXv : CXT} {X : Cx} {G : Fr} {sc : Scope} {lv : Nat} {x : Expr}, CO CXv X G N sc lv → Facts CXv X G.M lv e.needs → chk N false sc e x = true → PE X x (tE G e.pure (ev e))) (hk : ∀ sc kws, chkk N sc e kws = false := by intro _ kws; cases kws <;> rfl) : SE N e where
  v := v
  t := fun c f h => s_valT (hp _ _ h).2 (v c f (hp _ _ h).1)
  w := fun c f h => by
    have := (hp _ _ h).2
    simp [plainT] at this
  a := fun c f h => (by rw [ha] at h; cases h)
  i := fun c f h => (by rw [hi] at h; cases h)
  l := fun c f o h => (by rw [ho] at o; cases o)
  k := fun c f h => (by rw [hk] at h; cases h)
/-- .. that may be a new list -/
theorem SE.own {e : E} (ha : ∀ sc xs, chks N sc e xs = false) (hi : ∀ sc tg x, chkI N sc e tg x = false) (hp : ∀ sc x, chk N true sc e x = true → chk N false sc e x = true ∧ plainT x = true)
    (v : ∀ {CXv : CXT} {X : Cx} {G : Fr} {sc : Scope} {lv : Nat} {x : Expr}, CO CXv X G N sc lv → Facts CXv X G.M lv e.needs → chk N false sc e x = true → PE X x (tN G e.pure (ev e))) (hk : ∀ sc kws, chkk N sc e kws = false := by intro _ kws; cases kws <;> rfl) : SE N e := by
  have v' : ∀ {CXv : CXT} {X : Cx} {G : Fr} {sc : Scope} {lv : Nat} {x : Expr}, CO CXv X G N sc lv → Facts CXv X G.M lv e.needs → chk N false sc e x = true → PE X x (tE G e.pure (ev e)) := fun c f h => pe_imp (v c f h) fun σ H Q q => tE_N q
  refine ⟨v', fun c f h => s_valT (hp _ _ h).2 (v' c f (hp _ _ h).1), fun c f h => ?_, fun c f h => (by rw [ha] at h; cases h), fun c f h => (by rw [hi] at h; cases h), fun c f o h => pe_imp (v c f h) fun σ H Q q => tL_N q, fun c f h => (by rw [hk] at h; cases h)⟩
  have := (hp _ _ h).2
  simp [plainT] at this
/-- .. whose new list may come by another road -/
theorem SE.cho {e : E} (ha : ∀ sc xs, chks N sc e xs = false) (hi : ∀ sc tg x, chkI N sc e tg x = false) (hp : ∀ sc x, chk N true sc e x = true → chk N false sc e x = true ∧ plainT x = true)
    (v : ∀ {CXv : CXT} {X : Cx} {G : Fr} {sc : Scope} {lv : Nat} {x : Expr}, CO CXv X G N sc lv → Facts CXv X G.M lv e.needs → chk N false sc e x = true → PE X x (tE G e.pure (ev e)))
    (l : ∀ {CXv : CXT} {X : Cx} {G : Fr} {sc : Scope} {lv : Nat} {x : Expr}, CO CXv X G N sc lv → Facts CXv X G.M lv e.needs → ownL e = true → chk N false sc e x = true → PE X x (tL G e.pure (ev e))) (hk : ∀ sc kws, chkk N sc e kws = false := by intro _ kws; cases kws <;> rfl) : SE N e := by
  refine ⟨v, fun c f h => s_valT (hp _ _ h).2 (v c f (hp _ _ h).1), fun c f h => ?_, fun c f h => (by rw [ha] at h; cases h), fun c f h => (by rw [hi] at h; cases h), l, fun c f h => (by rw [hk] at h; cases h)⟩
  have := (hp _ _ h).2
  simp [plainT] at this
/-- what a loop goes through -/
theorem SE.itr {e : E} (ha : ∀ sc xs, chks N sc e xs = false) (hv : ∀ t sc x, chk N t sc e x = false) (ho : ownL e = false)
    (i : ∀ {CXv : CXT} {X : Cx} {G : Fr} {sc : Scope} {lv : Nat} {tg x : Expr}, CO CXv X G N sc lv → Facts CXv X G.M lv e.needs → chkI N sc e tg x = true → PI X tg x (tI G e.pure (evi e))) (hk : ∀ sc kws, chkk N sc e kws = false := by intro _ kws; cases kws <;> rfl) : SE N e :=
  ⟨fun c f h => (by rw [hv] at h; cases h), fun c f h => (by rw [hv] at h; cases h), fun c f h => (by rw [hv] at h; cases h), fun c f h => (by rw [ha] at h; cases h), i, fun c f o h => (by rw [ho] at o; cases o), fun c f h => (by rw [hk] at h; cases h)⟩
end
theorem tst_nil {G : Fr} : ∀ σ H Q, tT G E.nil.pure (tstOf .nil (ev .nil)) σ H Q → tYes σ H Q := fun σ H Q ⟨env, F, fs, g, q⟩ => q.done g
theorem tst_evT {u : E} (h : isNilE u = false) : tstOf u (ev u) = evT u := by
  cases u <;> first | rfl | (simp [isNilE] at h)
/-- and, or: a chain -/
def boolW (N : List Str) (e : E) : Prop := ∀ {CXv : CXT} {X : Cx} {G : Fr} {sc : Scope} {lv : Nat} {op : BoolOp} {xs : List Expr} {p : Pos}, CO CXv X G N sc lv → Facts CXv X G.M lv e.needs → chk N true sc e (.BoolOp op xs p) = true → PW X (.BoolOp op xs p) (tT G e.pure (evT e))
theorem sound (N : List Str) : ∀ e : E, SE N e := by
  intro e
  induction e with
  | nil =>
    refine ⟨fun c f h => ?_, fun c f h => ?_, fun c f h => ?_, fun {_ _ _ _ _ xs} c f h => ?_, fun c f h => ?_, fun c f h => ?_, fun {_ _ _ _ _ xs} c f h => (by
      cases xs with
      | nil => exact s_knil
      | cons x xs => exact absurd (show false = true from h) Bool.false_ne_true)⟩
    · simp [chk] at h
    · simp [chk] at h
    · simp [chk] at h
    · cases xs with
      | nil => exact s_anil
      | cons x xs => simp [chks] at h
    · simp [chkI] at h
    · simp [ownL] at h
  | cons a b iha ihb =>
    have kk : ∀ {CXv : CXT} {X : Cx} {G : Fr} {sc : Scope} {lv : Nat} {kws : List Keyword}, CO CXv X G N sc lv → Facts CXv X G.M lv (E.cons a b).needs → chkk N sc (.cons a b) kws = true → PK X kws (tA G (E.cons a b).pure (evs (.cons a b))) := by
      intro CXv X G sc lv xs c f h
      cases xs with
      | nil => cases a <;> exact absurd (show false = true from h) Bool.false_ne_true
      | cons kw xs =>
        obtain ⟨nm, x, kp⟩ := kw
        by_cases h1 : ∃ i, a = .ioa i
        · obtain ⟨i, rfl⟩ := h1
          have h := Bool.and_eq_true_iff.mp (show (nmB N sc i x && chkk N sc b xs) = true from h)
          obtain ⟨n, p, rfl, a1, a2, a3, a4⟩ := nmB_inv c h.1
          exact s_kio a1 a2 a3 a4 (ihb.k c (fact_r f) h.2)
        · by_cases h2 : ∃ i, a = .wka i
          · obtain ⟨i, rfl⟩ := h2
            have h := Bool.and_eq_true_iff.mp (show (nmB N sc i x && chkk N sc b xs) = true from h)
            obtain ⟨n, p, rfl, a1, a2, a3, a4⟩ := nmB_inv c h.1
            exact s_kwk a1 a2 a3 a4 (ihb.k c (fact_r f) h.2)
          · have h3 : ¬ ∃ a', a = .star a' := by
              rintro ⟨a', rfl⟩
              exact absurd (show false = true from h) Bool.false_ne_true
            have h : (chk N false sc a x && chkk N sc b xs) = true := by
              cases a <;> first | exact h | exact absurd ⟨_, rfl⟩ h1 | exact absurd ⟨_, rfl⟩ h2 | exact absurd ⟨_, rfl⟩ h3
            have h := Bool.and_eq_true_iff.mp h
            exact s_kcons (fun i => ⟨fun z => h1 ⟨i, z⟩, fun z => h2 ⟨i, z⟩⟩) (fun b z => h3 ⟨b, z⟩) (iha.v c (fact_l f) h.1) (ihb.k c (fact_r f) h.2)
    refine ⟨fun c f h => ?_, fun c f h => ?_, fun c f h => ?_, fun {_ _ _ sc _ xs} c f h => ?_, fun c f h => ?_, fun c f h => ?_, kk⟩
    · simp [chk] at h
    · simp [chk] at h
    · simp [chk] at h
    · cases xs with
      | nil => cases a <;> simp [chks] at h
      | cons x xs =>
        by_cases h1 : ∃ i, a = .ioa i
        · obtain ⟨i, rfl⟩ := h1
          have h := Bool.and_eq_true_iff.mp (show (nmB N sc i x && chks N sc b xs) = true from h)
          obtain ⟨n, p, rfl, a1, a2, a3, a4⟩ := nmB_inv c h.1
          exact s_aio a1 a2 a3 a4 (ihb.a c (fact_r f) h.2)
        · by_cases h2 : ∃ i, a = .wka i
          · obtain ⟨i, rfl⟩ := h2
            have h := Bool.and_eq_true_iff.mp (show (nmB N sc i x && chks N sc b xs) = true from h)
            obtain ⟨n, p, rfl, a1, a2, a3, a4⟩ := nmB_inv c h.1
            exact s_awk a1 a2 a3 a4 (ihb.a c (fact_r f) h.2)
          · by_cases h3 : ∃ a', a = .star a'
            · obtain ⟨a', rfl⟩ := h3
              cases x with
              | Starred y sp =>
                have h := Bool.and_eq_true_iff.mp (show (chk N false sc (.star a') y && chks N sc b xs) = true from h)
                exact s_astar c.K (iha.v c (fact_l f) h.1) (ihb.a c (fact_r f) h.2)
              | _ => simp [chks, chk] at h
            · have h : (!isStar x && chk N false sc a x && chks N sc b xs) = true := by
                cases a <;> first | exact h | exact absurd ⟨_, rfl⟩ h1 | exact absurd ⟨_, rfl⟩ h2 | exact absurd ⟨_, rfl⟩ h3
              simp only [Bool.and_eq_true, Bool.not_eq_true'] at h
              exact s_acons (fun i => ⟨fun z => h1 ⟨i, z⟩, fun z => h2 ⟨i, z⟩⟩) (fun b z => h3 ⟨b, z⟩) h.1.1 (iha.v c (fact_l f) h.1.2) (ihb.a c (fact_r f) h.2)
    · simp [chkI] at h
    · simp [ownL] at h
  | name i =>
    refine SE.val (fun _ xs => by cases xs <;> rfl) (fun _ _ _ => rfl) rfl (fun sc x h => ⟨h, ?_⟩) fun c f h => ?_
    · cases x <;> first | rfl | (simp [chk, nmB] at h)
    · obtain ⟨n, p, rfl, a1, a2, a3, a4⟩ := nmB_inv c h
      exact s_name a1 a2 a3 a4
  | lit d =>
    refine SE.val (fun _ xs => by cases xs <;> rfl) (fun _ _ _ => rfl) rfl (fun sc x h => ?_) fun {_ _ _ _ _ x} c f h => ?_
    · cases x <;> simp [chk] at h
    · cases x with
      | Constant k j p => exact s_lit (by simpa [chk] using h)
      | _ => simp [chk] at h
  | bin op a b iha ihb =>
    refine SE.val (fun _ xs => by cases xs <;> rfl) (fun _ _ _ => rfl) rfl (fun sc x h => ?_) fun {_ _ _ _ _ x} c f h => ?_
    · cases x <;> simp [chk] at h
    · cases x with
      | BinOp x o y p =>
        simp only [chk, Bool.not_false, Bool.true_and, Bool.and_eq_true, decide_eq_true_eq] at h
        obtain ⟨⟨rfl, h1⟩, h2⟩ := h
        exact s_bin c.K (iha.v c (fact_l f) h1) (ihb.v c (fact_r f) h2)
      | _ => simp [chk] at h
  | neg a iha =>
    refine SE.val (fun _ xs => by cases xs <;> rfl) (fun _ _ _ => rfl) rfl (fun sc x h => ?_) fun {_ _ _ _ _ x} c f h => ?_
    · cases x with
      | UnaryOp o x p => cases o <;> simp [chk] at h
      | _ => simp [chk] at h
    · cases x with
      | UnaryOp o x p =>
        cases o with
        | USub => exact s_neg (iha.v c f (by simpa [chk] using h))
        | _ => simp [chk] at h
      | _ => simp [chk] at h
  | cmp op a b iha ihb =>
    refine ⟨fun {_ _ _ _ _ x} c f h => ?_, fun {_ _ _ _ _ x} c f h => ?_, fun c f h => ?_, fun {_ _ _ _ _ xs} c f h => ?_, fun c f h => ?_, fun c f o h => ?_, fun {_ _ _ _ _ kws} c f h => (by cases kws <;> exact absurd (show false = true from h) Bool.false_ne_true)⟩
    · cases x with
      | Compare x os ys p =>
        cases os with
        | nil => simp [chk] at h
        | cons o os => cases os with
          | cons _ _ => simp [chk] at h
          | nil => cases ys with
            | nil => simp [chk] at h
            | cons y ys => cases ys with
              | cons _ _ => simp [chk] at h
              | nil =>
                simp only [chk, Bool.and_eq_true, decide_eq_true_eq, Bool.not_eq_true'] at h
                obtain ⟨⟨⟨rfl, hm⟩, h1⟩, h2⟩ := h
                exact s_cmp c.K c.hu hm (iha.v c (fact_l f) h1) (ihb.v c (fact_r f) h2)
      | _ => simp [chk] at h
    · cases x with
      | Compare x os ys p =>
        cases os with
        | nil => simp [chk] at h
        | cons o os => cases os with
          | cons _ _ => simp [chk] at h
          | nil => cases ys with
            | nil => simp [chk] at h
            | cons y ys => cases ys with
              | cons _ _ => simp [chk] at h
              | nil =>
                simp only [chk, Bool.and_eq_true, decide_eq_true_eq, Bool.not_eq_true'] at h
                obtain ⟨⟨⟨rfl, hm⟩, h1⟩, h2⟩ := h
                exact s_cmpT c.K c.hu hm (iha.v c (fact_l f) h1) (ihb.v c (fact_r f) h2)
      | _ => simp [chk] at h
    · simp [chk] at h
    · cases xs <;> simp [chks, chk] at h
    · simp [chkI] at h
    · simp [ownL] at o
  | chn op op' a b c iha ihb ihc =>
    refine ⟨fun {_ _ _ _ _ x} c f h => ?_, fun {_ _ _ _ _ x} c f h => ?_, fun {_ _ _ _ _ op xs p} c f h => ?_, fun {_ _ _ _ _ xs} c f h => ?_, fun c f h => ?_, fun c f o h => ?_, fun {_ _ _ _ _ kws} c f h => (by cases kws <;> exact absurd (show false = true from h) Bool.false_ne_true)⟩
    · cases x with
      | Compare x zx1 zx2 p =>
        cases zx1 with
        | nil => simp [chk] at h
        | cons o tzx1 =>
          cases tzx1 with
          | nil => simp [chk] at h
          | cons o' ttzx1 =>
            cases ttzx1 with
            | nil =>
              cases zx2 with
              | nil => simp [chk] at h
              | cons y tzx2 =>
                cases tzx2 with
                | nil => simp [chk] at h
                | cons z ttzx2 =>
                  cases ttzx2 with
                  | nil =>
                    simp only [chk, Bool.not_false, Bool.true_and, Bool.and_eq_true, decide_eq_true_eq, Bool.not_eq_true'] at h
                    obtain ⟨⟨⟨⟨⟨rfl, rfl⟩, hm⟩, h1⟩, h2⟩, h3⟩ := h
                    exact s_chn c.K c.hu hm (iha.v c (fact_l f) h1) (ihb.v c (fact_l (fact_r f)) h2) (ihc.v c (fact_r (fact_r f)) h3)
                  | cons _ _ => simp [chk] at h
            | cons _ _ => simp [chk] at h
      | _ => simp [chk] at h
    · cases x with
      | Compare x zx1 zx2 p =>
        cases zx1 with
        | nil => simp [chk] at h
        | cons o tzx1 =>
          cases tzx1 with
          | nil => simp [chk] at h
          | cons o' ttzx1 =>
            cases ttzx1 with
            | nil =>
              cases zx2 with
              | nil => simp [chk] at h
              | cons y tzx2 =>
                cases tzx2 with
                | nil => simp [chk] at h
                | cons z ttzx2 =>
                  cases ttzx2 with
                  | nil =>
                    simp only [chk, Bool.not_false, Bool.true_and, Bool.and_eq_true, decide_eq_true_eq, Bool.not_eq_true'] at h
                    obtain ⟨⟨⟨⟨⟨rfl, rfl⟩, hm⟩, h1⟩, h2⟩, h3⟩ := h
                    exact s_chnT c.K c.hu hm (iha.v c (fact_l f) h1) (ihb.v c (fact_l (fact_r f)) h2) (ihc.v c (fact_r (fact_r f)) h3)
                  | cons _ _ => simp [chk] at h
            | cons _ _ => simp [chk] at h
      | _ => simp [chk] at h
    · simp [chk] at h
    · cases xs <;> simp [chks, chk] at h
    · simp [chkI] at h
    · simp [ownL] at o
  | andv a b iha ihb =>
    refine ⟨fun {_ _ _ _ _ x} c f h => ?_, fun {_ _ _ _ _ x} c f h => ?_, fun {_ _ _ _ _ op xs p} c f h => ?_, fun {_ _ _ _ _ xs} c f h => ?_, fun c f h => ?_, fun c f o h => ?_, fun {_ _ _ _ _ kws} c f h => (by cases kws <;> exact absurd (show false = true from h) Bool.false_ne_true)⟩
    · cases x with
      | BoolOp zx0 zx1 p =>
        cases zx0 with
        | And  =>
          cases zx1 with
          | nil => simp [chk] at h
          | cons x tzx1 =>
            cases tzx1 with
            | nil => simp [chk] at h
            | cons y rest =>
              simp only [chk, Bool.and_eq_true] at h
              cases rest with
              | nil => exact s_and (iha.v c (fact_l f) h.1) (pe_one (ihb.v c (fact_r f) h.2))
              | cons z rest => exact s_and (iha.v c (fact_l f) h.1) (ihb.v c (fact_r f) h.2)
        | _ => simp [chk] at h
      | _ => simp [chk] at h
    · cases x with
      | BoolOp zx0 zx1 p =>
        cases zx0 with
        | And  =>
          cases zx1 with
          | nil => simp [chk] at h
          | cons x tzx1 =>
            cases tzx1 with
            | nil => simp [chk] at h
            | cons y rest =>
              simp only [chk, Bool.and_eq_true] at h
              cases rest with
              | nil => exact PW.pt (pw_andT (iha.t c (fact_l f) h.1) (pw_and1 (ihb.t c (fact_r f) h.2)))
              | cons z rest => exact PW.pt (pw_andT (iha.t c (fact_l f) h.1) (ihb.w c (fact_r f) h.2))
        | _ => simp [chk] at h
      | _ => simp [chk] at h
    · cases op with
      | And  =>
        cases xs with
        | nil => simp [chk] at h
        | cons x txs =>
          cases txs with
          | nil => simp [chk] at h
          | cons y rest =>
            simp only [chk, Bool.and_eq_true] at h
            cases rest with
            | nil => exact pw_andT (iha.t c (fact_l f) h.1) (pw_and1 (ihb.t c (fact_r f) h.2))
            | cons z rest => exact pw_andT (iha.t c (fact_l f) h.1) (ihb.w c (fact_r f) h.2)
      | _ => simp [chk] at h
    · cases xs <;> simp [chks, chk] at h
    · simp [chkI] at h
    · simp [ownL] at o
  | orv a b iha ihb =>
    refine ⟨fun {_ _ _ _ _ x} c f h => ?_, fun {_ _ _ _ _ x} c f h => ?_, fun {_ _ _ _ _ op xs p} c f h => ?_, fun {_ _ _ _ _ xs} c f h => ?_, fun c f h => ?_, fun c f o h => ?_, fun {_ _ _ _ _ kws} c f h => (by cases kws <;> exact absurd (show false = true from h) Bool.false_ne_true)⟩
    · cases x with
      | BoolOp zx0 zx1 p =>
        cases zx0 with
        | Or  =>
          cases zx1 with
          | nil => simp [chk] at h
          | cons x tzx1 =>
            cases tzx1 with
            | nil => simp [chk] at h
            | cons y rest =>
              simp only [chk, Bool.and_eq_true] at h
              cases rest with
              | nil => exact s_or (iha.v c (fact_l f) h.1) (pe_one (ihb.v c (fact_r f) h.2))
              | cons z rest => exact s_or (iha.v c (fact_l f) h.1) (ihb.v c (fact_r f) h.2)
        | _ => simp [chk] at h
      | _ => simp [chk] at h
    · cases x with
      | BoolOp zx0 zx1 p =>
        cases zx0 with
        | Or  =>
          cases zx1 with
          | nil => simp [chk] at h
          | cons x tzx1 =>
            cases tzx1 with
            | nil => simp [chk] at h
            | cons y rest =>
              simp only [chk, Bool.and_eq_true] at h
              cases rest with
              | nil => exact PW.pt (pw_orT (iha.t c (fact_l f) h.1) (pw_or1 (ihb.t c (fact_r f) h.2)))
              | cons z rest => exact PW.pt (pw_orT (iha.t c (fact_l f) h.1) (ihb.w c (fact_r f) h.2))
        | _ => simp [chk] at h
      | _ => simp [chk] at h
    · cases op with
      | Or  =>
        cases xs with
        | nil => simp [chk] at h
        | cons x txs =>
          cases txs with
          | nil => simp [chk] at h
          | cons y rest =>
            simp only [chk, Bool.and_eq_true] at h
            cases rest with
            | nil => exact pw_orT (iha.t c (fact_l f) h.1) (pw_or1 (ihb.t c (fact_r f) h.2))
            | cons z rest => exact pw_orT (iha.t c (fact_l f) h.1) (ihb.w c (fact_r f) h.2)
      | _ => simp [chk] at h
    · cases xs <;> simp [chks, chk] at h
    · simp [chkI] at h
    · simp [ownL] at o
  | notv a iha =>
    refine ⟨fun {_ _ _ _ _ x} c f h => ?_, fun {_ _ _ _ _ x} c f h => ?_, fun {_ _ _ _ _ op xs p} c f h => ?_, fun {_ _ _ _ _ xs} c f h => ?_, fun c f h => ?_, fun c f o h => ?_, fun {_ _ _ _ _ kws} c f h => (by cases kws <;> exact absurd (show false = true from h) Bool.false_ne_true)⟩
    · cases x with
      | UnaryOp zx0 x p =>
        cases zx0 with
        | Not  =>
          simp only [chk] at h
          exact s_not (iha.v c f h)
        | _ => simp [chk] at h
      | _ => simp [chk] at h
    · cases x with
      | UnaryOp zx0 x p =>
        cases zx0 with
        | Not  =>
          simp only [chk] at h
          exact s_notT (iha.t c f h)
        | _ => simp [chk] at h
      | _ => simp [chk] at h
    · simp [chk] at h
    · cases xs <;> simp [chks, chk] at h
    · simp [chkI] at h
    · simp [ownL] at o
  | ife u a b ihu iha ihb =>
    refine SE.val (fun _ xs => by cases xs <;> rfl) (fun _ _ _ => rfl) rfl (fun sc x h => ?_) (fun {CXv X G sc lv x} c f h => ?_)
    · cases x with
      | IfExp c0 x y p =>
        simp [chk] at h
      | _ => simp [chk] at h
    · cases x with
      | IfExp c0 x y p =>
        simp only [chk, Bool.not_false, Bool.true_and, Bool.and_eq_true, decide_eq_true_eq, Bool.not_eq_true'] at h
        exact s_ife (ihu.t c (fact_l f) h.1.1) (iha.v c (fact_l (fact_r f)) h.1.2) (ihb.v c (fact_r (fact_r f)) h.2)
      | _ => simp [chk] at h
  | tup es ihe =>
    refine SE.val (fun _ xs => by cases xs <;> rfl) (fun _ _ _ => rfl) rfl (fun sc x h => ?_) (fun {CXv X G sc lv x} c f h => ?_)
    · cases x with
      | Tuple xs k p =>
        simp [chk] at h
      | _ => simp [chk] at h
    · cases x with
      | Tuple xs k p =>
        simp only [chk, Bool.not_false, Bool.true_and, Bool.and_eq_true, decide_eq_true_eq, Bool.not_eq_true'] at h
        exact s_tup (ihe.a c f h)
      | _ => simp [chk] at h
  | lst es ihe =>
    refine SE.own (fun _ xs => by cases xs <;> rfl) (fun _ _ _ => rfl) (fun sc x h => ?_) (fun {CXv X G sc lv x} c f h => ?_)
    · cases x with
      | List xs p =>
        simp [chk] at h
      | _ => simp [chk] at h
    · cases x with
      | List xs p =>
        simp only [chk, Bool.not_false, Bool.true_and, Bool.and_eq_true, decide_eq_true_eq, Bool.not_eq_true'] at h
        exact n_lst (ihe.a c f h)
      | _ => simp [chk] at h
  | idx a b iha ihb =>
    refine SE.val (fun _ xs => by cases xs <;> rfl) (fun _ _ _ => rfl) rfl (fun sc x h => ⟨?_, ?_⟩) (fun {CXv X G sc lv x} c f h => ?_)
    · cases x with
      | Subscript x y p =>
        simpa [chk] using h
      | _ => simp [chk] at h
    · cases x with
      | Subscript x y p =>
        rfl
      | _ => simp [chk] at h
    · cases x with
      | Subscript x y p =>
        simp only [chk, Bool.not_false, Bool.true_and, Bool.and_eq_true, decide_eq_true_eq, Bool.not_eq_true'] at h
        exact s_idx c.K (plainIx_of h.1.1) (iha.v c (fact_l f) h.1.2) (ihb.v c (fact_r f) h.2)
      | _ => simp [chk] at h
  | slc a lo hi iha ihl ihh =>
    refine SE.own (fun _ xs => by cases xs <;> rfl) (fun _ _ _ => rfl) (fun sc x h => ?_) (fun {CXv X G sc lv x} c f h => ?_)
    · cases x with
      | Subscript x zx1 p =>
        cases zx1 with
        | Slice l hh st p2 =>
          cases st <;> simp [chk] at h
        | _ => simp [chk] at h
      | _ => simp [chk] at h
    · cases x with
      | Subscript x zx1 p =>
        cases zx1 with
        | Slice l hh st p2 =>
          cases st with
          | some _ => simp [chk] at h
          | none =>
            simp only [chk, Bool.not_false, Bool.true_and, Bool.and_eq_true] at h
            obtain ⟨⟨h1, h2⟩, h3⟩ := h
            refine n_slc c.K (iha.v c (fact_l f) h1) ?_ ?_
            · cases l with
              | none => cases lo <;> first | exact tO_nil | (simp [isNilE] at h2)
              | some l =>
                simp only [Bool.and_eq_true, Bool.not_eq_true'] at h2
                exact tO_prt (by rintro rfl; simp [isNilE] at h2) (ihl.v c (fact_l (fact_r f)) h2.2)
            · cases hh with
              | none => cases hi <;> first | exact tO_nil | (simp [isNilE] at h3)
              | some l =>
                simp only [Bool.and_eq_true, Bool.not_eq_true'] at h3
                exact tO_prt (by rintro rfl; simp [isNilE] at h3) (ihh.v c (fact_r (fact_r f)) h3.2)
        | _ => simp [chk] at h
      | _ => simp [chk] at h
  | app fd es ihe =>
    have v : ∀ {CXv : CXT} {X : Cx} {G : Fr} {sc : Scope} {lv : Nat} {x : Expr}, CO CXv X G N sc lv → Facts CXv X G.M lv (E.app fd es).needs → chk N false sc (.app fd es) x = true → PE X x (tE G (E.app fd es).pure (ev (.app fd es))) := by
      intro CXv X G sc lv x c f h
      cases x with
      | Call zx0 zx1 zx2 p =>
        cases zx0 with
        | Name g pp =>
          cases zx1 with
          | nil => simp [chk] at h
          | cons x xs =>
            cases zx2 with
            | nil =>
              simp only [chk, Bool.not_false, Bool.true_and, Bool.and_eq_true, decide_eq_true_eq, Bool.not_eq_true'] at h
              obtain ⟨⟨⟨rfl, hg⟩, hs⟩, h1⟩ := h
              obtain ⟨fa, F1, hm, hk⟩ := (fact_h f).ex
              exact s_app F1 hm hk c.room c.pass (glB_inv c hg).1 (glB_inv c hg).2 hs (ihe.a c (fact_t f) h1)
            | cons _ _ => simp [chk] at h
        | _ => simp [chk] at h
      | _ => simp [chk] at h
    have q : ∀ sc x, chk N true sc (.app fd es) x = true → chk N false sc (.app fd es) x = true ∧ plainT x = true := by
      intro sc x h
      cases x with
      | Call zx0 zx1 zx2 p =>
        cases zx0 with
        | Name g pp =>
          cases zx1 with
          | nil => simp [chk] at h
          | cons x xs =>
            cases zx2 with
            | nil =>
              exact ⟨by simpa [chk] using h, rfl⟩
            | cons _ _ => simp [chk] at h
        | _ => simp [chk] at h
      | _ => simp [chk] at h
    have s := SE.cho (fun _ xs => by cases xs <;> rfl) (fun _ _ _ => rfl) q v
    exact s fun {CXv X G sc lv x} c f o h => by
      cases x with
      | Call zx0 zx1 zx2 p =>
        cases zx0 with
        | Name g pp =>
          cases zx1 with
          | nil => simp [chk] at h
          | cons x xs =>
            cases zx2 with
            | nil =>
              simp only [chk, Bool.not_false, Bool.true_and, Bool.and_eq_true, decide_eq_true_eq, Bool.not_eq_true'] at h
              obtain ⟨⟨⟨rfl, hg⟩, hs⟩, h1⟩ := h
              obtain ⟨fa, F1, hm, hk⟩ := (fact_h f).ex
              exact l_app F1 (by simpa [ownL] using o) hm hk c.room c.pass (glB_inv c hg).1 (glB_inv c hg).2 hs (ihe.a c (fact_t f) h1)
            | cons _ _ => simp [chk] at h
        | _ => simp [chk] at h
      | _ => simp [chk] at h
  | blt b es ihe =>
    refine SE.own (fun _ xs => by cases xs <;> rfl) (fun _ _ _ => rfl) (fun sc x h => ⟨?_, ?_⟩) (fun {CXv X G sc lv x} c f h => ?_)
    · cases x with
      | Call zx0 zx1 zx2 p =>
        cases zx0 with
        | Name g pp =>
          cases zx1 with
          | nil => simp [chk] at h
          | cons x xs =>
            cases zx2 with
            | nil =>
              simpa [chk] using h
            | cons _ _ => simp [chk] at h
        | _ => simp [chk] at h
      | _ => simp [chk] at h
    · cases x with
      | Call zx0 zx1 zx2 p =>
        cases zx0 with
        | Name g pp =>
          cases zx1 with
          | nil => simp [chk] at h
          | cons x xs =>
            cases zx2 with
            | nil =>
              rfl
            | cons _ _ => simp [chk] at h
        | _ => simp [chk] at h
      | _ => simp [chk] at h
    · cases x with
      | Call zx0 zx1 zx2 p =>
        cases zx0 with
        | Name g pp =>
          cases zx1 with
          | nil => simp [chk] at h
          | cons x xs =>
            cases zx2 with
            | nil =>
              simp only [chk, Bool.not_false, Bool.true_and, Bool.and_eq_true, decide_eq_true_eq, Bool.not_eq_true'] at h
              obtain ⟨⟨⟨rfl, hg⟩, hs⟩, h1⟩ := h
              exact n_blt c.K c.calm (glB_inv c hg).1 (c.nb _) hs (ihe.a c f h1)
            | cons _ _ => simp [chk] at h
        | _ => simp [chk] at h
      | _ => simp [chk] at h
  | fld k g' a iha =>
    refine SE.val (fun _ xs => by cases xs <;> rfl) (fun _ _ _ => rfl) rfl (fun sc x h => ⟨?_, ?_⟩) (fun {CXv X G sc lv x} c f h => ?_)
    · cases x with
      | Attribute x g p =>
        simpa [chk] using h
      | _ => simp [chk] at h
    · cases x with
      | Attribute x g p =>
        rfl
      | _ => simp [chk] at h
    · cases x with
      | Attribute x g p =>
        simp only [chk, Bool.not_false, Bool.true_and, Bool.and_eq_true, decide_eq_true_eq, Bool.not_eq_true'] at h
        obtain ⟨⟨rfl, hy⟩, h1⟩ := h
        exact s_fld (fact_h f) (ab_ok hy _ _) (iha.v c (fact_t f) h1)
      | _ => simp [chk] at h
  | prp k fd a iha =>
    have v : ∀ {CXv : CXT} {X : Cx} {G : Fr} {sc : Scope} {lv : Nat} {x : Expr}, CO CXv X G N sc lv → Facts CXv X G.M lv (E.prp k fd a).needs → chk N false sc (.prp k fd a) x = true → PE X x (tE G (E.prp k fd a).pure (ev (.prp k fd a))) := by
      intro CXv X G sc lv x c f h
      cases x with
      | Attribute x g p =>
        simp only [chk, Bool.not_false, Bool.true_and, Bool.and_eq_true, decide_eq_true_eq, Bool.not_eq_true'] at h
        obtain ⟨⟨rfl, hy⟩, h1⟩ := h
        exact s_prp (fact_h f) c.room c.pass0 hy (iha.v c (fact_t f) h1)
      | _ => simp [chk] at h
    have q : ∀ sc x, chk N true sc (.prp k fd a) x = true → chk N false sc (.prp k fd a) x = true ∧ plainT x = true := by
      intro sc x h
      cases x with
      | Attribute x g p =>
        exact ⟨by simpa [chk] using h, rfl⟩
      | _ => simp [chk] at h
    have s := SE.cho (fun _ xs => by cases xs <;> rfl) (fun _ _ _ => rfl) q v
    exact s fun {CXv X G sc lv x} c f o h => by
      cases x with
      | Attribute x g p =>
        simp only [chk, Bool.not_false, Bool.true_and, Bool.and_eq_true, decide_eq_true_eq, Bool.not_eq_true'] at h
        obtain ⟨⟨rfl, hy⟩, h1⟩ := h
        exact l_prp (fact_h f) (by simpa [ownL] using o) c.room c.pass0 hy (iha.v c (fact_t f) h1)
      | _ => simp [chk] at h
  | mth k fd o es iho ihe =>
    refine SE.val (fun _ xs => by cases xs <;> rfl) (fun _ _ _ => rfl) rfl (fun sc x h => ⟨?_, ?_⟩) (fun {CXv X G sc lv x} c f h => ?_)
    · cases x with
      | Call zx0 xs zx2 p =>
        cases zx0 with
        | Attribute y g ap =>
          cases zx2 with
          | nil =>
            simpa [chk] using h
          | cons _ _ => simp [chk] at h
        | _ => simp [chk] at h
      | _ => simp [chk] at h
    · cases x with
      | Call zx0 xs zx2 p =>
        cases zx0 with
        | Attribute y g ap =>
          cases zx2 with
          | nil =>
            rfl
          | cons _ _ => simp [chk] at h
        | _ => simp [chk] at h
      | _ => simp [chk] at h
    · cases x with
      | Call zx0 xs zx2 p =>
        cases zx0 with
        | Attribute y g ap =>
          cases zx2 with
          | nil =>
            simp only [chk, Bool.not_false, Bool.true_and, Bool.and_eq_true, decide_eq_true_eq, Bool.not_eq_true'] at h
            obtain ⟨⟨⟨⟨⟨⟨rfl, hy⟩, hs⟩, hl⟩, hp⟩, h1⟩, h2⟩ := h
            cases xs with
            | cons x xs => exact s_mth (fact_h f) c.room c.pass hy hs hl hp (iho.v c (fact_l (fact_t f)) h1) (ihe.a c (fact_r (fact_t f)) h2)
            | nil =>
              have : es = .nil := by
                cases es with
                | nil => rfl
                | cons a b => cases a <;> simp [chks] at h2
                | _ => simp [chks] at h2
              subst this
              exact s_mth0 (fact_h f) c.room c.pass hy hp (iho.v c (fact_l (fact_t f)) h1)
          | cons _ _ => simp [chk] at h
        | _ => simp [chk] at h
      | _ => simp [chk] at h
  | lno k fd a iha =>
    refine SE.val (fun _ xs => by cases xs <;> rfl) (fun _ _ _ => rfl) rfl (fun sc x h => ⟨?_, ?_⟩) (fun {CXv X G sc lv x} c f h => ?_)
    · cases x with
      | Call zx0 zx1 zx2 p =>
        cases zx0 with
        | Name g pp =>
          cases zx1 with
          | nil => simp [chk] at h
          | cons x tzx1 =>
            cases tzx1 with
            | nil =>
              cases zx2 with
              | nil =>
                simpa [chk] using h
              | cons _ _ => simp [chk] at h
            | cons _ _ => simp [chk] at h
        | _ => simp [chk] at h
      | _ => simp [chk] at h
    · cases x with
      | Call zx0 zx1 zx2 p =>
        cases zx0 with
        | Name g pp =>
          cases zx1 with
          | nil => simp [chk] at h
          | cons x tzx1 =>
            cases tzx1 with
            | nil =>
              cases zx2 with
              | nil =>
                rfl
              | cons _ _ => simp [chk] at h
            | cons _ _ => simp [chk] at h
        | _ => simp [chk] at h
      | _ => simp [chk] at h
    · cases x with
      | Call zx0 zx1 zx2 p =>
        cases zx0 with
        | Name g pp =>
          cases zx1 with
          | nil => simp [chk] at h
          | cons x tzx1 =>
            cases tzx1 with
            | nil =>
              cases zx2 with
              | nil =>
                simp only [chk, Bool.not_false, Bool.true_and, Bool.and_eq_true, decide_eq_true_eq, Bool.not_eq_true'] at h
                obtain ⟨⟨⟨rfl, hg⟩, hs⟩, h1⟩ := h
                exact s_lno (fact_h f) c.room c.pass (glB_inv c hg).1 (c.nb .len) hs (iha.v c (fact_t f) h1)
              | cons _ _ => simp [chk] at h
            | cons _ _ => simp [chk] at h
        | _ => simp [chk] at h
      | _ => simp [chk] at h
  | addo k fd a b iha ihb =>
    refine SE.val (fun _ xs => by cases xs <;> rfl) (fun _ _ _ => rfl) rfl (fun sc x h => ?_) (fun {CXv X G sc lv x} c f h => ?_)
    · cases x with
      | BinOp x zx1 y p =>
        cases zx1 with
        | Add  =>
          simp [chk] at h
        | _ => simp [chk] at h
      | _ => simp [chk] at h
    · cases x with
      | BinOp x zx1 y p =>
        cases zx1 with
        | Add  =>
          simp only [chk, Bool.not_false, Bool.true_and, Bool.and_eq_true, decide_eq_true_eq, Bool.not_eq_true'] at h
          exact s_addo (fact_h f) c.room c.pass (iha.v c (fact_l (fact_t f)) h.1) (ihb.v c (fact_r (fact_t f)) h.2)
        | _ => simp [chk] at h
      | _ => simp [chk] at h
  | eqo k fd a b iha ihb =>
    refine ⟨fun {_ _ _ _ _ x} c f h => ?_, fun {_ _ _ _ _ x} c f h => ?_, fun {_ _ _ _ _ op xs p} c f h => ?_, fun {_ _ _ _ _ xs} c f h => ?_, fun c f h => ?_, fun c f o h => ?_, fun {_ _ _ _ _ kws} c f h => (by cases kws <;> exact absurd (show false = true from h) Bool.false_ne_true)⟩
    · cases x with
      | Compare x zx1 zx2 p =>
        cases zx1 with
        | nil => simp [chk] at h
        | cons ezx1 tzx1 =>
          cases ezx1 with
          | Eq  =>
            cases tzx1 with
            | nil =>
              cases zx2 with
              | nil => simp [chk] at h
              | cons y tzx2 =>
                cases tzx2 with
                | nil =>
                  simp only [chk, Bool.not_false, Bool.true_and, Bool.and_eq_true, decide_eq_true_eq, Bool.not_eq_true'] at h
                  exact s_eqo c.K (fact_h f) c.room c.pass (iha.v c (fact_l (fact_t f)) h.1) (ihb.v c (fact_r (fact_t f)) h.2)
                | cons _ _ => simp [chk] at h
            | cons _ _ => simp [chk] at h
          | _ => simp [chk] at h
      | _ => simp [chk] at h
    · cases x with
      | Compare x zx1 zx2 p =>
        cases zx1 with
        | nil => simp [chk] at h
        | cons ezx1 tzx1 =>
          cases ezx1 with
          | Eq  =>
            cases tzx1 with
            | nil =>
              cases zx2 with
              | nil => simp [chk] at h
              | cons y tzx2 =>
                cases tzx2 with
                | nil =>
                  simp only [chk, Bool.not_false, Bool.true_and, Bool.and_eq_true, decide_eq_true_eq, Bool.not_eq_true'] at h
                  exact s_eqoT c.K (fact_h f) c.room c.pass (iha.v c (fact_l (fact_t f)) h.1) (ihb.v c (fact_r (fact_t f)) h.2)
                | cons _ _ => simp [chk] at h
            | cons _ _ => simp [chk] at h
          | _ => simp [chk] at h
      | _ => simp [chk] at h
    · simp [chk] at h
    · cases xs <;> simp [chks, chk] at h
    · simp [chkI] at h
    · simp [ownL] at o
  | mk k fd es ihe =>
    refine SE.val (fun _ xs => by cases xs <;> rfl) (fun _ _ _ => rfl) rfl (fun sc x h => ⟨?_, ?_⟩) (fun {CXv X G sc lv x} c f h => ?_)
    · cases x with
      | Call zx0 zx1 zx2 p =>
        cases zx0 with
        | Name g pp =>
          cases zx1 with
          | nil => simp [chk] at h
          | cons x xs =>
            cases zx2 with
            | nil =>
              simpa [chk] using h
            | cons _ _ => simp [chk] at h
        | _ => simp [chk] at h
      | _ => simp [chk] at h
    · cases x with
      | Call zx0 zx1 zx2 p =>
        cases zx0 with
        | Name g pp =>
          cases zx1 with
          | nil => simp [chk] at h
          | cons x xs =>
            cases zx2 with
            | nil =>
              rfl
            | cons _ _ => simp [chk] at h
        | _ => simp [chk] at h
      | _ => simp [chk] at h
    · cases x with
      | Call zx0 zx1 zx2 p =>
        cases zx0 with
        | Name g pp =>
          cases zx1 with
          | nil => simp [chk] at h
          | cons x xs =>
            cases zx2 with
            | nil =>
              simp only [chk, Bool.not_false, Bool.true_and, Bool.and_eq_true, decide_eq_true_eq, Bool.not_eq_true'] at h
              obtain ⟨⟨⟨rfl, hg⟩, hs⟩, h1⟩ := h
              exact s_mk (fact_h f) c.room c.pass (glB_inv c hg).1 (glB_inv c hg).2 hs (ihe.a c (fact_t f) h1)
            | cons _ _ => simp [chk] at h
        | _ => simp [chk] at h
      | _ => simp [chk] at h
  | isi k nm a iha =>
    refine SE.val (fun _ xs => by cases xs <;> rfl) (fun _ _ _ => rfl) rfl (fun sc x h => ⟨?_, ?_⟩) (fun {CXv X G sc lv x} c f h => ?_)
    · cases x with
      | Call zx0 zx1 zx2 p =>
        cases zx0 with
        | Name g pp =>
          cases zx1 with
          | nil => simp [chk] at h
          | cons x tzx1 =>
            cases tzx1 with
            | nil => simp [chk] at h
            | cons etzx1 ttzx1 =>
              cases etzx1 with
              | Name hh hp =>
                cases ttzx1 with
                | nil =>
                  cases zx2 with
                  | nil =>
                    simpa [chk] using h
                  | cons _ _ => simp [chk] at h
                | cons _ _ => simp [chk] at h
              | _ => simp [chk] at h
        | _ => simp [chk] at h
      | _ => simp [chk] at h
    · cases x with
      | Call zx0 zx1 zx2 p =>
        cases zx0 with
        | Name g pp =>
          cases zx1 with
          | nil => simp [chk] at h
          | cons x tzx1 =>
            cases tzx1 with
            | nil => simp [chk] at h
            | cons etzx1 ttzx1 =>
              cases etzx1 with
              | Name hh hp =>
                cases ttzx1 with
                | nil =>
                  cases zx2 with
                  | nil =>
                    rfl
                  | cons _ _ => simp [chk] at h
                | cons _ _ => simp [chk] at h
              | _ => simp [chk] at h
        | _ => simp [chk] at h
      | _ => simp [chk] at h
    · cases x with
      | Call zx0 zx1 zx2 p =>
        cases zx0 with
        | Name g pp =>
          cases zx1 with
          | nil => simp [chk] at h
          | cons x tzx1 =>
            cases tzx1 with
            | nil => simp [chk] at h
            | cons etzx1 ttzx1 =>
              cases etzx1 with
              | Name hh hp =>
                cases ttzx1 with
                | nil =>
                  cases zx2 with
                  | nil =>
                    simp only [chk, Bool.not_false, Bool.true_and, Bool.and_eq_true, decide_eq_true_eq, Bool.not_eq_true'] at h
                    obtain ⟨⟨⟨⟨⟨rfl, hg⟩, rfl⟩, hgc⟩, hs⟩, h1⟩ := h
                    exact s_isi c.K (fact_h f) (glB_inv c hg).1 (glB_inv c hgc).1 (glB_inv c hgc).2 hs (iha.v c (fact_t f) h1)
                  | cons _ _ => simp [chk] at h
                | cons _ _ => simp [chk] at h
              | _ => simp [chk] at h
        | _ => simp [chk] at h
      | _ => simp [chk] at h
  | lrg a b iha ihb =>
    refine SE.own (fun _ xs => by cases xs <;> rfl) (fun _ _ _ => rfl) (fun sc x h => ⟨?_, ?_⟩) (fun {CXv X G sc lv x} c f h => ?_)
    · cases x with
      | Call zx0 zx1 zx2 p =>
        cases zx0 with
        | Name g pp =>
          cases zx1 with
          | nil => simp [chk] at h
          | cons ezx1 tzx1 =>
            cases ezx1 with
            | Call zezx10 zezx11 zezx12 p2 =>
              cases zezx10 with
              | Name hh hp =>
                cases zezx11 with
                | nil => simp [chk] at h
                | cons x tzezx11 =>
                  cases tzezx11 with
                  | nil => simp [chk] at h
                  | cons y ttzezx11 =>
                    cases ttzezx11 with
                    | nil =>
                      cases zezx12 with
                      | nil =>
                        cases tzx1 with
                        | nil =>
                          cases zx2 with
                          | nil =>
                            simpa [chk] using h
                          | cons _ _ => simp [chk] at h
                        | cons _ _ => simp [chk] at h
                      | cons _ _ => simp [chk] at h
                    | cons _ _ => simp [chk] at h
              | _ => simp [chk] at h
            | _ => simp [chk] at h
        | _ => simp [chk] at h
      | _ => simp [chk] at h
    · cases x with
      | Call zx0 zx1 zx2 p =>
        cases zx0 with
        | Name g pp =>
          cases zx1 with
          | nil => simp [chk] at h
          | cons ezx1 tzx1 =>
            cases ezx1 with
            | Call zezx10 zezx11 zezx12 p2 =>
              cases zezx10 with
              | Name hh hp =>
                cases zezx11 with
                | nil => simp [chk] at h
                | cons x tzezx11 =>
                  cases tzezx11 with
                  | nil => simp [chk] at h
                  | cons y ttzezx11 =>
                    cases ttzezx11 with
                    | nil =>
                      cases zezx12 with
                      | nil =>
                        cases tzx1 with
                        | nil =>
                          cases zx2 with
                          | nil =>
                            rfl
                          | cons _ _ => simp [chk] at h
                        | cons _ _ => simp [chk] at h
                      | cons _ _ => simp [chk] at h
                    | cons _ _ => simp [chk] at h
              | _ => simp [chk] at h
            | _ => simp [chk] at h
        | _ => simp [chk] at h
      | _ => simp [chk] at h
    · cases x with
      | Call zx0 zx1 zx2 p =>
        cases zx0 with
        | Name g pp =>
          cases zx1 with
          | nil => simp [chk] at h
          | cons ezx1 tzx1 =>
            cases ezx1 with
            | Call zezx10 zezx11 zezx12 p2 =>
              cases zezx10 with
              | Name hh hp =>
                cases zezx11 with
                | nil => simp [chk] at h
                | cons x tzezx11 =>
                  cases tzezx11 with
                  | nil => simp [chk] at h
                  | cons y ttzezx11 =>
                    cases ttzezx11 with
                    | nil =>
                      cases zezx12 with
                      | nil =>
                        cases tzx1 with
                        | nil =>
                          cases zx2 with
                          | nil =>
                            simp only [chk, Bool.not_false, Bool.true_and, Bool.and_eq_true, decide_eq_true_eq, Bool.not_eq_true'] at h
                            obtain ⟨⟨⟨⟨⟨⟨⟨rfl, hg⟩, rfl⟩, hgc⟩, hs⟩, hs2⟩, h1⟩, h2⟩ := h
                            exact n_lrg c.calm (glB_inv c hg).1 (c.nb .list) (glB_inv c hgc).1 c.nr hs hs2 (iha.v c (fact_l f) h1) (ihb.v c (fact_r f) h2)
                          | cons _ _ => simp [chk] at h
                        | cons _ _ => simp [chk] at h
                      | cons _ _ => simp [chk] at h
                    | cons _ _ => simp [chk] at h
              | _ => simp [chk] at h
            | _ => simp [chk] at h
        | _ => simp [chk] at h
      | _ => simp [chk] at h
  | apps fd a iha =>
    refine SE.val (fun _ xs => by cases xs <;> rfl) (fun _ _ _ => rfl) rfl (fun sc x h => ⟨?_, ?_⟩) (fun {CXv X G sc lv x} c f h => ?_)
    · cases x with
      | Call zx0 zx1 zx2 p =>
        cases zx0 with
        | Name g pp =>
          cases zx1 with
          | nil => simp [chk] at h
          | cons ezx1 tzx1 =>
            cases ezx1 with
            | Starred x sp =>
              cases tzx1 with
              | nil =>
                cases zx2 with
                | nil =>
                  simpa [chk] using h
                | cons _ _ => simp [chk] at h
              | cons _ _ => simp [chk] at h
            | _ => simp [chk] at h
        | _ => simp [chk] at h
      | _ => simp [chk] at h
    · cases x with
      | Call zx0 zx1 zx2 p =>
        cases zx0 with
        | Name g pp =>
          cases zx1 with
          | nil => simp [chk] at h
          | cons ezx1 tzx1 =>
            cases ezx1 with
            | Starred x sp =>
              cases tzx1 with
              | nil =>
                cases zx2 with
                | nil =>
                  rfl
                | cons _ _ => simp [chk] at h
              | cons _ _ => simp [chk] at h
            | _ => simp [chk] at h
        | _ => simp [chk] at h
      | _ => simp [chk] at h
    · cases x with
      | Call zx0 zx1 zx2 p =>
        cases zx0 with
        | Name g pp =>
          cases zx1 with
          | nil => simp [chk] at h
          | cons ezx1 tzx1 =>
            cases ezx1 with
            | Starred x sp =>
              cases tzx1 with
              | nil =>
                cases zx2 with
                | nil =>
                  simp only [chk, Bool.not_false, Bool.true_and, Bool.and_eq_true, decide_eq_true_eq, Bool.not_eq_true'] at h
                  obtain ⟨⟨rfl, hg⟩, h1⟩ := h
                  obtain ⟨fa, F1, hm, hk⟩ := (fact_h f).ex
                  exact s_apps c.K F1 hm hk c.room c.pass (glB_inv c hg).1 (glB_inv c hg).2 (iha.v c (fact_t f) h1)
                | cons _ _ => simp [chk] at h
              | cons _ _ => simp [chk] at h
            | _ => simp [chk] at h
        | _ => simp [chk] at h
      | _ => simp [chk] at h
  | dget nm kvs a iha =>
    refine SE.val (fun _ xs => by cases xs <;> rfl) (fun _ _ _ => rfl) rfl (fun sc x h => ⟨?_, ?_⟩) (fun {CXv X G sc lv x} c f h => ?_)
    · cases x with
      | Call zx0 zx1 zx2 p =>
        cases zx0 with
        | Attribute zzx00 m ap =>
          cases zzx00 with
          | Name g pp =>
            cases zx1 with
            | nil => simp [chk] at h
            | cons x tzx1 =>
              cases tzx1 with
              | nil =>
                cases zx2 with
                | nil =>
                  simpa [chk] using h
                | cons _ _ => simp [chk] at h
              | cons _ _ => simp [chk] at h
          | _ => simp [chk] at h
        | _ => simp [chk] at h
      | _ => simp [chk] at h
    · cases x with
      | Call zx0 zx1 zx2 p =>
        cases zx0 with
        | Attribute zzx00 m ap =>
          cases zzx00 with
          | Name g pp =>
            cases zx1 with
            | nil => simp [chk] at h
            | cons x tzx1 =>
              cases tzx1 with
              | nil =>
                cases zx2 with
                | nil =>
                  rfl
                | cons _ _ => simp [chk] at h
              | cons _ _ => simp [chk] at h
          | _ => simp [chk] at h
        | _ => simp [chk] at h
      | _ => simp [chk] at h
    · cases x with
      | Call zx0 zx1 zx2 p =>
        cases zx0 with
        | Attribute zzx00 m ap =>
          cases zzx00 with
          | Name g pp =>
            cases zx1 with
            | nil => simp [chk] at h
            | cons x tzx1 =>
              cases tzx1 with
              | nil =>
                cases zx2 with
                | nil =>
                  simp only [chk, Bool.not_false, Bool.true_and, Bool.and_eq_true, decide_eq_true_eq, Bool.not_eq_true'] at h
                  obtain ⟨⟨⟨⟨⟨rfl, hg⟩, rfl⟩, hs⟩, hp⟩, h1⟩ := h
                  exact s_dget (fact_h f) (glB_inv c hg).1 (glB_inv c hg).2 hs hp (iha.v c (fact_t f) h1)
                | cons _ _ => simp [chk] at h
              | cons _ _ => simp [chk] at h
          | _ => simp [chk] at h
        | _ => simp [chk] at h
      | _ => simp [chk] at h
  | glc nm d  =>
    refine SE.val (fun _ xs => by cases xs <;> rfl) (fun _ _ _ => rfl) rfl (fun sc x h => ?_) (fun {CXv X G sc lv x} c f h => ?_)
    · cases x with
      | Name g pp =>
        simp [chk] at h
      | _ => simp [chk] at h
    · cases x with
      | Name g pp =>
        simp only [chk, Bool.not_false, Bool.true_and, Bool.and_eq_true, decide_eq_true_eq, Bool.not_eq_true'] at h
        obtain ⟨rfl, hg⟩ := h
        exact s_glc (fact_h f) (glB_inv c hg).1 (glB_inv c hg).2
      | _ => simp [chk] at h
  | appk fd ks pm es ihe =>
    refine SE.val (fun _ xs => by cases xs <;> rfl) (fun _ _ _ => rfl) rfl (fun sc x h => ⟨?_, ?_⟩) (fun {CXv X G sc lv x} c f h => ?_)
    · cases x with
      | Call zx0 zx1 kws p =>
        cases zx0 with
        | Name g pp =>
          cases zx1 with
          | nil =>
            simpa [chk] using h
          | cons _ _ => simp [chk] at h
        | _ => simp [chk] at h
      | _ => simp [chk] at h
    · cases x with
      | Call zx0 zx1 kws p =>
        cases zx0 with
        | Name g pp =>
          cases zx1 with
          | nil =>
            rfl
          | cons _ _ => simp [chk] at h
        | _ => simp [chk] at h
      | _ => simp [chk] at h
    · cases x with
      | Call zx0 zx1 kws p =>
        cases zx0 with
        | Name g pp =>
          cases zx1 with
          | nil =>
            simp only [chk, Bool.not_false, Bool.true_and, Bool.and_eq_true, decide_eq_true_eq, Bool.not_eq_true'] at h
            obtain ⟨⟨⟨rfl, hg⟩, hB⟩, h1⟩ := h
            exact s_appk (fact_h f) c.room c.pass (glB_inv c hg).1 (glB_inv c hg).2 hB (ihe.k c (fact_t f) h1)
          | cons _ _ => simp [chk] at h
        | _ => simp [chk] at h
      | _ => simp [chk] at h
  | mkk k fd ks pm es ihe =>
    refine SE.val (fun _ xs => by cases xs <;> rfl) (fun _ _ _ => rfl) rfl (fun sc x h => ⟨?_, ?_⟩) (fun {CXv X G sc lv x} c f h => ?_)
    · cases x with
      | Call zx0 zx1 kws p =>
        cases zx0 with
        | Name g pp =>
          cases zx1 with
          | nil =>
            simpa [chk] using h
          | cons _ _ => simp [chk] at h
        | _ => simp [chk] at h
      | _ => simp [chk] at h
    · cases x with
      | Call zx0 zx1 kws p =>
        cases zx0 with
        | Name g pp =>
          cases zx1 with
          | nil =>
            rfl
          | cons _ _ => simp [chk] at h
        | _ => simp [chk] at h
      | _ => simp [chk] at h
    · cases x with
      | Call zx0 zx1 kws p =>
        cases zx0 with
        | Name g pp =>
          cases zx1 with
          | nil =>
            simp only [chk, Bool.not_false, Bool.true_and, Bool.and_eq_true, decide_eq_true_eq, Bool.not_eq_true'] at h
            obtain ⟨⟨⟨rfl, hg⟩, hB⟩, h1⟩ := h
            exact s_mkk (fact_h f) c.room c.pass (glB_inv c hg).1 (glB_inv c hg).2 hB (ihe.k c (fact_t f) h1)
          | cons _ _ => simp [chk] at h
        | _ => simp [chk] at h
      | _ => simp [chk] at h
  | mthk k fd ks pm o es iho ihe =>
    refine SE.val (fun _ xs => by cases xs <;> rfl) (fun _ _ _ => rfl) rfl (fun sc x h => ⟨?_, ?_⟩) (fun {CXv X G sc lv x} c f h => ?_)
    · cases x with
      | Call zx0 zx1 kws p =>
        cases zx0 with
        | Attribute y g ap =>
          cases zx1 with
          | nil =>
            simpa [chk] using h
          | cons _ _ => simp [chk] at h
        | _ => simp [chk] at h
      | _ => simp [chk] at h
    · cases x with
      | Call zx0 zx1 kws p =>
        cases zx0 with
        | Attribute y g ap =>
          cases zx1 with
          | nil =>
            rfl
          | cons _ _ => simp [chk] at h
        | _ => simp [chk] at h
      | _ => simp [chk] at h
    · cases x with
      | Call zx0 zx1 kws p =>
        cases zx0 with
        | Attribute y g ap =>
          cases zx1 with
          | nil =>
            simp only [chk, Bool.not_false, Bool.true_and, Bool.and_eq_true, decide_eq_true_eq, Bool.not_eq_true'] at h
            obtain ⟨⟨⟨⟨⟨⟨rfl, hy⟩, hB⟩, hl⟩, hp⟩, h1⟩, h2⟩ := h
            exact s_mthk (fact_h f) c.room c.pass hy hB hl hp (iho.v c (fact_l (fact_t f)) h1) (ihe.k c (fact_r (fact_t f)) h2)
          | cons _ _ => simp [chk] at h
        | _ => simp [chk] at h
      | _ => simp [chk] at h
  | comp tg it u e ihi ihu ihe =>
    refine SE.own (fun _ xs => by cases xs <;> rfl) (fun _ _ _ => rfl) (fun sc x h => ?_) (fun {CXv X G sc lv x} c f h => ?_)
    · cases x with
      | ListComp elt zx1 scope p =>
        cases zx1 with
        | nil => simp [chk] at h
        | cons ezx1 tzx1 =>
          cases ezx1 with
          | mk tgt iter ifs asy =>
            cases tzx1 with
            | nil =>
              simp [chk] at h
            | cons _ _ => simp [chk] at h
      | _ => simp [chk] at h
    · cases x with
      | ListComp elt zx1 scope p =>
        cases zx1 with
        | nil => simp [chk] at h
        | cons ezx1 tzx1 =>
          cases ezx1 with
          | mk tgt iter ifs asy =>
            cases tzx1 with
            | nil =>
              skip
              simp only [chk, Bool.not_false, Bool.true_and, Bool.and_eq_true, decide_eq_true_eq, Bool.not_eq_true'] at h
              obtain ⟨⟨⟨⟨⟨⟨⟨rfl, hn⟩, hi⟩, hb⟩, ho⟩, hg⟩, ht⟩, he⟩ := h
              refine n_comp c.calm (by rw [c.hN]; exact c.nd) (ihi.i c (fact_l f) hi) (by rw [c.hN, c.sc]; exact blkOk_by hb) ho (fun s H C cl fp => ?_) (fun s H C cl fp => ?_) (fun s H C cl fp => ?_) (set_iter hn _)
              · have cb := c.blk s H scope C cl fp
                exact pg_tgtB (X := X.blk s H scope (compEnvC scope cl C X.env) fp) c.calm cb.hN c.nd cb.sc (fun x hx => hx) hg
              · have cb := c.blk s H scope C cl fp
                have fb : Facts CXv (X.blk s H scope (compEnvC scope cl C X.env) fp) G.M _ u.needs := fun g hg => factOk_blk (fact_l (fact_r f) g hg)
                cases ifs with
                | nil =>
                  cases u with
                  | nil => exact pts_imp pts_nil tst_nil
                  | _ => simp [isNilE] at ht
                | cons c0 cs =>
                  cases cs with
                  | cons _ _ => simp at ht
                  | nil =>
                    simp only [Bool.and_eq_true, Bool.not_eq_true'] at ht
                    rw [tst_evT ht.1]
                    exact pts_one (ihu.t cb fb ht.2)
              · have cb := c.blk s H scope C cl fp
                exact ihe.v cb (fun g hg => factOk_blk (fact_r (fact_r f) g hg)) he
            | cons _ _ => simp [chk] at h
      | _ => simp [chk] at h
  | ilst e ih =>
    refine SE.itr (fun _ xs => by cases xs <;> rfl) (fun _ _ x => by cases x <;> rfl) rfl fun {_ _ _ sc _ tg x} c f h => ?_
    simp only [chkI] at h
    exact s_ilst (ih.v c f h)
  | iscr e ih =>
    refine SE.itr (fun _ xs => by cases xs <;> rfl) (fun _ _ x => by cases x <;> rfl) rfl fun {_ _ _ sc _ tg x} c f h => ?_
    simp only [chkI] at h
    exact s_iscr c.K (ih.v c f h)
  | itup e ih =>
    refine SE.itr (fun _ xs => by cases xs <;> rfl) (fun _ _ x => by cases x <;> rfl) rfl fun {_ _ _ sc _ tg x} c f h => ?_
    simp only [chkI] at h
    exact s_itup (ih.v c f h)
  | irg1 a iha =>
    refine SE.itr (fun _ xs => by cases xs <;> rfl) (fun _ _ x => by cases x <;> rfl) rfl fun {_ _ _ sc _ tg x} c f h => ?_
    cases x with
    | Call zx0 zx1 zx2 p =>
      cases zx0 with
      | Name g pp =>
        cases zx1 with
        | nil => simp [chkI] at h
        | cons x tzx1 =>
          cases tzx1 with
          | nil =>
            cases zx2 with
            | nil =>
              simp only [chkI, Bool.and_eq_true, decide_eq_true_eq, Bool.not_eq_true'] at h
              obtain ⟨⟨⟨rfl, hg⟩, hs⟩, h1⟩ := h
              exact s_irg1 (glB_inv c hg).1 c.nr hs (iha.v c f h1)
            | cons _ _ => simp [chkI] at h
          | cons _ _ => simp [chkI] at h
      | _ => simp [chkI] at h
    | _ => simp [chkI] at h
  | irg2 a b iha ihb =>
    refine SE.itr (fun _ xs => by cases xs <;> rfl) (fun _ _ x => by cases x <;> rfl) rfl fun {_ _ _ sc _ tg x} c f h => ?_
    cases x with
    | Call zx0 zx1 zx2 p =>
      cases zx0 with
      | Name g pp =>
        cases zx1 with
        | nil => simp [chkI] at h
        | cons x tzx1 =>
          cases tzx1 with
          | nil => simp [chkI] at h
          | cons y ttzx1 =>
            cases ttzx1 with
            | nil =>
              cases zx2 with
              | nil =>
                simp only [chkI, Bool.and_eq_true, decide_eq_true_eq, Bool.not_eq_true'] at h
                obtain ⟨⟨⟨⟨⟨rfl, hg⟩, hs⟩, hs2⟩, h1⟩, h2⟩ := h
                exact s_irg2 (glB_inv c hg).1 c.nr hs hs2 (iha.v c (fact_l f) h1) (ihb.v c (fact_r f) h2)
              | cons _ _ => simp [chkI] at h
            | cons _ _ => simp [chkI] at h
      | _ => simp [chkI] at h
    | _ => simp [chkI] at h
  | irg3 a b d iha ihb ihd =>
    refine SE.itr (fun _ xs => by cases xs <;> rfl) (fun _ _ x => by cases x <;> rfl) rfl fun {_ _ _ sc _ tg x} c f h => ?_
    cases x with
    | Call zx0 zx1 zx2 p =>
      cases zx0 with
      | Name g pp =>
        cases zx1 with
        | nil => simp [chkI] at h
        | cons x tzx1 =>
          cases tzx1 with
          | nil => simp [chkI] at h
          | cons y ttzx1 =>
            cases ttzx1 with
            | nil => simp [chkI] at h
            | cons z tttzx1 =>
              cases tttzx1 with
              | nil =>
                cases zx2 with
                | nil =>
                  simp only [chkI, Bool.and_eq_true, decide_eq_true_eq, Bool.not_eq_true'] at h
                  obtain ⟨⟨⟨⟨⟨⟨⟨rfl, hg⟩, hs⟩, hs2⟩, hs3⟩, h1⟩, h2⟩, h3⟩ := h
                  exact s_irg3 (glB_inv c hg).1 c.nr hs hs2 hs3 (iha.v c (fact_l f) h1) (ihb.v c (fact_l (fact_r f)) h2) (ihd.v c (fact_r (fact_r f)) h3)
                | cons _ _ => simp [chkI] at h
              | cons _ _ => simp [chkI] at h
      | _ => simp [chkI] at h
    | _ => simp [chkI] at h
  | ienum a iha =>
    refine SE.itr (fun _ xs => by cases xs <;> rfl) (fun _ _ x => by cases x <;> rfl) rfl fun {_ _ _ sc _ tg x} c f h => ?_
    cases tg with
    | Tuple ts tk tp =>
      cases x with
      | Call zx0 zx1 zx2 p =>
        cases zx0 with
        | Name g pp =>
          cases zx1 with
          | nil => simp [chkI] at h
          | cons x tzx1 =>
            cases tzx1 with
            | nil =>
              cases zx2 with
              | nil =>
                simp only [chkI, Bool.and_eq_true, decide_eq_true_eq, Bool.not_eq_true'] at h
                obtain ⟨⟨⟨rfl, hg⟩, hs⟩, h1⟩ := h
                exact s_ienum (glB_inv c hg).1 c.ne hs (iha.v c f h1)
              | cons _ _ => simp [chkI] at h
            | cons _ _ => simp [chkI] at h
        | _ => simp [chkI] at h
      | _ => simp [chkI] at h
    | _ => simp [chkI] at h
  | izip a b iha ihb =>
    refine SE.itr (fun _ xs => by cases xs <;> rfl) (fun _ _ x => by cases x <;> rfl) rfl fun {_ _ _ sc _ tg x} c f h => ?_
    cases tg with
    | Tuple ts tk tp =>
      cases x with
      | Call zx0 zx1 zx2 p =>
        cases zx0 with
        | Name g pp =>
          cases zx1 with
          | nil => simp [chkI] at h
          | cons x tzx1 =>
            cases tzx1 with
            | nil => simp [chkI] at h
            | cons y ttzx1 =>
              cases ttzx1 with
              | nil =>
                cases zx2 with
                | nil =>
                  simp only [chkI, Bool.and_eq_true, decide_eq_true_eq, Bool.not_eq_true'] at h
                  obtain ⟨⟨⟨⟨⟨rfl, hg⟩, hs⟩, hs2⟩, h1⟩, h2⟩ := h
                  exact s_izip (glB_inv c hg).1 c.nz hs hs2 (iha.v c (fact_l f) h1) (ihb.v c (fact_r f) h2)
                | cons _ _ => simp [chkI] at h
              | cons _ _ => simp [chkI] at h
        | _ => simp [chkI] at h
      | _ => simp [chkI] at h
    | _ => simp [chkI] at h
  | star a iha => exact SE.val (fun _ xs => by cases xs <;> rfl) (fun _ _ _ => rfl) rfl (fun sc x h => (by simp [chk] at h)) fun c f h => iha.v c f (by simpa [chk] using h)
  | ioa i => exact SE.itr (fun _ xs => by cases xs <;> rfl) (fun _ _ x => by cases x <;> rfl) rfl fun c f h => (by simp [chkI] at h)
  | wka i => exact SE.itr (fun _ xs => by cases xs <;> rfl) (fun _ _ x => by cases x <;> rfl) rfl fun c f h => (by simp [chkI] at h)
end DL

-- part DLl
set_option Elab.async false
set_option linter.all false
set_option maxRecDepth 100000
set_option maxHeartbeats 1000000
/-! DL, part l: statements. -/
namespace DL
open PySem PySem.Spec PyProof.Rows L2

/-- behind a statement; rk: how many levels of what the def gives back are new -/
def PSt (G : Fr) (rk : Nat) (Z : Ends) (F H : Hp) (fs : Ft) : Res Out → Prop
  | .ok (.nx env') => ∀ σ' F' H' fs', GS G.M F' H' G.io env' σ' fs' → Step F H fs.at F' H' fs'.at → Z.nx σ' H'
  | .ok (.brk env') => ∀ σ' F' H' fs', GS G.M F' H' G.io env' σ' fs' → Step F H fs.at F' H' fs'.at → Z.bk σ' H'
  | .ok (.cnt env') => ∀ σ' F' H' fs', GS G.M F' H' G.io env' σ' fs' → Step F H fs.at F' H' fs'.at → Z.ct σ' H'
  | .ok (.ret d env') => ∀ v σ' F' H' fs' fr, GS G.M F' H' G.io env' σ' fs' → Step F H fs.at F' H' (atW fs' fr) → Own G.M F' H' rk d v fr → fr.Nodup → Apart fs' fr → (∀ b ∈ fr, F' b = none) → Z.rt v H'
  | .exn c d => XP G.M G.E c d F H fs.at
  | .stuck => False
def tS (G : Fr) (rk : Nat) (r : Env → Res Out) : TS := fun Z σ H => ∃ env F fs, GS G.M F H G.io env σ fs ∧ PSt G rk Z F H fs (r env)

section
variable {X : Cx} {G : Fr} {rk : Nat} {σ : L2.St} {F H F1 H1 : Hp} {fs fs1 : Ft} {Z : Ends} {p : Bool}
theorem ps_imp {x : Stmt} {t t' : TS} (h : PS X x t) (i : ∀ Z σ H, t' Z σ H → t Z σ H) : PS X x t' := ⟨fun pins s σ H Z I q => h.run pins s σ H Z I (i Z σ H q)⟩
theorem pss_imp {x : List Stmt} {t t' : TS} (h : PSs X x t) (i : ∀ Z σ H, t' Z σ H → t Z σ H) : PSs X x t' := ⟨fun pins s σ H Z I q => h.run pins s σ H Z I (i Z σ H q)⟩
theorem PSt.step {r : Res Out} (h : PSt G rk Z F H fs r) (s : Step F H fs.at F1 H1 fs1.at) : PSt G rk Z F1 H1 fs1 r := by
  cases r with
  | stuck => exact h
  | exn c d => exact XP.step h s
  | ok o => cases o with
    | nx env => exact fun σ' F' H' fs' g s' => h σ' F' H' fs' g (s.trans s')
    | brk env => exact fun σ' F' H' fs' g s' => h σ' F' H' fs' g (s.trans s')
    | cnt env => exact fun σ' F' H' fs' g s' => h σ' F' H' fs' g (s.trans s')
    | ret d env => exact fun v σ' F' H' fs' fr g s' => h v σ' F' H' fs' fr g (s.trans s')
theorem PSt.bind {α : Type} {r : Res (α × Env)} {f : α × Env → Res Out} {k : α → Env → Hp → Hp → Ft → Prop} (h : PSt G rk Z F H fs (r.bind f))
    (next : ∀ x env1 F1 H1 fs1, r = .ok (x, env1) → GS G.M F1 H1 G.io env1 σ fs1 → Step F H fs.at F1 H1 fs1.at → (p = true → Same H H1) → PSt G rk Z F1 H1 fs1 (f (x, env1)) → k x env1 F1 H1 fs1) : Pst G p σ F H fs r k := by
  cases r with
  | stuck => exact h
  | exn c d => exact h
  | ok q =>
    obtain ⟨x, env1⟩ := q
    intro F1 H1 fs1 g s t
    exact next x env1 F1 H1 fs1 rfl g s t (PSt.step h s)
theorem PSt.str {x : Wk} {f : DL.D → Res Out} (h : PSt G rk Z F H fs ((str1 x).bind f)) : ∃ d, x = (0, d) ∧ PSt G rk Z F H fs (f d) := by
  obtain ⟨k, d⟩ := x
  cases k with
  | zero => exact ⟨d, rfl, h⟩
  | succ k => exact h.elim
theorem PSt.asI {d : DL.D} {f : Int → Res Out} (h : PSt G rk Z F H fs ((asI d).bind f)) : ∃ i, d = .int i ∧ PSt G rk Z F H fs (f i) := by
  cases d with
  | int i => exact ⟨i, rfl, h⟩
  | _ => exact h.elim
theorem PSt.asB {d : DL.D} {f : Bool → Res Out} (h : PSt G rk Z F H fs ((asB d).bind f)) : ∃ i, d = .bl i ∧ PSt G rk Z F H fs (f i) := by
  cases d with
  | bl i => exact ⟨i, rfl, h⟩
  | _ => exact h.elim
theorem PSt.ofO {α : Type} {o : Option α} {f : α → Res Out} (h : PSt G rk Z F H fs ((DL.ofO o).bind f)) : ∃ a, o = some a ∧ PSt G rk Z F H fs (f a) := by
  cases o with
  | none => exact h.elim
  | some a => exact ⟨a, rfl, h⟩
theorem PSt.env {r : Res Env} {f : Env → Res Out} (hr : ∀ c d, r ≠ .exn c d) (h : PSt G rk Z F H fs (r.bind f)) : ∃ e, r = .ok e ∧ PSt G rk Z F H fs (f e) := by
  cases r with
  | ok e => exact ⟨e, rfl, h⟩
  | exn c d => exact absurd rfl (hr c d)
  | stuck => exact h.elim
theorem setSl_fx {env : Env} {i : Nat} {s : Sl} (c : Nat) (d : DL.D) : setSl env i s ≠ .exn c d := by
  unfold setSl; split <;> intro h <;> cases h
theorem setTi_fx {env : Env} {t : Ti} {x : DL.D} (c : Nat) (d : DL.D) : setTi env t x ≠ .exn c d := by
  unfold setTi
  split
  · exact setSl_fx c d
  · split
    · split <;> intro h <;> cases h
    · intro h; cases h
theorem setTis_fx {c : Nat} {d : DL.D} : ∀ {env : Env} {ts : List Ti} {xs : List DL.D}, setTis env ts xs ≠ .exn c d
  | env, [], [] => by intro h; cases h
  | env, [], _ :: _ => by intro h; cases h
  | env, _ :: _, [] => by intro h; cases h
  | env, t :: ts, x :: xs => by
    unfold setTis
    cases e : setTi env t x with
    | ok e => exact setTis_fx
    | exn c' d' => exact absurd e (setTi_fx c' d')
    | stuck => intro h; cases h
theorem setTg_fx {env : Env} {t : Tg} {x : DL.D} (c : Nat) (d : DL.D) : setTg env t x ≠ .exn c d := by
  unfold setTg
  split
  · exact setTi_fx c d
  · exact setTis_fx
  · intro h; cases h
/-! ### rows of statements -/
theorem s_snil : PSs X [] (tS G rk (ex .nil)) := pss_imp pss_nil fun Z σ H ⟨env, F, fs, g, q⟩ => q σ F H fs g Step.refl
theorem seq_of {r : Env → Res Out} {u : Env → Res Out} (h : tS G rk (fun env => seqR (r env) u) Z σ H) : tS G rk r { Z with nx := tS G rk u Z } σ H := by
  obtain ⟨env, F, fs, g, q⟩ := h
  refine ⟨env, F, fs, g, ?_⟩
  cases e : r env with
  | stuck => simp only [e] at q; exact q
  | exn c d => simp only [e] at q; exact q
  | ok o =>
    simp only [e] at q
    cases o with
    | nx env1 => exact fun σ' F' H' fs' g' s' => ⟨env1, F', fs', g', PSt.step (show PSt G rk Z F H fs (u env1) from q) s'⟩
    | brk env1 => exact q
    | cnt env1 => exact q
    | ret d env1 => exact q
theorem s_scons {s ss : S} {st : Stmt} {rest : List Stmt} (h1 : PS X st (tS G rk (ex s))) (h2 : PSs X rest (tS G rk (ex ss))) : PSs X (st :: rest) (tS G rk (ex (.cons s ss))) :=
  pss_imp (pss_cons h1 h2) fun Z σ H h => seq_of h
theorem s_pass {pos : Pos} : PS X (.Pass pos) (tS G rk (ex .pass)) := ps_imp ps_pass fun Z σ H ⟨env, F, fs, g, q⟩ => q σ F H fs g Step.refl
theorem s_doc {x j pos pos'} : PS X (.Expr (.Constant (.str x) j pos) pos') (tS G rk (ex .pass)) := ps_imp ps_doc fun Z σ H ⟨env, F, fs, g, q⟩ => q σ F H fs g Step.refl
theorem s_brk {pos : Pos} : PS X (.Break pos) (tS G rk (ex .brk)) := ps_imp ps_break fun Z σ H ⟨env, F, fs, g, q⟩ => q σ F H fs g Step.refl
theorem s_cnt {pos : Pos} : PS X (.Continue pos) (tS G rk (ex .cnt)) := ps_imp ps_continue fun Z σ H ⟨env, F, fs, g, q⟩ => q σ F H fs g Step.refl
theorem s_never {sts : List Stmt} : PSs X sts (tS G rk (ex .never)) := pss_imp pss_never fun Z σ H ⟨env, F, fs, g, q⟩ => q
/-- what one owns from now on stands still -/
theorem s_frz {i : Nat} {ss : S} {rest : List Stmt} (h : PSs X rest (tS G rk (ex ss))) : PSs X rest (tS G rk (ex (.cons (.frz i) ss))) :=
  pss_imp h fun Z σ H ⟨env, F, fs, g, q⟩ => by
    have q : PSt G rk Z F H fs (seqR (match env[i]? with | some (.own _ d) => .ok (.nx (env.set i (.val d))) | _ => .stuck) (ex ss)) := q
    split at q
    · rename_i k d e
      have q : PSt G rk Z F H fs (ex ss (env.set i (.val d))) := q
      obtain ⟨v, ev, o⟩ := g.own (.inl e)
      -- the slot is emptied, what it owned is frozen
      have g1 : GS G.M F H G.io (env.set i .un) (σ.set i (some v)) (fs.set i []) := g.set e (by intro k d z; cases z) rfl List.nodup_nil (by simp) (by simp)
      rw [set_self ev] at g1
      have ap : Apart (fs.set i []) (fs i) := fun j b hb z => by
        by_cases w : j = i
        · subst w; rw [Ft.set_same] at hb; simp at hb
        · rw [Ft.set_ne w] at hb; exact g.dj j i b w hb z
      obtain ⟨g2, s2, r2⟩ := frz_state g1 ap o fun b hb => g.fn i b hb
      have s3 : Step F H fs.at (frz F H (fs i)) H (fs.set i []).at := s2.mono (fun b hb => by
        rcases hb with ⟨j, hb⟩ | hb
        · by_cases w : j = i
          · subst w; rw [Ft.set_same] at hb; simp at hb
          · rw [Ft.set_ne w] at hb; exact ⟨j, hb⟩
        · exact ⟨i, hb⟩) fun b hb => .inl hb
      have hl : i < (env.set i Sl.un).length := by rw [List.length_set]; exact lt_of_get e
      have g3 := g2.set (i := i) (s := .un) (s' := .val d) (v := v) (f := []) (by rw [List.getElem?_set_self (lt_of_get e)]) (by intro k d z; cases z) ⟨v, rfl, r2, rfl⟩ List.nodup_nil (by simp) (by simp)
      rw [set_self ev, List.set_set] at g3
      have s4 : Step F H fs.at (frz F H (fs i)) H ((fs.set i []).set i []).at := s3.less fun b ⟨j, hb⟩ => by
        by_cases w : j = i
        · subst w; rw [Ft.set_same] at hb; simp at hb
        · rw [Ft.set_ne w] at hb; exact ⟨j, hb⟩
      exact ⟨_, _, _, g3, q.step s4⟩
    · exact q.elim
/-! ### assignments -/
/-- the step to a slot's new value -/
theorem setSl_step {i : Nat} {fs : Ft} : Step F H fs.at F H (fs.set i []).at := Step.refl.less set_less
theorem pg_att {i : Nat} {x f : Str} {p pos : Pos} (hN : X.N[i]? = some x) (hv : Vis X.env.scope x) (hd : (x == ("__debug__" : Str)) = false) (hcd : (x == ("__classdict__" : Str)) = false) :
    PG X (.Attribute (.Name x p) f pos) (fun v σ H Q => ∃ a C dx fs, σ[i]? = some (some (.ref a)) ∧ H a = some (.ins C dx fs) ∧ Cls X.K C ∧ NoAttr X.K C f ∧ fs.length < 1000 ∧ Q σ (upd H a (.ins C dx (L2.putF f v fs)))) := by
  refine ⟨fun pins s σ H v u Q I r h => ?_⟩
  obtain ⟨a, C, dx, fs, e1, e2, c1, c2, l, q⟩ := h
  rw [assign_Attribute]
  refine wpAny_bind (wpAny_holding (thn ((pe_var hN hv hd hcd).run pins s σ H (fun w H' => w = .ref a ∧ H' = H) I ⟨_, e1, rfl, rfl⟩) fun ov s1 ⟨w, H1, I1, r1, hw, hh⟩ => ?_))
  subst hw hh
  obtain rfl : ov = Value.ref a := r1
  refine wpAny_bind (wpAny_standAt (wpAny_bind (wpAny_holding (setattr_ok I1 e2 c1 c2 l r fun s2 I2 => wpAny_release ⟨σ, _, I2, q⟩))))
end
end DL

-- part DLm
set_option Elab.async false
set_option linter.all false
set_option maxRecDepth 100000
set_option maxHeartbeats 1000000
/-! DL, part m: assignments. -/
namespace DL
open PySem PySem.Spec PyProof.Rows L2
section
variable {X : Cx} {G : Fr} {rk : Nat} {σ : L2.St} {F H F1 H1 : Hp} {fs fs1 : Ft} {Z : Ends} {p : Bool} {M : Mo} {io : List (Nat × V)} {env env' : Env}
theorem fa3_zero : ∀ {ds : List D} {vs : List V} {fp : List Addr}, Fa3 (Own M F H 0) ds vs fp ↔ Fa2 (Rep M F) ds vs ∧ fp = []
  | [], vs, fp => by simp [Fa3, Fa2]
  | d :: ds, vs, fp => by
    constructor
    · rintro ⟨v, vs', f1, f2, rfl, rfl, ⟨r, rfl⟩, h⟩
      obtain ⟨h1, rfl⟩ := fa3_zero.mp h
      exact ⟨⟨v, vs', rfl, r, h1⟩, rfl⟩
    · rintro ⟨⟨v, vs', rfl, r, h⟩, rfl⟩
      exact ⟨v, vs', [], [], rfl, rfl, ⟨r, rfl⟩, fa3_zero.mpr ⟨h, rfl⟩⟩
theorem putF_fl {f : Str} {d : D} {v : V} (r : Rep M F d v) : ∀ {fs : List (Str × V)} {ds : List D}, Fa2 (Rep M F) ds (fs.map (·.2)) →
    (L2.putF f v fs).map (·.1) = (putFl f d (fs.map (·.1)) ds).1 ∧ Fa2 (Rep M F) (putFl f d (fs.map (·.1)) ds).2 ((L2.putF f v fs).map (·.2))
  | [], ds, h => by
    cases ds with
    | nil => exact ⟨by simp [L2.putF, putFl], v, [], rfl, r, rfl⟩
    | cons d ds => obtain ⟨_, _, e, _⟩ := h; cases e
  | (g, w) :: fs, ds, h => by
    cases ds with
    | nil => cases h
    | cons e ds =>
      obtain ⟨w', vs', e1, r1, h1⟩ := h
      cases e1
      by_cases z : g = f
      · subst z
        simp only [L2.putF, if_true, List.map_cons, putFl]
        exact ⟨trivial, v, _, rfl, r, h1⟩
      · obtain ⟨i1, i2⟩ := putF_fl r h1
        simp only [L2.putF, if_neg z, List.map_cons, putFl]
        exact ⟨by rw [i1], w, _, rfl, r1, i2⟩
def gTi (K : PySem.W.Frag) : Ti → TG
  | .sl i => gName i
  | .at _ i f => fun v σ H Q => ∃ a C dx fs, σ[i]? = some (some (.ref a)) ∧ H a = some (.ins C dx fs) ∧ Cls K C ∧ NoAttr K C f ∧ fs.length < 1000 ∧ Q σ (upd H a (.ins C dx (L2.putF f v fs)))
def gTis (K : PySem.W.Frag) : List Ti → TGs
  | [] => gNil
  | t :: ts => gCons (gTi K t) (gTis K ts)
def gTgt (K : PySem.W.Frag) : Tg → TG
  | .one t => gTi K t
  | .tup ts => gTup K ts.length (gTis K ts)
/-- the class that a target's field is about -/
def TiF (X : Cx) (M : Mo) : Ti → Prop
  | .sl _ => True
  | .at c _ f => FdF X M c f
theorem own_obj {c : Nat} {fl : List Str} {ds : List D} {v : V} {f : List Addr} (o : Own M F H 1 (.nd (.obj c fl) ds) v f) :
    ∃ a C dx fs, v = .ref a ∧ M.cl c = some C ∧ H a = some (.ins C dx fs) ∧ H dx = some (.own a) ∧ fs.map (·.1) = fl ∧ Fa2 (Rep M F) ds (fs.map (·.2)) ∧ f = [a, dx] := by
  obtain ⟨a, vs, ex, fps, rfl, ⟨C, dx, fs, h1, h2, h3, h4, h5, rfl⟩, h6, rfl⟩ := o
  obtain ⟨h7, rfl⟩ := fa3_zero.mp h6
  subst h5
  exact ⟨a, C, dx, fs, rfl, h1, h2, h3, h4, h7, rfl⟩
theorem setTi_ok {t : Ti} {d : D} {v : V} (tf : TiF X M t) (g : GS M F H io env σ fs) (r : Rep M F d v) (e : setTi env t d = .ok env') :
    ∃ σ' H' fs', GS M F H' io env' σ' fs' ∧ Step F H fs.at F H' fs'.at ∧ ∀ Q : L2.St → Hp → Prop, Q σ' H' → gTi X.K t v σ H Q := by
  cases t with
  | sl i => exact ⟨_, H, _, setSl_val g r e, setSl_step, fun Q q => q⟩
  | «at» c0 i f =>
    unfold setTi at e
    dsimp only at e
    split at e
    · rename_i c fl ds he
      split at e
      · rename_i hc
        obtain ⟨rfl, hl⟩ := hc
        cases e
        obtain ⟨w, ew, o⟩ := g.own (.inr he)
        obtain ⟨a, C, dx, fs0, rfl, h1, h2, h3, rfl, h5, h6⟩ := own_obj o
        obtain ⟨C', q1, q2, q3⟩ := tf
        rw [h1] at q1; cases q1
        have hF : F a = none := g.fn i a (by rw [h6]; simp)
        obtain ⟨i1, i2⟩ := putF_fl (f := f) r h5
        have hne : dx ≠ a := fun z => by rw [z, h2] at h3; cases h3
        have nd := g.nd i
        rw [h6] at nd
        have k := g.change (.inr he) ew (H' := upd H a (.ins C dx (L2.putF f v fs0))) (k' := 1) (d' := .nd (.obj c0 (putFl f d (fs0.map (·.1)) ds).1) (putFl f d (fs0.map (·.1)) ds).2) (f := [a, dx]) (fun b u q => ?_) (fun b u q n => ?_) ?_ nd fun b hb => .inl (by rw [h6]; exact hb)
        · rw [he] at k
          exact ⟨σ, _, _, k.1, k.2, fun Q q => ⟨a, C, dx, fs0, ew, h2, q2, q3, by simp at hl; omega, q⟩⟩
        · rw [upd_ne (fun z => by rw [z, hF] at q; cases q)]; exact g.fh b u q
        · rw [upd_ne (fun z => n (by rw [h6, z]; simp))]; exact q
        · exact ⟨a, _, [dx], [], rfl, ⟨C, dx, _, h1, upd_same, by rw [upd_ne hne]; exact h3, i1, rfl, rfl⟩, fa3_zero.mpr ⟨i2, rfl⟩, rfl⟩
      · cases e
    · cases e
theorem setTis_ok : ∀ {ts : List Ti} {ds : List D} {vs : List V} {env : Env} {σ : L2.St} {H : Hp} {fs : Ft}, (∀ t ∈ ts, TiF X M t) → GS M F H io env σ fs → Fa2 (Rep M F) ds vs → setTis env ts ds = .ok env' →
    vs.length = ts.length ∧ ∃ σ' H' fs', GS M F H' io env' σ' fs' ∧ Step F H fs.at F H' fs'.at ∧ ∀ Q : L2.St → Hp → Prop, Q σ' H' → gTis X.K ts vs σ H Q
  | [], [], vs, env, σ, H, fs, _, g, h, e => by
    cases h; cases e
    exact ⟨rfl, σ, H, fs, g, Step.refl, fun Q q => ⟨rfl, q⟩⟩
  | [], _ :: _, _, _, _, _, _, _, _, _, e => by cases e
  | _ :: _, [], _, _, _, _, _, _, _, _, e => by cases e
  | t :: ts, d :: ds, vs, env, σ, H, fs, tf, g, h, e => by
    obtain ⟨v, vs', rfl, r, h⟩ := h
    unfold setTis at e
    cases e1 : setTi env t d with
    | stuck => rw [e1] at e; cases e
    | exn c d => rw [e1] at e; cases e
    | ok env1 =>
      rw [e1] at e
      obtain ⟨σ1, H1, fs1, g1, s1, k1⟩ := setTi_ok (tf t (by simp)) g r e1
      obtain ⟨l, σ2, H2, fs2, g2, s2, k2⟩ := setTis_ok (fun t ht => tf t (List.mem_cons_of_mem _ ht)) g1 h e
      exact ⟨by simp [l], σ2, H2, fs2, g2, s1.trans s2, fun Q q => ⟨v, vs', rfl, k1 _ (k2 _ q)⟩⟩
def TgF (X : Cx) (M : Mo) : Tg → Prop
  | .one t => TiF X M t
  | .tup ts => ∀ t ∈ ts, TiF X M t
theorem setTg_ok {t : Tg} {d : D} {v : V} (tf : TgF X M t) (g : GS M F H io env σ fs) (r : Rep M F d v) (e : setTg env t d = .ok env') :
    ∃ σ' H' fs', GS M F H' io env' σ' fs' ∧ Step F H fs.at F H' fs'.at ∧ ∀ Q : L2.St → Hp → Prop, Q σ' H' → gTgt X.K t v σ H Q := by
  cases t with
  | one t => exact setTi_ok tf g r e
  | tup ts =>
    cases d with
    | nd k ds =>
      cases k with
      | tup =>
        obtain ⟨a, vs, rfl, r1, f1⟩ := Rep.nd_iff.mp r
        obtain ⟨l, σ', H', fs', g', s', k'⟩ := setTis_ok tf g f1 e
        exact ⟨σ', H', fs', g', s', fun Q q => ⟨a, vs, rfl, SqT.of (g.fh _ _ r1), l, k' Q q⟩⟩
      | _ => cases e
    | _ => cases e
/-- target = value -/
theorem asg_imp {tg : Tg} {e : E} (tf : TgF X G.M tg) (h : tS G rk (ex (.set tg e)) Z σ H) : tAsg (tE G e.pure (ev e)) (gTgt X.K tg) Z σ H := by
  obtain ⟨env, F, fs, g, q⟩ := h
  refine ⟨env, F, fs, g, PSt.bind (σ := σ) (show PSt G rk Z F H fs ((ev e env).bind fun (x, env) => (str1 x).bind fun d => (setTg env tg d).bind fun env => .ok (.nx env)) from q) fun x env1 F1 H1 fs1 _ g1 s1 _ q1 v rv => ?_⟩
  obtain ⟨d, rfl, q1⟩ := PSt.str q1
  obtain ⟨env2, e2, q1⟩ := PSt.env setTg_fx q1
  obtain ⟨σ', H', fs', g', s', k⟩ := setTg_ok tf g1 (show Rep G.M F1 d v from rv) e2
  exact k _ (q1 σ' F1 H' fs' g' s')
/-- .. a new list of one's own -/
theorem asgL_imp {i k : Nat} {e : E} (h : tS G rk (ex (.seto k i e)) Z σ H) : ownL e = true ∧ tAsg (tL G e.pure (ev e)) (gName i) Z σ H := by
  obtain ⟨env, F, fs, g, q⟩ := h
  have q : PSt G rk Z F H fs (if ownL e = true ∧ k = 1 then (ev e env).bind fun (x, env) => (str1 x).bind fun d => match d with
      | .nd .lst ds => (setSl env i (.own 1 (.lst ds))).bind fun env => .ok (.nx env)
      | _ => .stuck
    else .stuck) := q
  split at q
  · rename_i hk
    refine ⟨hk.1, env, F, fs, g, ?_⟩
    cases e1 : ev e env with
    | stuck => rw [e1] at q; exact q
    | exn c d => rw [e1] at q; exact q
    | ok y =>
      obtain ⟨⟨j, d⟩, env1⟩ := y
      rw [e1] at q
      have q : PSt G rk Z F H fs ((str1 (j, d)).bind fun d => match d with
        | .nd .lst ds => (setSl env1 i (.own 1 (.lst ds))).bind fun env => .ok (.nx env)
        | _ => .stuck) := q
      obtain ⟨d, e2, q⟩ := PSt.str q
      cases e2
      cases d with
      | nd kd ds =>
        cases kd with
        | lst =>
          obtain ⟨env2, e2, q⟩ := PSt.env setSl_fx q
          refine ⟨ds, rfl, fun F' H' fs' v f g' s' _ o nd ap fn => ?_⟩
          unfold setSl at e2
          split at e2
          · cases e2
          · rename_i s hs he
            cases e2
            have g2 := g'.set he (fun k d z => by subst z; exact hs k d rfl) (s' := .own 1 (.lst ds)) ⟨v, rfl, o⟩ nd fn ap
            refine q _ F' H' _ g2 (s'.less fun b ⟨m, hb⟩ => ?_)
            by_cases w : m = i
            · subst w; rw [Ft.set_same] at hb; exact .inr hb
            · rw [Ft.set_ne w] at hb; exact .inl ⟨m, hb⟩
          · cases e2
        | _ => exact q.elim
      | _ => exact q.elim
  · exact q.elim
end
end DL

-- part DLn
set_option Elab.async false
set_option linter.all false
set_option maxRecDepth 100000
set_option maxHeartbeats 1000000
/-! DL, part n: loops, returns, writes. -/
namespace DL
open PySem PySem.Spec PyProof.Rows L2
section
variable {X : Cx} {G : Fr} {rk : Nat} {σ : L2.St} {F H F1 H1 : Hp} {fs fs1 : Ft} {Z : Ends} {p : Bool} {M : Mo} {io : List (Nat × V)} {env env' : Env}
theorem evT_bindO {e : E} {f : Bool × Env → Res Out} {env : Env} : (evT e env).bind f = (ev e env).bind fun (x, env) => (asB x.2).bind fun k => f (k, env) := by
  unfold evT
  cases ev e env with
  | stuck => rfl
  | exn c d => rfl
  | ok q =>
    obtain ⟨x, env1⟩ := q
    simp only [Res.bind_ok]
    cases asB x.2 <;> rfl
theorem setIs_fx {env : Env} {tg : List Nat} {x : D} (c : Nat) (d : D) : setIs env tg x ≠ .exn c d := by
  unfold setIs
  split
  · exact setSl_fx c d
  · exact setTis_fx
  · intro h; cases h
theorem s_ifS {t : E} {a b : S} {c : Expr} {xs ys : List Stmt} {pos : Pos} (ht : PT X c (tT G t.pure (evT t))) (ha : PSs X xs (tS G rk (ex a))) (hb : PSs X ys (tS G rk (ex b))) : PS X (.If c xs ys pos) (tS G rk (ex (.ife t a b))) :=
  ps_imp (ps_if ht ha hb) fun Z σ H ⟨env, F, fs, g, q⟩ => by
    have q : PSt G rk Z F H fs ((evT t env).bind fun (k, env) => if k then ex a env else ex b env) := by rw [evT_bindO]; exact q
    refine ⟨env, F, fs, g, PSt.bind (σ := σ) q fun k env1 F1 H1 fs1 _ g1 s1 _ q1 => ?_⟩
    cases k with
    | true => exact ⟨env1, F1, fs1, g1, q1⟩
    | false => exact ⟨env1, F1, fs1, g1, q1⟩
theorem s_for {tg : List Nat} {it : E} {b : S} {tgt iter : Expr} {body : List Stmt} {pos : Pos} (hp : PassesOwn (model X.prog X.w) X.A X.env X.xe) (hc : X.calm = true) (hi : PI X tgt iter (tI G it.pure (evi it))) (hg : PG X tgt (gTg X.K tg)) (hb : PSs X body (tS G rk (ex b)))
    (hs : ∀ x, foldedSetIterable iter X.env x = pure x) : PS X (.For tgt iter body [] pos) (tS G rk (ex (.for_ tg it b))) :=
  ps_imp (ps_for hp hc hi hg hb hs) fun Z σ H ⟨env, F, fs, g, q⟩ => by
    refine ⟨env, F, fs, g, PSt.bind (σ := σ) (show PSt G rk Z F H fs ((evi it env).bind fun (xs, env) => forL tg (ex b) xs env) from q) fun xs env1 F1 H1 fs1 _ g1 s1 _ q1 J hJ => ?_⟩
    refine ⟨fun i m σ H => m = xs.length - i ∧ i ≤ xs.length ∧ ∃ env F fs, GS G.M F H G.io env σ fs ∧ Same F1 F ∧ PSt G rk Z F H fs (forL tg (ex b) (xs.drop i) env), ⟨xs.length, by simp, Nat.zero_le _, env1, F1, fs1, g1, Same.refl F1, by simpa using q1⟩, ?_⟩
    rintro i m σ H ⟨rfl, hil, env, F, fs, g2, sF, q2⟩
    cases hx : xs[i]? with
    | none =>
      have hl : xs.length ≤ i := List.getElem?_eq_none_iff.mp hx
      refine .inl ⟨(hJ i F H sF g2.fh).2 hl, ?_⟩
      rw [List.drop_eq_nil_of_le hl] at q2
      exact q2 σ F H fs g2 Step.refl
    | some x =>
      have hlt : i < xs.length := lt_of_get hx
      obtain ⟨go, yl⟩ := (hJ i F H sF g2.fh).1 x hx
      have hd : xs.drop i = x :: xs.drop (i + 1) := by
        rw [List.drop_eq_getElem_cons hlt]
        congr 1
        exact (List.getElem?_eq_some_iff.mp hx).2
      rw [hd] at q2
      refine .inr ⟨go, fun σ' H' => ∃ env F fs, GS G.M F H' G.io env σ' fs ∧ Same F1 F ∧ PSt G rk Z F H' fs (forL tg (ex b) (xs.drop (i + 1)) env), fun σ' H' h => ⟨xs.length - (i + 1), by omega, rfl, hlt, h⟩, fun xv H' hy => ?_⟩
      obtain ⟨F2, a1, a2, a3, a4, a5⟩ := yl xv H' hy
      obtain ⟨g3, s3⟩ := g2.more a1 a2 a3 a4
      obtain ⟨env2, e2, q2⟩ := PSt.env setIs_fx q2
      obtain ⟨is, vs, fs', g4, l4, hi4, k4⟩ := setIs_ok (K := X.K) g3 a5 e2
      refine k4 _ ⟨env2, F2, fs', g4, ?_⟩
      have st : Step F H fs.at F2 H' fs'.at := s3.less l4
      cases eb : ex b env2 with
      | stuck => rw [eb] at q2; exact q2
      | exn c d => rw [eb] at q2; exact XP.step q2 st
      | ok o =>
        rw [eb] at q2
        cases o with
        | nx env3 => exact fun σ' F' H'' fs'' g' s' => ⟨env3, F', fs'', g', sF.trans (st.ff.trans s'.ff), PSt.step (show PSt G rk Z F H fs (forL tg (ex b) (xs.drop (i + 1)) env3) from q2) (st.trans s')⟩
        | cnt env3 => exact fun σ' F' H'' fs'' g' s' => ⟨env3, F', fs'', g', sF.trans (st.ff.trans s'.ff), PSt.step (show PSt G rk Z F H fs (forL tg (ex b) (xs.drop (i + 1)) env3) from q2) (st.trans s')⟩
        | brk env3 => exact PSt.step (show PSt G rk Z F H fs (.ok (.nx env3)) from q2) st
        | ret d env3 => exact PSt.step (show PSt G rk Z F H fs (.ok (.ret d env3)) from q2) st
theorem s_whl {t : E} {b : S} {c : Expr} {body : List Stmt} {pos : Pos} (hp : PassesOwn (model X.prog X.w) X.A X.env X.xe) (ht : PT X c (tT G t.pure (evT t))) (hb : PSs X body (tS G rk (ex b))) : PS X (.While c body [] pos) (tS G rk (ex (.whl t b))) :=
  ps_imp (ps_while hp ht hb) fun Z σ H ⟨env, F, fs, g, q⟩ => by
    have q : PSt G rk Z F H fs (whl (ev t) (ex b) env) := q
    unfold whl at q
    split at q
    · rename_i hn
      refine ⟨fun m σ H => ∃ env F fs, GS G.M F H G.io env σ fs ∧ PSt G rk Z F H fs (whlF (ev t) (ex b) m env), ⟨_, env, F, fs, g, q⟩, ?_⟩
      rintro m σ H ⟨env, F, fs, g, q⟩
      cases m with
      | zero => exact q.elim
      | succ m =>
        have q : PSt G rk Z F H fs ((evT t env).bind fun (k, env) => if k then (ex b env).bind fun o => match o with
          | .nx env => whlF (ev t) (ex b) m env
          | .cnt env => whlF (ev t) (ex b) m env
          | .brk env => .ok (.nx env)
          | .ret d env => .ok (.ret d env)
          else .ok (.nx env)) := by rw [evT_bindO]; exact q
        refine ⟨env, F, fs, g, PSt.bind (σ := σ) q fun k env1 F1 H1 fs1 _ g1 s1 _ q1 => ?_⟩
        cases k with
        | false =>
          show Z.nx σ H1
          exact q1 σ F1 H1 fs1 g1 Step.refl
        | true =>
          rw [if_pos rfl]
          refine ⟨fun σ' H' => ∃ env F fs, GS G.M F H' G.io env σ' fs ∧ PSt G rk Z F H' fs (whlF (ev t) (ex b) m env), fun σ' H' h => ⟨m, by omega, h⟩, env1, F1, fs1, g1, ?_⟩
          have q1 : PSt G rk Z F1 H1 fs1 ((ex b env1).bind fun o => match o with
            | .nx env => whlF (ev t) (ex b) m env
            | .cnt env => whlF (ev t) (ex b) m env
            | .brk env => .ok (.nx env)
            | .ret d env => .ok (.ret d env)) := q1
          cases eb : ex b env1 with
          | stuck => rw [eb] at q1; exact q1
          | exn c d => rw [eb] at q1; exact q1
          | ok o =>
            rw [eb] at q1
            cases o with
            | nx env3 => exact fun σ' F' H'' fs'' g' s' => ⟨env3, F', fs'', g', PSt.step (show PSt G rk Z F1 H1 fs1 (whlF (ev t) (ex b) m env3) from q1) s'⟩
            | cnt env3 => exact fun σ' F' H'' fs'' g' s' => ⟨env3, F', fs'', g', PSt.step (show PSt G rk Z F1 H1 fs1 (whlF (ev t) (ex b) m env3) from q1) s'⟩
            | brk env3 => exact (show PSt G rk Z F1 H1 fs1 (.ok (.nx env3)) from q1)
            | ret d env3 => exact (show PSt G rk Z F1 H1 fs1 (.ok (.ret d env3)) from q1)
    · exact q.elim
/-! ### what is given back -/
theorem s_ret {e : E} {x : Expr} {pos : Pos} (h0 : rk = 0) (h : PE X x (tE G e.pure (ev e))) : PS X (.Return (some x) pos) (tS G rk (ex (.ret e))) :=
  ps_imp (ps_ret h) fun Z σ H ⟨env, F, fs, g, q⟩ => by
    subst h0
    refine ⟨env, F, fs, g, PSt.bind (σ := σ) (show PSt G 0 Z F H fs ((ev e env).bind fun (x, env) => (str1 x).bind fun d => .ok (.ret d env)) from q) fun x env1 F1 H1 fs1 _ g1 s1 _ q1 v rv => ?_⟩
    obtain ⟨d, rfl, q1⟩ := PSt.str q1
    exact q1 v σ F1 H1 fs1 [] g1 (Step.refl.less fun b hb => hb.elim id fun z => by simp at z) ⟨rv, rfl⟩ List.nodup_nil (fun _ _ _ => by simp) (by simp)
theorem s_reto {e : E} {x : Expr} {pos : Pos} (h0 : rk = 1) (h : ownL e = true → PE X x (tL G e.pure (ev e))) (ho : ownL e = true) : PS X (.Return (some x) pos) (tS G rk (ex (.reto e))) :=
  ps_imp (ps_ret (h ho)) fun Z σ H ⟨env, F, fs, g, q⟩ => by
    subst h0
    have q : PSt G 1 Z F H fs (if ownL e = true then (ev e env).bind fun (x, env) => (str1 x).bind fun d => match d with | .nd .lst ds => .ok (.ret (.lst ds) env) | _ => .stuck else .stuck) := q
    rw [if_pos ho] at q
    refine ⟨env, F, fs, g, ?_⟩
    cases e1 : ev e env with
    | stuck => rw [e1] at q; exact q
    | exn c d => rw [e1] at q; exact q
    | ok y =>
      obtain ⟨⟨j, d⟩, env1⟩ := y
      rw [e1] at q
      have q : PSt G 1 Z F H fs ((str1 (j, d)).bind fun d => match d with | .nd .lst ds => .ok (.ret (.lst ds) env1) | _ => .stuck) := q
      obtain ⟨d, e2, q⟩ := PSt.str q
      cases e2
      cases d with
      | nd kd ds =>
        cases kd with
        | lst => exact ⟨ds, rfl, fun F' H' fs' v f g' s' _ o nd ap fn => q v σ F' H' fs' f g' s' o nd ap fn⟩
        | _ => exact q.elim
      | _ => exact q.elim
theorem s_retm {i : Nat} {x : Str} {p pos : Pos} (h0 : rk = 1) (hN : X.N[i]? = some x) (hv : Vis X.env.scope x) (hd : (x == ("__debug__" : Str)) = false) (hcd : (x == ("__classdict__" : Str)) = false) : PS X (.Return (some (.Name x p)) pos) (tS G rk (ex (.retm i))) :=
  ps_imp (ps_ret (pe_var hN hv hd hcd)) fun Z σ H ⟨env, F, fs, g, q⟩ => by
    subst h0
    have q : PSt G 1 Z F H fs (match env[i]? with | some (.own 1 (.nd .lst ds)) => .ok (.ret (.lst ds) (env.set i .un)) | _ => .stuck) := q
    split at q
    · rename_i ds e
      obtain ⟨v, ev, o⟩ := g.own (.inl e)
      have g1 : GS G.M F H G.io (env.set i .un) (σ.set i (some v)) (fs.set i []) := g.set e (by intro k d z; cases z) rfl List.nodup_nil (by simp) (by simp)
      rw [set_self ev] at g1
      refine ⟨v, ev, q v σ F H _ (fs i) g1 (Step.refl.less fun b hb => ?_) o (g.nd i) (fun j b hb z => ?_) fun b hb => g.fn i b hb⟩
      · rcases hb with ⟨j, hb⟩ | hb
        · by_cases w : j = i
          · subst w; rw [Ft.set_same] at hb; simp at hb
          · rw [Ft.set_ne w] at hb; exact ⟨j, hb⟩
        · exact ⟨i, hb⟩
      · by_cases w : j = i
        · subst w; rw [Ft.set_same] at hb; simp at hb
        · rw [Ft.set_ne w] at hb; exact g.dj j i b w hb z
    · exact q.elim
theorem s_retn {pos : Pos} : PS X (.Return none pos) (tS G rk (ex .retn)) :=
  ps_imp ps_retN fun Z σ H ⟨env, F, fs, g, q⟩ => q .non σ F H fs [] g (Step.refl.less fun b hb => hb.elim id fun z => by simp at z) (by cases rk <;> exact ⟨rfl, rfl⟩) List.nodup_nil (fun _ _ _ => by simp) (by simp)
theorem s_drop {e : E} {x : Expr} {pos : Pos} (h : PE X x (tE G e.pure (ev e))) (hs : swapsWith x none pos.line X.env = pure false) : PS X (.Expr x pos) (tS G rk (ex (.drop e))) :=
  ps_imp (ps_expr h hs) fun Z σ H ⟨env, F, fs, g, q⟩ =>
    ⟨env, F, fs, g, PSt.bind (σ := σ) (show PSt G rk Z F H fs ((ev e env).bind fun (_, env) => .ok (.nx env)) from q) fun x env1 F1 H1 fs1 _ g1 s1 _ q1 v rv => q1 σ F1 H1 fs1 g1 Step.refl⟩
/-! ### writes into a list of one's own -/
theorem isL_ref (g : GS M F H io env σ fs) {i : Nat} (h : isL env i = true) : ∃ a xs, σ[i]? = some (some (.ref a)) ∧ H a = some (.lst xs) := by
  unfold isL at h
  split at h
  · rename_i k ds e
    obtain ⟨v, ev, o⟩ := g.own (.inl e)
    obtain ⟨a, vs, rfl, r, _⟩ := RW.node g.fh o.rw
    exact ⟨a, vs, ev, r⟩
  · rename_i k ds e
    obtain ⟨v, ev, o⟩ := g.own (.inr e)
    obtain ⟨a, vs, rfl, r, _⟩ := RW.node g.fh o.rw
    exact ⟨a, vs, ev, r⟩
  · cases h
theorem wr_ok (g : GS M F H io env σ fs) {i : Nat} {ds : List D} (e : ownAt env i 1 (.lst ds)) : ∃ a vs, σ[i]? = some (some (.ref a)) ∧ H a = some (.lst vs) ∧ Fa2 (Rep M F) ds vs ∧
    ∀ ds' vs', Fa2 (Rep M F) ds' vs' → ∃ fs', GS M F (upd H a (.lst vs')) io (env.set i (match env[i]? with | some (.io _ _) => .io 1 (.lst ds') | _ => .own 1 (.lst ds'))) σ fs' ∧ Step F H fs.at F (upd H a (.lst vs')) fs'.at := by
  obtain ⟨v, ev, o⟩ := g.own e
  obtain ⟨a, vs, ex, fps, rfl, ⟨h1, rfl⟩, h2, h3⟩ := o
  obtain ⟨h4, rfl⟩ := fa3_zero.mp h2
  refine ⟨a, vs, ev, h1, h4, fun ds' vs' f => ?_⟩
  have hF : F a = none := g.fn i a (by rw [h3]; simp)
  have nd := g.nd i
  rw [h3] at nd
  have k := g.change e ev (H' := upd H a (.lst vs')) (k' := 1) (d' := .lst ds') (f := [a]) (fun b u q => ?_) (fun b u q n => ?_) ⟨a, vs', [], [], rfl, ⟨upd_same, rfl⟩, fa3_zero.mpr ⟨f, rfl⟩, rfl⟩ nd fun b hb => .inl (by rw [h3]; exact hb)
  · exact ⟨_, k.1, k.2⟩
  · rw [upd_ne (fun z => by rw [z, hF] at q; cases q)]; exact g.fh b u q
  · rw [upd_ne (fun z => n (by rw [h3, z]; simp))]; exact q
theorem growAt_ok {i : Nat} {more : List D} (h : growAt env i none more = .ok env') : ∃ ds, ownAt env i 1 (.lst ds) ∧ ds.length + more.length ≤ lim ∧ env' = env.set i (match env[i]? with | some (.io _ _) => .io 1 (.lst (ds ++ more)) | _ => .own 1 (.lst (ds ++ more))) := by
  unfold growAt at h
  split at h
  · rename_i k d e
    cases e2 : growAt.grow none more (k + 1) d with
    | stuck => rw [e2] at h; cases h
    | exn c d => rw [e2] at h; cases h
    | ok d' =>
      rw [e2] at h
      cases h
      unfold growAt.grow at e2
      split at e2
      · rename_i ds _ _ hk _
        split at e2
        · rename_i hl
          cases e2
          obtain rfl : k = 0 := by omega
          exact ⟨_, .inl e, hl, by rw [e]⟩
        · cases e2
      · exact nomatch ‹none = some _›
      · cases e2
  · rename_i k d e
    cases e2 : growAt.grow none more (k + 1) d with
    | stuck => rw [e2] at h; cases h
    | exn c d => rw [e2] at h; cases h
    | ok d' =>
      rw [e2] at h
      cases h
      unfold growAt.grow at e2
      split at e2
      · rename_i ds _ _ hk _
        split at e2
        · rename_i hl
          cases e2
          obtain rfl : k = 0 := by omega
          exact ⟨_, .inr e, hl, by rw [e]⟩
        · cases e2
      · exact nomatch ‹none = some _›
      · cases e2
  · cases h
theorem growAt_fx {i : Nat} {ix : Option Int} {more : List D} (c : Nat) (d : D) : growAt env i ix more ≠ .exn c d := by
  have gf : ∀ k x c d, growAt.grow ix more k x ≠ .exn c d := by
    intro k x c d h
    unfold growAt.grow at h
    split at h
    · split at h <;> cases h
    · split at h
      · split at h
        · split at h <;> cases h
        · cases h
      · cases h
    · cases h
  intro h
  unfold growAt at h
  split at h
  · rename_i k x e
    cases e2 : growAt.grow ix more (k + 1) x with
    | stuck => rw [e2] at h; cases h
    | exn c d => exact gf _ _ _ _ e2
    | ok d' => rw [e2] at h; cases h
  · rename_i k x e
    cases e2 : growAt.grow ix more (k + 1) x with
    | stuck => rw [e2] at h; cases h
    | exn c d => exact gf _ _ _ _ e2
    | ok d' => rw [e2] at h; cases h
  · cases h
theorem ly_list {K : PySem.W.Frag} {H : Hp} {a : Addr} {xs : List V} (h : H a = some (.lst xs)) : tyV K "list" (.ref a) H := .inl ⟨rfl, xs, SqL.of h⟩
theorem lim_sz {n : Nat} (h : n ≤ lim) : n ≤ sizeLine := Nat.le_trans h (by decide)
theorem s_append {i : Nat} {e : E} {x : Str} {y : Expr} {p ap cp pos : Pos} (hN : X.N[i]? = some x) (hv : Vis X.env.scope x) (hd : (x == ("__debug__" : Str)) = false) (hcd : (x == ("__classdict__" : Str)) = false)
    (hy : isStar y = false) (hl : (ap.endLine == cp.line) = true) (h : PE X y (tE G e.pure (ev e))) : PS X (.Expr (.Call (.Attribute (.Name x p) "append" ap) [y] [] cp) pos) (tS G rk (ex (.app i .nil e))) :=
  ps_imp (ps_expr (pe_bm PySem.F.plainAttrs_list PySem.F.slot_list_append PySem.F.type_list_append mt_append (pe_var hN hv hd hcd) (pa_cons h pa_nil (star_cons hy)) rfl (form_ok (by simp [hy]) (by simp)) hl (star_cons hy) rfl)) fun Z σ H ⟨env, F, fs, g, q⟩ => by
    have q : PSt G rk Z F H fs (if isL env i = true then (ev e env).bind fun (x, env) => (str1 x).bind fun d => (growAt env i none [d]).bind fun env => .ok (.nx env) else .stuck) := q
    split at q
    · rename_i hL
      obtain ⟨a0, xs0, e0, e1⟩ := isL_ref g hL
      refine ⟨_, e0, ly_list e1, env, F, fs, g, PSt.bind (σ := σ) q fun x env1 F1 H1 fs1 _ g1 s1 _ q1 v rv => ?_⟩
      obtain ⟨d, rfl, q1⟩ := PSt.str q1
      obtain ⟨env2, e2, q1⟩ := PSt.env growAt_fx q1
      obtain ⟨ds, ow, hl, rfl⟩ := growAt_ok e2
      obtain ⟨a, vs, ev, hH, fa, k⟩ := wr_ok g1 ow
      rw [e0] at ev; cases ev
      obtain ⟨fs2, g2, s2⟩ := k (ds ++ [d]) (vs ++ [v]) (fa.append ⟨v, [], rfl, rv, rfl⟩)
      exact ⟨a0, vs, v, rfl, rfl, hH, by rw [fa.length]; exact lim_sz (by simpa using hl), q1 σ F1 _ fs2 g2 s2⟩
    · exact q.elim
theorem s_extend {i : Nat} {e : E} {x : Str} {y : Expr} {p ap cp pos : Pos} (hN : X.N[i]? = some x) (hv : Vis X.env.scope x) (hd : (x == ("__debug__" : Str)) = false) (hcd : (x == ("__classdict__" : Str)) = false)
    (hy : isStar y = false) (hl : (ap.endLine == cp.line) = true) (h : PE X y (tE G e.pure (ev e))) : PS X (.Expr (.Call (.Attribute (.Name x p) "extend" ap) [y] [] cp) pos) (tS G rk (ex (.ext i .nil e))) :=
  ps_imp (ps_expr (pe_bm PySem.F.plainAttrs_list PySem.F.slot_list_extend PySem.F.type_list_extend mt_extend (pe_var hN hv hd hcd) (pa_cons h pa_nil (star_cons hy)) rfl (form_ok (by simp [hy]) (by simp)) hl (star_cons hy) rfl)) fun Z σ H ⟨env, F, fs, g, q⟩ => by
    have q : PSt G rk Z F H fs (if isL env i = true then (ev e env).bind fun (x, env) => (str1 x).bind fun d => match d with | .nd .lst ds => (growAt env i none ds).bind fun env => .ok (.nx env) | _ => .stuck else .stuck) := q
    split at q
    · rename_i hL
      obtain ⟨a0, xs0, e0, e1⟩ := isL_ref g hL
      refine ⟨_, e0, ly_list e1, env, F, fs, g, PSt.bind (σ := σ) q fun x env1 F1 H1 fs1 _ g1 s1 _ q1 v rv => ?_⟩
      obtain ⟨d, rfl, q1⟩ := PSt.str q1
      cases d with
      | nd kd es =>
        cases kd with
        | lst =>
          obtain ⟨env2, e2, q1⟩ := PSt.env growAt_fx q1
          obtain ⟨ds, ow, hl, rfl⟩ := growAt_ok e2
          obtain ⟨a, vs, ev, hH, fa, k⟩ := wr_ok g1 ow
          rw [e0] at ev; cases ev
          obtain ⟨b, ws, rfl, hb, fb⟩ := Rep.nd_iff.mp (show Rep G.M F1 (.lst es) v from rv)
          obtain ⟨fs2, g2, s2⟩ := k (ds ++ es) (vs ++ ws) (fa.append fb)
          exact ⟨a0, b, vs, ws, rfl, rfl, hH, g1.fh b _ hb, by rw [fa.length, fb.length]; exact lim_sz hl, q1 σ F1 _ fs2 g2 s2⟩
        | _ => exact q1.elim
      | _ => exact q1.elim
    · exact q.elim
theorem subAt_fx {i : Nat} {ix : Int} {x : D} (c : Nat) (d : D) : subAt env i ix x ≠ .exn c d := by
  intro h
  unfold subAt at h
  split at h
  · split at h <;> cases h
  · split at h <;> cases h
  · cases h
theorem subAt_ok {i : Nat} {ix : Int} {x : D} (h : subAt env i ix x = .ok env') : ∃ ds j, ownAt env i 1 (.lst ds) ∧ ixN ds.length ix = some j ∧ env' = env.set i (match env[i]? with | some (.io _ _) => .io 1 (.lst (ds.set j x)) | _ => .own 1 (.lst (ds.set j x))) := by
  unfold subAt at h
  split at h
  · rename_i ds e
    split at h
    · rename_i j hj
      cases h
      exact ⟨ds, j, .inl e, hj, by rw [e]⟩
    · cases h
  · rename_i ds e
    split at h
    · rename_i j hj
      cases h
      exact ⟨ds, j, .inr e, hj, by rw [e]⟩
    · cases h
  · cases h
theorem s_sub {i : Nat} {j e : E} {x : Str} {y z : Expr} {p sp pos : Pos} (hN : X.N[i]? = some x) (hv : Vis X.env.scope x) (hd : (x == ("__debug__" : Str)) = false) (hcd : (x == ("__classdict__" : Str)) = false)
    (hs : swapsWithSole [.Subscript (.Name x p) z sp] y pos.line X.env = pure false) (hsl : isSl z = false) (h : PE X y (tE G e.pure (ev e))) (hj : PE X z (tE G j.pure (ev j))) : PS X (.Assign [.Subscript (.Name x p) z sp] y pos) (tS G rk (ex (.sub i j e))) :=
  ps_imp (ps_asg h (pg_sub (pe_var hN hv hd hcd) hj set_list (by intro v; cases z <;> first | rfl | (simp [isSl] at hsl))) hs (by cases y <;> rfl)) fun Z σ H ⟨env, F, fs, g, q⟩ => by
    have q : PSt G rk Z F H fs (if isL env i = true then (ev e env).bind fun (x, env) => (str1 x).bind fun d => (ev j env).bind fun (y, env) => (asI y.2).bind fun ix => (subAt env i ix d).bind fun env => .ok (.nx env) else .stuck) := q
    split at q
    · rename_i hL
      obtain ⟨a0, xs0, e0, e1⟩ := isL_ref g hL
      refine ⟨env, F, fs, g, PSt.bind (σ := σ) q fun x env1 F1 H1 fs1 _ g1 s1 _ q1 v rv => ?_⟩
      obtain ⟨d, rfl, q1⟩ := PSt.str q1
      refine ⟨_, e0, env1, F1, fs1, g1, PSt.bind (σ := σ) q1 fun y env2 F2 H2 fs2 _ g2 s2 _ q2 w rw' => ?_⟩
      obtain ⟨ix, hix, q2⟩ := PSt.asI q2
      obtain ⟨env3, e3, q2⟩ := PSt.env subAt_fx q2
      obtain ⟨ds, jn, ow, hj, rfl⟩ := subAt_ok e3
      obtain ⟨a, vs, ev, hH, fa, k⟩ := wr_ok g2 ow
      rw [e0] at ev; cases ev
      rw [hix] at rw'
      obtain ⟨fs3, g3, s3⟩ := k (ds.set jn d) (vs.set jn v) (Fa2.set ((show Rep G.M F1 d v from rv).mono s2.ff) jn fa)
      exact ⟨a0, vs, ix, jn, rfl, rw'.int, hH, by rw [fa.length]; exact hj, q2 σ F2 _ fs3 g3 s3⟩
    · exact q.elim
end
end DL

-- part DLoa
set_option Elab.async false
set_option linter.all false
set_option maxRecDepth 100000
set_option maxHeartbeats 1000000
/-! DL, part oa: rows of values some of which are new lists of one's own. -/
namespace DL
open PySem PySem.Spec PyProof.Rows L2
def OwL (M : Mo) (F H : Hp) : List Bool → List D → List V → List (List Addr) → Prop
  | [], ds, vs, fo => ds = [] ∧ vs = [] ∧ fo = []
  | true :: os, ds, vs, fo => ∃ es r v vs' f fo', ds = .lst es :: r ∧ vs = v :: vs' ∧ fo = f :: fo' ∧ Own M F H 1 (.lst es) v f ∧ OwL M F H os r vs' fo'
  | false :: os, ds, vs, fo => ∃ d r v vs' fo', ds = d :: r ∧ vs = v :: vs' ∧ fo = [] :: fo' ∧ Rep M F d v ∧ OwL M F H os r vs' fo'
theorem OwL.len {M : Mo} {F H : Hp} : ∀ {os : List Bool} {ds : List D} {vs : List V} {fo : List (List Addr)}, OwL M F H os ds vs fo → vs.length = ds.length
  | [], _, _, _, h => by obtain ⟨rfl, rfl, _⟩ := h; rfl
  | true :: os, _, _, _, h => by
    obtain ⟨es, r, v, vs', f, fo', rfl, rfl, rfl, _, h⟩ := h
    simp [h.len]
  | false :: os, _, _, _, h => by
    obtain ⟨d, r, v, vs', fo', rfl, rfl, rfl, _, h⟩ := h
    simp [h.len]
theorem OwL.mono {M : Mo} {F F' H H' : Hp} (s : Same F F') : ∀ {os : List Bool} {ds : List D} {vs : List V} {fo : List (List Addr)}, (∀ b ∈ fo.flatten, H' b = H b) → OwL M F H os ds vs fo → OwL M F' H' os ds vs fo
  | [], _, _, _, _, h => h
  | true :: os, _, _, _, t, h => by
    obtain ⟨es, r, v, vs', f, fo', rfl, rfl, rfl, o, h⟩ := h
    exact ⟨es, r, v, vs', f, fo', rfl, rfl, rfl, o.mono s fun b hb => t b (by simp [hb]), h.mono s fun b hb => t b (by simp only [List.flatten_cons, List.mem_append]; exact .inr hb)⟩
  | false :: os, _, _, _, t, h => by
    obtain ⟨d, r, v, vs', fo', rfl, rfl, rfl, o, h⟩ := h
    exact ⟨d, r, v, vs', fo', rfl, rfl, rfl, Rep.mono s o, h.mono s fun b hb => t b (by simpa using hb)⟩
theorem OwL.there {M : Mo} {F H : Hp} : ∀ {os : List Bool} {ds : List D} {vs : List V} {fo : List (List Addr)}, OwL M F H os ds vs fo → ∀ b ∈ fo.flatten, H b ≠ none
  | [], _, _, _, h, b, hb => by obtain ⟨_, _, rfl⟩ := h; simp at hb
  | true :: os, _, _, _, h, b, hb => by
    obtain ⟨es, r, v, vs', f, fo', rfl, rfl, rfl, o, h⟩ := h
    rw [List.flatten_cons, List.mem_append] at hb
    rcases hb with hb | hb
    · exact o.there b hb
    · exact h.there b hb
  | false :: os, _, _, _, h, b, hb => by
    obtain ⟨d, r, v, vs', fo', rfl, rfl, rfl, o, h⟩ := h
    exact h.there b (by simpa using hb)
/-- a row's reading -/
def tO2 (G : Fr) (r : Env → Res (List D × Env)) (os : List Bool) : TA := fun σ H Q => ∃ env F fs, GS G.M F H G.io env σ fs ∧ match r env with
  | .ok (ds, env') => ∀ F' H' fs' vs fos, GS G.M F' H' G.io env' σ fs' → Step F H fs.at F' H' (atW fs' fos.flatten) → OwL G.M F' H' os ds vs fos → fos.flatten.Nodup → Apart fs' fos.flatten → (∀ b ∈ fos.flatten, F' b = none) → Q vs H'
  | .exn c d => XP G.M G.E c d F H fs.at
  | .stuck => False
theorem bind_inv {α β : Type} {r : Res α} {f : α → Res β} {b : β} (h : r.bind f = .ok b) : ∃ a, r = .ok a ∧ f a = .ok b := by
  cases r with
  | ok a => exact ⟨a, rfl, h⟩
  | exn c d => cases h
  | stuck => cases h
theorem if_inv {α : Type} {c : Prop} [Decidable c] {r : Res α} {b : α} (h : (if c then r else .stuck) = .ok b) : c ∧ r = .ok b := by
  by_cases z : c
  · rw [if_pos z] at h; exact ⟨z, h⟩
  · rw [if_neg z] at h; cases h
section
variable {CXv : CXT} {X : Cx} {G : Fr} {N : List Str} {sc : Scope} {lv rk : Nat} {σ : L2.St} {F H : Hp} {env env' : Env} {fs : Ft} {M : Mo} {io : List (Nat × V)}
theorem o2_nil : PA X [] (tO2 G (evsO [] .nil) []) := pa_imp pa_nil fun σ H Q ⟨env, F, fs, g, q⟩ => by
  exact q F H fs [] [] g (Step.refl.less fun b hb => hb.elim id fun z => by simp at z) ⟨rfl, rfl, rfl⟩ (by simp) (fun _ _ _ => by simp) (by simp)
theorem o2_val {a es : E} {x : Expr} {xs : List Expr} {os : List Bool} (hx : isStar x = false) (ha : PE X x (tE G a.pure (ev a))) (hb : PA X xs (tO2 G (evsO os es) os)) :
    PA X (x :: xs) (tO2 G (evsO (false :: os) (.cons a es)) (false :: os)) :=
  pa_imp (pa_cons ha hb (star_cons hx)) fun σ H Q ⟨env, F, fs, g, q⟩ => by
    have e0 : evsO (false :: os) (.cons a es) env = if plainA a = true then (ev a env).bind fun (x, env) => (str1 x).bind fun d => (evsO os es env).bind fun (r, env) => .ok (d :: r, env) else .stuck := rfl
    rw [e0] at q
    refine ⟨env, F, fs, g, ?_⟩
    by_cases hp : plainA a = true
    · rw [if_pos hp] at q
      cases e1 : ev a env with
      | stuck => rw [e1] at q; exact q
      | exn c d => rw [e1] at q; exact q
      | ok y =>
        obtain ⟨⟨k, d⟩, env1⟩ := y
        rw [e1] at q
        intro F1 H1 fs1 g1 s1 _ v rv
        cases k with
        | succ k => exact q.elim
        | zero =>
          refine ⟨env1, F1, fs1, g1, ?_⟩
          simp only [Res.bind_ok, str1] at q
          cases e2 : evsO os es env1 with
          | stuck => rw [e2] at q; exact q
          | exn c d => rw [e2] at q; exact XP.step q s1
          | ok y =>
            obtain ⟨ds, env2⟩ := y
            rw [e2] at q
            intro F2 H2 fs2 vs fos g2 s2 ow nd ap fn
            exact q F2 H2 fs2 (v :: vs) ([] :: fos) g2 (by simpa using s1.trans s2) ⟨_, _, _, _, _, rfl, rfl, rfl, Rep.mono s2.ff rv, ow⟩ (by simpa using nd) (by simpa using ap) (by simpa using fn)
    · rw [if_neg hp] at q; exact q.elim
theorem o2_own {a es : E} {x : Expr} {xs : List Expr} {os : List Bool} (hx : isStar x = false) (ha : PE X x (tL G a.pure (ev a))) (hb : PA X xs (tO2 G (evsO os es) os)) :
    PA X (x :: xs) (tO2 G (evsO (true :: os) (.cons a es)) (true :: os)) :=
  pa_imp (pa_cons ha hb (star_cons hx)) fun σ H Q ⟨env, F, fs, g, q⟩ => by
    have e0 : evsO (true :: os) (.cons a es) env = if ownL a = true then (ev a env).bind fun (x, env) => match x with
      | (0, .nd .lst ds) => (evsO os es env).bind fun (r, env) => .ok (D.lst ds :: r, env)
      | _ => .stuck
      else .stuck := rfl
    rw [e0] at q
    refine ⟨env, F, fs, g, ?_⟩
    by_cases hp : ownL a = true
    · rw [if_pos hp] at q
      cases e1 : ev a env with
      | stuck => rw [e1] at q; exact q
      | exn c d => rw [e1] at q; exact q
      | ok y =>
        obtain ⟨⟨k, d⟩, env1⟩ := y
        rw [e1] at q
        have fin : ∀ es', k = 0 → d = D.lst es' → (match (evsO os es env1).bind (fun (r, env) => Res.ok (D.lst es' :: r, env)) with
          | .ok (ds, env') => ∀ F' H' fs' vs fos, GS G.M F' H' G.io env' σ fs' → Step F H fs.at F' H' (atW fs' fos.flatten) → OwL G.M F' H' (true :: os) ds vs fos → fos.flatten.Nodup → Apart fs' fos.flatten → (∀ b ∈ fos.flatten, F' b = none) → Q vs H'
          | .exn c d => XP G.M G.E c d F H fs.at
          | .stuck => False) → ∃ ds, ((k, d) : Wk) = (0, D.lst ds) ∧ ∀ F' H' fs' v f, GS G.M F' H' G.io env1 σ fs' → Step F H fs.at F' H' (atW fs' f) → (a.pure = true → Same H H') → Own G.M F' H' 1 (.lst ds) v f → f.Nodup → Apart fs' f → (∀ b ∈ f, F' b = none) → tO2 G (evsO os es) os σ H' fun xs H2 => Q (v :: xs) H2 := by
          intro es' ek ed q5
          clear q
          subst ek ed
          have q := q5
          clear q5
          refine ⟨es', rfl, fun F1 H1 fs1 v f g1 s1 _ o nd1 ap1 fn1 => ⟨env1, F1, fs1, g1, ?_⟩⟩
          have off : ∀ b ∈ f, ¬ fs1.at b := fun b hb ⟨i, hi⟩ => ap1 i b hi hb
          cases e2 : evsO os es env1 with
          | stuck => rw [e2] at q; exact q.elim
          | exn c1 d1 =>
            rw [e2] at q
            exact XP.step q (s1.less fun b hb => .inl hb)
          | ok y =>
            obtain ⟨ds, env2⟩ := y
            rw [e2] at q
            intro F2 H2 fs2 vs fos g2 s2 ow nd ap fn
            have no2 : ∀ b ∈ f, ¬ atW fs2 fos.flatten b := fun b hb z => by
              rcases s2.own b z with w | w
              · exact off b hb w
              · exact o.there b hb w
            have keep : ∀ b ∈ f, H2 b = H1 b := fun b hb => by
              cases e : H1 b with
              | none => exact absurd e (o.there b hb)
              | some u => exact s2.fr b u e (off b hb)
            refine q F2 H2 fs2 (v :: vs) (f :: fos) g2 (s1.trans (s2.mono (fun b hb => .inl hb) fun b hb => ?_)) ⟨_, _, _, _, _, _, rfl, rfl, rfl, o.mono s2.ff keep, ow⟩ ?_ ?_ ?_
            · rcases hb with hb | hb
              · exact .inl (.inl hb)
              · rw [List.flatten_cons, List.mem_append] at hb
                rcases hb with hb | hb
                · exact .inr (.inl (.inr hb))
                · exact .inl (.inr hb)
            · rw [List.flatten_cons, List.nodup_append]
              exact ⟨nd1, nd, fun b hb c hc z => no2 b hb (.inr (z ▸ hc))⟩
            · intro i b hb z
              rw [List.flatten_cons, List.mem_append] at z
              rcases z with z | z
              · exact no2 b z (.inl ⟨i, hb⟩)
              · exact ap i b hb z
            · intro b hb
              rw [List.flatten_cons, List.mem_append] at hb
              rcases hb with hb | hb
              · cases e : F2 b with
                | none => rfl
                | some u =>
                  rcases s2.nw b (by rw [e]; simp) with w | w | w
                  · exact absurd (fn1 b hb) w
                  · exact absurd w (o.there b hb)
                  · exact absurd w (off b hb)
              · exact fn b hb
        cases k with
        | succ k => exact q.elim
        | zero =>
          cases d with
          | nd kd es' =>
            cases kd with
            | lst => exact fin es' rfl rfl q
            | _ => exact q.elim
          | _ => exact q.elim
    · rw [if_neg hp] at q; exact q.elim
/-- a slot is stored, as one's own or not -/
theorem setOwns_vals : ∀ {is : List Nat} {os : List Bool} {ds : List D} {vs : List V} {fos : List (List Addr)} {env : Env} {σ : L2.St} {fs : Ft}, GS M F H io env σ fs → OwL M F H os ds vs fos → fos.flatten.Nodup → Apart fs fos.flatten → (∀ b ∈ fos.flatten, F b = none) →
    setOwns env is os ds = .ok env' → is.length = vs.length ∧ ∃ fs', GS M F H io env' (setV σ is vs) fs' ∧ ∀ b, fs'.at b → fs.at b ∨ b ∈ fos.flatten
  | [], [], ds, vs, fos, env, σ, fs, g, ow, nd, ap, fn, e => by
    obtain ⟨rfl, rfl, rfl⟩ := ow
    cases e
    exact ⟨rfl, fs, g, fun b hb => .inl hb⟩
  | i :: is, [], ds, vs, fos, env, σ, fs, g, ow, nd, ap, fn, e => by cases e
  | [], o :: os, ds, vs, fos, env, σ, fs, g, ow, nd, ap, fn, e => by cases o <;> cases e
  | i :: is, true :: os, ds, vs, fos, env, σ, fs, g, ow, nd, ap, fn, e => by
    obtain ⟨es, r, v, vs', f, fo', rfl, rfl, rfl, o, ow⟩ := ow
    obtain ⟨env1, e1, e⟩ := bind_inv (show (setSl env i (.own 1 (.lst es))).bind (fun env => setOwns env is os r) = .ok env' from e)
    rw [List.flatten_cons] at nd ap fn
    obtain ⟨n1, n2, n3⟩ := List.nodup_append.mp nd
    unfold setSl at e1
    split at e1
    · cases e1
    · rename_i s hs he
      cases e1
      have g2 := g.set he (fun k d z => by subst z; exact hs k d rfl) (s' := .own 1 (.lst es)) ⟨v, rfl, o⟩ n1 (fun b hb => fn b (List.mem_append_left _ hb)) (fun j b hb z => ap j b hb (List.mem_append_left _ z))
      have less : ∀ b, (fs.set i f).at b → fs.at b ∨ b ∈ f := fun b ⟨m, hb⟩ => by
        by_cases w : m = i
        · subst w; rw [Ft.set_same] at hb; exact .inr hb
        · rw [Ft.set_ne w] at hb; exact .inl ⟨m, hb⟩
      obtain ⟨l, fs', g', s'⟩ := setOwns_vals (fs := fs.set i f) g2 ow n2 (fun j b hb z => by
        rcases less b ⟨j, hb⟩ with ⟨m, w⟩ | w
        · exact ap m b w (List.mem_append_right _ z)
        · exact n3 b w b z rfl) (fun b hb => fn b (List.mem_append_right _ hb)) e
      refine ⟨by simp [l], fs', g', fun b hb => ?_⟩
      rw [List.flatten_cons]
      rcases s' b hb with w | w
      · exact (less b w).imp id (List.mem_append_left _)
      · exact .inr (List.mem_append_right _ w)
    · cases e1
  | i :: is, false :: os, ds, vs, fos, env, σ, fs, g, ow, nd, ap, fn, e => by
    obtain ⟨d, r, v, vs', fo', rfl, rfl, rfl, o, ow⟩ := ow
    obtain ⟨env1, e1, e⟩ := bind_inv (show (setSl env i (.val d)).bind (fun env => setOwns env is os r) = .ok env' from e)
    rw [List.flatten_cons, List.nil_append] at nd ap fn
    obtain ⟨l, fs', g', s'⟩ := setOwns_vals (setSl_val g o e1) ow nd (fun j b hb z => by
      obtain ⟨m, w⟩ := set_less b ⟨j, hb⟩
      exact ap m b w z) fn e
    refine ⟨by simp [l], fs', g', fun b hb => ?_⟩
    rw [List.flatten_cons, List.nil_append]
    exact (s' b hb).imp (set_less b) id
theorem setOwns_fx : ∀ {is : List Nat} {os : List Bool} {ds : List D} {env : Env} {c : Nat} {d : D}, setOwns env is os ds ≠ .exn c d := by
  intro is
  induction is with
  | nil => intro os ds env c d h; cases os <;> (try rename_i o os; cases o) <;> cases ds <;> cases h
  | cons i is ih =>
    intro os ds env c d h
    have st : ∀ (s : Sl) (k : Env → Res Env), (∀ env c d, k env ≠ .exn c d) → (setSl env i s).bind k ≠ .exn c d := fun s k hk h => by
      cases e : setSl env i s with
      | ok env1 => rw [e] at h; exact hk _ _ _ h
      | stuck => rw [e] at h; cases h
      | exn c1 d1 => exact setSl_fx _ _ e
    cases os with
    | nil => cases ds <;> cases h
    | cons o os =>
      cases ds with
      | nil => cases o <;> cases h
      | cons d0 ds =>
        cases o with
        | false => exact st _ _ (fun _ _ _ => ih) h
        | true =>
          cases d0 with
          | nd kd es =>
            cases kd with
            | lst => exact st _ _ (fun _ _ _ => ih) h
            | _ => cases h
          | _ => cases h
/-- the row's reading, from the statement's -/
theorem paro_imp {is : List Nat} {os : List Bool} {es : E} {Z : Ends} (h : tS G rk (ex (.paro is os es)) Z σ H) : tO2 G (evsO os es) os σ H fun vs H1 => is.length = vs.length ∧ Z.nx (setV σ is vs) H1 := by
  obtain ⟨env, F, fs, g, q⟩ := h
  have q : PSt G rk Z F H fs ((evsO os es env).bind fun (ds, env) => (setOwns env is os ds).bind fun env => .ok (.nx env)) := q
  refine ⟨env, F, fs, g, ?_⟩
  cases e1 : evsO os es env with
  | stuck => rw [e1] at q; exact q
  | exn c d => rw [e1] at q; exact q
  | ok y =>
    obtain ⟨ds, env1⟩ := y
    rw [e1] at q
    have q : PSt G rk Z F H fs ((setOwns env1 is os ds).bind fun env => .ok (.nx env)) := q
    obtain ⟨env2, e3, q⟩ := PSt.env (fun _ _ => setOwns_fx) q
    intro F' H' fs' vs fos g' s' ow nd ap fn
    obtain ⟨l, fs2, g2, s2⟩ := setOwns_vals g' ow nd ap fn e3
    exact ⟨l, q _ F' H' fs2 g2 (s'.less fun b hb => s2 b hb)⟩
theorem paro_impT {is : List Nat} {os : List Bool} {es : E} {Z : Ends} (h : tS G rk (ex (.paro is os es)) Z σ H) : tO2 G (evsO os es) os σ H fun vs H1 => is.length = vs.length ∧ ∀ p, H1 p = none → Z.nx (setV σ is vs) (upd H1 p (.tup vs)) := by
  obtain ⟨env, F, fs, g, q⟩ := h
  have q : PSt G rk Z F H fs ((evsO os es env).bind fun (ds, env) => (setOwns env is os ds).bind fun env => .ok (.nx env)) := q
  refine ⟨env, F, fs, g, ?_⟩
  cases e1 : evsO os es env with
  | stuck => rw [e1] at q; exact q
  | exn c d => rw [e1] at q; exact q
  | ok y =>
    obtain ⟨ds, env1⟩ := y
    rw [e1] at q
    have q : PSt G rk Z F H fs ((setOwns env1 is os ds).bind fun env => .ok (.nx env)) := q
    obtain ⟨env2, e3, q⟩ := PSt.env (fun _ _ => setOwns_fx) q
    intro F' H' fs' vs fos g' s' ow nd ap fn
    refine ⟨(setOwns_vals g' ow nd ap fn e3).1, fun p hp => ?_⟩
    obtain ⟨gn, sn, an, _⟩ := g'.newO (o := .tup vs) hp
    have ow2 : OwL G.M F' (upd H' p (.tup vs)) os ds vs fos := ow.mono (Same.refl _) fun b hb => by
      have : b ≠ p := fun z => ow.there b hb (z ▸ hp)
      exact upd_ne this
    obtain ⟨l, fs2, g2, s2⟩ := setOwns_vals gn ow2 nd ap fn e3
    refine q _ F' (upd H' p (.tup vs)) fs2 g2 (s'.trans (sn.mono (fun b hb => .inl hb) fun b hb => ?_))
    rcases s2 b hb with w | w
    · exact .inl (.inl w)
    · exact .inr (.inl (.inr w))
/-! ### a call that gives a tuple of one's own lists -/
def tT2 (G : Fr) (r : Env → Res (Wk × Env)) : TE := fun σ H Q => ∃ env F fs, GS G.M F H G.io env σ fs ∧ match r env with
  | .ok (x, env') => ∃ ds, x = (0, D.tup ds) ∧ ∀ F' H' fs' v f, GS G.M F' H' G.io env' σ fs' → Step F H fs.at F' H' (atW fs' f) → Own G.M F' H' 2 (.tup ds) v f → f.Nodup → Apart fs' f → (∀ b ∈ f, F' b = none) → Q v H'
  | .exn c d => XP G.M G.E c d F H fs.at
  | .stuck => False
theorem t2_app {f : FnD} {fa : Addr} (D : FnF CXv X G.M lv f fa) (h1 : f.rk = 2) (hm : X.mg f.name = some (.ref fa)) (hk : PySem.W.keepIn X.K (.ref fa) = true) (hr : Room lv X.A) (hx : Passes CXv X G.E) (hg : Gl X f.name) (hd : (f.name == ("__debug__" : Str)) = false)
    {es : E} {x : Expr} {xs : List Expr} {pp pos : Pos} (hs : (x :: xs).all (fun e => !isStar e) = true) (hb : PA X (x :: xs) (tA G es.pure (evs es))) :
    PE X (.Call (.Name f.name pp) (x :: xs) [] pos) (tT2 G (ev (.app f es))) := by
  obtain ⟨k, fd, ps, F1, hk1, hb1⟩ := D
  have hs := Bool.and_eq_true_iff.mp (show ((!isStar x) && xs.all fun e => !isStar e) = true from hs)
  refine pe_imp (pe_call F1 (hr.mono (by omega)) hg hm hk hb1 .nil hx hb hd (star_cons (by simpa using hs.1)) (star_none hs.2)) fun σ H Q ⟨env, F, fs, g, q⟩ => ?_
  have e0 : ev (.app f es) env = (evs es env).bind fun (ars, env) => (callD f ars env).bind fun (d, env) => .ok ((0, d), env) := rfl
  rw [e0] at q
  refine ⟨env, F, fs, g, ?_⟩
  cases e : evs es env with
  | stuck => rw [e] at q; exact q
  | exn c d => rw [e] at q; exact q
  | ok ro =>
    obtain ⟨ars, env1⟩ := ro
    rw [e] at q
    intro F1 H1 fs1 g1 s1 t1 vs rv
    show Spec G.M f (vs ++ []) H1 Q G.E
    rw [List.append_nil]
    refine call_spec (r0 := .stuck) (k := fun _ _ _ _ _ => True) (p := true) g1 rv ?_
    cases e2 : callD f ars env1 with
    | stuck =>
      have q : (match (callD f ars env1).bind (fun (d, env) => Res.ok (((0 : Nat), d), env)) with
        | .ok (x, env') => _
        | .exn c d => _
        | .stuck => False) := q
      rw [e2] at q; exact q
    | exn c d =>
      have q : (match (callD f ars env1).bind (fun (d, env) => Res.ok (((0 : Nat), d), env)) with
        | .ok (x, env') => _
        | .exn c d => XP G.M G.E c d F H fs.at
        | .stuck => False) := q
      rw [e2] at q; exact XP.step q s1
    | ok ro =>
      obtain ⟨r, env'⟩ := ro
      simp only [Res.bind_ok, e2] at q
      obtain ⟨ds, er, q⟩ := q
      intro F' H' fs' v fr g' st _ own nd ap fn
      rw [h1] at own
      have er : r = D.tup ds := congrArg Prod.snd er
      subst er
      exact q F' H' fs' v fr g' (s1.trans st) own nd ap fn
theorem fa3_owl : ∀ {ds : List D} {vs : List V} {fps : List Addr}, Fa3 (Own M F H 1) ds vs fps → (ds.all fun d => isLst d || flat d) = true → ∃ fos, OwL M F H (ds.map isLst) ds vs fos ∧ fos.flatten = fps
  | [], vs, fps, h, _ => by
    obtain ⟨rfl, rfl⟩ := h
    exact ⟨[], ⟨rfl, rfl, rfl⟩, rfl⟩
  | d :: ds, _, _, h, al => by
    obtain ⟨v, vs', f1, f2, rfl, rfl, o, h⟩ := h
    simp only [List.all_cons, Bool.and_eq_true] at al
    obtain ⟨fos, ow, e⟩ := fa3_owl h al.2
    cases d with
    | nd kd es =>
      cases kd with
      | lst => exact ⟨f1 :: fos, ⟨es, ds, v, vs', f1, fos, rfl, rfl, rfl, o, ow⟩, by simp [e]⟩
      | _ => simp [isLst, flat] at al
    | _ =>
      obtain ⟨o1, rfl⟩ := (show _ ∧ f1 = [] from o)
      exact ⟨[] :: fos, ⟨_, ds, v, vs', fos, rfl, rfl, rfl, o1, ow⟩, by simp [e]⟩
theorem setm_imp {is : List Nat} {e : E} {Z : Ends} (h : tS G rk (ex (.setm is e)) Z σ H) (hF : X.K = G.M.K) : ownT e = true ∧ tAsg (tT2 G (ev e)) (gTup X.K is.length (gIs is)) Z σ H := by
  obtain ⟨env, F, fs, g, q⟩ := h
  have q : PSt G rk Z F H fs (if ownT e = true then (ev e env).bind fun (x, env) => match x with
    | (0, .nd .tup ds) => if (ds.all fun d => isLst d || flat d) = true then (setOwns env is (ds.map isLst) ds).bind fun env => .ok (.nx env) else .stuck
    | _ => .stuck
    else .stuck) := q
  split at q
  · rename_i ho
    refine ⟨ho, env, F, fs, g, ?_⟩
    cases e1 : ev e env with
    | stuck => rw [e1] at q; exact q
    | exn c d => rw [e1] at q; exact q
    | ok y =>
      obtain ⟨⟨j, d⟩, env1⟩ := y
      rw [e1] at q
      have q2 : PSt G rk Z F H fs (match (j, d) with
        | (0, .nd .tup ds) => if (ds.all fun d => isLst d || flat d) = true then (setOwns env1 is (ds.map isLst) ds).bind fun env => .ok (.nx env) else .stuck
        | _ => .stuck) := q
      clear q
      split at q2
      · rename_i ds ej
        cases ej
        split at q2
        · rename_i al
          obtain ⟨env2, e3, q⟩ := PSt.env (fun _ _ => setOwns_fx) q2
          refine ⟨ds, rfl, fun F' H' fs' v f g' s' o nd ap fn => ?_⟩
          obtain ⟨a, vs, ex, fps, rfl, ⟨h1, rfl⟩, h2, rfl⟩ := o
          obtain ⟨fos, ow, ef⟩ := fa3_owl h2 al
          rw [List.nil_append] at nd ap fn s'
          subst ef
          obtain ⟨l, fs2, g2, s2⟩ := setOwns_vals g' ow (List.nodup_cons.mp nd).2 (fun i b hb z => ap i b hb (List.mem_cons_of_mem _ z)) (fun b hb => fn b (List.mem_cons_of_mem _ hb)) e3
          refine ⟨a, vs, rfl, SqT.of h1, l.symm, gIs_of l (q _ F' H' fs2 g2 (s'.less fun b hb => ?_))⟩
          exact (s2 b hb).imp id (List.mem_cons_of_mem _)
        · exact q2.elim
      · exact q2.elim
  · exact q.elim
/-! ### a tuple of one's own lists is given away -/
theorem takeAll_ok : ∀ {ars : List Ar} {vs : List V} {env env2 : Env} {fs : Ft} {ds : List D}, GS M F H io env σ fs → ArR M F H σ ars vs → takeAll ars env = .ok (ds, env2) →
    ∃ fs2 fps, GS M F H io env2 σ fs2 ∧ Fa3 (Own M F H 1) ds vs fps ∧ fps.Nodup ∧ Apart fs2 fps ∧ (∀ b ∈ fps, F b = none) ∧ ∀ b, fs2.at b ∨ b ∈ fps → fs.at b
  | [], vs, env, env2, fs, ds, g, a, e => by
    cases e
    exact ⟨fs, [], g, ⟨a, rfl⟩, List.nodup_nil, fun _ _ _ => by simp, by simp, fun b hb => hb.elim id fun z => by simp at z⟩
  | .d k d :: ars, _, env, env2, fs, ds, g, a, e => by
    obtain ⟨v, vs', rfl, r, a⟩ := a
    cases k with
    | succ k => cases e
    | zero =>
      have e : (if flat d = true then (takeAll ars env).bind fun (ds, env) => Res.ok (d :: ds, env) else .stuck) = .ok (ds, env2) := e
      obtain ⟨hf, e⟩ := if_inv e
      obtain ⟨⟨ds', env1⟩, e1, e⟩ := bind_inv e
      cases e
      obtain ⟨fs2, fps, g2, h2, n2, a2, f2, s2⟩ := takeAll_ok g a e1
      have o : Own M F H 1 d v [] := by
        cases d with
        | nd kd es => simp [flat] at hf
        | _ => exact ⟨r, rfl⟩
      exact ⟨fs2, fps, g2, ⟨v, vs', [], fps, rfl, rfl, o, h2⟩, n2, a2, f2, s2⟩
  | .io i :: ars, _, env, env2, fs, ds, g, a, e => by cases e
  | .wk i :: ars, _, env, env2, fs, ds, g, a, e => by
    obtain ⟨v, vs', rfl, r, a⟩ := a
    have e : (match env[i]? with
      | some (.own 1 (.nd .lst ds)) => (takeAll ars (env.set i .un)).bind fun (es, env) => Res.ok (D.lst ds :: es, env)
      | _ => .stuck) = .ok (ds, env2) := e
    split at e
    · rename_i es he
      obtain ⟨⟨ds', env1⟩, e1, e⟩ := bind_inv e
      cases e
      obtain ⟨v', ev, o⟩ := g.own (.inl he)
      rw [r] at ev; cases ev
      have g1 : GS M F H io (env.set i .un) (σ.set i (some v)) (fs.set i []) := g.set he (by intro k d z; cases z) rfl List.nodup_nil (by simp) (by simp)
      rw [set_self r] at g1
      obtain ⟨fs2, fps, g2, h2, n2, a2, f2, s2⟩ := takeAll_ok g1 a e1
      have off : ∀ b, fs2.at b ∨ b ∈ fps → b ∉ fs i := fun b hb z => by
        obtain ⟨j, w⟩ := s2 b hb
        by_cases q : j = i
        · subst q; rw [Ft.set_same] at w; simp at w
        · rw [Ft.set_ne q] at w; exact g.dj j i b q w z
      refine ⟨fs2, fs i ++ fps, g2, ⟨v, vs', fs i, fps, rfl, rfl, o, h2⟩, List.nodup_append.mpr ⟨g.nd i, n2, fun b hb c hc z => off b (.inr (z ▸ hc)) hb⟩, fun j b hb z => ?_, fun b hb => ?_, fun b hb => ?_⟩
      · rcases List.mem_append.mp z with z | z
        · exact off b (.inl ⟨j, hb⟩) z
        · exact a2 j b hb z
      · rcases List.mem_append.mp hb with z | z
        · exact g.fn i b z
        · exact f2 b z
      · rcases hb with hb | hb
        · exact set_less b (s2 b (.inl hb))
        · rcases List.mem_append.mp hb with z | z
          · exact ⟨i, z⟩
          · exact set_less b (s2 b (.inr z))
    · cases e
theorem rett_imp {es : E} {Z : Ends} (h0 : rk = 2) (h : tS G rk (ex (.rett es)) Z σ H) : tTup (tA G es.pure (evs es)) σ H Z.rt := by
  subst h0
  obtain ⟨env, F, fs, g, q⟩ := h
  refine ⟨env, F, fs, g, PSt.bind (σ := σ) (show PSt G 2 Z F H fs ((evs es env).bind fun (ars, env) => (takeAll ars env).bind fun (ds, env) => if ds.length ≤ lim then .ok (.ret (.tup ds) env) else .stuck) from q) fun ars env1 F1 H1 fs1 _ g1 s1 _ q1 vs rv => ?_⟩
  have q1 : PSt G 2 Z F1 H1 fs1 ((takeAll ars env1).bind fun (ds, env) => if ds.length ≤ lim then .ok (.ret (.tup ds) env) else .stuck) := q1
  cases e1 : takeAll ars env1 with
  | stuck => rw [e1] at q1; exact q1.elim
  | exn c d =>
    exfalso
    have : ∀ {ars : List Ar} {env : Env} {c : Nat} {d : D}, takeAll ars env ≠ .exn c d := by
      intro ars
      induction ars with
      | nil => intro env c d h; cases h
      | cons a ars ih =>
        intro env c d h
        cases a with
        | d k x =>
          cases k with
          | succ k => cases h
          | zero =>
            have h : (if flat x = true then (takeAll ars env).bind fun (ds, env) => Res.ok (x :: ds, env) else .stuck) = .exn c d := h
            split at h
            · cases e : takeAll ars env with
              | ok y => rw [e] at h; cases h
              | stuck => rw [e] at h; cases h
              | exn c d => exact ih e
            · cases h
        | io i => cases h
        | wk i =>
          have h : (match env[i]? with
            | some (.own 1 (.nd .lst ds)) => (takeAll ars (env.set i .un)).bind fun (es, env) => Res.ok (D.lst ds :: es, env)
            | _ => .stuck) = .exn c d := h
          split at h
          · rename_i es _
            cases e : takeAll ars (env.set i .un) with
            | ok y => rw [e] at h; cases h
            | stuck => rw [e] at h; cases h
            | exn c d => exact ih e
          · cases h
    exact this e1
  | ok y =>
    obtain ⟨ds, env2⟩ := y
    rw [e1] at q1
    have q1 : PSt G 2 Z F1 H1 fs1 (if ds.length ≤ lim then .ok (.ret (.tup ds) env2) else .stuck) := q1
    split at q1
    · rename_i hl
      obtain ⟨fs2, fps, g2, h2, n2, a2, f2, s2⟩ := takeAll_ok g1 rv e1
      refine ⟨by rw [h2.length]; exact lim_ok hl, fun p hp => ?_⟩
      obtain ⟨gn, sn, an, hF⟩ := g2.newO (o := .tup vs) hp
      have there : ∀ b ∈ fps, H1 b ≠ none := fun b hb z => by
        obtain ⟨j, w⟩ := s2 b (.inr hb)
        exact g1.hd w z
      have hp2 : p ∉ fps := fun z => there p z hp
      refine q1 (.ref p) σ F1 (upd H1 p (.tup vs)) fs2 (p :: fps) gn ?_ ⟨p, vs, [], fps, rfl, ⟨upd_same, rfl⟩, h2.mono fun d _ v f hf o => o.mono (Same.refl _) fun b hb => upd_ne fun z => hp2 (z ▸ hf b hb), rfl⟩ (List.nodup_cons.mpr ⟨hp2, n2⟩) (fun j b hb z => ?_) fun b hb => ?_
      · refine sn.mono (fun b hb => s2 b (.inl hb)) fun b hb => ?_
        rcases hb with hb | hb
        · exact .inl (.inl hb)
        · rcases List.mem_cons.mp hb with z | z
          · exact .inl (.inr (by simp [z]))
          · exact .inr (.inl (s2 b (.inr z)))
      · rcases List.mem_cons.mp z with z | z
        · exact an j b hb (by simp [z])
        · exact a2 j b hb z
      · rcases List.mem_cons.mp hb with z | z
        · rw [z]; exact hF
        · exact f2 b z
    · exact q1.elim
/-! ### a new list is written to and forgotten -/
theorem appd_imp {o e : E} {Z : Ends} (h : tS G rk (ex (.appd o e)) Z σ H) : ownL o = true ∧ tL G o.pure (ev o) σ H fun v H1 => ∃ a vs, v = .ref a ∧ H1 a = some (.lst vs) ∧ tE G e.pure (ev e) σ H1 fun w H2 => ∃ vs2, H2 a = some (.lst vs2) ∧ vs2.length < sizeLine ∧ Z.nx σ (upd H2 a (.lst (vs2 ++ [w]))) := by
  obtain ⟨env, F, fs, g, q⟩ := h
  have q : PSt G rk Z F H fs (if ownL o = true then (ev o env).bind fun (x, env) => match x with
    | (0, .nd .lst ds) => if ds.length + 1 ≤ lim then (ev e env).bind fun (y, env) => (str1 y).bind fun _ => .ok (.nx env) else .stuck
    | _ => .stuck
    else .stuck) := q
  split at q
  · rename_i ho
    refine ⟨ho, env, F, fs, g, ?_⟩
    cases e1 : ev o env with
    | stuck => rw [e1] at q; exact q
    | exn c d => rw [e1] at q; exact q
    | ok y =>
      obtain ⟨⟨k, d⟩, env1⟩ := y
      rw [e1] at q
      have q2 : PSt G rk Z F H fs (match (k, d) with
        | (0, .nd .lst ds) => if ds.length + 1 ≤ lim then (ev e env1).bind fun (y, env) => (str1 y).bind fun _ => .ok (.nx env) else .stuck
        | _ => .stuck) := q
      clear q
      split at q2
      · rename_i ds ez
        cases ez
        have q := q2
        clear q2
        split at q
        · rename_i hl
          refine ⟨ds, rfl, fun F1 H1 fs1 v f g1 s1 _ ow nd1 ap1 fn1 => ?_⟩
          obtain ⟨a, vs, ex, fps, rfl, ⟨h1, rfl⟩, h2, rfl⟩ := ow
          obtain ⟨h4, rfl⟩ := fa3_zero.mp h2
          refine ⟨a, vs, rfl, h1, env1, F1, fs1, g1, ?_⟩
          have off : ¬ fs1.at a := fun ⟨i, hi⟩ => ap1 i a hi (by simp)
          cases e2 : ev e env1 with
          | stuck => rw [e2] at q; exact q
          | exn c d => rw [e2] at q; exact XP.step q (s1.less fun b hb => .inl hb)
          | ok y =>
            obtain ⟨⟨k, d2⟩, env2⟩ := y
            rw [e2] at q
            intro F2 H2 fs2 g2 s2 _ w rw
            cases k with
            | succ k => exact q.elim
            | zero =>
              have q : PSt G rk Z F H fs (.ok (.nx env2)) := q
              have k2 : H2 a = some (.lst vs) := s2.fr a _ h1 off
              refine ⟨vs, k2, by rw [h4.length]; exact Nat.lt_of_lt_of_le (Nat.lt_of_succ_le hl) (by decide), ?_⟩
              have off2 : ¬ fs2.at a := fun z => by
                rcases s2.own a z with w | w
                · exact off w
                · rw [h1] at w; cases w
              have fa : F2 a = none := by
                cases e : F2 a with
                | none => rfl
                | some u =>
                  rcases s2.nw a (by rw [e]; simp) with w | w | w
                  · exact absurd (fn1 a (by simp)) w
                  · rw [h1] at w; cases w
                  · exact absurd w off
              have s3 : Step F1 H1 (atW fs1 (a :: ([] ++ []))) F2 (upd H2 a (.lst (vs ++ [w]))) fs2.at :=
                ⟨s2.ff, fun b u e hb => by
                  have : b ≠ a := fun z => hb (.inr (by simp [z]))
                  rw [upd_ne this]
                  exact s2.fr b u e fun z => hb (.inl z), fun b hb => (s2.nw b hb).imp id (·.imp id .inl), fun b hb => (s2.own b hb).imp .inl id⟩
              refine q σ F2 _ fs2 (g2.keep (Same.refl _) (fun i b hb => upd_ne fun z => off2 (z ▸ ⟨i, hb⟩)) (fun b u e => ?_) g2.fn) (s1.trans s3)
              have : b ≠ a := fun z => by rw [z, fa] at e; cases e
              rw [upd_ne this]
              exact g2.fh b u e
        · exact q.elim
      · exact q2.elim
  · exact q.elim
end
end DL

-- part DLo
set_option Elab.async false
set_option linter.all false
set_option maxRecDepth 100000
set_option maxHeartbeats 1000000
/-! DL, part o: the check of statements, and that it is sound. -/
namespace DL
open PySem PySem.Spec PyProof.Rows L2

def isCompE : Expr → Bool
  | .ListComp _ _ _ _ => true
  | .SetComp _ _ _ _ => true
  | .DictComp _ _ _ _ _ => true
  | _ => false
def notStarE : E → Bool
  | .star _ => false
  | _ => true
def nmL (N : List Str) (sc : Scope) (i : Nat) : Expr → Bool
  | .Name x _ => decide (N[i]? = some x) && (decide (sc.names.lookup x = some .local) || decide (sc.names.lookup x = some .cell))
  | _ => false
def tiB (N : List Str) (sc : Scope) : Ti → Expr → Bool
  | .sl i, e => nmL N sc i e
  | .at c i f, .Attribute y g _ => nmB N sc i y && decide (g = f)
  | _, _ => false
def tisB (N : List Str) (sc : Scope) : List Ti → List Expr → Bool
  | [], [] => true
  | t :: ts, e :: es => tiB N sc t e && tisB N sc ts es
  | _, _ => false
def tgeB (N : List Str) (sc : Scope) : Tg → Expr → Bool
  | .one t, e => tiB N sc t e
  | .tup ts, .Tuple es _ _ => tisB N sc ts es
  | _, _ => false
/-- a target that is no plain local name -/
def notLoc (sc : Scope) : Expr → Bool
  | .Name x _ => !decide (sc.names.lookup x = some .local)
  | _ => true
/-- the stores are not swapped -/
def isNm : Expr → Bool
  | .Name _ _ => true
  | _ => false
/-- no comprehension, or one whose target is no plain local name -/
def noSw (sc : Scope) (tgt value : Expr) : Bool := !isCompE value || (isNm tgt && notLoc sc tgt)
def swB (sc : Scope) (tgt value : Expr) : Bool := noSw sc tgt value && match tgt with
  | .Name _ _ => true
  | .Attribute _ _ _ => true
  | .Tuple ts _ _ => match value with
    | .Tuple vs _ _ => decide (4 ≤ ts.length) || vs.all (foldedForSure 8) || ts.any (notLoc sc)
    | _ => true
  | _ => false
/-- a comprehension whose list goes into a name of the same line -/
def lcB (sc : Scope) (tgt value : Expr) : Bool := match tgt, value with
  | .Name y py, .ListComp _ _ scope pos => decide (sc.kind = .function) && decide (sc.names.lookup y = some .local) && (py.line == pos.line) && !(scope.names.any fun (n, k) => n == y && (k == .local || k == .cell))
  | _, _ => false
/-- a, b = x, y between plain names -/
def namL (N : List Str) (sc : Scope) : List Nat → List Expr → Bool
  | [], [] => true
  | i :: is, .Name x p :: ts => decide (N[i]? = some x) && decide (sc.names.lookup x = some .local) && namL N sc is ts
  | _, _ => false
def parB (N : List Str) (sc : Scope) (is : List Nat) (ts vs : List Expr) : Bool :=
  decide (sc.kind = .function) && namL N sc is ts && decide is.Nodup && !(vs.all (foldedForSure 8)) && !(vs.all (constantsAlone 8)) && noStars vs &&
    (match ts with
      | [.Name _ p, .Name _ q] => (p.line == q.line) && decide (vs.length = 2)
      | [.Name _ p, .Name _ q, .Name _ r] => (p.line == q.line) && (p.line == r.line) && decide (vs.length = 3)
      | _ => false)
def Ti.needs : Ti → List Fact
  | .sl _ => []
  | .at c _ f => [.fd c f]
def Tg.needs : Tg → List Fact
  | .one t => t.needs
  | .tup ts => (ts.map Ti.needs).flatten
def S.needs : S → List Fact
  | .nil => []
  | .cons s ss => s.needs ++ ss.needs
  | .pass => []
  | .set tg e => tg.needs ++ e.needs
  | .seto _ _ e => e.needs
  | .aug _ _ e => e.needs
  | .par _ es => es.needs
  | .paro _ _ es => es.needs
  | .setm _ e => e.needs
  | .rett es => es.needs
  | .ife t a b => t.needs ++ (a.needs ++ b.needs)
  | .for_ _ it b => it.needs ++ b.needs
  | .whl t b => t.needs ++ b.needs
  | .ret e => e.needs
  | .reto e => e.needs
  | .retm _ => []
  | .retn => []
  | .drop e => e.needs
  | .appd o e => o.needs ++ e.needs
  | .app _ _ e => e.needs
  | .ext _ _ e => e.needs
  | .sub _ j e => e.needs ++ j.needs
  | .frz _ => []
  | .brk => []
  | .cnt => []
  | .never => []
mutual
def chk1 (N : List Str) (sc : Scope) (rk : Nat) : S → Stmt → Bool
  | .pass, .Pass _ => true
  | .pass, .Expr (.Constant (.str _) _ _) _ => true
  | .set tg e, .Assign [t] v _ => (notStarE e && chk N false sc e v) && tgeB N sc tg t && (swB sc t v || lcB sc t v)
  | .seto _ i e, .Assign [.Name y py] v _ => ownL e && chk N false sc e v && nmL N sc i (.Name y py) && (noSw sc (.Name y py) v || lcB sc (.Name y py) v)
  | .par is es, .Assign [.Tuple ts _ _] (.Tuple vs _ _) _ => parB N sc is ts vs && chks N sc es vs
  | .paro is os es, .Assign [.Tuple ts k p] (.Tuple vs k2 p2) _ => okOs os es && chks N sc es vs && (parB N sc is ts vs || (swB sc (.Tuple ts k p) (.Tuple vs k2 p2) && decide (is.length ≤ 20) && tisB N sc (is.map .sl) ts))
  | .setm is e, .Assign [.Tuple ts _ _] v _ => ownT e && chk N false sc e v && tisB N sc (is.map .sl) ts
  | .rett es, .Return (some (.Tuple xs _ _)) _ => decide (rk = 2) && chks N sc es xs
  | .ife t a b, .If c xs ys _ => chk N true sc t c && chkS N sc rk a xs && chkS N sc rk b ys
  | .for_ tg it b, .For t iter body [] _ => notSet iter && chkI N sc it t iter && tgtB (fun _ => true) N sc tg t && chkS N sc rk b body
  | .whl t b, .While c body [] _ => chk N true sc t c && chkS N sc rk b body
  | .ret e, .Return (some x) _ => decide (rk = 0) && chk N false sc e x
  | .reto e, .Return (some x) _ => decide (rk = 1) && ownL e && chk N false sc e x
  | .retm i, .Return (some x) _ => decide (rk = 1) && nmB N sc i x
  | .retn, .Return none _ => true
  | .drop e, .Expr x _ => !isCompE x && chk N false sc e x
  | .appd o e, .Expr (.Call (.Attribute x m ap) [y] [] cp) _ => decide (m = ("append" : Str)) && ownL o && noCall x && !isStar y && (ap.endLine == cp.line) && chk N false sc o x && chk N false sc e y
  | .app i p e, .Expr (.Call (.Attribute x m ap) [y] [] cp) _ => decide (m = ("append" : Str)) && isNilE p && nmB N sc i x && !isStar y && (ap.endLine == cp.line) && chk N false sc e y
  | .ext i p e, .Expr (.Call (.Attribute x m ap) [y] [] cp) _ => decide (m = ("extend" : Str)) && isNilE p && nmB N sc i x && !isStar y && (ap.endLine == cp.line) && chk N false sc e y
  | .sub i j e, .Assign [.Subscript x z _] y _ => nmB N sc i x && !isSl z && !isCompE y && chk N false sc e y && chk N false sc j z
  | .brk, .Break _ => true
  | .cnt, .Continue _ => true
  | _, _ => false
def chkS (N : List Str) (sc : Scope) (rk : Nat) : S → List Stmt → Bool
  | .nil, [] => true
  | .never, _ => true
  | .cons (.frz _) ss, sts => chkS N sc rk ss sts
  | .cons s ss, st :: sts => chk1 N sc rk s st && chkS N sc rk ss sts
  | _, _ => false
end

/-- the context of a def's body -/
structure CS (CXv : CXT) (X : Cx) (G : Fr) (N : List Str) (sc : Scope) (lv : Nat) : Prop extends CO CXv X G N sc lv where
  po : PassesOwn (model X.prog X.w) X.A X.env X.xe
  fn : ∀ x, X.fn x = true
section
variable {CXv : CXT} {X : Cx} {G : Fr} {N : List Str} {sc : Scope} {lv rk : Nat}
theorem swap_none {v : Expr} (h : isCompE v = false) (t : Option Expr) (l : Nat) (env : PySem.Env) : swapsWith v t l env = pure false := by
  cases v <;> first | rfl | (simp [isCompE] at h)
theorem swap_nosw {sc : Scope} {t v : Expr} {l : Nat} {env : PySem.Env} (hc : env.scope = sc) (h : noSw sc t v = true) : swapsWith v (some t) l env = pure false := by
  subst hc
  rcases Bool.or_eq_true_iff.mp h with h | h
  · exact swap_none (by simpa using h) _ _ _
  · have h := Bool.and_eq_true_iff.mp h
    cases t with
    | Name x p =>
      have hx : (env.kindOf x == some .local) = false := by
        rw [beq_eq_false_iff_ne]
        show env.scope.names.lookup x ≠ _
        simpa [notLoc] using h.2
      unfold swapsWith
      cases v <;> simp [hx]
    | _ => simp [isNm] at h
theorem sw_long {ts vs : List Expr} {k p k2 p2} {env : PySem.Env} (h : 4 ≤ ts.length) : swappedStores [.Tuple ts k p] (.Tuple vs k2 p2) env = pure none := by
  have h2 : (ts.length == 2) = false := by simp; omega
  have h3 : (ts.length == 3) = false := by simp; omega
  simp [swappedStores, h2, h3]
theorem sw_fold {ts vs : List Expr} {k p k2 p2} {env : PySem.Env} (h : vs.all (foldedForSure 8) = true) : swappedStores [.Tuple ts k p] (.Tuple vs k2 p2) env = pure none := by
  simp only [swappedStores, h, if_true]
  repeat' split
  all_goals first | rfl | skip
theorem filterMap_lt {α β : Type} {f : α → Option β} {e : α} (hf : f e = none) : ∀ {l : List α}, e ∈ l → (l.filterMap f).length < l.length
  | a :: l, h => by
    have le := List.length_filterMap_le f l
    rcases List.mem_cons.mp h with rfl | h
    · rw [List.filterMap_cons_none hf, List.length_cons]; omega
    · have := filterMap_lt hf h
      cases q : f a with
      | none => rw [List.filterMap_cons_none q, List.length_cons]; omega
      | some b => rw [List.filterMap_cons_some q, List.length_cons, List.length_cons]; omega
theorem sw_cell {ts vs : List Expr} {k p k2 p2} {env : PySem.Env} (h : ts.any (notLoc env.scope) = true) : swappedStores [.Tuple ts k p] (.Tuple vs k2 p2) env = pure none := by
  obtain ⟨e, he, hn⟩ := List.any_eq_true.mp h
  simp only [swappedStores]
  repeat' split
  all_goals first | rfl | skip
  all_goals
    exfalso
    rename_i _ _ q _ _
    have := filterMap_lt (f := fun x => match x with
      | .Name id pos => if (env.kindOf id == some .local && pos.line == (ts.head?.map (·.pos.line)).getD 0) = true then some id else none
      | _ => none) (e := e) (by
        cases e with
        | Name x q =>
          have hx : env.kindOf x ≠ some .local := by
            show env.scope.names.lookup x ≠ _
            simpa [notLoc] using hn
          have : (env.kindOf x == some .local) = false := by
            rw [beq_eq_false_iff_ne]; exact hx
          simp [this]
        | _ => rfl) he
    simp only [Bool.or_eq_true, bne_iff_ne, not_or, ne_eq, Decidable.not_not] at q
    exact absurd q.1 (Nat.ne_of_lt this)
theorem noStar_any {vs : List Expr} (h : noStars vs = true) : (vs.any fun | .Starred .. => true | _ => false) = false := by
  rw [List.any_eq_false]
  intro e he
  have := List.all_eq_true.mp h e he
  cases e <;> first | (simp; done) | (exact absurd this (by simp [isStar]))
theorem sw_two {x y : Str} {p q : Pos} {a b : Expr} {k pt k2 p2} {env : PySem.Env} (hk : env.scope.kind = .function) (hx : env.scope.names.lookup x = some .local) (hy : env.scope.names.lookup y = some .local) (hp : (p.line == q.line) = true) (hn : x ≠ y)
    (h1 : [a, b].all (foldedForSure 8) = false) (h2 : [a, b].all (constantsAlone 8) = false) (h3 : noStars [a, b] = true) : swappedStores [.Tuple [.Name x p, .Name y q] k pt] (.Tuple [a, b] k2 p2) env = pure (some [x, y]) := by
  have hb : env.blockKind = .function := by unfold Env.blockKind; rw [hk]; rfl
  have kx : env.kindOf x = some .local := hx
  have ky : env.kindOf y = some .local := hy
  have hq : q.line = p.line := (eq_of_beq hp).symm
  have h4 := noStar_any h3
  have he : [x, y].eraseDups = [x, y] := by
    have : (y == x) = false := by simpa using fun z => hn z.symm
    simp [List.eraseDups, List.eraseDupsBy, List.eraseDupsBy.loop, this]
  simp only [swappedStores, h1, h2, h4, hb, List.filterMap_cons, List.filterMap_nil, kx, ky, hq, List.head?_cons, Option.map_some, Option.getD_some, Expr.pos]
  simp only [List.any_cons, List.any_nil, Bool.or_false, Bool.or_eq_false_iff] at h4
  simp [he]
  rintro (hh | hh)
  · exact Bool.noConfusion (hh.symm.trans h4.1)
  · exact Bool.noConfusion (hh.symm.trans h4.2)
theorem sw_three {x y z : Str} {p q r : Pos} {a b c : Expr} {k pt k2 p2} {env : PySem.Env} (hk : env.scope.kind = .function) (hx : env.scope.names.lookup x = some .local) (hy : env.scope.names.lookup y = some .local) (hz : env.scope.names.lookup z = some .local) (hp : (p.line == q.line) = true) (hr : (p.line == r.line) = true) (hn : x ≠ y) (hn2 : x ≠ z) (hn3 : y ≠ z)
    (h1 : [a, b, c].all (foldedForSure 8) = false) (h2 : [a, b, c].all (constantsAlone 8) = false) (h3 : noStars [a, b, c] = true) : swappedStores [.Tuple [.Name x p, .Name y q, .Name z r] k pt] (.Tuple [a, b, c] k2 p2) env = pure (some [x, y, z]) := by
  have hb : env.blockKind = .function := by unfold Env.blockKind; rw [hk]; rfl
  have kx : env.kindOf x = some .local := hx
  have ky : env.kindOf y = some .local := hy
  have kz : env.kindOf z = some .local := hz
  have hq : q.line = p.line := (eq_of_beq hp).symm
  have hr : r.line = p.line := (eq_of_beq hr).symm
  have h4 := noStar_any h3
  have he : [x, y, z].eraseDups = [x, y, z] := by
    have e1 : (y == x) = false := by simpa using fun z => hn z.symm
    have e2 : (z == x) = false := by simpa using fun z => hn2 z.symm
    have e3 : (z == y) = false := by simpa using fun z => hn3 z.symm
    simp [List.eraseDups, List.eraseDupsBy, List.eraseDupsBy.loop, e1, e2, e3]
  simp only [swappedStores, h1, h2, h4, hb, List.filterMap_cons, List.filterMap_nil, kx, ky, kz, hq, hr, List.head?_cons, Option.map_some, Option.getD_some, Expr.pos]
  simp only [List.any_cons, List.any_nil, Bool.or_false, Bool.or_eq_false_iff] at h4
  simp [he]
  rintro (hh | hh | hh)
  · exact Bool.noConfusion (hh.symm.trans h4.1)
  · exact Bool.noConfusion (hh.symm.trans h4.2.1)
  · exact Bool.noConfusion (hh.symm.trans h4.2.2)
/-! ### targets -/
theorem nmL_inv {i : Nat} {e : Expr} (c : CO CXv X G N sc lv) (h : nmL N sc i e = true) : ∃ x p, e = .Name x p ∧ X.N[i]? = some x ∧ Loc X.env.scope x := by
  cases e with
  | Name x p =>
    simp only [nmL, Bool.and_eq_true, Bool.or_eq_true, decide_eq_true_eq] at h
    exact ⟨x, p, rfl, by rw [c.hN]; exact h.1, by rw [c.sc]; exact h.2⟩
  | _ => simp [nmL] at h
theorem pg_tiB (c : CS CXv X G N sc lv) {t : Ti} {e : Expr} (h : tiB N sc t e = true) : PG X e (gTi X.K t) ∧ (∀ es, (assignEach (e :: es) X.env).map (·.2) = assign e X.env :: (assignEach es X.env).map (·.2)) ∧ (∀ es, assignEach (e :: es) X.env = (false, assign e X.env) :: assignEach es X.env) := by
  cases t with
  | sl i =>
    obtain ⟨x, p, rfl, h1, h2⟩ := nmL_inv c.toCO h
    exact ⟨pg_name (by rw [c.hN]; exact c.nd) h1 h2 (.inl (c.fn x)), fun _ => rfl, fun _ => rfl⟩
  | «at» k i f =>
    cases e with
    | Attribute y g p =>
      simp only [tiB, Bool.and_eq_true, decide_eq_true_eq] at h
      obtain ⟨h1, rfl⟩ := h
      obtain ⟨n, q, rfl, a1, a2, a3, a4⟩ := nmB_inv c.toCO h1
      exact ⟨pg_att a1 a2 a3 a4, fun _ => rfl, fun _ => rfl⟩
    | _ => simp [tiB] at h
theorem pgs_tisB (c : CS CXv X G N sc lv) : ∀ {ts : List Ti} {es : List Expr}, tisB N sc ts es = true → PGs X es (gTis X.K ts) ∧ (assignEach es X.env).length = ts.length ∧ (assignEach es X.env).findIdx? (·.1) = none
  | [], [], _ => ⟨pgs_nil, rfl, rfl⟩
  | [], _ :: _, h => by simp [tisB] at h
  | _ :: _, [], h => by simp [tisB] at h
  | i :: is, e :: es, h => by
    have h := Bool.and_eq_true_iff.mp (show (tiB N sc i e && tisB N sc is es) = true from h)
    obtain ⟨a1, a3, a4⟩ := pg_tiB c h.1
    obtain ⟨b1, b2, b3⟩ := pgs_tisB c h.2
    refine ⟨pgs_cons a1 b1 (a3 es), by rw [a4, List.length_cons, b2, List.length_cons], ?_⟩
    rw [a4, List.findIdx?_cons, b3]
    rfl
theorem pg_tgeB (c : CS CXv X G N sc lv) {t : Tg} {e : Expr} (h : tgeB N sc t e = true) : PG X e (gTgt X.K t) ∧ (assignEach [e] X.env).map (·.2) = [assign e X.env] := by
  cases t with
  | one t =>
    obtain ⟨a, b, _⟩ := pg_tiB c (show tiB N sc t e = true from h)
    exact ⟨a, b []⟩
  | tup ts =>
    cases e with
    | Tuple es k p =>
      obtain ⟨b1, b2, b3⟩ := pgs_tisB c (show tisB N sc ts es = true from h)
      exact ⟨pg_tup c.calm b1 b2 b3, rfl⟩
    | _ => simp [tgeB] at h
theorem tif_of {M : Mo} (t : Ti) (h : Facts CXv X M lv t.needs) : TiF X M t := by
  cases t with
  | sl i => trivial
  | «at» c i f => exact fact_h h
theorem tgf_of {M : Mo} (t : Tg) (h : Facts CXv X M lv t.needs) : TgF X M t := by
  cases t with
  | one t => exact tif_of t h
  | tup ts => exact fun t ht => tif_of t fun f hf => h f (List.mem_flatten.mpr ⟨_, List.mem_map.mpr ⟨t, ht, rfl⟩, hf⟩)
/-! ### assignments -/
theorem lc_asg (c : CO CXv X G N sc lv) {i : Nat} {e : E} {y : Str} {py pos : Pos} {v : Expr} (hns : notStarE e = true) (f : Facts CXv X G.M lv e.needs) (h : chk N false sc e v = true) (hl : lcB sc (.Name y py) v = true) (hi0 : X.N[i]? = some y) :
    PS X (.Assign [.Name y py] v pos) (tAsg (tN G e.pure (ev e)) (gName i)) := by
  cases v with
  | ListComp elt gs scope p =>
    simp only [lcB, Bool.and_eq_true, decide_eq_true_eq, Bool.not_eq_true'] at hl
    obtain ⟨⟨⟨l1, l2⟩, l3⟩, l4⟩ := hl
    cases e with
    | comp tg it u e =>
      cases gs with
      | nil => simp [chk] at h
      | cons g0 gs =>
        cases g0 with
        | mk tgt iter ifs asy =>
          cases gs with
          | cons _ _ => simp [chk] at h
          | nil =>
            simp only [chk, Bool.not_false, Bool.true_and, Bool.and_eq_true, decide_eq_true_eq, Bool.not_eq_true'] at h
            obtain ⟨⟨⟨⟨⟨⟨⟨rfl, hn⟩, hi⟩, hb⟩, ho⟩, hg⟩, ht⟩, he⟩ := h
            have q := ps_setLc (elt := elt) (ifs := ifs) (spos := pos) (py := py) (pos := p) c.calm (by rw [c.hN]; exact c.nd) hi0 (by rw [c.sc]; exact l2) (sw_true (by rw [c.sc]; exact l1) (by rw [c.sc]; exact l2) l3 l4) ((sound N it).i c (fact_l f) hi) (by rw [c.hN, c.sc]; exact blkOk_by hb) (g := gTg X.K tg) (tt := tT { G with E := E0 } u.pure (tstOf u (ev u))) (te := tE { G with E := E0 } e.pure (ev e))
              (fun s H C cl fp => ?_) (fun s H C cl fp => ?_) (fun s H C cl fp => ?_) (set_iter hn _)
            · rw [ho] at q
              exact ps_imp q fun Z σ H h => lc_imp σ H _ h
            · have cb := c.blk s H scope C cl fp
              exact pg_tgtB (X := X.blk s H scope (compEnvC scope cl C X.env) fp) c.calm cb.hN c.nd cb.sc (fun x hx => hx) hg
            · have cb := c.blk s H scope C cl fp
              have fb : Facts CXv (X.blk s H scope (compEnvC scope cl C X.env) fp) G.M _ u.needs := fun g hg => factOk_blk (fact_l (fact_r f) g hg)
              cases ifs with
              | nil =>
                cases u with
                | nil => exact pts_imp pts_nil tst_nil
                | _ => simp [isNilE] at ht
              | cons c0 cs =>
                cases cs with
                | cons _ _ => simp at ht
                | nil =>
                  simp only [Bool.and_eq_true, Bool.not_eq_true'] at ht
                  rw [tst_evT ht.1]
                  exact pts_one ((sound N u).t cb fb ht.2)
            · have cb := c.blk s H scope C cl fp
              exact (sound N e).v cb (fun g hg => factOk_blk (fact_r (fact_r f) g hg)) he
    | star a => simp [notStarE] at hns
    | _ => simp [chk, nmB] at h
  | _ => simp [lcB] at hl
theorem s_asg (c : CS CXv X G N sc lv) {tg : Tg} {e : E} {t v : Expr} {pos : Pos} (hns : notStarE e = true) (f : Facts CXv X G.M lv (S.set tg e).needs) (h : chk N false sc e v = true) (ht : tgeB N sc tg t = true) (hs : (swB sc t v || lcB sc t v) = true) : PS X (.Assign [t] v pos) (tS G rk (ex (.set tg e))) := by
  rcases Bool.or_eq_true_iff.mp hs with hs | hs
  · have h1 := pg_tgeB c ht
    simp only [swB, Bool.and_eq_true] at hs
    refine ps_imp (ps_asg ((sound N e).v c.toCO (fact_r f) h) h1.1 (swap_nosw c.sc hs.1) ?_ h1.2) fun Z σ H q => asg_imp (tgf_of tg (fact_l f)) q
    have hs := hs.2
    cases t with
    | Name _ _ => cases v <;> rfl
    | Attribute _ _ _ => cases v <;> rfl
    | Tuple ts k p =>
      cases v with
      | Tuple vs k2 p2 =>
        simp only [Bool.or_eq_true, decide_eq_true_eq] at hs
        rcases hs with (hs | hs) | hs
        · exact sw_long hs
        · exact sw_fold hs
        · exact sw_cell (by rw [← c.sc] at hs; exact hs)
      | _ => rfl
    | _ => simp at hs
  · cases t with
    | Name y py =>
      cases tg with
      | one t =>
        cases t with
        | sl i =>
          obtain ⟨x, p, e1, a1, a2⟩ := nmL_inv c.toCO (show nmL N sc i (.Name y py) = true from ht)
          cases e1
          exact ps_imp (lc_asg c.toCO hns (fact_r f) h hs a1) fun Z σ H q => tE_N (asg_imp (X := X) (tgf_of _ (fact_l f)) q)
        | «at» _ _ _ => simp [tgeB, tiB] at ht
      | tup _ => simp [tgeB] at ht
    | _ => simp [lcB] at hs
theorem s_asgL (c : CS CXv X G N sc lv) {i k : Nat} {e : E} {y : Str} {py : Pos} {v : Expr} {pos : Pos} (f : Facts CXv X G.M lv e.needs) (ho : ownL e = true) (h : chk N false sc e v = true) (ht : nmL N sc i (.Name y py) = true) (hs : (noSw sc (.Name y py) v || lcB sc (.Name y py) v) = true) :
    PS X (.Assign [.Name y py] v pos) (tS G rk (ex (.seto k i e))) := by
  obtain ⟨x, p, e1, a1, a2⟩ := nmL_inv c.toCO ht
  cases e1
  rcases Bool.or_eq_true_iff.mp hs with hs | hs
  · exact ps_imp (ps_set (by rw [c.hN]; exact c.nd) a1 a2 ((sound N e).l c.toCO f ho h) (swap_nosw c.sc hs) (.inl (c.fn _))) fun Z σ H q => (asgL_imp q).2
  · exact ps_imp (lc_asg c.toCO (by cases e <;> first | rfl | (simp [ownL] at ho)) f h hs a1) fun Z σ H q => tL_N (asgL_imp q).2
theorem namL_inv (c : CO CXv X G N sc lv) {i : Nat} {is : List Nat} {t : Expr} {ts : List Expr} (h : namL N sc (i :: is) (t :: ts) = true) : ∃ x p, t = .Name x p ∧ X.N[i]? = some x ∧ X.env.scope.names.lookup x = some .local ∧ namL N sc is ts = true := by
  cases t with
  | Name x p =>
    simp only [namL, Bool.and_eq_true, decide_eq_true_eq] at h
    exact ⟨x, p, rfl, by rw [c.hN]; exact h.1.1, by rw [c.sc]; exact h.1.2, h.2⟩
  | _ => simp [namL] at h
theorem nodup_ne {α : Type} {l : List α} (nd : l.Nodup) {i j : Nat} {x y : α} (hi : l[i]? = some x) (hj : l[j]? = some y) (h : i ≠ j) : x ≠ y := by
  obtain ⟨a1, a2⟩ := List.getElem?_eq_some_iff.mp hi
  obtain ⟨b1, b2⟩ := List.getElem?_eq_some_iff.mp hj
  rw [← a2, ← b2]
  rcases Nat.lt_or_gt_of_ne h with l | l
  · exact List.pairwise_iff_getElem.mp nd i j a1 b1 l
  · exact (List.pairwise_iff_getElem.mp nd j i b1 a1 l).symm
theorem tA_mono {p : Bool} {r : Env → Res (List Ar × Env)} {σ : L2.St} {H : Hp} {Q Q' : List V → Hp → Prop} (h : tA G p r σ H Q) (i : ∀ vs H, Q vs H → Q' vs H) : tA G p r σ H Q' := by
  obtain ⟨env, F, fs, g, q⟩ := h
  exact ⟨env, F, fs, g, q.weak (fun z => z) fun x env1 F1 H1 fs1 _ _ _ _ k vs rv => i _ _ (k vs rv)⟩
theorem par_imp {is : List Nat} {es : E} {Z : Ends} {σ : L2.St} {H : Hp} (h : tS G rk (ex (.par is es)) Z σ H) : tA G es.pure (evs es) σ H fun vs H1 => is.length = vs.length ∧ Z.nx (setV σ is vs) H1 := by
  obtain ⟨env, F, fs, g, q⟩ := h
  refine ⟨env, F, fs, g, PSt.bind (σ := σ) (show PSt G rk Z F H fs ((evs es env).bind fun (ars, env) => (ofO (strong ars)).bind fun ds => (setTis env (is.map .sl) ds).bind fun env => .ok (.nx env)) from q) fun ars env1 F1 H1 fs1 _ g1 s1 _ q1 vs rv => ?_⟩
  obtain ⟨ds, e, q1⟩ := PSt.ofO q1
  obtain ⟨env2, e2, q1⟩ := PSt.env (fun _ _ => setTis_fx) q1
  obtain ⟨l, fs', g', s'⟩ := setTis_vals g1 (strong_vs e rv) e2
  exact ⟨l, q1 _ F1 H1 fs' g' (Step.refl.less s')⟩
theorem s_o2 (c : CO CXv X G N sc lv) : ∀ {os : List Bool} {es : E} {xs : List Expr}, Facts CXv X G.M lv es.needs → okOs os es = true → chks N sc es xs = true → PA X xs (tO2 G (evsO os es) os) := by
  intro os es
  induction es generalizing os with
  | nil =>
    intro xs f ho h
    cases os with
    | nil =>
      cases xs with
      | nil => exact o2_nil
      | cons _ _ => simp [chks] at h
    | cons o os => cases o <;> simp [okOs] at ho
  | cons a es _ ih =>
    intro xs f ho h
    have key : (∀ i, a ≠ .ioa i ∧ a ≠ .wka i) → (∀ b, a ≠ .star b) → ∃ x ys, xs = x :: ys ∧ isStar x = false ∧ chk N false sc a x = true ∧ chks N sc es ys = true := by
      intro h1 h2
      cases xs with
      | nil => exfalso; cases a <;> simp [chks] at h
      | cons x ys =>
        have h : (!isStar x && chk N false sc a x && chks N sc es ys) = true := by
          cases a <;> first | exact h | exact absurd rfl (h1 _).1 | exact absurd rfl (h1 _).2 | exact absurd rfl (h2 _)
        simp only [Bool.and_eq_true, Bool.not_eq_true'] at h
        exact ⟨x, ys, rfl, h.1.1, h.1.2, h.2⟩
    cases os with
    | nil => simp [okOs] at ho
    | cons o os =>
      cases o with
      | true =>
        have ho := Bool.and_eq_true_iff.mp (show (ownL a && okOs os es) = true from ho)
        obtain ⟨x, ys, rfl, hx, k1, k2⟩ := key (fun i => by cases a <;> simp [ownL] at ho ⊢) (fun b => by cases a <;> simp [ownL] at ho ⊢)
        exact o2_own hx ((sound N a).l c (fact_l f) ho.1 k1) (ih (fact_r f) ho.2 k2)
      | false =>
        have ho := Bool.and_eq_true_iff.mp (show (plainA a && okOs os es) = true from ho)
        have h1 : ∀ i, a ≠ .ioa i ∧ a ≠ .wka i := fun i => by cases a <;> simp [plainA] at ho ⊢
        have h2 : ∀ b, a ≠ .star b := fun b => by cases a <;> simp [plainA] at ho ⊢
        obtain ⟨x, ys, rfl, hx, k1, k2⟩ := key h1 h2
        exact o2_val hx ((sound N a).v c (fact_l f) k1) (ih (fact_r f) ho.2 k2)
  | _ =>
    intro xs f ho h
    cases os with
    | nil => simp [okOs] at ho
    | cons o os => cases o <;> simp [okOs] at ho
theorem gTis_sl {K : PySem.W.Frag} : ∀ {is : List Nat}, gTis K (is.map .sl) = gIs is
  | [] => rfl
  | i :: is => by
    show gCons (gName i) (gTis K (is.map .sl)) = gCons (gName i) (gIs is)
    rw [gTis_sl]
theorem tO2_mono {os : List Bool} {r : Env → Res (List D × Env)} {σ : L2.St} {H : Hp} {Q Q' : List V → Hp → Prop} (h : tO2 G r os σ H Q) (i : ∀ vs H1, Q vs H1 → Q' vs H1) : tO2 G r os σ H Q' := by
  obtain ⟨env, F, fs, g, q⟩ := h
  refine ⟨env, F, fs, g, ?_⟩
  cases e : r env with
  | stuck => rw [e] at q; exact q
  | exn c d => rw [e] at q; exact q
  | ok y =>
    obtain ⟨ds, env1⟩ := y
    rw [e] at q
    exact fun F' H' fs' vs fos g' s' ow nd ap fn => i _ _ (q F' H' fs' vs fos g' s' ow nd ap fn)
theorem s_parl (c : CS CXv X G N sc lv) {is : List Nat} {os : List Bool} {es : E} {ts vs : List Expr} {k pt k2 p2} {pos : Pos} (f : Facts CXv X G.M lv es.needs) (ho : okOs os es = true) (h4 : swB sc (.Tuple ts k pt) (.Tuple vs k2 p2) = true) (h20 : is.length ≤ 20) (ht : tisB N sc (is.map .sl) ts = true) (h : chks N sc es vs = true) :
    PS X (.Assign [.Tuple ts k pt] (.Tuple vs k2 p2) pos) (tS G rk (ex (.paro is os es))) := by
  obtain ⟨b1, b2, b3⟩ := pgs_tisB c ht
  have hw : swappedStores [.Tuple ts k pt] (.Tuple vs k2 p2) X.env = pure none := by
    simp only [swB, noSw, isCompE, Bool.not_false, Bool.true_or, Bool.true_and, Bool.or_eq_true, decide_eq_true_eq] at h4
    rcases h4 with (hs | hs) | hs
    · exact sw_long hs
    · exact sw_fold hs
    · exact sw_cell (by rw [← c.sc] at hs; exact hs)
  refine ps_imp (ps_asg (pe_tup (s_o2 c.toCO f ho h)) (pg_tup c.calm b1 b2 b3) rfl hw rfl) fun Z σ H q => ?_
  refine tO2_mono (paro_impT q) fun xs H1 ⟨l, q⟩ => ⟨by rw [← l]; exact Nat.le_trans h20 (by decide), fun p hp => ?_⟩
  refine ⟨p, xs, rfl, SqT.of upd_same, by rw [List.length_map]; exact l.symm, ?_⟩
  rw [gTis_sl]
  exact gIs_of l (q p hp)
theorem s_setm (c : CS CXv X G N sc lv) {is : List Nat} {e : E} {ts : List Expr} {v : Expr} {k pt} {pos : Pos} (f : Facts CXv X G.M lv e.needs) (ho : ownT e = true) (h : chk N false sc e v = true) (ht : tisB N sc (is.map .sl) ts = true) :
    PS X (.Assign [.Tuple ts k pt] v pos) (tS G rk (ex (.setm is e))) := by
  obtain ⟨b1, b2, b3⟩ := pgs_tisB c ht
  rw [gTis_sl, List.length_map] at *
  cases e with
  | app fd es =>
    have h1 : fd.rk = 2 := by simpa [ownT] using ho
    have : ∃ g pp x xs p, v = .Call (.Name g pp) (x :: xs) [] p := by
      cases v <;> first | (simp [chk] at h; done) | skip
      rename_i fn as ks p
      cases fn <;> first | (simp [chk] at h; done) | skip
      cases as <;> first | (simp [chk] at h; done) | skip
      cases ks <;> first | (simp [chk] at h; done) | skip
      exact ⟨_, _, _, _, _, rfl⟩
    obtain ⟨g, pp, x, xs, p, rfl⟩ := this
    simp only [chk, Bool.and_eq_true, decide_eq_true_eq, Bool.not_eq_true'] at h
    obtain ⟨⟨⟨rfl, hg⟩, hs⟩, h2⟩ := h
    obtain ⟨fa, F1, hm, hk⟩ := (fact_h f).ex
    refine ps_imp (ps_asg (t2_app F1 h1 hm hk c.room c.pass (glB_inv c.toCO hg).1 (glB_inv c.toCO hg).2 hs ((sound N es).a c.toCO (fact_t f) h2)) (pg_tup c.calm b1 b2 b3) rfl rfl rfl) fun Z σ H q => (setm_imp q c.K).2
  | _ => simp [ownT] at ho
theorem s_rett (c : CS CXv X G N sc lv) {es : E} {xs : List Expr} {k p} {pos : Pos} (f : Facts CXv X G.M lv es.needs) (h0 : rk = 2) (h : chks N sc es xs = true) : PS X (.Return (some (.Tuple xs k p)) pos) (tS G rk (ex (.rett es))) :=
  ps_imp (ps_ret (pe_tup ((sound N es).a c.toCO f h))) fun Z σ H q => rett_imp h0 q
theorem tL_mono {p : Bool} {r : Env → Res (Wk × Env)} {σ : L2.St} {H : Hp} {Q Q' : VK} (h : tL G p r σ H Q) (i : ∀ v H, Q v H → Q' v H) : tL G p r σ H Q' := by
  obtain ⟨env, F, fs, g, q⟩ := h
  refine ⟨env, F, fs, g, ?_⟩
  cases e : r env with
  | stuck => rw [e] at q; exact q
  | exn c d => rw [e] at q; exact q
  | ok y =>
    obtain ⟨x, env1⟩ := y
    rw [e] at q
    obtain ⟨ds, ex, q⟩ := q
    exact ⟨ds, ex, fun F' H' fs' v f g' s' t o nd ap fn => i _ _ (q F' H' fs' v f g' s' t o nd ap fn)⟩
theorem s_appd (c : CS CXv X G N sc lv) {o e : E} {x y : Expr} {ap cp pos : Pos} (f : Facts CXv X G.M lv (o.needs ++ e.needs)) (ho : ownL o = true) (hn : noCall x = true) (hy : isStar y = false) (hl : (ap.endLine == cp.line) = true) (h : chk N false sc o x = true) (h2 : chk N false sc e y = true) :
    PS X (.Expr (.Call (.Attribute x "append" ap) [y] [] cp) pos) (tS G rk (ex (.appd o e))) :=
  ps_imp (ps_expr (pe_bm PySem.F.plainAttrs_list PySem.F.slot_list_append PySem.F.type_list_append mt_append ((sound N o).l c.toCO (fact_l f) ho h) (pa_cons ((sound N e).v c.toCO (fact_r f) h2) pa_nil (star_cons hy)) (ab_ok hn _ _) (form_ok (by simp [hy]) (by simp)) hl (star_cons hy) rfl)) fun Z σ H q => by
    obtain ⟨_, q⟩ := appd_imp q
    refine tL_mono q fun v H1 ⟨a, vs, ev, h1, q⟩ => ?_
    subst ev
    refine ⟨ly_list h1, tE_mono _ _ _ _ q fun w H2 ⟨vs2, k2, hl, q⟩ => ?_⟩
    exact ⟨a, vs2, w, rfl, rfl, k2, hl, q⟩
theorem s_par (c : CS CXv X G N sc lv) {is : List Nat} {es : E} {ts vs : List Expr} {k pt k2 p2} {pos : Pos} (f : Facts CXv X G.M lv es.needs) (hp : parB N sc is ts vs = true) (h : chks N sc es vs = true) : PS X (.Assign [.Tuple ts k pt] (.Tuple vs k2 p2) pos) (tS G rk (ex (.par is es))) := by
  simp only [parB, Bool.and_eq_true, decide_eq_true_eq, Bool.not_eq_true'] at hp
  obtain ⟨⟨⟨⟨⟨⟨hk, hn⟩, hd⟩, hf⟩, hc⟩, hs⟩, hp⟩ := hp
  have hk : X.env.scope.kind = .function := by rw [c.sc]; exact hk
  have nd : X.N.Nodup := by rw [c.hN]; exact c.nd
  split at hp
  · rename_i x p y q
    cases is with
    | nil => simp [namL] at hn
    | cons i is =>
      obtain ⟨_, _, e1, i1, i2, hn⟩ := namL_inv c.toCO hn
      cases e1
      cases is with
      | nil => simp [namL] at hn
      | cons j is =>
        obtain ⟨_, _, e1, j1, j2, hn⟩ := namL_inv c.toCO hn
        cases e1
        cases is with
        | cons _ _ => simp [namL] at hn
        | nil =>
          simp only [Bool.and_eq_true, decide_eq_true_eq] at hp
          match vs, hp.2 with
          | [a, b], _ =>
            have hij : i ≠ j := by simpa using hd
            refine ps_imp (ps_par c.calm nd i1 j1 hij i2 j2 ((sound N es).a c.toCO f h) (sw_two hk i2 j2 hp.1 (nodup_ne nd i1 j1 hij) hf hc hs)) fun Z σ H q => ?_
            refine tA_mono (par_imp q) fun vs H1 ⟨l, q⟩ => ?_
            match vs, l with
            | [v, w], _ => exact ⟨v, w, rfl, q⟩
  · rename_i x p y q z r
    cases is with
    | nil => simp [namL] at hn
    | cons i is =>
      obtain ⟨_, _, e1, i1, i2, hn⟩ := namL_inv c.toCO hn
      cases e1
      cases is with
      | nil => simp [namL] at hn
      | cons j is =>
        obtain ⟨_, _, e1, j1, j2, hn⟩ := namL_inv c.toCO hn
        cases e1
        cases is with
        | nil => simp [namL] at hn
        | cons m is =>
          obtain ⟨_, _, e1, m1, m2, hn⟩ := namL_inv c.toCO hn
          cases e1
          cases is with
          | cons _ _ => simp [namL] at hn
          | nil =>
            simp only [Bool.and_eq_true, decide_eq_true_eq] at hp
            match vs, hp.2 with
            | [a, b, d], _ =>
              simp only [List.nodup_cons, List.mem_cons, List.not_mem_nil, or_false, not_or] at hd
              obtain ⟨⟨hij, him⟩, hjm, _⟩ := hd
              refine ps_imp (ps_par3 c.calm nd i1 j1 m1 hij him hjm i2 j2 m2 ((sound N es).a c.toCO f h) (sw_three hk i2 j2 m2 hp.1.1 hp.1.2 (nodup_ne nd i1 j1 hij) (nodup_ne nd i1 m1 him) (nodup_ne nd j1 m1 hjm) hf hc hs)) fun Z σ H q => ?_
              refine tA_mono (par_imp q) fun vs H1 ⟨l, q⟩ => ?_
              match vs, l with
              | [v, w, u], _ => exact ⟨v, w, u, rfl, q⟩
  · cases hp
theorem s_paro (c : CS CXv X G N sc lv) {is : List Nat} {os : List Bool} {es : E} {ts vs : List Expr} {k pt k2 p2} {pos : Pos} (f : Facts CXv X G.M lv es.needs) (ho : okOs os es = true) (hp : parB N sc is ts vs = true) (h : chks N sc es vs = true) : PS X (.Assign [.Tuple ts k pt] (.Tuple vs k2 p2) pos) (tS G rk (ex (.paro is os es))) := by
  simp only [parB, Bool.and_eq_true, decide_eq_true_eq, Bool.not_eq_true'] at hp
  obtain ⟨⟨⟨⟨⟨⟨hk, hn⟩, hd⟩, hf⟩, hc⟩, hs⟩, hp⟩ := hp
  have hk : X.env.scope.kind = .function := by rw [c.sc]; exact hk
  have nd : X.N.Nodup := by rw [c.hN]; exact c.nd
  split at hp
  · rename_i x p y q
    cases is with
    | nil => simp [namL] at hn
    | cons i is =>
      obtain ⟨_, _, e1, i1, i2, hn⟩ := namL_inv c.toCO hn
      cases e1
      cases is with
      | nil => simp [namL] at hn
      | cons j is =>
        obtain ⟨_, _, e1, j1, j2, hn⟩ := namL_inv c.toCO hn
        cases e1
        cases is with
        | cons _ _ => simp [namL] at hn
        | nil =>
          simp only [Bool.and_eq_true, decide_eq_true_eq] at hp
          match vs, hp.2 with
          | [a, b], _ =>
            have hij : i ≠ j := by simpa using hd
            refine ps_imp (ps_par c.calm nd i1 j1 hij i2 j2 (s_o2 c.toCO f ho h) (sw_two hk i2 j2 hp.1 (nodup_ne nd i1 j1 hij) hf hc hs)) fun Z σ H q => ?_
            refine tO2_mono (paro_imp q) fun vs H1 ⟨l, q⟩ => ?_
            match vs, l with
            | [v, w], _ => exact ⟨v, w, rfl, q⟩
  · rename_i x p y q z r
    cases is with
    | nil => simp [namL] at hn
    | cons i is =>
      obtain ⟨_, _, e1, i1, i2, hn⟩ := namL_inv c.toCO hn
      cases e1
      cases is with
      | nil => simp [namL] at hn
      | cons j is =>
        obtain ⟨_, _, e1, j1, j2, hn⟩ := namL_inv c.toCO hn
        cases e1
        cases is with
        | nil => simp [namL] at hn
        | cons m is =>
          obtain ⟨_, _, e1, m1, m2, hn⟩ := namL_inv c.toCO hn
          cases e1
          cases is with
          | cons _ _ => simp [namL] at hn
          | nil =>
            simp only [Bool.and_eq_true, decide_eq_true_eq] at hp
            match vs, hp.2 with
            | [a, b, d], _ =>
              simp only [List.nodup_cons, List.mem_cons, List.not_mem_nil, or_false, not_or] at hd
              obtain ⟨⟨hij, him⟩, hjm, _⟩ := hd
              refine ps_imp (ps_par3 c.calm nd i1 j1 m1 hij him hjm i2 j2 m2 (s_o2 c.toCO f ho h) (sw_three hk i2 j2 m2 hp.1.1 hp.1.2 (nodup_ne nd i1 j1 hij) (nodup_ne nd i1 m1 him) (nodup_ne nd j1 m1 hjm) hf hc hs)) fun Z σ H q => ?_
              refine tO2_mono (paro_imp q) fun vs H1 ⟨l, q⟩ => ?_
              match vs, l with
              | [v, w, u], _ => exact ⟨v, w, u, rfl, q⟩
  · cases hp
end
end DL

-- part DLp
set_option Elab.async false
set_option linter.all false
set_option maxRecDepth 100000
set_option maxHeartbeats 1000000
/-! DL, part p: the check of statements is sound. -/
namespace DL
open PySem PySem.Spec PyProof.Rows L2
theorem sole_none {t v : Expr} {l : Nat} {env : PySem.Env} (h : isCompE v = false) : swapsWithSole [t] v l env = pure false := swap_none h (some t) l env
structure SS (N : List Str) (rk : Nat) (s : S) : Prop where
  a : ∀ {CXv : CXT} {X : Cx} {G : Fr} {sc : Scope} {lv : Nat} {st : Stmt}, CS CXv X G N sc lv → Facts CXv X G.M lv s.needs → chk1 N sc rk s st = true → PS X st (tS G rk (ex s))
  b : ∀ {CXv : CXT} {X : Cx} {G : Fr} {sc : Scope} {lv : Nat} {sts : List Stmt}, CS CXv X G N sc lv → Facts CXv X G.M lv s.needs → chkS N sc rk s sts = true → PSs X sts (tS G rk (ex s))
theorem SS.one {N : List Str} {rk : Nat} {s : S} (hb : ∀ {sc : Scope} {sts : List Stmt}, ¬ chkS N sc rk s sts = true)
    (a : ∀ {CXv : CXT} {X : Cx} {G : Fr} {sc : Scope} {lv : Nat} {st : Stmt}, CS CXv X G N sc lv → Facts CXv X G.M lv s.needs → chk1 N sc rk s st = true → PS X st (tS G rk (ex s))) : SS N rk s := ⟨a, fun _ _ h => absurd h hb⟩
theorem soundS (N : List Str) (rk : Nat) : ∀ s : S, SS N rk s := by
  intro s
  induction s with
  | nil =>
    refine ⟨fun c f h => (by simp [chk1] at h), fun {_ _ _ _ _ sts} c f h => ?_⟩
    cases sts with
    | nil => exact s_snil
    | cons _ _ => simp [chkS] at h
  | never => exact ⟨fun c f h => (by simp [chk1] at h), fun c f h => s_never⟩
  | frz i => exact ⟨fun c f h => (by simp [chk1] at h), fun {_ _ _ _ _ sts} c f h => (by cases sts <;> simp [chkS] at h)⟩
  | cons s ss ihs ihss =>
    refine ⟨fun c f h => (by simp [chk1] at h), fun {_ _ _ sc _ sts} c f h => ?_⟩
    by_cases hz : ∃ i, s = .frz i
    · obtain ⟨i, rfl⟩ := hz
      have h : chkS N sc rk ss sts = true := (by cases sts <;> exact h)
      exact s_frz (ihss.b c (fact_r f) h)
    · cases sts with
      | nil => cases s <;> first | (simp [chkS] at h; done) | exact absurd ⟨_, rfl⟩ hz
      | cons st sts =>
        have h : (chk1 N sc rk s st && chkS N sc rk ss sts) = true := by
          cases s <;> first | exact h | exact absurd ⟨_, rfl⟩ hz
        have h := Bool.and_eq_true_iff.mp h
        exact s_scons (ihs.a c (fact_l f) h.1) (ihss.b c (fact_r f) h.2)
  | pass =>
    refine SS.one (fun {_ sts} h => by cases sts <;> simp [chkS] at h) fun {CXv X G sc lv st} c f h => ?_
    cases st with
    | Pass _ => exact s_pass
    | Expr x p => cases x with
      | Constant k j q => cases k with
        | str _ => exact s_doc
        | _ => simp [chk1] at h
      | _ => simp [chk1] at h
    | _ => simp [chk1] at h
  | set tg e  =>
    refine SS.one (fun {_ sts} h => by cases sts <;> simp [chkS] at h) fun {CXv X G sc lv st} c f h => ?_
    cases st with
    | Assign zst0 v p =>
      cases zst0 with
      | nil => simp [chk1] at h
      | cons t tzst0 =>
        cases tzst0 with
        | nil =>
          simp only [chk1, Bool.and_eq_true, decide_eq_true_eq, Bool.not_eq_true'] at h
          simp only [Bool.or_eq_true] at h
          exact s_asg c h.1.1.1 f h.1.1.2 h.1.2 (by simpa using h.2)
        | cons _ _ => simp [chk1] at h
    | _ => simp [chk1] at h
  | seto k i e  =>
    refine SS.one (fun {_ sts} h => by cases sts <;> simp [chkS] at h) fun {CXv X G sc lv st} c f h => ?_
    cases st with
    | Assign zst0 v p =>
      cases zst0 with
      | nil => simp [chk1] at h
      | cons ezst0 tzst0 =>
        cases ezst0 with
        | Name y py =>
          cases tzst0 with
          | nil =>
            simp only [chk1, Bool.and_eq_true] at h
            exact s_asgL c f h.1.1.1 h.1.1.2 h.1.2 h.2
          | cons _ _ => simp [chk1] at h
        | _ => simp [chk1] at h
    | _ => simp [chk1] at h
  | aug op i e => exact SS.one (fun {_ sts} h => by cases sts <;> simp [chkS] at h) fun c f h => (by simp [chk1] at h)
  | par is es  =>
    refine SS.one (fun {_ sts} h => by cases sts <;> simp [chkS] at h) fun {CXv X G sc lv st} c f h => ?_
    cases st with
    | Assign zst0 zst1 p =>
      cases zst0 with
      | nil => simp [chk1] at h
      | cons ezst0 tzst0 =>
        cases ezst0 with
        | Tuple ts k pt =>
          cases tzst0 with
          | nil =>
            cases zst1 with
            | Tuple vs k2 p2 =>
              simp only [chk1, Bool.and_eq_true, decide_eq_true_eq, Bool.not_eq_true'] at h
              exact s_par c f h.1 h.2
            | _ => simp [chk1] at h
          | cons _ _ => simp [chk1] at h
        | _ => simp [chk1] at h
    | _ => simp [chk1] at h
  | paro is os es  =>
    refine SS.one (fun {_ sts} h => by cases sts <;> simp [chkS] at h) fun {CXv X G sc lv st} c f h => ?_
    cases st with
    | Assign zst0 zst1 p =>
      cases zst0 with
      | nil => simp [chk1] at h
      | cons ezst0 tzst0 =>
        cases ezst0 with
        | Tuple ts k pt =>
          cases tzst0 with
          | nil =>
            cases zst1 with
            | Tuple vs k2 p2 =>
              simp only [chk1, Bool.and_eq_true] at h
              rcases Bool.or_eq_true_iff.mp h.2 with h2 | h2
              · exact s_paro c f h.1.1 h2 h.1.2
              · simp only [Bool.and_eq_true, decide_eq_true_eq] at h2
                exact s_parl c f h.1.1 h2.1.1 h2.1.2 h2.2 h.1.2
            | _ => simp [chk1] at h
          | cons _ _ => simp [chk1] at h
        | _ => simp [chk1] at h
    | _ => simp [chk1] at h
  | setm is e  =>
    refine SS.one (fun {_ sts} h => by cases sts <;> simp [chkS] at h) fun {CXv X G sc lv st} c f h => ?_
    cases st with
    | Assign zst0 v p =>
      cases zst0 with
      | nil => simp [chk1] at h
      | cons ezst0 tzst0 =>
        cases ezst0 with
        | Tuple ts k pt =>
          cases tzst0 with
          | nil =>
            simp only [chk1, Bool.and_eq_true, decide_eq_true_eq, Bool.not_eq_true'] at h
            exact s_setm c f h.1.1 h.1.2 h.2
          | cons _ _ => simp [chk1] at h
        | _ => simp [chk1] at h
    | _ => simp [chk1] at h
  | rett es =>
    refine SS.one (fun {_ sts} h => by cases sts <;> simp [chkS] at h) fun {CXv X G sc lv st} c f h => ?_
    cases st with
    | Return o p => cases o with
      | none => simp [chk1] at h
      | some x => cases x with
        | Tuple xs k p2 =>
          simp only [chk1, Bool.and_eq_true, decide_eq_true_eq] at h
          exact s_rett c f h.1 h.2
        | _ => simp [chk1] at h
    | _ => simp [chk1] at h
  | ife t a b iha ihb =>
    refine SS.one (fun {_ sts} h => by cases sts <;> simp [chkS] at h) fun {CXv X G sc lv st} c f h => ?_
    cases st with
    | If x xs ys p =>
      simp only [chk1, Bool.and_eq_true, decide_eq_true_eq, Bool.not_eq_true'] at h
      exact s_ifS ((sound N t).t c.toCO (fact_l f) h.1.1) (iha.b c (fact_l (fact_r f)) h.1.2) (ihb.b c (fact_r (fact_r f)) h.2)
    | _ => simp [chk1] at h
  | for_ tg it b ihb =>
    refine SS.one (fun {_ sts} h => by cases sts <;> simp [chkS] at h) fun {CXv X G sc lv st} c f h => ?_
    cases st with
    | For t iter body zst3 p =>
      cases zst3 with
      | nil =>
        simp only [chk1, Bool.and_eq_true, decide_eq_true_eq, Bool.not_eq_true'] at h
        exact s_for c.po c.calm ((sound N it).i c.toCO (fact_l f) h.1.1.2) (pg_tgtB c.calm c.hN c.nd c.sc (fun x _ => c.fn x) h.1.2) (ihb.b c (fact_r f) h.2) (set_iter h.1.1.1 _)
      | cons _ _ => simp [chk1] at h
    | _ => simp [chk1] at h
  | whl t b ihb =>
    refine SS.one (fun {_ sts} h => by cases sts <;> simp [chkS] at h) fun {CXv X G sc lv st} c f h => ?_
    cases st with
    | While x body zst2 p =>
      cases zst2 with
      | nil =>
        simp only [chk1, Bool.and_eq_true, decide_eq_true_eq, Bool.not_eq_true'] at h
        exact s_whl c.po ((sound N t).t c.toCO (fact_l f) h.1) (ihb.b c (fact_r f) h.2)
      | cons _ _ => simp [chk1] at h
    | _ => simp [chk1] at h
  | ret e =>
    refine SS.one (fun {_ sts} h => by cases sts <;> simp [chkS] at h) fun {CXv X G sc lv st} c f h => ?_
    cases st with
    | Return o p => cases o with
      | none => simp [chk1] at h
      | some x =>
        simp only [chk1, Bool.and_eq_true, decide_eq_true_eq] at h
        exact s_ret h.1 ((sound N e).v c.toCO f h.2)
    | _ => simp [chk1] at h
  | reto e =>
    refine SS.one (fun {_ sts} h => by cases sts <;> simp [chkS] at h) fun {CXv X G sc lv st} c f h => ?_
    cases st with
    | Return o p => cases o with
      | none => simp [chk1] at h
      | some x =>
        simp only [chk1, Bool.and_eq_true, decide_eq_true_eq] at h
        exact s_reto h.1.1 (fun ho => (sound N e).l c.toCO f ho h.2) h.1.2
    | _ => simp [chk1] at h
  | retm i =>
    refine SS.one (fun {_ sts} h => by cases sts <;> simp [chkS] at h) fun {CXv X G sc lv st} c f h => ?_
    cases st with
    | Return o p => cases o with
      | none => simp [chk1] at h
      | some x =>
        simp only [chk1, Bool.and_eq_true, decide_eq_true_eq] at h
        obtain ⟨n, q, rfl, a1, a2, a3, a4⟩ := nmB_inv c.toCO h.2
        exact s_retm h.1 a1 a2 a3 a4
    | _ => simp [chk1] at h
  | retn =>
    refine SS.one (fun {_ sts} h => by cases sts <;> simp [chkS] at h) fun {CXv X G sc lv st} c f h => ?_
    cases st with
    | Return o p => cases o with
      | none => exact s_retn
      | some x => simp [chk1] at h
    | _ => simp [chk1] at h
  | drop e =>
    refine SS.one (fun {_ sts} h => by cases sts <;> simp [chkS] at h) fun {CXv X G sc lv st} c f h => ?_
    cases st with
    | Expr x p =>
      simp only [chk1, Bool.and_eq_true, Bool.not_eq_true'] at h
      exact s_drop ((sound N e).v c.toCO f h.2) (swap_none h.1 _ _ _)
    | _ => simp [chk1] at h
  | appd o e  =>
    refine SS.one (fun {_ sts} h => by cases sts <;> simp [chkS] at h) fun {CXv X G sc lv st} c f h => ?_
    cases st with
    | Expr zst0 p =>
      cases zst0 with
      | Call zzst00 zzst01 zzst02 cp =>
        cases zzst00 with
        | Attribute x m ap =>
          cases zzst01 with
          | nil => simp [chk1] at h
          | cons y tzzst01 =>
            cases tzzst01 with
            | nil =>
              cases zzst02 with
              | nil =>
                simp only [chk1, Bool.and_eq_true, decide_eq_true_eq, Bool.not_eq_true'] at h
                obtain ⟨⟨⟨⟨⟨⟨rfl, ho⟩, hn⟩, hy⟩, hl⟩, h1⟩, h2⟩ := h
                exact s_appd c f ho hn hy hl h1 h2
              | cons _ _ => simp [chk1] at h
            | cons _ _ => simp [chk1] at h
        | _ => simp [chk1] at h
      | _ => simp [chk1] at h
    | _ => simp [chk1] at h
  | app i pp e  =>
    refine SS.one (fun {_ sts} h => by cases sts <;> simp [chkS] at h) fun {CXv X G sc lv st} c f h => ?_
    cases st with
    | Expr zst0 p =>
      cases zst0 with
      | Call zzst00 zzst01 zzst02 cp =>
        cases zzst00 with
        | Attribute x m ap =>
          cases zzst01 with
          | nil => simp [chk1] at h
          | cons y tzzst01 =>
            cases tzzst01 with
            | nil =>
              cases zzst02 with
              | nil =>
                simp only [chk1, Bool.and_eq_true, decide_eq_true_eq, Bool.not_eq_true'] at h
                obtain ⟨⟨⟨⟨⟨rfl, hp⟩, hn⟩, hy⟩, hl⟩, h1⟩ := h
                obtain ⟨n, q, rfl, a1, a2, a3, a4⟩ := nmB_inv c.toCO hn
                cases pp with
                | nil => exact s_append a1 a2 a3 a4 hy hl ((sound N e).v c.toCO f h1)
                | _ => simp [isNilE] at hp
              | cons _ _ => simp [chk1] at h
            | cons _ _ => simp [chk1] at h
        | _ => simp [chk1] at h
      | _ => simp [chk1] at h
    | _ => simp [chk1] at h
  | ext i pp e  =>
    refine SS.one (fun {_ sts} h => by cases sts <;> simp [chkS] at h) fun {CXv X G sc lv st} c f h => ?_
    cases st with
    | Expr zst0 p =>
      cases zst0 with
      | Call zzst00 zzst01 zzst02 cp =>
        cases zzst00 with
        | Attribute x m ap =>
          cases zzst01 with
          | nil => simp [chk1] at h
          | cons y tzzst01 =>
            cases tzzst01 with
            | nil =>
              cases zzst02 with
              | nil =>
                simp only [chk1, Bool.and_eq_true, decide_eq_true_eq, Bool.not_eq_true'] at h
                obtain ⟨⟨⟨⟨⟨rfl, hp⟩, hn⟩, hy⟩, hl⟩, h1⟩ := h
                obtain ⟨n, q, rfl, a1, a2, a3, a4⟩ := nmB_inv c.toCO hn
                cases pp with
                | nil => exact s_extend a1 a2 a3 a4 hy hl ((sound N e).v c.toCO f h1)
                | _ => simp [isNilE] at hp
              | cons _ _ => simp [chk1] at h
            | cons _ _ => simp [chk1] at h
        | _ => simp [chk1] at h
      | _ => simp [chk1] at h
    | _ => simp [chk1] at h
  | sub i j e  =>
    refine SS.one (fun {_ sts} h => by cases sts <;> simp [chkS] at h) fun {CXv X G sc lv st} c f h => ?_
    cases st with
    | Assign zst0 y p =>
      cases zst0 with
      | nil => simp [chk1] at h
      | cons ezst0 tzst0 =>
        cases ezst0 with
        | Subscript x z sp =>
          cases tzst0 with
          | nil =>
            simp only [chk1, Bool.and_eq_true, decide_eq_true_eq, Bool.not_eq_true'] at h
            obtain ⟨⟨⟨⟨hn, hz⟩, hy⟩, h1⟩, h2⟩ := h
            obtain ⟨n, q, rfl, a1, a2, a3, a4⟩ := nmB_inv c.toCO hn
            exact s_sub a1 a2 a3 a4 (sole_none hy) hz ((sound N e).v c.toCO (fact_l f) h1) ((sound N j).v c.toCO (fact_r f) h2)
          | cons _ _ => simp [chk1] at h
        | _ => simp [chk1] at h
    | _ => simp [chk1] at h
  | brk  =>
    refine SS.one (fun {_ sts} h => by cases sts <;> simp [chkS] at h) fun {CXv X G sc lv st} c f h => ?_
    cases st with
    | Break p =>
      exact s_brk
    | _ => simp [chk1] at h
  | cnt  =>
    refine SS.one (fun {_ sts} h => by cases sts <;> simp [chkS] at h) fun {CXv X G sc lv st} c f h => ?_
    cases st with
    | Continue p =>
      exact s_cnt
    | _ => simp [chk1] at h
end DL

-- part DLq
set_option Elab.async false
set_option linter.all false
set_option maxRecDepth 100000
set_option maxHeartbeats 1000000
/-! DL, part q: a def as a whole. -/
namespace DL
open PySem PySem.Spec PyProof.Rows L2

/-- the footprints by the slots -/
def fpL : List Nat → List (List Addr) → List (List Addr)
  | 0 :: ms, fo => [] :: fpL ms fo
  | (_ + 1) :: ms, f :: fo => f :: fpL ms fo
  | _, _ => []
def iosL : Nat → List Nat → List V → List (Nat × V)
  | i, 0 :: ms, _ :: vs => iosL (i + 1) ms vs
  | i, (_ + 1) :: ms, v :: vs => (i, v) :: iosL (i + 1) ms vs
  | _, _, _ => []
def ioI : Nat → List Nat → List Nat
  | i, 0 :: ms => ioI (i + 1) ms
  | i, (_ + 1) :: ms => i :: ioI (i + 1) ms
  | _, [] => []
section
variable {M : Mo} {F H F' H' : Hp} {io : List (Nat × V)} {env env' : Env} {σ : L2.St} {fs fs' : Ft}
theorem fpL_flat : ∀ {ms : List Nat} {ds : List D} {vs : List V} {fo : List (List Addr)}, ArgsR M F H ms ds vs fo → (fpL ms fo).flatten = fo.flatten ∧ (fpL ms fo).length = ms.length
  | [], _, _, _, ⟨_, _, rfl⟩ => ⟨rfl, rfl⟩
  | 0 :: ms, _, _, _, ⟨d, ds', v, vs', _, _, _, h⟩ => by
    obtain ⟨a, b⟩ := fpL_flat h
    exact ⟨by simp [fpL, a], by simp [fpL, b]⟩
  | (k + 1) :: ms, _, _, _, ⟨d, ds', v, vs', f, fo', _, _, rfl, _, h⟩ => by
    obtain ⟨a, b⟩ := fpL_flat h
    exact ⟨by simp [fpL, a], by simp [fpL, b]⟩
theorem args_slot : ∀ {ms : List Nat} {ds : List D} {vs : List V} {fo : List (List Addr)} {i : Nat} {s : Sl}, ArgsR M F H ms ds vs fo → (initS ms ds)[i]? = some s →
    ∃ v f, vs[i]? = some v ∧ (fpL ms fo)[i]? = some f ∧ SlR M F H s (some v) f
  | [], _, _, _, i, s, h, e => by simp [initS] at e
  | 0 :: ms, _, _, _, i, s, ⟨d, ds', v, vs', rfl, rfl, r, h⟩, e => by
    cases i with
    | zero =>
      simp [initS] at e
      subst e
      exact ⟨v, [], rfl, rfl, v, rfl, r, rfl⟩
    | succ i =>
      simp [initS] at e
      obtain ⟨v', f, a, b, c⟩ := args_slot h e
      exact ⟨v', f, by simpa using a, by simpa [fpL] using b, c⟩
  | (k + 1) :: ms, _, _, _, i, s, ⟨d, ds', v, vs', f, fo', rfl, rfl, rfl, r, h⟩, e => by
    cases i with
    | zero =>
      simp [initS] at e
      subst e
      exact ⟨v, f, rfl, rfl, v, rfl, r⟩
    | succ i =>
      simp [initS] at e
      obtain ⟨v', f, a, b, c⟩ := args_slot h e
      exact ⟨v', f, by simpa using a, by simpa [fpL] using b, c⟩
theorem initS_len : ∀ {ms : List Nat} {ds : List D}, ds.length = ms.length → (initS ms ds).length = ms.length
  | [], [], _ => rfl
  | [], _ :: _, h => by simp at h
  | _ :: _, [], h => by simp at h
  | 0 :: ms, d :: ds, h => by simp [initS, initS_len (ms := ms) (ds := ds) (by simpa using h)]
  | (k + 1) :: ms, d :: ds, h => by simp [initS, initS_len (ms := ms) (ds := ds) (by simpa using h)]
theorem ios_slot : ∀ {ms : List Nat} {ds : List D} {vs : List V} {j : Nat} {p : Nat × V}, ds.length = ms.length → p ∈ iosL j ms vs → ∃ i k d, p.1 = j + i ∧ vs[i]? = some p.2 ∧ (initS ms ds)[i]? = some (.io k d)
  | [], _, vs, j, p, _, h => by cases vs <;> simp [iosL] at h
  | _ :: _, [], vs, j, p, l, h => by simp at l
  | m :: ms, d :: ds, [], j, p, l, h => by cases m <;> simp [iosL] at h
  | 0 :: ms, d :: ds, v :: vs, j, p, l, h => by
    obtain ⟨i, k, d', a, b, c⟩ := ios_slot (ds := ds) (by simpa using l) (show p ∈ iosL (j + 1) ms vs from h)
    exact ⟨i + 1, k, d', by omega, by simpa using b, by simpa [initS] using c⟩
  | (m + 1) :: ms, d :: ds, v :: vs, j, p, l, h => by
    rcases List.mem_cons.mp (show p ∈ (j, v) :: iosL (j + 1) ms vs from h) with e | h
    · subst e
      exact ⟨0, m + 1, d, rfl, rfl, rfl⟩
    · obtain ⟨i, k, d', a, b, c⟩ := ios_slot (ds := ds) (by simpa using l) h
      exact ⟨i + 1, k, d', by omega, by simpa using b, by simpa [initS] using c⟩
/-- the state at a def's entry -/
theorem gs_start {N : List Str} {ms : List Nat} {ds : List D} {vs : List V} {fo : List (List Addr)} (a : ArgsR M F H ms ds vs fo) (hN : ms.length ≤ N.length) (nd : fo.flatten.Nodup) (fn : ∀ b ∈ fo.flatten, F b = none) (fh : Same F H) :
    ∃ fs, GS M F H (iosL 0 ms vs) (initS ms ds ++ List.replicate (N.length - ms.length) .un) (start N vs) fs ∧ ∀ b, fs.at b ↔ inL fo b := by
  obtain ⟨l1, l2⟩ := a.len
  obtain ⟨e1, e2⟩ := fpL_flat a
  have li := initS_len l2
  let fs : Ft := fun i => ((fpL ms fo)[i]?).getD []
  have fsg : ∀ i b, b ∈ fs i → ∃ f, (fpL ms fo)[i]? = some f ∧ b ∈ f ∧ fs i = f := fun i b hb => by
    cases q : (fpL ms fo)[i]? with
    | none => simp [fs, q] at hb
    | some f => exact ⟨f, rfl, by simpa [fs, q] using hb, by simp [fs, q]⟩
  have nd2 : (fpL ms fo).flatten.Nodup := by rw [e1]; exact nd
  refine ⟨fs, ⟨?_, fun i s e => ?_, fun i => ?_, fun i j b ne hi hj => ?_, fun i b hb => ?_, fun i e => ?_, fh, fun p hp => ?_⟩, fun b => ⟨fun ⟨i, hb⟩ => ?_, fun hb => ?_⟩⟩
  · simp [L2.start, li, l1]
  · by_cases hi : i < ms.length
    · rw [List.getElem?_append_left (by omega)] at e
      obtain ⟨v, f, b1, b2, b3⟩ := args_slot a e
      refine ⟨some v, ?_, ?_⟩
      · unfold L2.start
        rw [List.getElem?_append_left (by simp; omega), List.getElem?_map, b1]; rfl
      · have : fs i = f := by simp [fs, b2]
        rw [this]; exact b3
    · rw [List.getElem?_append_right (by omega)] at e
      rw [List.getElem?_replicate] at e
      split at e
      · rename_i h
        cases e
        refine ⟨none, ?_, ?_⟩
        · unfold L2.start
          rw [List.getElem?_append_right (by simp; omega), List.getElem?_replicate, if_pos (by simp; omega)]
        · show fs i = []
          simp only [fs]
          rw [List.getElem?_eq_none (by omega)]; rfl
      · cases e
  · cases q : (fpL ms fo)[i]? with
    | none => simp [fs, q]
    | some f => simp only [fs, q, Option.getD_some]; exact nodup_part nd2 q
  · obtain ⟨f, a1, a2, _⟩ := fsg i b hi
    obtain ⟨g, b1, b2, _⟩ := fsg j b hj
    exact nodup_two nd2 ne a1 b1 b a2 b2
  · obtain ⟨f, a1, a2, _⟩ := fsg i b hb
    exact fn b (by rw [← e1]; exact flat_get a1 a2)
  · have : ms.length ≤ i := by
      have := List.getElem?_eq_none_iff.mp e
      simp [li] at this
      omega
    simp only [fs]
    rw [List.getElem?_eq_none (by omega)]; rfl
  · obtain ⟨i, k, d, h1, h2, h3⟩ := ios_slot l2 hp
    have hi : i < ms.length := by have := lt_of_get h3; omega
    have : p.1 = i := by omega
    rw [this]
    refine ⟨?_, k, d, by rw [List.getElem?_append_left (by omega)]; exact h3⟩
    unfold L2.start
    rw [List.getElem?_append_left (by simp; omega), List.getElem?_map, h2]; rfl
  · obtain ⟨f, a1, a2, _⟩ := fsg i b hb
    show b ∈ fo.flatten
    rw [← e1]; exact flat_get a1 a2
  · have hb : b ∈ (fpL ms fo).flatten := by rw [e1]; exact hb
    obtain ⟨f, hf, hb⟩ := List.mem_flatten.mp hb
    obtain ⟨i, hi⟩ := List.getElem?_of_mem hf
    exact ⟨i, by simp only [fs, hi]; exact hb⟩
theorem ioI_ge : ∀ {ms : List Nat} {i j : Nat}, j ∈ ioI i ms → i ≤ j
  | [], _, _, h => by simp [ioI] at h
  | 0 :: ms, i, j, h => by have := ioI_ge (show j ∈ ioI (i + 1) ms from h); omega
  | (k + 1) :: ms, i, j, h => by
    rcases List.mem_cons.mp (show j ∈ i :: ioI (i + 1) ms from h) with e | h
    · omega
    · have := ioI_ge h; omega
theorem ioI_nd : ∀ {ms : List Nat} {i : Nat}, (ioI i ms).Nodup
  | [], _ => List.nodup_nil
  | 0 :: ms, i => ioI_nd (ms := ms)
  | (k + 1) :: ms, i => List.nodup_cons.mpr ⟨fun h => by have := ioI_ge h; omega, ioI_nd⟩
theorem outs_fin (g : GS M F H io env σ fs) : ∀ {ms : List Nat} {vs : List V} {i : Nat}, vs.length = ms.length → okOuts ms (env.drop i) = true → (∀ p ∈ iosL i ms vs, p ∈ io) → OutsR M F H ms vs (outsOf ms (env.drop i)) ((ioI i ms).map fs)
  | [], [], i, _, _, _ => ⟨rfl, rfl, rfl⟩
  | [], _ :: _, _, h, _, _ => by simp at h
  | _ :: _, [], _, h, _, _ => by simp at h
  | 0 :: ms, v :: vs, i, l, ho, hp => by
    cases e : env.drop i with
    | nil => rw [e] at ho; simp [okOuts] at ho
    | cons s r =>
      have hr : r = env.drop (i + 1) := by rw [← List.tail_drop, e]; rfl
      rw [e, hr] at ho
      rw [hr]
      exact ⟨v, vs, rfl, outs_fin g (by simpa using l) ho hp⟩
  | (k + 1) :: ms, v :: vs, i, l, ho, hp => by
    cases e : env.drop i with
    | nil => rw [e] at ho; simp [okOuts] at ho
    | cons s r =>
      have hr : r = env.drop (i + 1) := by rw [← List.tail_drop, e]; rfl
      rw [e, hr] at ho
      cases s with
      | io j d =>
        have ho := Bool.and_eq_true_iff.mp (show (decide (j = k + 1) && okOuts ms (env.drop (i + 1))) = true from ho)
        have hj : j = k + 1 := by simpa using ho.1
        subst hj
        have he : env[i]? = some (.io (k + 1) d) := by
          have : (env.drop i)[0]? = some (.io (k + 1) d) := by rw [e]; rfl
          rw [List.getElem?_drop] at this
          simpa using this
        obtain ⟨w, ew, o⟩ := g.own (.inr he)
        have hv := (g.io (i, v) (hp _ (by simp [iosL]))).1
        rw [ew] at hv; cases hv
        rw [hr]
        exact ⟨d, _, _, vs, fs i, _, rfl, rfl, rfl, o, outs_fin g (by simpa using l) ho.2 fun p h => hp p (List.mem_cons_of_mem _ h)⟩
      | _ => simp [okOuts] at ho
end
/-- what a frame lets pass -/
structure PassOk (CXv : CXT) (P : Program) (w : World) : Prop where
  p : ∀ (K : PySem.W.Frag) (mg : Str → Option Value) (base : Heap) (N : List Str) (qual : Str) (scope : Scope) (f : Addr) (cd : Value) (A : Around) (outer : List PySem.Env) (s : Shared) (H : Hp) (E : XK), Passes CXv (cxOf CXv P w K mg base N qual scope f cd A outer s H E) E
  z : ∀ X', Passes CXv X' E0
theorem pass_CX0 {P : Program} {w : World} : PassOk CX0 P w := ⟨fun _ _ _ _ _ _ _ _ _ _ _ _ _ _ _ _ _ _ _ _ h => h.elim, fun _ _ _ _ _ _ _ _ h => h.elim⟩
/-- the names of the model that no def of the text takes -/
structure Blts (mg : Str → Option Value) : Prop where
  nb : ∀ b : Blt, mg b.nm = none
  nr : mg "range" = none
  ne : mg "enumerate" = none
  nz : mg "zip" = none
/-- A DEF: its code is checked against a body of the small language -/
theorem fn_sound {CXv : CXT} {P : Program} {w : World} {K : PySem.W.Frag} {mg : Str → Option Value} {base : Heap} {M : Mo} {x qual : Str} {params : Arguments} {body : List Stmt} {scope : Scope} {kws : List (Str × V)} {fa : Addr} {fd : FuncData} {N ps : List Str} {lv : Nat} {f : FnD} {b : S}
    (hM : M.K = K) (po : PassOk CXv P w) (B : Blts mg) (F : FunD K x qual params body scope [] kws fa fd) (hs : C8.scC N ps scope = true) (hl : ps.length = f.ms.length) (hc : chkS N scope f.rk b body = true)
    (hf : ∀ X : Cx, X.prog = P → X.w = w → X.K = K → X.mg = mg → X.base = base → Facts CXv X M lv b.needs) (hd : ∀ ds, f.den ds = run f.ms N.length b ds) :
    FnOk P w K mg base CXv (lv + 1) fa fd ps (Spec M f) := by
  have S := C8.fnScope_by hs
  refine F.ok S (fun vs H Q E ⟨ds, F, fo, h, _⟩ => by rw [h.len.1, hl]) fun cdv A outer s H vs Q E hr h => ?_
  obtain ⟨ds, Fz, fo, ha, nd, fn, fh, q⟩ := h
  let G : Fr := ⟨M, iosL 0 f.ms vs, E⟩
  have hn : f.ms.length ≤ N.length := by
    have := congrArg List.length S.pre
    rw [List.length_take] at this
    omega
  have cs : CS CXv (cxOf CXv P w K mg base N qual scope fa cdv A outer s H E) G N scope lv :=
    ⟨⟨hM.symm, rfl, rfl, rfl, S.nd, hr, B.nb, B.nr, B.ne, B.nz, po.p _ _ _ _ _ _ _ _ _ _ _ _ _, po.z⟩, passes_of rfl, fun _ => rfl⟩
  refine ⟨tS G f.rk (ex b), (soundS N f.rk b).b cs (hf _ rfl rfl rfl rfl rfl) hc, ?_⟩
  obtain ⟨fs, g, iff⟩ := gs_start (N := N) ha hn nd fn fh
  refine ⟨_, Fz, fs, g, ?_⟩
  obtain ⟨l1, l2⟩ := ha.len
  rw [hd, run, if_pos l2] at q
  have fin : ∀ {σ' : L2.St} {F' H' : Hp} {fs' : Ft} {env' : Env} {d : D} {v : V} {fr : List Addr}, GS M F' H' G.io env' σ' fs' → Step Fz H fs.at F' H' (atW fs' fr) → Own M F' H' f.rk d v fr → fr.Nodup → Apart fs' fr → (∀ b ∈ fr, F' b = none) →
      (match (if okOuts f.ms env' = true then Res.ok (d, outsOf f.ms env') else .stuck) with
        | .ok (r, outs) => ∀ v F' H' fo' fr, Step Fz H (inL fo) F' H' (fun b => b ∈ fo'.flatten ∨ b ∈ fr) → Same F' H' → OutsR M F' H' f.ms vs outs fo' → Own M F' H' f.rk r v fr → (fo'.flatten ++ fr).Nodup → (∀ b ∈ fo'.flatten ++ fr, F' b = none) → Q v H'
        | .exn c d => XP M E c d Fz H (inL fo)
        | .stuck => False) → Q v H' := by
    intro σ' F' H' fs' env' d v fr g' st o ndr ap fnr q
    split at q
    · rename_i r outs e
      split at e
      · rename_i ho
        cases e
        refine q v F' H' ((ioI 0 f.ms).map fs') fr (st.mono (fun b hb => (iff b).mp hb) fun b hb => ?_) g'.fh (outs_fin g' l1 (by simpa using ho) fun p hp => hp) o ?_ fun b hb => ?_
        · refine .inl ?_
          rcases hb with hb | hb
          · obtain ⟨i, _, hi⟩ := mem_ios (G := g') hb
            exact .inl ⟨i, hi⟩
          · exact .inr hb
        · rw [List.nodup_append]
          refine ⟨nodup_ios g' ioI_nd, ndr, fun a ha b hb z => ?_⟩
          subst z
          obtain ⟨i, _, hi⟩ := mem_ios (G := g') ha
          exact ap i a hi hb
        · rcases List.mem_append.mp hb with hb | hb
          · obtain ⟨i, _, hi⟩ := mem_ios (G := g') hb
            exact g'.fn i b hi
          · exact fnr b hb
      · cases e
    · rename_i e
      split at e <;> cases e
    · exact q.elim
  cases e : ex b (initS f.ms ds ++ List.replicate (N.length - f.ms.length) Sl.un) with
  | stuck => rw [e] at q; exact q
  | exn c d =>
    rw [e] at q
    have q : XP M E c d Fz H (inL fo) := q
    intro cls dx F' H' P' st s2 ex
    exact q cls dx F' H' P' (st.mono (fun b hb => (iff b).mp hb) fun b hb => .inl hb) s2 ex
  | ok o =>
    rw [e] at q
    cases o with
    | nx env' => exact fun σ' F' H' fs' g' st => fin (d := .non) (v := .non) (fr := []) g' (st.less fun b hb => hb.elim id fun z => by simp at z) (by cases f.rk <;> exact ⟨rfl, rfl⟩) List.nodup_nil (fun _ _ _ => by simp) (by simp) q
    | ret d env' => exact fun v σ' F' H' fs' fr g' st o ndr ap fnr => fin g' st o ndr ap fnr q
    | brk env' => exact q.elim
    | cnt env' => exact q.elim
end DL

-- part DLr
set_option Elab.async false
set_option linter.all false
set_option maxRecDepth 100000
set_option maxHeartbeats 1000000
/-! DL, part r: what the top leaves behind; the law's end. -/
namespace DL
open PySem PySem.Spec PyProof.Rows L2

/-- a def of the text: where its object stands, what the object says -/
structure Df where
  pl : PySem.W.Frag → Addr
  nm : Str
  ql : Str
  pr : Arguments
  bd : List Stmt
  sc : Scope
abbrev Says : Type := Addr × Addr × List (Str × Addr) × (Str × Str) × Scope × FuncBody × Arguments
def Df.want (d : Df) : Says := (mainGlobals, builtinsNs, [], (d.nm, d.ql), d.sc, .stmts d.bd, d.pr)
def saysOf (g : FuncData) : Says := (g.globals, g.builtins, g.closure, (g.name, g.qualname), g.scope, g.body, g.params)
def funAt (K : PySem.W.Frag) (a : Addr) : Option FuncData := match K.lookup a with
  | some o => (match o.data with
    | .func g => some g
    | _ => none)
  | none => none
def isNo : Value → Bool
  | .none => true
  | _ => false
def Df.sure (K : PySem.W.Frag) (d : Df) : Bool := match funAt K (d.pl K) with
  | some g => isNo g.defaults && (PySem.W.keepIn K (.ref (d.pl K)) && PySem.W.codeIn K g.code d.ql)
  | none => false
def Df.look (K : PySem.W.Frag) (d : Df) : Option Says := (funAt K (d.pl K)).map saysOf
abbrev Df.Has (K : PySem.W.Frag) (d : Df) : Prop := ∃ fd, FunD K d.nm d.ql d.pr d.bd d.sc [] [] (d.pl K) fd
theorem Df.has {K : PySem.W.Frag} {d : Df} (e : d.look K = some d.want) (c : d.sure K = true) : d.Has K := by
  unfold Df.sure at c
  unfold Df.look at e
  cases q : funAt K (d.pl K) with
  | none => rw [q] at c; cases c
  | some g =>
    rw [q] at c e
    obtain ⟨c1, c2⟩ := Bool.and_eq_true_iff.mp c
    obtain ⟨c4, c3⟩ := Bool.and_eq_true_iff.mp c2
    unfold funAt at q
    cases z : K.lookup (d.pl K) with
    | none => rw [z] at q; cases q
    | some o =>
      rw [z] at q
      obtain ⟨oc, od, dt, sl⟩ := o
      cases dt with
      | func g' =>
        cases q
        have e2 : saysOf g = d.want := Option.some.inj e
        obtain ⟨xa, xb, xc, xd, xe, xf, xg, dV, kV, xj, xk, xl, xm, xo, xp⟩ := g
        simp only [saysOf, Df.want, Prod.mk.injEq] at e2
        obtain ⟨a1, a2, a3, ⟨a4, a5⟩, a6, a7, a8⟩ := e2
        subst a1 a2 a3 a4 a5 a6 a7 a8
        have hd : dV = Value.none := by
          cases dV <;> first | rfl | (simp [isNo] at c1)
        exact ⟨_, ⟨oc, od, dV, _, _, _, _, _, _, sl, rfl, z, c3, .inl ⟨rfl, hd⟩, .inl rfl⟩, c4⟩
      | _ => cases q
/-- the watch -/
def watchK (n : Nat) (g : Addr → Option Obj) : PySem.W.Frag := He.frG g (He.asD g n)
def sees (ck : PySem.W.Frag → Bool) (ds : List Df) (K : PySem.W.Frag) : Bool × List (Option Says) := (ck K && ds.all fun d => d.sure K, ds.map fun d => d.look K)
def wants (ds : List Df) : Bool × List (Option Says) := (true, ds.map fun d => some d.want)
theorem sees_has {ck : PySem.W.Frag → Bool} {ds : List Df} {K : PySem.W.Frag} (e : sees ck ds K = wants ds) : ck K = true ∧ ∀ d ∈ ds, d.Has K := by
  obtain ⟨h1, h2⟩ := Bool.and_eq_true_iff.mp (show (ck K && ds.all fun d => d.sure K) = true from congrArg Prod.fst e)
  have h3 : ds.map (fun d => d.look K) = ds.map fun d => some d.want := congrArg Prod.snd e
  refine ⟨h1, fun d hd => ?_⟩
  exact Df.has (List.map_inj_left.mp h3 d hd) (List.all_eq_true.mp h2 d hd)
abbrev Seen : Type := (Bool × List (Option Says)) × List (Option (List (Option (Str × Int))))
def seesT (ck : PySem.W.Frag → Bool) (ds : List Df) (ts : List He.Tab) (K : PySem.W.Frag) : Seen := (sees ck ds K, ts.map fun t => He.dicW K (t.1 K))
def wantsT (ds : List Df) (ts : List He.Tab) (w : World) : Seen := (wants ds, ts.map fun t => some (He.keysIn w.params t.2))
def TabsOk (w : World) (K : PySem.W.Frag) (ts : List He.Tab) : Prop := ∀ t ∈ ts, He.dicW K (t.1 K) = some (He.keysIn w.params t.2)
def watch (n : Nat) (ck : PySem.W.Frag → Bool) (ds : List Df) (ts : List He.Tab) : PySem.W.Hook where
  α := Seen
  obs s := seesT ck ds ts (watchK n s.heap.get?)
  val w := wantsT ds ts w
  says w h := ∃ K : PySem.W.Frag, K.In h ∧ ck K = true ∧ (∀ d ∈ ds, d.Has K) ∧ TabsOk w K ts
  of _ _ e := ⟨_, He.frG_in, (sees_has (congrArg Prod.fst e)).1, (sees_has (congrArg Prod.fst e)).2, fun t ht => List.map_inj_left.mp (congrArg Prod.snd e) t ht⟩
  keeps _ _ _ := fun ⟨K, i, c⟩ k => ⟨K, i.keeps k, c⟩
def watchT (n : Nat) (ck : PySem.W.Frag → Bool) (ds : List Df) (ts : List He.Tab) (s : PySem.W.SharedT) : Seen := seesT ck ds ts (watchK n (HandSHeadRun.getT s))
theorem watchT_eq {n : Nat} {ck : PySem.W.Frag → Bool} {ds : List Df} {ts : List He.Tab} (s : PySem.W.SharedT) : watchT n ck ds ts s = (watch n ck ds ts).obs s.abs := by
  show seesT ck ds ts (watchK n _) = seesT ck ds ts (watchK n _)
  rw [show HandSHeadRun.getT s = s.abs.heap.get? from funext (HandSHeadRun.getT_eq s)]
/-! ### classes: properties, operators -/
def propA (K : PySem.W.Frag) (C : Addr) (f : Str) : Addr := He.ma K C f
def getA (K : PySem.W.Frag) (C : Addr) (f : Str) : Addr := match PySem.W.recIn K (propA K C f) "property" with
  | some (.ref g :: _) => g
  | _ => 0
def propB (K : PySem.W.Frag) (C : Addr) (f : Str) : Bool :=
  decide (PySem.W.findIn K (.ref C) f = some (some (.ref (propA K C f)))) && decide (PySem.W.specialIn K (.ref (propA K C f)) "__get__" = some (some (.builtin "property.__get__"))) &&
  decide (PySem.W.takesIn K (.ref (propA K C f)) = some true) && (match PySem.W.recIn K (propA K C f) "property" with
    | some (.ref _ :: _) => true
    | _ => false)
theorem propB_ok {K : PySem.W.Frag} {C : Addr} {f : Str} (h : propB K C f = true) : PropOf K C f (propA K C f) (getA K C f) := by
  simp only [propB, Bool.and_eq_true, decide_eq_true_eq] at h
  obtain ⟨⟨⟨h1, h2⟩, h3⟩, h4⟩ := h
  refine ⟨h1, h2, h3, ?_⟩
  unfold getA
  split at h4
  · rename_i g r e
    rw [e]; exact ⟨r, rfl⟩
  · cases h4
def opB (K : PySem.W.Frag) (C : Addr) (m : Str) : Bool := decide (PySem.W.findIn K (.ref C) m = some (some (.ref (He.ma K C m)))) && PySem.W.isFn K (.ref (He.ma K C m))
theorem opB_ok {K : PySem.W.Frag} {C : Addr} {m : Str} (h : opB K C m = true) : PySem.W.findIn K (.ref C) m = some (some (.ref (He.ma K C m))) ∧ PySem.W.isFn K (.ref (He.ma K C m)) = true := by
  simpa [opB] using h
/-! ### the facts that a body leans on -/
/-- so much is at hand, in every frame -/
def Avl (CXv : CXT) (P : Program) (w : World) (K : PySem.W.Frag) (mg : Str → Option Value) (base : Heap) (M : Mo) (lv : Nat) (f : Fact) : Prop := ∀ X : Cx, X.prog = P → X.w = w → X.K = K → X.mg = mg → X.base = base → FactOk CXv X M lv f
section
variable {CXv : CXT} {P : Program} {w : World} {K : PySem.W.Frag} {mg : Str → Option Value} {base : Heap} {M : Mo} {lv k c : Nat} {f : FnD} {fa C : Addr} {fd : FuncData} {ps : List Str}
theorem fnF_of {X : Cx} (h1 : X.prog = P) (h2 : X.w = w) (h3 : X.K = K) (h4 : X.mg = mg) (h5 : X.base = base) (F : FnOk P w K mg base CXv k fa fd ps (Spec M f)) (hk : k + 2 ≤ lv) (b : Binds K fd ps []) : FnF CXv X M lv f fa := by
  subst h1 h2 h3 h4 h5
  exact ⟨k, fd, ps, F, hk, b⟩
theorem av_gl (F : FnOk P w K mg base CXv k fa fd ps (Spec M f)) (hk : k + 2 ≤ lv) (b : Binds K fd ps []) (hm : mg f.name = some (.ref fa)) (hp : PySem.W.keepIn K (.ref fa) = true) : Avl CXv P w K mg base M lv (.gl f) := fun X h1 h2 h3 h4 h5 =>
  ⟨fa, fnF_of h1 h2 h3 h4 h5 F hk b, by rw [h4]; exact hm, by rw [h3]; exact hp⟩
theorem av_mt (F : FnOk P w K mg base CXv k fa fd ps (Spec M f)) (hk : k + 2 ≤ lv) (b : Binds K fd ps []) (hc : M.cl c = some C) (cl : Cls K C) (me : Meth K C f.name fa) : Avl CXv P w K mg base M lv (.mt c f) := fun X h1 h2 h3 h4 h5 =>
  ⟨C, fa, hc, by rw [h3]; exact cl, by rw [h3]; exact me, fnF_of h1 h2 h3 h4 h5 F hk b⟩
theorem av_pr {pp : Addr} (F : FnOk P w K mg base CXv k fa fd ps (Spec M f)) (hk : k + 2 ≤ lv) (b : Binds K fd ps []) (hc : M.cl c = some C) (cl : Cls K C) (me : PropOf K C f.name pp fa) : Avl CXv P w K mg base M lv (.pr c f) := fun X h1 h2 h3 h4 h5 =>
  ⟨C, pp, fa, hc, by rw [h3]; exact cl, by rw [h3]; exact me, fnF_of h1 h2 h3 h4 h5 F hk b⟩
theorem av_ln (F : FnOk P w K mg base CXv k fa fd ps (Spec M f)) (hk : k + 2 ≤ lv) (b : Binds K fd ps []) (hc : M.cl c = some C) (me : PySem.W.findIn K (.ref C) "__len__" = some (some (.ref fa))) (fn : PySem.W.isFn K (.ref fa) = true) : Avl CXv P w K mg base M lv (.ln c f) := fun X h1 h2 h3 h4 h5 =>
  ⟨C, fa, hc, by rw [h3]; exact me, by rw [h3]; exact fn, fnF_of h1 h2 h3 h4 h5 F hk b⟩
theorem av_ad (F : FnOk P w K mg base CXv k fa fd ps (Spec M f)) (hk : k + 2 ≤ lv) (b : Binds K fd ps []) (hc : M.cl c = some C) (sf : PySem.W.selfFirst K C = true) (me : PySem.W.findIn K (.ref C) (PySem.dunder Operator.Add.info.2) = some (some (.ref fa))) (fn : PySem.W.isFn K (.ref fa) = true) : Avl CXv P w K mg base M lv (.ad c f) := fun X h1 h2 h3 h4 h5 =>
  ⟨C, fa, hc, by rw [h3]; exact sf, by rw [h3]; exact me, by rw [h3]; exact fn, fnF_of h1 h2 h3 h4 h5 F hk b⟩
theorem av_eq (F : FnOk P w K mg base CXv k fa fd ps (Spec M f)) (hk : k + 2 ≤ lv) (b : Binds K fd ps []) (hc : M.cl c = some C) (ic : IsC K C) (me : PySem.W.findIn K (.ref C) "__eq__" = some (some (.ref fa))) (fn : PySem.W.isFn K (.ref fa) = true) : Avl CXv P w K mg base M lv (.eq c f) := fun X h1 h2 h3 h4 h5 =>
  ⟨C, fa, hc, by rw [h3]; exact ic, by rw [h3]; exact me, by rw [h3]; exact fn, fnF_of h1 h2 h3 h4 h5 F hk b⟩
theorem av_mk (F : FnOk P w K mg base CXv k fa fd ps (Spec M f)) (hk : k + 2 ≤ lv) (b : Binds K fd ps []) (hc : M.cl c = some C) (mk : Mk K C fa) (hm : mg f.name = some (.ref C)) : Avl CXv P w K mg base M lv (.mk c f) := fun X h1 h2 h3 h4 h5 =>
  ⟨C, fa, hc, by rw [h3]; exact mk, by rw [h4]; exact hm, fnF_of h1 h2 h3 h4 h5 F hk b⟩
/-- isinstance of an own class, as a check -/
def isB (K : PySem.W.Frag) (C : Addr) : Bool :=
  decide (PySem.W.findIn K (.ref C) "__class__" = some (some (.builtin "object.__class__"))) && (decide (PySem.W.specialIn K (.builtin "object.__class__") "__get__" = some (some (.builtin "getset_descriptor.__get__"))) && (decide (PySem.W.takesIn K (.builtin "object.__class__") = some true) && (decide (PySem.W.mroIn K C (.type "object") = some true) &&
    (decide (PySem.W.kitOne K (.ref C) (.ref C) = some true) && bTys.all fun T => decide (PySem.W.kitOne K (.type T) (.ref C) = some false)))))
theorem isB_ok (cl : Cls K C) (h : isB K C = true) : IsC K C := by
  simp only [isB, Bool.and_eq_true, decide_eq_true_eq, List.all_eq_true] at h
  exact ⟨⟨cl, h.1, h.2.1, h.2.2.1, h.2.2.2.1, h.2.2.2.2.1⟩, h.2.2.2.2.2⟩
theorem av_is {x : Str} (hc : M.cl c = some C) (ic : IsC K C) (hm : mg "isinstance" = none) (hg : mg x = some (.ref C)) : Avl CXv P w K mg base M lv (.is c x) := fun X h1 h2 h3 h4 h5 =>
  ⟨C, hc, by rw [h3]; exact ic, by rw [h4]; exact hm, by rw [h4]; exact hg⟩
theorem av_gci {x : Str} {i : Int} (h : ∃ t, mg x = some (.int i t)) : Avl CXv P w K mg base M lv (.gc x (.int i)) := fun X h1 h2 h3 h4 h5 => by
  obtain ⟨t, e⟩ := h
  exact ⟨_, .int i, by rw [h4]; exact e, ⟨t, rfl⟩, fun _ _ => by simp [Rep]⟩
theorem av_gcs {x z : Str} (h : ∃ t, mg x = some (.str z t)) : Avl CXv P w K mg base M lv (.gc x (.str z)) := fun X h1 h2 h3 h4 h5 => by
  obtain ⟨t, e⟩ := h
  exact ⟨_, .str z, by rw [h4]; exact e, ⟨t, rfl⟩, fun _ _ => by simp [Rep]⟩
/-- an entry: a text, a number -/
def entOf (e : DictEntry) : Option (Str × Int) := match e.key, e.val with
  | .str x _, .int i _ => some (x, i)
  | _, _ => none
def tabB (K : PySem.W.Frag) (a : Addr) (kvs : List (Str × Int)) : Bool := match K.lookup a with
  | some ⟨_, _, .dict es _, _⟩ => decide (es.toList.map entOf = kvs.map some)
  | _ => false
theorem ent_find {z : Str} : ∀ {l : List DictEntry} {kvs : List (Str × Int)}, l.map entOf = kvs.map some → (match l.find? (·.key.isStr z) with
    | some e => ∃ i t, kvs.lookup z = some i ∧ e.val = .int i t
    | none => kvs.lookup z = none) ∧ l.any (·.refKey) = false
  | [], [], _ => ⟨rfl, rfl⟩
  | [], _ :: _, h => by cases h
  | _ :: _, [], h => by cases h
  | e :: l, (x, i) :: kvs, h => by
    simp only [List.map_cons, List.cons.injEq] at h
    obtain ⟨h1, h2⟩ := h
    obtain ⟨i1, i2⟩ := ent_find (z := z) h2
    unfold entOf at h1
    split at h1
    · rename_i x' t i' t' q1 q2
      have h1 := Option.some.inj h1
      obtain ⟨rfl, rfl⟩ := Prod.mk.inj h1
      have hk : e.key.isStr z = (x' == z) := by rw [q1]; rfl
      refine ⟨?_, ?_⟩
      · rw [List.find?_cons, hk, List.lookup_cons]
        by_cases c : x' = z
        · subst c
          have c1 : (x' == x') = true := beq_self_eq_true x'
          rw [c1]
          exact ⟨_, _, rfl, q2⟩
        · have c1 : (x' == z) = false := beq_eq_false_iff_ne.mpr c
          have c2 : (z == x') = false := beq_eq_false_iff_ne.mpr fun w => c w.symm
          rw [c1, c2]
          exact i1
      · rw [List.any_cons, i2]
        have : e.refKey = false := by
          show (match e.key with | .ref _ => true | _ => false) = false
          rw [q1]
        rw [this]; rfl
    · cases h1
theorem av_dg {x : Str} {a : Addr} {kvs : List (Str × Int)} {ks : List Str} (hm : mg x = some (.ref a)) (ht : He.dicW K a = some (He.keysIn w.params ks)) (hv : tabB K a kvs = true) : Avl CXv P w K mg base M lv (.dg x kvs) := fun X h1 h2 h3 h4 h5 => by
  subst h2 h3
  obtain ⟨es, n, D⟩ := He.dicW_ok ht
  have hv2 : es.toList.map entOf = kvs.map some := by
    unfold tabB at hv
    rw [D.at_] at hv
    exact of_decide_eq_true hv
  refine ⟨a, es, n, by rw [h4]; exact hm, D, fun z => ?_⟩
  obtain ⟨f1, f2⟩ := ent_find (z := z) hv2
  unfold PySem.W.nsIn
  rw [D.at_]
  dsimp only
  cases q : es.toList.find? (·.key.isStr z) with
  | some e =>
    rw [q] at f1
    obtain ⟨i, t, g1, g2⟩ := f1
    refine ⟨some e.val, rfl, ?_⟩
    rw [g1]
    exact ⟨_, rfl, by rw [g2]; exact ⟨t, rfl⟩⟩
  | none =>
    rw [q] at f1
    refine ⟨none, by rw [f2]; rfl, ?_⟩
    have f1 : kvs.lookup z = none := f1
    rw [f1]
theorem av_fd {x : Str} (hc : M.cl c = some C) (cl : Cls K C) (na : NoAttr K C x) : Avl CXv P w K mg base M lv (.fd c x) := fun X h1 h2 h3 h4 h5 =>
  ⟨C, hc, by rw [h3]; exact cl, by rw [h3]; exact na⟩
theorem kb_of {x ql : Str} {pr : Arguments} {bd : List Stmt} {sc : Scope} {kws : List (Str × V)} (F : FunD K x ql pr bd sc [] kws fa fd) (n : Nat) (ks : List Str) (pm : List Nat)
    (h : ∀ (kV doc pm' : Value) (an : Option Addr) (cdv ct : Value) (us ws : List Value), us.length = n → ws.length = ks.length → bindArgs (PySem.W.fnOf x ql pr bd sc .none kV doc pm' an cdv ct) ⟨us, ks.zip ws⟩ = pure (ps.zip (us ++ permL pm ws))) :
    KBn K fd ps n ks (fun us ws => us ++ permL pm ws) (fun vs zs => vs ++ permL pm zs) := by
  obtain ⟨oc, od, dV, kV, doc, pm', an, cdv, ct, osl, rfl, lk, hcd, hD, hK⟩ := F.ex
  rcases hD with ⟨_, rfl⟩ | ⟨e, _⟩
  · exact ⟨fun s us ws _ l1 l2 => .of_eq (h kV doc pm' an cdv ct us ws l1 l2), fun r1 r2 => r1.append (permL_vals r2)⟩
  · exact absurd rfl e
section
variable {n : Nat} {ks : List Str} {pm : List Nat}
theorem kwF_of {X : Cx} (h1 : X.prog = P) (h2 : X.w = w) (h3 : X.K = K) (h4 : X.mg = mg) (h5 : X.base = base) (F : FnOk P w K mg base CXv k fa fd ps (Spec M f)) (hk : k + 2 ≤ lv) (b : KBn K fd ps n ks (fun us ws => us ++ permL pm ws) (fun vs zs => vs ++ permL pm zs)) : KwF CXv X M lv f n ks pm fa := by
  subst h1 h2 h3 h4 h5
  exact ⟨k, fd, ps, F, hk, b⟩
theorem av_gk (F : FnOk P w K mg base CXv k fa fd ps (Spec M f)) (hk : k + 2 ≤ lv) (b : KBn K fd ps 0 ks (fun us ws => us ++ permL pm ws) (fun vs zs => vs ++ permL pm zs)) (hm : mg f.name = some (.ref fa)) (hp : PySem.W.keepIn K (.ref fa) = true) : Avl CXv P w K mg base M lv (.gk f ks pm) := fun X h1 h2 h3 h4 h5 =>
  ⟨fa, kwF_of h1 h2 h3 h4 h5 F hk b, by rw [h4]; exact hm, by rw [h3]; exact hp⟩
theorem av_mtk (F : FnOk P w K mg base CXv k fa fd ps (Spec M f)) (hk : k + 2 ≤ lv) (b : KBn K fd ps 1 ks (fun us ws => us ++ permL pm ws) (fun vs zs => vs ++ permL pm zs)) (hc : M.cl c = some C) (cl : Cls K C) (me : Meth K C f.name fa) : Avl CXv P w K mg base M lv (.mtk c f ks pm) := fun X h1 h2 h3 h4 h5 =>
  ⟨C, fa, hc, by rw [h3]; exact cl, by rw [h3]; exact me, kwF_of h1 h2 h3 h4 h5 F hk b⟩
theorem av_mkk (F : FnOk P w K mg base CXv k fa fd ps (Spec M f)) (hk : k + 2 ≤ lv) (b : KBn K fd ps 1 ks (fun us ws => us ++ permL pm ws) (fun vs zs => vs ++ permL pm zs)) (hc : M.cl c = some C) (mk : Mk K C fa) (hm : mg f.name = some (.ref C)) : Avl CXv P w K mg base M lv (.mkk c f ks pm) := fun X h1 h2 h3 h4 h5 =>
  ⟨C, fa, hc, by rw [h3]; exact mk, by rw [h4]; exact hm, kwF_of h1 h2 h3 h4 h5 F hk b⟩
end
def Avls (CXv : CXT) (P : Program) (w : World) (K : PySem.W.Frag) (mg : Str → Option Value) (base : Heap) (M : Mo) (lv : Nat) (l : List Fact) : Prop := ∀ f ∈ l, Avl CXv P w K mg base M lv f
theorem avn : Avls CXv P w K mg base M lv [] := fun _ h => by cases h
theorem avc {x : Fact} {l : List Fact} (h : Avl CXv P w K mg base M lv x) (t : Avls CXv P w K mg base M lv l) : Avls CXv P w K mg base M lv (x :: l) := fun f hf => by
  rcases List.mem_cons.mp hf with e | hf
  · subst e; exact h
  · exact t f hf
/-- the def of a datum -/
theorem df_ok {d : Df} {N : List Str} {b : S} (po : PassOk CXv P w) (B : Blts mg) (hM : M.K = K) (F : FunD K d.nm d.ql d.pr d.bd d.sc [] [] (d.pl K) fd) (hs : C8.scC N ps d.sc = true) (hl : ps.length = f.ms.length) (hc : chkS N d.sc f.rk b d.bd = true)
    (hf : Avls CXv P w K mg base M lv b.needs) (hd : ∀ ds, f.den ds = run f.ms N.length b ds) : FnOk P w K mg base CXv (lv + 1) (d.pl K) fd ps (Spec M f) :=
  fn_sound hM po B F hs hl hc (fun X h1 h2 h3 h4 h5 g hg => hf g hg X h1 h2 h3 h4 h5) hd
end
/-! ### the law -/
theorem rep_ints {M : Mo} {F : Hp} : ∀ {ns : List Int}, Fa2 (Rep M F) (ns.map .int) (ns.map V.int)
  | [] => rfl
  | n :: ns => ⟨_, _, rfl, rfl, rep_ints⟩
theorem law_end {K : PySem.W.Frag} {M : Mo} {f : FnD} (hM : M.K = K) (hm : f.ms = [0]) (h : ∀ ns : List Int, ns.length ≤ 63 → f.den [.nd .scr (ns.map .int)] = .ok (.bl true, [])) (H : Hp) (a : Addr) (ns : List Int) (hl : ns.length ≤ 63) (hS : SqL K H a (ns.map V.int)) :
    Spec M f [.ref a] H (fun v _ => v = .bl true) fun _ _ _ => False := by
  refine ⟨[.nd .scr (ns.map .int)], H, [], ?_, List.nodup_nil, by simp, Same.refl H, ?_⟩
  · rw [hm]
    exact ⟨_, [], _, [], rfl, rfl, Rep.nd_iff.mpr ⟨a, _, rfl, by subst hM; exact hS, rep_ints⟩, rfl, rfl, rfl⟩
  · rw [h ns hl]
    intro v F' H' fo' fr _ s2 _ o _ _
    exact (o.rw).bl
end DL

-- part DLs
set_option Elab.async false
set_option linter.all false
set_option maxRecDepth 100000
/-! DL, part s: what a run comes to. -/
namespace DL
open PySem L2
/-- the run ends well, so -/
def W {α : Type} (r : Res α) (Q : α → Prop) : Prop := ∃ a, r = .ok a ∧ Q a
theorem bind_cg {α β : Type} {r r' : Res α} (f : α → Res β) (h : r = r') : r.bind f = r'.bind f := by rw [h]
theorem seqR_cg {r r' : Res Out} (f : Env → Res Out) (h : r = r') : seqR r f = seqR r' f := by rw [h]
theorem W_cg {α : Type} {r r' : Res α} (Q : α → Prop) (h : r = r') : W r Q = W r' Q := by rw [h]
theorem W.ok {α : Type} {a : α} {Q : α → Prop} : W (.ok a) Q ↔ Q a := ⟨fun ⟨b, e, q⟩ => by cases e; exact q, fun q => ⟨a, rfl, q⟩⟩
theorem W.bind {α β : Type} {r : Res α} {f : α → Res β} {Q : β → Prop} : W (r.bind f) Q ↔ W r fun a => W (f a) Q := by
  cases r with
  | ok a => exact ⟨fun h => ⟨a, rfl, h⟩, fun ⟨b, e, h⟩ => by cases e; exact h⟩
  | exn c d =>
    constructor
    · rintro ⟨b, e, _⟩
      exact nomatch (show (Res.exn c d : Res β) = .ok b from e)
    · rintro ⟨b, e, _⟩
      cases e
  | stuck =>
    constructor
    · rintro ⟨b, e, _⟩
      exact nomatch (show (Res.stuck : Res β) = .ok b from e)
    · rintro ⟨b, e, _⟩
      cases e
theorem W.mono {α : Type} {r : Res α} {Q Q' : α → Prop} (h : W r Q) (i : ∀ a, Q a → Q' a) : W r Q' := let ⟨a, e, q⟩ := h; ⟨a, e, i a q⟩
theorem W.eq {α : Type} {r : Res α} {a : α} (h : W r fun b => b = a) : r = .ok a := by obtain ⟨b, e, rfl⟩ := h; exact e
theorem W.of {α : Type} {r : Res α} {a : α} (h : r = .ok a) {Q : α → Prop} (q : Q a) : W r Q := ⟨a, h, q⟩
theorem seqR_nx {env : Env} {f : Env → Res Out} : seqR (.ok (.nx env)) f = f env := rfl
theorem seqR_ret {d : D} {env : Env} {f : Env → Res Out} : seqR (.ok (.ret d env)) f = .ok (.ret d env) := rfl
theorem seqR_brk {env : Env} {f : Env → Res Out} : seqR (.ok (.brk env)) f = .ok (.brk env) := rfl
theorem seqR_cnt {env : Env} {f : Env → Res Out} : seqR (.ok (.cnt env)) f = .ok (.cnt env) := rfl
theorem run_eq {ms : List Nat} {n : Nat} {b : S} {ds : List D} (h : ds.length = ms.length) : run ms n b ds = (ex b (initS ms ds ++ List.replicate (n - ms.length) .un)).bind (endR ms) := if_pos h

/-! ### evaluation, what comes behind as constants -/
def nmR (env : Env) : Option Sl → Res (Wk × Env)
  | some (.val d) => .ok ((0, d), env)
  | some (.own k d) => .ok ((k, d), env)
  | some (.io k d) => .ok ((k, d), env)
  | _ => .stuck
def kR (env : Env) (d : D) : Res (Wk × Env) := .ok ((0, d), env)
def kBin2 (op : Bop) (x : Wk) (y : Wk × Env) : Res (Wk × Env) := (dBin op x y.1).bind (kR y.2)
def kBin (op : Bop) (b : E) (x : Wk × Env) : Res (Wk × Env) := if x.1.1 = 0 ∨ b.pure = true then (ev b x.2).bind (kBin2 op x.1) else .stuck
def kNeg (x : Wk × Env) : Res (Wk × Env) := (asI x.1.2).bind fun i => .ok ((0, .int (-i)), x.2)
def kB (env : Env) (c : Bool) : Res (Wk × Env) := .ok ((0, .bl c), env)
def kCmp2 (op : Cop) (x : Wk) (y : Wk × Env) : Res (Wk × Env) := (dCmp op x y.1).bind (kB y.2)
def kCmp (op : Cop) (b : E) (x : Wk × Env) : Res (Wk × Env) := if x.1.1 = 0 ∨ b.pure = true then (ev b x.2).bind (kCmp2 op x.1) else .stuck
def kBl (y : Wk × Env) : Res (Wk × Env) := (asB y.1.2).bind (kB y.2)
def kAnd (b : E) (x : Wk × Env) : Res (Wk × Env) := (asB x.1.2).bind fun k => if k = true then (ev b x.2).bind kBl else .ok ((0, .bl false), x.2)
def kOr (b : E) (x : Wk × Env) : Res (Wk × Env) := (asB x.1.2).bind fun k => if k = true then .ok ((0, .bl true), x.2) else (ev b x.2).bind kBl
def kNot (x : Wk × Env) : Res (Wk × Env) := (asB x.1.2).bind fun k => .ok ((0, .bl (!k)), x.2)
def kIf (a b : E) (x : Wk × Env) : Res (Wk × Env) := (asB x.1.2).bind fun k => if k = true then ev a x.2 else ev b x.2
def kTup2 (env : Env) (ds : List D) : Res (Wk × Env) := if ds.length ≤ lim then .ok ((0, .tup ds), env) else .stuck
def kTup (x : List Ar × Env) : Res (Wk × Env) := (ofO (strong x.1)).bind (kTup2 x.2)
def kLst2 (env : Env) (ds : List D) : Res (Wk × Env) := if ds.length ≤ lim then .ok ((0, .lst ds), env) else .stuck
def kLst (x : List Ar × Env) : Res (Wk × Env) := (ofO (strong x.1)).bind (kLst2 x.2)
def kW (env : Env) (w : Wk) : Res (Wk × Env) := .ok (w, env)
def kIdx2 (x : Wk) (y : Wk × Env) : Res (Wk × Env) := (dIdx x y.1.2).bind (kW y.2)
def kIdx (b : E) (x : Wk × Env) : Res (Wk × Env) := if x.1.1 = 0 ∨ b.pure = true then (ev b x.2).bind (kIdx2 x.1) else .stuck
def kD (y : D × Env) : Res (Wk × Env) := .ok ((0, y.1), y.2)
def kApp (f : FnD) (x : List Ar × Env) : Res (Wk × Env) := (callD f x.1 x.2).bind kD
def kBlt2 (b : Blt) (env : Env) (ws : List Wk) : Res (Wk × Env) := (dBlt b ws).bind (kR env)
def kBlt (b : Blt) (x : List Ar × Env) : Res (Wk × Env) := (ofO (weaks x.1)).bind (kBlt2 b x.2)
def kFld (c : Nat) (f : Str) (x : Wk × Env) : Res (Wk × Env) := (fieldOf c f x.1).bind (kW x.2)
def kCons2 (x : Wk) (y : List Ar × Env) : Res (List Ar × Env) := .ok (.d x.1 x.2 :: y.1, y.2)
def kCons (es : E) (x : Wk × Env) : Res (List Ar × Env) := if x.1.1 = 0 ∨ es.pure = true then (evs es x.2).bind (kCons2 x.1) else .stuck
def kIo (i : Nat) (y : List Ar × Env) : Res (List Ar × Env) := .ok (.io i :: y.1, y.2)
def kWk (i : Nat) (y : List Ar × Env) : Res (List Ar × Env) := .ok (.wk i :: y.1, y.2)
section
variable {env : Env} {a b : E} {es : E} {k : Nat} {d : D}
theorem q_name {i : Nat} : ev (.name i) env = nmR env env[i]? := by
  unfold nmR
  show (match env[i]? with | some (.val d) => Res.ok ((0, d), env) | some (.own k d) => .ok ((k, d), env) | some (.io k d) => .ok ((k, d), env) | _ => .stuck) = _
  split <;> simp_all
theorem q_lit : ev (.lit d) env = .ok ((0, d), env) := rfl
theorem q_bin {op : Bop} : ev (.bin op a b) env = (ev a env).bind (kBin op b) := rfl
theorem q_neg : ev (.neg a) env = (ev a env).bind kNeg := rfl
theorem q_cmp {op : Cop} : ev (.cmp op a b) env = (ev a env).bind (kCmp op b) := rfl
theorem q_and : ev (.andv a b) env = (ev a env).bind (kAnd b) := rfl
theorem q_or : ev (.orv a b) env = (ev a env).bind (kOr b) := rfl
theorem q_not : ev (.notv a) env = (ev a env).bind kNot := rfl
theorem q_ife {t : E} : ev (.ife t a b) env = (ev t env).bind (kIf a b) := rfl
theorem q_tup : ev (.tup es) env = (evs es env).bind kTup := rfl
theorem q_lst : ev (.lst es) env = (evs es env).bind kLst := rfl
theorem q_idx : ev (.idx a b) env = (ev a env).bind (kIdx b) := rfl
theorem q_app {f : FnD} : ev (.app f es) env = (evs es env).bind (kApp f) := rfl
theorem q_blt {t : Blt} : ev (.blt t es) env = (evs es env).bind (kBlt t) := rfl
theorem q_fld {c : Nat} {f : Str} : ev (.fld c f a) env = (ev a env).bind (kFld c f) := rfl
theorem q_nil : evs .nil env = .ok ([], env) := rfl
theorem q_cio {i : Nat} : evs (.cons (.ioa i) es) env = if held env i = true then (evs es env).bind (kIo i) else .stuck := rfl
theorem q_cwk {i : Nat} : evs (.cons (.wka i) es) env = if held env i = true then (evs es env).bind (kWk i) else .stuck := rfl
end

section
variable {env : Env} {a b : E} {es : E} {j k : Nat} {d : D} {x y : Int} {ds es' : List D}
theorem n_val : nmR env (some (.val d)) = .ok ((0, d), env) := rfl
theorem n_own : nmR env (some (.own k d)) = .ok ((k, d), env) := rfl
theorem n_io : nmR env (some (.io k d)) = .ok ((k, d), env) := rfl
theorem r_R : kR env d = .ok ((0, d), env) := rfl
theorem r_bin {op : Bop} : kBin op b ((0, d), env) = (ev b env).bind (kBin2 op (0, d)) := if_pos (.inl rfl)
theorem r_binp {op : Bop} : kBin op b ((1, d), env) = if b.pure = true then (ev b env).bind (kBin2 op (1, d)) else .stuck := by
  unfold kBin; by_cases h : b.pure = true <;> simp [h]
theorem r_bin2 {op : Bop} {u w : Wk} : kBin2 op u (w, env) = (dBin op u w).bind (kR env) := rfl
theorem r_neg : kNeg ((k, .int x), env) = .ok ((0, .int (-x)), env) := rfl
theorem r_B {c : Bool} : kB env c = .ok ((0, .bl c), env) := rfl
theorem r_cmp {op : Cop} : kCmp op b ((0, d), env) = (ev b env).bind (kCmp2 op (0, d)) := if_pos (.inl rfl)
theorem r_cmpp {op : Cop} : kCmp op b ((1, d), env) = if b.pure = true then (ev b env).bind (kCmp2 op (1, d)) else .stuck := by
  unfold kCmp; by_cases h : b.pure = true <;> simp [h]
theorem r_cmp2 {op : Cop} {u w : Wk} : kCmp2 op u (w, env) = (dCmp op u w).bind (kB env) := rfl
theorem r_bl {c : Bool} : kBl ((k, .bl c), env) = .ok ((0, .bl c), env) := rfl
theorem r_and {c : Bool} : kAnd b ((k, .bl c), env) = if c = true then (ev b env).bind kBl else .ok ((0, .bl false), env) := rfl
theorem r_or {c : Bool} : kOr b ((k, .bl c), env) = if c = true then .ok ((0, .bl true), env) else (ev b env).bind kBl := rfl
theorem r_not {c : Bool} : kNot ((k, .bl c), env) = .ok ((0, .bl (!c)), env) := rfl
theorem r_if {c : Bool} : kIf a b ((k, .bl c), env) = if c = true then ev a env else ev b env := rfl
theorem r_tup {ars : List Ar} : kTup (ars, env) = (ofO (strong ars)).bind (kTup2 env) := rfl
theorem r_tup2 : kTup2 env ds = if ds.length ≤ lim then .ok ((0, .tup ds), env) else .stuck := rfl
theorem r_lst {ars : List Ar} : kLst (ars, env) = (ofO (strong ars)).bind (kLst2 env) := rfl
theorem r_lst2 : kLst2 env ds = if ds.length ≤ lim then .ok ((0, .lst ds), env) else .stuck := rfl
theorem r_W {w : Wk} : kW env w = .ok (w, env) := rfl
theorem r_idx : kIdx b ((0, d), env) = (ev b env).bind (kIdx2 (0, d)) := if_pos (.inl rfl)
theorem r_idxp : kIdx b ((1, d), env) = if b.pure = true then (ev b env).bind (kIdx2 (1, d)) else .stuck := by
  unfold kIdx; by_cases h : b.pure = true <;> simp [h]
theorem r_idx2 {u w : Wk} : kIdx2 u (w, env) = (dIdx u w.2).bind (kW env) := rfl
theorem r_D : kD (d, env) = .ok ((0, d), env) := rfl
theorem r_app {f : FnD} {ars : List Ar} : kApp f (ars, env) = (callD f ars env).bind kD := rfl
theorem r_blt {t : Blt} {ars : List Ar} : kBlt t (ars, env) = (ofO (weaks ars)).bind (kBlt2 t env) := rfl
theorem r_blt2 {t : Blt} {ws : List Wk} : kBlt2 t env ws = (dBlt t ws).bind (kR env) := rfl
theorem r_fld {c : Nat} {f : Str} {u : Wk} : kFld c f (u, env) = (fieldOf c f u).bind (kW env) := rfl
theorem r_cons : kCons es ((0, d), env) = (evs es env).bind (kCons2 (0, d)) := if_pos (.inl rfl)
theorem r_consp : kCons es ((1, d), env) = if es.pure = true then (evs es env).bind (kCons2 (1, d)) else .stuck := by
  unfold kCons; by_cases h : es.pure = true <;> simp [h]
theorem r_cons2 {u : Wk} {ars : List Ar} : kCons2 u (ars, env) = .ok (.d u.1 u.2 :: ars, env) := rfl
theorem r_io {i : Nat} {ars : List Ar} : kIo i (ars, env) = .ok (.io i :: ars, env) := rfl
theorem r_wk {i : Nat} {ars : List Ar} : kWk i (ars, env) = .ok (.wk i :: ars, env) := rfl
theorem qc_name (i : Nat) : evs (.cons (.name i) es) env = (ev (.name i) env).bind (kCons es) := rfl
theorem qc_lit (d : D) : evs (.cons (.lit d) es) env = (ev (.lit d) env).bind (kCons es) := rfl
theorem qc_bin (op : Bop) (a b : E) : evs (.cons (.bin op a b) es) env = (ev (.bin op a b) env).bind (kCons es) := rfl
theorem qc_neg (a : E) : evs (.cons (.neg a) es) env = (ev (.neg a) env).bind (kCons es) := rfl
theorem qc_cmp (op : Cop) (a b : E) : evs (.cons (.cmp op a b) es) env = (ev (.cmp op a b) env).bind (kCons es) := rfl
theorem qc_chn (op op2 : Cop) (a b c : E) : evs (.cons (.chn op op2 a b c) es) env = (ev (.chn op op2 a b c) env).bind (kCons es) := rfl
theorem qc_andv (a b : E) : evs (.cons (.andv a b) es) env = (ev (.andv a b) env).bind (kCons es) := rfl
theorem qc_orv (a b : E) : evs (.cons (.orv a b) es) env = (ev (.orv a b) env).bind (kCons es) := rfl
theorem qc_notv (a : E) : evs (.cons (.notv a) es) env = (ev (.notv a) env).bind (kCons es) := rfl
theorem qc_ife (t a b : E) : evs (.cons (.ife t a b) es) env = (ev (.ife t a b) env).bind (kCons es) := rfl
theorem qc_tup (e : E) : evs (.cons (.tup e) es) env = (ev (.tup e) env).bind (kCons es) := rfl
theorem qc_lst (e : E) : evs (.cons (.lst e) es) env = (ev (.lst e) env).bind (kCons es) := rfl
theorem qc_idx (a b : E) : evs (.cons (.idx a b) es) env = (ev (.idx a b) env).bind (kCons es) := rfl
theorem qc_slc (a b c : E) : evs (.cons (.slc a b c) es) env = (ev (.slc a b c) env).bind (kCons es) := rfl
theorem qc_app (f : FnD) (e : E) : evs (.cons (.app f e) es) env = (ev (.app f e) env).bind (kCons es) := rfl
theorem qc_blt (t : Blt) (e : E) : evs (.cons (.blt t e) es) env = (ev (.blt t e) env).bind (kCons es) := rfl
theorem qc_fld (c : Nat) (f : Str) (a : E) : evs (.cons (.fld c f a) es) env = (ev (.fld c f a) env).bind (kCons es) := rfl
theorem qc_prp (c : Nat) (f : FnD) (a : E) : evs (.cons (.prp c f a) es) env = (ev (.prp c f a) env).bind (kCons es) := rfl
theorem qc_mth (c : Nat) (f : FnD) (a e : E) : evs (.cons (.mth c f a e) es) env = (ev (.mth c f a e) env).bind (kCons es) := rfl
theorem qc_lno (c : Nat) (f : FnD) (a : E) : evs (.cons (.lno c f a) es) env = (ev (.lno c f a) env).bind (kCons es) := rfl
theorem qc_addo (c : Nat) (f : FnD) (a b : E) : evs (.cons (.addo c f a b) es) env = (ev (.addo c f a b) env).bind (kCons es) := rfl
theorem qc_eqo (c : Nat) (f : FnD) (a b : E) : evs (.cons (.eqo c f a b) es) env = (ev (.eqo c f a b) env).bind (kCons es) := rfl
theorem qc_mk (c : Nat) (f : FnD) (e : E) : evs (.cons (.mk c f e) es) env = (ev (.mk c f e) env).bind (kCons es) := rfl
theorem qc_appk (f : FnD) (ks : List Str) (pm : List Nat) (e : E) : evs (.cons (.appk f ks pm e) es) env = (ev (.appk f ks pm e) env).bind (kCons es) := rfl
theorem qc_mthk (c : Nat) (f : FnD) (ks : List Str) (pm : List Nat) (o e : E) : evs (.cons (.mthk c f ks pm o e) es) env = (ev (.mthk c f ks pm o e) env).bind (kCons es) := rfl
theorem qc_mkk (c : Nat) (f : FnD) (ks : List Str) (pm : List Nat) (e : E) : evs (.cons (.mkk c f ks pm e) es) env = (ev (.mkk c f ks pm e) env).bind (kCons es) := rfl
theorem qc_comp (tg : List Nat) (it t e : E) : evs (.cons (.comp tg it t e) es) env = (ev (.comp tg it t e) env).bind (kCons es) := rfl
/-! operations -/
theorem d_add : dBin .add (j, .int x) (k, .int y) = .ok (.int (x + y)) := rfl
theorem d_sub : dBin .sub (j, .int x) (k, .int y) = .ok (.int (x - y)) := rfl
theorem d_mul (h : MulOk x y = true) : dBin .mul (j, .int x) (k, .int y) = .ok (.int (x * y)) := if_pos h
theorem d_fdiv (h : DivOk y = true) : dBin .fdiv (j, .int x) (k, .int y) = .ok (.int (x.fdiv y)) := if_pos h
theorem d_mod (h : y ≠ 0) : dBin .mod (j, .int x) (k, .int y) = .ok (.int (x.fmod y)) := if_pos h
theorem d_pow (h : PowOk x y = true) : dBin .pow (j, .int x) (k, .int y) = .ok (.int (x ^ y.toNat)) := if_pos h
theorem d_cat (hj : j ≤ 1) (hk : k ≤ 1) (h : ds.length + es'.length ≤ lim) : dBin .add (j, .lst ds) (k, .lst es') = .ok (.lst (ds ++ es')) := if_pos ⟨hj, hk, h⟩
theorem d_lt : dCmp .lt (j, .int x) (k, .int y) = .ok (decide (x < y)) := rfl
theorem d_le : dCmp .le (j, .int x) (k, .int y) = .ok (decide (x ≤ y)) := rfl
theorem d_gt : dCmp .gt (j, .int x) (k, .int y) = .ok (decide (y < x)) := rfl
theorem d_ge : dCmp .ge (j, .int x) (k, .int y) = .ok (decide (y ≤ x)) := rfl
theorem d_isN {d : D} : dCmp .isn (j, d) (k, .non) = .ok (match d with | .non => true | _ => false) := by cases d <;> rfl
theorem d_nisN {d : D} : dCmp .nisn (j, d) (k, .non) = .ok (match d with | .non => false | _ => true) := by cases d <;> rfl
def ixR (k : Nat) : Option D → Res Wk
  | some d => .ok (k - 1, d)
  | none => .stuck
theorem d_idxl : dIdx (k, .lst ds) (.int x) = ixR k (atI ds x) := by
  unfold ixR
  show (match atI ds x with | some d => Res.ok (k - 1, d) | none => .stuck) = _
  cases atI ds x <;> rfl
theorem d_idxt : dIdx (k, .tup ds) (.int x) = ixR k (atI ds x) := by
  unfold ixR
  show (match atI ds x with | some d => Res.ok (k - 1, d) | none => .stuck) = _
  cases atI ds x <;> rfl
theorem d_idxs : dIdx (k, .nd .scr ds) (.int x) = ixR k (atI ds x) := by
  unfold ixR
  show (match atI ds x with | some d => Res.ok (k - 1, d) | none => .stuck) = _
  cases atI ds x <;> rfl
theorem ix_some : ixR k (some d) = .ok (k - 1, d) := rfl
theorem dEq_int : dEq (.int x) (.int y) = .ok (decide (x = y)) := by
  have h : okPy (.int x) = true := rfl
  have h2 : okPy (.int y) = true := rfl
  unfold dEq
  rw [h, h2]
  show Res.ok (PyData.eqv (.int x) (.int y)) = _
  congr 1
end

def isLR : Option Sl → Bool
  | some (.own _ (.nd .lst _)) => true
  | some (.io _ (.nd .lst _)) => true
  | _ => false
/-! ### statements -/
def xBind (f : Env → Res Out) (r : Res Env) : Res Out := r.bind f
def kSet2 (tg : Tg) (env : Env) (d : D) : Res Out := (setTg env tg d).bind fun env => .ok (.nx env)
def kSet (tg : Tg) (x : Wk × Env) : Res Out := (str1 x.1).bind (kSet2 tg x.2)
def kSeto2 (i : Nat) (env : Env) (d : D) : Res Out := match d with
  | .nd .lst ds => (setSl env i (.own 1 (.lst ds))).bind fun env => .ok (.nx env)
  | _ => .stuck
def kSeto (i : Nat) (x : Wk × Env) : Res Out := (str1 x.1).bind (kSeto2 i x.2)
def kPar2 (is : List Nat) (env : Env) (ds : List D) : Res Out := (setTis env (is.map .sl) ds).bind fun env => .ok (.nx env)
def kPar (is : List Nat) (x : List Ar × Env) : Res Out := (ofO (strong x.1)).bind (kPar2 is x.2)
noncomputable def kIfS (a b : S) (x : Wk × Env) : Res Out := (asB x.1.2).bind fun k => if k = true then ex a x.2 else ex b x.2
noncomputable def kFor (tg : List Nat) (b : S) (x : List D × Env) : Res Out := forL tg (ex b) x.1 x.2
def kRet (x : Wk × Env) : Res Out := (str1 x.1).bind fun d => .ok (.ret d x.2)
def kReto2 (env : Env) (d : D) : Res Out := match d with
  | .nd .lst ds => .ok (.ret (.lst ds) env)
  | _ => .stuck
def kReto (x : Wk × Env) : Res Out := (str1 x.1).bind (kReto2 x.2)
def kDrop (x : Wk × Env) : Res Out := .ok (.nx x.2)
def kSub3 (i : Nat) (d : D) (env : Env) (ix : Int) : Res Out := (subAt env i ix d).bind fun env => .ok (.nx env)
def kSub2 (i : Nat) (d : D) (y : Wk × Env) : Res Out := (asI y.1.2).bind (kSub3 i d y.2)
def kSub (i : Nat) (j : E) (x : Wk × Env) : Res Out := (str1 x.1).bind fun d => (ev j x.2).bind (kSub2 i d)
def kApn (i : Nat) (x : Wk × Env) : Res Out := (str1 x.1).bind fun d => (growAt x.2 i none [d]).bind fun env => .ok (.nx env)
def kExt2 (i : Nat) (env : Env) (d : D) : Res Out := match d with
  | .nd .lst ds => (growAt env i none ds).bind fun env => .ok (.nx env)
  | _ => .stuck
def kExt (i : Nat) (x : Wk × Env) : Res Out := (str1 x.1).bind (kExt2 i x.2)
section
variable {env : Env} {e : E} {i : Nat} {d : D}
theorem x_nil : ex .nil env = .ok (.nx env) := rfl
theorem x_cons {s ss : S} : ex (.cons s ss) env = seqR (ex s env) (ex ss) := rfl
theorem x_pass : ex .pass env = .ok (.nx env) := rfl
theorem x_set {tg : Tg} : ex (.set tg e) env = (ev e env).bind (kSet tg) := rfl
theorem x_seto : ex (.seto 1 i e) env = if ownL e = true then (ev e env).bind (kSeto i) else .stuck := by
  by_cases h : ownL e = true
  · rw [if_pos h]; exact if_pos ⟨h, rfl⟩
  · rw [if_neg h]; exact if_neg fun z => h z.1
theorem x_par {is : List Nat} : ex (.par is e) env = (evs e env).bind (kPar is) := rfl
theorem x_ife {a b : S} : ex (.ife e a b) env = (ev e env).bind (kIfS a b) := rfl
theorem x_for {tg : List Nat} {b : S} : ex (.for_ tg e b) env = (evi e env).bind (kFor tg b) := rfl
theorem x_whl {b : S} : ex (.whl e b) env = whl (ev e) (ex b) env := rfl
theorem x_ret : ex (.ret e) env = (ev e env).bind kRet := rfl
theorem x_reto : ex (.reto e) env = if ownL e = true then (ev e env).bind kReto else .stuck := rfl
theorem x_retn : ex .retn env = .ok (.ret .non env) := rfl
theorem x_drop : ex (.drop e) env = (ev e env).bind kDrop := rfl
theorem x_app : ex (.app i .nil e) env = if isLR env[i]? = true then (ev e env).bind (kApn i) else .stuck := rfl
theorem x_ext : ex (.ext i .nil e) env = if isLR env[i]? = true then (ev e env).bind (kExt i) else .stuck := rfl
theorem x_sub {j : E} : ex (.sub i j e) env = if isLR env[i]? = true then (ev e env).bind (kSub i j) else .stuck := rfl
end
section
variable {env : Env} {e : E} {i k : Nat} {d : D} {ds : List D}
theorem k_set {tg : Tg} : kSet tg ((0, d), env) = (setTg env tg d).bind fun env => .ok (.nx env) := rfl
theorem k_seto : kSeto i ((0, .lst ds), env) = (setSl env i (.own 1 (.lst ds))).bind fun env => .ok (.nx env) := rfl
theorem k_par {is : List Nat} {ars : List Ar} : kPar is (ars, env) = (ofO (strong ars)).bind (kPar2 is env) := rfl
theorem k_par2 {is : List Nat} : kPar2 is env ds = (setTis env (is.map .sl) ds).bind fun env => .ok (.nx env) := rfl
theorem k_ife {a b : S} {c : Bool} : kIfS a b ((k, .bl c), env) = if c = true then ex a env else ex b env := rfl
theorem k_for {tg : List Nat} {b : S} : kFor tg b (ds, env) = forL tg (ex b) ds env := rfl
theorem k_ret : kRet ((0, d), env) = .ok (.ret d env) := rfl
theorem k_reto : kReto ((0, .lst ds), env) = .ok (.ret (.lst ds) env) := rfl
theorem k_drop {x : Wk} : kDrop (x, env) = .ok (.nx env) := rfl
theorem k_sub {j : E} : kSub i j ((0, d), env) = (ev j env).bind (kSub2 i d) := rfl
theorem k_sub2 {x : Int} : kSub2 i d ((k, .int x), env) = (subAt env i x d).bind fun env => .ok (.nx env) := rfl
theorem k_app : kApn i ((0, d), env) = (growAt env i none [d]).bind fun env => .ok (.nx env) := rfl
theorem k_ext : kExt i ((0, .lst ds), env) = (growAt env i none ds).bind fun env => .ok (.nx env) := rfl
end
end DL

namespace DL
open PySem L2
section
variable {env : Env} {i j k : Nat} {d a0 a1 a2 a3 : D} {ds : List D} {x y : Int}
theorem at0 {α : Type} {a : α} {l : List α} : atI (a :: l) 0 = some a := by simp [atI, ixN]
theorem at1 {α : Type} {a b : α} {l : List α} : atI (a :: b :: l) 1 = some b := by
  have h : (1 : Int) < ((a :: b :: l).length : Int) := by simp; omega
  simp only [atI, ixN, h]; rfl
theorem at2 {α : Type} {a b c : α} {l : List α} : atI (a :: b :: c :: l) 2 = some c := by
  have h : (2 : Int) < ((a :: b :: c :: l).length : Int) := by simp; omega
  simp only [atI, ixN, h]; rfl
theorem atN {α : Type} {a : α} {l : List α} {n : Nat} (h : l[n]? = some a) : atI l (n : Int) = some a := by
  have hl := lt_of_get h
  have h1 : (0 : Int) ≤ (n : Int) := by omega
  have h2 : (n : Int) < (l.length : Int) := by omega
  simp only [atI, ixN, if_pos h1, if_pos h2, Int.toNat_natCast]
  exact h
theorem atL {α : Type} {a : α} {l : List α} : atI (l ++ [a]) (-1) = some a := by
  have h1 : ¬ (0 : Int) ≤ -1 := by omega
  have h2 : -(((l ++ [a]).length : Nat) : Int) ≤ -1 := by simp; omega
  have h3 : ((-1 : Int) + ((l ++ [a]).length : Nat)).toNat = l.length := by simp; omega
  simp only [atI, ixN, if_neg h1, if_pos h2, h3]
  simp
def subR (env : Env) (i : Nat) (x : Int) (d : D) : Option Sl → Res Env
  | some (.own 1 (.nd .lst ds)) => match ixN ds.length x with | some j => .ok (env.set i (.own 1 (.lst (ds.set j d)))) | none => .stuck
  | some (.io 1 (.nd .lst ds)) => match ixN ds.length x with | some j => .ok (env.set i (.io 1 (.lst (ds.set j d)))) | none => .stuck
  | _ => .stuck
theorem q_sub : subAt env i x d = subR env i x d env[i]? := rfl
def subO (env : Env) (i : Nat) (d : D) (ds : List D) : Option Nat → Res Env
  | some j => .ok (env.set i (.own 1 (.lst (ds.set j d))))
  | none => .stuck
def subI (env : Env) (i : Nat) (d : D) (ds : List D) : Option Nat → Res Env
  | some j => .ok (env.set i (.io 1 (.lst (ds.set j d))))
  | none => .stuck
theorem sub_own : subR env i x d (some (.own 1 (.lst ds))) = subO env i d ds (ixN ds.length x) := by
  show (match ixN ds.length x with | some j => Res.ok (env.set i (.own 1 (.lst (ds.set j d)))) | none => .stuck) = _
  cases ixN ds.length x <;> rfl
theorem sub_io : subR env i x d (some (.io 1 (.lst ds))) = subI env i d ds (ixN ds.length x) := by
  show (match ixN ds.length x with | some j => Res.ok (env.set i (.io 1 (.lst (ds.set j d)))) | none => .stuck) = _
  cases ixN ds.length x <;> rfl
theorem sub_o : subO env i d ds (some j) = .ok (env.set i (.own 1 (.lst (ds.set j d)))) := rfl
theorem sub_i : subI env i d ds (some j) = .ok (env.set i (.io 1 (.lst (ds.set j d)))) := rfl
theorem ix30 : ixN 3 0 = some 0 := rfl
theorem ix31 : ixN 3 1 = some 1 := rfl
theorem ix32 : ixN 3 2 = some 2 := rfl
def setR (env : Env) (i : Nat) (s : Sl) : Option Sl → Res Env
  | some (.io _ _) => .stuck
  | some _ => .ok (env.set i s)
  | none => .stuck
theorem q_setSl {s : Sl} : setSl env i s = setR env i s env[i]? := rfl
theorem set_un {s : Sl} : setR env i s (some .un) = .ok (env.set i s) := rfl
theorem set_val {s : Sl} : setR env i s (some (.val d)) = .ok (env.set i s) := rfl
theorem set_own {s : Sl} : setR env i s (some (.own k d)) = .ok (env.set i s) := rfl
theorem q_setTg : setTg env (.one (.sl i)) d = setSl env i (.val d) := rfl
theorem q_setTup {ts : List Ti} : setTg env (.tup ts) (.tup ds) = setTis env ts ds := rfl
theorem q_tis0 : setTis env [] [] = .ok env := rfl
theorem q_tis {ts : List Ti} : setTis env (.sl i :: ts) (d :: ds) = (setSl env i (.val d)).bind fun env => setTis env ts ds := rfl
theorem b_int : dBlt .int [(k, .int x)] = .ok (.int x) := rfl
theorem b_abs : dBlt .abs [(k, .int x)] = .ok (.int (if x < 0 then -x else x)) := rfl
theorem b_max2 : dBlt .max2 [(j, .int x), (k, .int y)] = .ok (.int (if y > x then y else x)) := rfl
theorem b_min2 : dBlt .min2 [(j, .int x), (k, .int y)] = .ok (.int (if y < x then y else x)) := rfl
theorem b_lenl : dBlt .len [(k, .lst ds)] = .ok (.int ds.length) := rfl
theorem b_lent : dBlt .len [(k, .tup ds)] = .ok (.int ds.length) := rfl
theorem b_lens : dBlt .len [(k, .nd .scr ds)] = .ok (.int ds.length) := rfl
theorem isL_own : isLR (some (.own k (.lst ds))) = true := rfl
theorem isL_io : isLR (some (.io k (.lst ds))) = true := rfl
theorem e_nx {ms : List Nat} : endR ms (.nx env) = if okOuts ms env = true then .ok (.non, outsOf ms env) else .stuck := rfl
theorem e_ret {ms : List Nat} : endR ms (.ret d env) = if okOuts ms env = true then .ok (d, outsOf ms env) else .stuck := rfl
theorem divOk {y : Int} (h : 0 < y) (h2 : y < 2 ^ 1000) : DivOk y = true := by
  have h3 : y.natAbs < 2 ^ 1000 := by omega
  have h4 : y.natAbs ≠ 0 := by omega
  have h5 := (Nat.log2_lt h4).mpr (Nat.lt_of_lt_of_le h3 (Nat.pow_le_pow_right (by decide) (by decide : 1000 ≤ 9000)))
  simp only [DivOk, Bool.and_eq_true, decide_eq_true_eq]
  exact ⟨by omega, h5⟩
theorem mulOk_l {x y : Int} (h : x.natAbs < 2 ^ 64) : MulOk x y = true := by simp [MulOk, h]
theorem mulOk_r {x y : Int} (h : y.natAbs < 2 ^ 64) : MulOk x y = true := by simp [MulOk, h]
theorem powOk {x : Int} {n : Nat} {m : Nat} (h : x.natAbs < 2 ^ m) (hm : 0 < m) (h2 : m * n ≤ 2 ^ 27) : PowOk x n = true := by
  have h3 : x.natAbs.log2 + 1 ≤ m := by
    by_cases z : x.natAbs = 0
    · rw [z]; exact hm
    · exact (Nat.log2_lt z).mpr h
  simp only [PowOk, Bool.and_eq_true, decide_eq_true_eq]
  refine ⟨by omega, ?_⟩
  have h5 : (x.natAbs.log2 + 1) * n ≤ 2 ^ 27 := Nat.le_trans (Nat.mul_le_mul_right _ h3) h2
  exact_mod_cast h5
end
end DL

-- part DLt
set_option Elab.async false
set_option linter.all false
set_option maxRecDepth 100000
/-! DL, part t: reckoning by what a run comes to: calls, loops, comprehensions, equality. -/
namespace DL
open PySem L2

/-! ### calls -/
def okAr (ars : List Ar) : Bool := decide ((iosOf ars).Nodup) && (wksOf ars).all fun i => !(iosOf ars).contains i
def callK2 (f : FnD) (ars : List Ar) (x : D × List D) : Option Env → Res (D × Env)
  | some env' => if (wksOf ars).isEmpty || (noLst x.1 && (f.rk == 0 && noOuts f.ms x.2)) then .ok (x.1, env') else .stuck
  | none => .stuck
def callK (f : FnD) (ars : List Ar) (env : Env) (x : D × List D) : Res (D × Env) := callK2 f ars x (putBack env (iosOf ars) x.2)
def callR (f : FnD) (ars : List Ar) (env : Env) : Option (List D) → Res (D × Env)
  | none => .stuck
  | some ds => if okAr ars = true then (f.den ds).bind (callK f ars env) else .stuck
theorem q_call {f : FnD} {ars : List Ar} {env : Env} : callD f ars env = callR f ars env (argsOf env f.ms ars) := by
  unfold callD callR
  cases argsOf env f.ms ars with
  | none => rfl
  | some ds =>
    simp only
    have e : ((iosOf ars).Nodup ∧ ∀ i ∈ wksOf ars, i ∉ iosOf ars) ↔ okAr ars = true := by simp [okAr]
    by_cases h : okAr ars = true
    · rw [if_pos h, if_pos (e.mpr h)]
      congr 1
      funext x
      obtain ⟨r, outs⟩ := x
      unfold callK callK2
      simp only
      cases putBack env (iosOf ars) outs with
      | none => rfl
      | some env' => simp
    · rw [if_neg h, if_neg fun z => h (e.mp z)]
theorem call_some {f : FnD} {ars : List Ar} {env : Env} {ds : List D} : callR f ars env (some ds) = if okAr ars = true then (f.den ds).bind (callK f ars env) else .stuck := rfl
theorem call_k {f : FnD} {ars : List Ar} {env : Env} {r : D} {outs : List D} : callK f ars env (r, outs) = callK2 f ars (r, outs) (putBack env (iosOf ars) outs) := rfl
theorem call_k2 {f : FnD} {ars : List Ar} {env : Env} {r : D} {outs : List D} : callK2 f ars (r, outs) (some env) = if (wksOf ars).isEmpty || (noLst r && (f.rk == 0 && noOuts f.ms outs)) then .ok (r, env) else .stuck := rfl
section
variable {env : Env} {ms : List Nat} {ars : List Ar} {d : D} {i k : Nat} {ds : List D} {s : Sl}
theorem a_nil : argsOf env [] [] = some [] := rfl
theorem a_d : argsOf env (0 :: ms) (.d 0 d :: ars) = (argsOf env ms ars).map (d :: ·) := rfl
def aWk (env : Env) (ms : List Nat) (ars : List Ar) : Option D → Option (List D)
  | some (.nd .lst ds) => (argsOf env ms ars).map (D.lst ds :: ·)
  | _ => none
def aIo (env : Env) (ms : List Nat) (ars : List Ar) : Option D → Option (List D)
  | some d => (argsOf env ms ars).map (d :: ·)
  | none => none
theorem a_wk : argsOf env (0 :: ms) (.wk i :: ars) = aWk env ms ars (lent env i 1) := by
  unfold aWk
  show (match lent env i 1 with | some (.nd .lst ds) => (argsOf env ms ars).map (D.lst ds :: ·) | _ => none) = _
  split <;> simp_all
theorem a_io : argsOf env ((k + 1) :: ms) (.io i :: ars) = aIo env ms ars (lent env i (k + 1)) := by
  unfold aIo
  show (match lent env i (k + 1) with | some d => (argsOf env ms ars).map (d :: ·) | none => none) = _
  split <;> simp_all
theorem a_io1 : argsOf env (1 :: ms) (.io i :: ars) = aIo env ms ars (lent env i 1) := a_io (k := 0)
theorem a_io2 : argsOf env (2 :: ms) (.io i :: ars) = aIo env ms ars (lent env i 2) := a_io (k := 1)
theorem a_wk2 : aWk env ms ars (some (.lst ds)) = (argsOf env ms ars).map (D.lst ds :: ·) := rfl
theorem a_io3 : aIo env ms ars (some d) = (argsOf env ms ars).map (d :: ·) := rfl
def lentR (k : Nat) : Option Sl → Option D
  | some (.own j d) => if j = k then some d else none
  | some (.io j d) => if j = k then some d else none
  | _ => none
theorem q_lent : lent env i k = lentR k env[i]? := by
  unfold lent lentR
  split <;> simp_all
theorem lentR_own {j : Nat} : lentR k (some (.own j d)) = if j = k then some d else none := rfl
theorem lent_io {j : Nat} : lentR k (some (.io j d)) = if j = k then some d else none := rfl
def pbR (env : Env) (i : Nat) (d : D) (is : List Nat) (ds : List D) : Option Sl → Option Env
  | some (.own k _) => putBack (env.set i (.own k d)) is ds
  | some (.io k _) => putBack (env.set i (.io k d)) is ds
  | _ => none
theorem pb_nil : putBack env [] [] = some env := rfl
theorem pb_cons {is : List Nat} : putBack env (i :: is) (d :: ds) = pbR env i d is ds env[i]? := by
  unfold pbR
  show (match env[i]? with | some (.own k _) => putBack (env.set i (.own k d)) is ds | some (.io k _) => putBack (env.set i (.io k d)) is ds | _ => none) = _
  split <;> simp_all
theorem pb_own {is : List Nat} {e : D} : pbR env i d is ds (some (.own k e)) = putBack (env.set i (.own k d)) is ds := rfl
theorem pb_io {is : List Nat} {e : D} : pbR env i d is ds (some (.io k e)) = putBack (env.set i (.io k d)) is ds := rfl
theorem ios_nil : iosOf [] = [] := rfl
theorem ios_d : iosOf (.d k d :: ars) = iosOf ars := rfl
theorem ios_wk : iosOf (.wk i :: ars) = iosOf ars := rfl
theorem ios_io : iosOf (.io i :: ars) = i :: iosOf ars := rfl
theorem wks_nil : wksOf [] = [] := rfl
theorem wks_d : wksOf (.d k d :: ars) = wksOf ars := rfl
theorem wks_wk : wksOf (.wk i :: ars) = i :: wksOf ars := rfl
theorem wks_io : wksOf (.io i :: ars) = wksOf ars := rfl
theorem okAr_eq : okAr ars = (decide ((iosOf ars).Nodup) && (wksOf ars).all fun i => !(iosOf ars).contains i) := rfl
theorem nodup0 : decide (([] : List Nat).Nodup) = true := rfl
theorem nodup1 : decide ([i].Nodup) = true := by simp
def heldR : Option Sl → Bool
  | some (.own _ _) => true
  | some (.io _ _) => true
  | _ => false
theorem q_held : held env i = heldR env[i]? := by
  unfold held heldR
  split <;> simp_all
theorem held_own : heldR (some (.own k d)) = true := rfl
theorem held_io : heldR (some (.io k d)) = true := rfl
end

/-! ### binds -/
def kSeq (f : Env → Res Out) (o : Out) : Res Out := match o with
  | .nx env => f env
  | o => .ok o
theorem q_seq {r : Res Out} {f : Env → Res Out} : seqR r f = r.bind (kSeq f) := rfl
theorem k_seq1 {f : Env → Res Out} {env : Env} : kSeq f (.nx env) = f env := rfl
theorem k_seq2 {f : Env → Res Out} {env : Env} {d : D} : kSeq f (.ret d env) = .ok (.ret d env) := rfl
theorem k_seq3 {f : Env → Res Out} {env : Env} : kSeq f (.brk env) = .ok (.brk env) := rfl
theorem k_seq4 {f : Env → Res Out} {env : Env} : kSeq f (.cnt env) = .ok (.cnt env) := rfl
theorem W.use {α β : Type} {r : Res α} {f : α → Res β} {P : α → Prop} {Q : β → Prop} (h : W r P) (i : ∀ a, P a → W (f a) Q) : W (r.bind f) Q := W.bind.mpr (h.mono i)
theorem W.call {α : Type} {r : Res α} {P Q : α → Prop} (h : W r P) (i : ∀ a, P a → Q a) : W r Q := h.mono i
end DL
namespace DL
open PySem L2
/-! ### more of evaluation -/
def kChn2 (op' : Cop) (y : Wk) (z : Wk × Env) : Res (Wk × Env) := (dCmp op' y z.1).bind (kB z.2)
def kChn3 (op' : Cop) (y : Wk) (c : E) (env : Env) (k : Bool) : Res (Wk × Env) := if k = true then (ev c env).bind (kChn2 op' y) else .ok ((0, .bl false), env)
def kChn1 (op op' : Cop) (c : E) (x : Wk) (y : Wk × Env) : Res (Wk × Env) := if y.1.1 = 0 then (dCmp op x y.1).bind (kChn3 op' y.1 c y.2) else .stuck
def kChn (op op' : Cop) (b c : E) (x : Wk × Env) : Res (Wk × Env) := if x.1.1 = 0 then (ev b x.2).bind (kChn1 op op' c x.1) else .stuck
def kSlc3 (x : Wk) (l : Option Int) (h : Option Int × Env) : Res (Wk × Env) := (dSlc x l h.1).bind (kR h.2)
def kSlc2 (hi : E) (x : Wk) (l : Option Int × Env) : Res (Wk × Env) := (prtOf hi (ev hi) l.2).bind (kSlc3 x l.1)
def kSlc (lo hi : E) (x : Wk × Env) : Res (Wk × Env) := if x.1.1 = 0 ∨ (lo.pure && hi.pure) = true then (prtOf lo (ev lo) x.2).bind (kSlc2 hi x.1) else .stuck
def kPrt (x : Wk × Env) : Res (Option Int × Env) := (asI x.1.2).bind fun i => .ok (some i, x.2)
def notNil : E → Bool
  | .nil => false
  | _ => true
theorem prt_nil {f : Env → Res (Wk × Env)} {env : Env} : prtOf .nil f env = .ok (none, env) := rfl
theorem prt_e {e : E} {env : Env} : prtOf e (ev e) env = if notNil e = true then (ev e env).bind kPrt else .ok (none, env) := by cases e <;> rfl
theorem k_prt {k : Nat} {i : Int} {env : Env} : kPrt ((k, .int i), env) = .ok (some i, env) := rfl
def kMth2 (f : FnD) (x : Wk) (y : List Ar × Env) : Res (Wk × Env) := (callD f (.d x.1 x.2 :: y.1) y.2).bind kD
def kMth (c : Nat) (f : FnD) (es : E) (x : Wk × Env) : Res (Wk × Env) := if (isObj c x.1.2 = true ∧ x.1.1 = 0) ∧ notFl f.name x.1.2 = true then (evs es x.2).bind (kMth2 f x.1) else .stuck
def kLno2 (env : Env) (n : Int) : Res (Wk × Env) := if 0 ≤ n ∧ n < 2 ^ 63 then .ok ((0, .int n), env) else .stuck
def kLno1 (y : D × Env) : Res (Wk × Env) := (asI y.1).bind (kLno2 y.2)
def kLno (c : Nat) (f : FnD) (x : Wk × Env) : Res (Wk × Env) := if isObj c x.1.2 = true ∧ x.1.1 = 0 then (callD f [.d x.1.1 x.1.2] x.2).bind kLno1 else .stuck
def prO (r : Res (D × Env)) : Res (Wk × Env) := match r with | .ok (d, env) => .ok ((0, d), env) | _ => .stuck
def kPrp (c : Nat) (f : FnD) (x : Wk × Env) : Res (Wk × Env) := if isObj c x.1.2 = true ∧ x.1.1 = 0 then prO (callD f [.d x.1.1 x.1.2] x.2) else .stuck
def kAdd1 (c : Nat) (f : FnD) (x : Wk) (y : Wk × Env) : Res (Wk × Env) := if isObj c y.1.2 = true ∧ y.1.1 = 0 then (callD f [.d x.1 x.2, .d y.1.1 y.1.2] y.2).bind kD else .stuck
def kAdd (c : Nat) (f : FnD) (b : E) (x : Wk × Env) : Res (Wk × Env) := if isObj c x.1.2 = true ∧ x.1.1 = 0 then (ev b x.2).bind (kAdd1 c f x.1) else .stuck
def kEq2 (y : D × Env) : Res (Wk × Env) := (asB y.1).bind (kB y.2)
def kEq1 (c : Nat) (f : FnD) (x : Wk) (y : Wk × Env) : Res (Wk × Env) := if (isiD c y.1.2).isSome = true ∧ y.1.1 = 0 then (callD f [.d x.1 x.2, .d y.1.1 y.1.2] y.2).bind kEq2 else .stuck
def kEq (c : Nat) (f : FnD) (b : E) (x : Wk × Env) : Res (Wk × Env) := if isObj c x.1.2 = true ∧ x.1.1 = 0 then (ev b x.2).bind (kEq1 c f x.1) else .stuck
def mkO (env : Env) (x : D × List D) : Res (Wk × Env) := match x.1, x.2 with
  | .non, [o] => .ok ((0, o), env)
  | _, _ => .stuck
def kMk2 (c : Nat) (f : FnD) (env : Env) (ds : List D) : Res (Wk × Env) := if f.ms = 1 :: List.replicate ds.length 0 ∧ f.rk = 0 then (f.den (.nd (.obj c []) [] :: ds)).bind (mkO env) else .stuck
def kMk (c : Nat) (f : FnD) (nw : Bool) (x : List Ar × Env) : Res (Wk × Env) := mkD c f nw x.1 x.2
def mkWO (env : Env) (x : D × List D) : Res (Wk × Env) := match x.1, x.2 with
  | .non, [o] => if noLstK 1 o = true then .ok ((0, o), env) else .stuck
  | _, _ => .stuck
def kMkW (c : Nat) (f : FnD) (ars : List Ar) (env : Env) : Option (List D) → Res (Wk × Env)
  | none => .stuck
  | some ds => if (f.ms = 1 :: List.replicate ars.length 0 ∧ f.rk = 0) ∧ iosOf ars = [] then (f.den (.nd (.obj c []) [] :: ds)).bind (mkWO env) else .stuck
def kMkD (c : Nat) (f : FnD) (nw : Bool) (ars : List Ar) (env : Env) : Option (List D) → Res (Wk × Env)
  | some ds => kMk2 c f env ds
  | none => if nw = true then .stuck else kMkW c f ars env (argsOf env (List.replicate ars.length 0) ars)
def kAppk2 (f : FnD) (env : Env) (ars : List Ar) : Res (Wk × Env) := (callD f ars env).bind kD
def kAppk (f : FnD) (ks : List Str) (pm : List Nat) (x : List Ar × Env) : Res (Wk × Env) := (ofO (kwO ks pm x.1)).bind (kAppk2 f x.2)
def kMthk3 (f : FnD) (x : Wk) (env : Env) (ars : List Ar) : Res (Wk × Env) := (callD f (.d x.1 x.2 :: ars) env).bind kD
def kMthk2 (f : FnD) (ks : List Str) (pm : List Nat) (x : Wk) (y : List Ar × Env) : Res (Wk × Env) := (ofO (kwO ks pm y.1)).bind (kMthk3 f x y.2)
def kMthk (c : Nat) (f : FnD) (ks : List Str) (pm : List Nat) (es : E) (x : Wk × Env) : Res (Wk × Env) := if (isObj c x.1.2 = true ∧ x.1.1 = 0) ∧ notFl f.name x.1.2 = true then (evs es x.2).bind (kMthk2 f ks pm x.1) else .stuck
def kMkk1 (c : Nat) (f : FnD) (env : Env) (ars : List Ar) : Res (Wk × Env) := (ofO (strong ars)).bind (kMk2 c f env)
def kMkk (c : Nat) (f : FnD) (ks : List Str) (pm : List Nat) (x : List Ar × Env) : Res (Wk × Env) := (ofO (kwO ks pm x.1)).bind (kMkk1 c f x.2)
section
variable {env : Env} {a b c : E} {es : E} {f : FnD} {k i : Nat} {d : D} {fl : List Str} {ds : List D} {ks : List Str} {pm : List Nat}
theorem q_chn {op op' : Cop} : ev (.chn op op' a b c) env = (ev a env).bind (kChn op op' b c) := rfl
theorem q_slc : ev (.slc a b c) env = (ev a env).bind (kSlc b c) := rfl
theorem q_mth {c : Nat} : ev (.mth c f a es) env = (ev a env).bind (kMth c f es) := rfl
theorem q_lno {c : Nat} : ev (.lno c f a) env = (ev a env).bind (kLno c f) := rfl
theorem q_prp {c : Nat} : ev (.prp c f a) env = (ev a env).bind (kPrp c f) := by
  show (ev a env).bind _ = (ev a env).bind _
  congr 1
theorem q_addo {c : Nat} : ev (.addo c f a b) env = (ev a env).bind (kAdd c f b) := rfl
theorem q_eqo {c : Nat} : ev (.eqo c f a b) env = (ev a env).bind (kEq c f b) := rfl
theorem q_mk {c : Nat} : ev (.mk c f es) env = (evs es env).bind (kMk c f es.noW) := rfl
theorem q_appk : ev (.appk f ks pm es) env = (evs es env).bind (kAppk f ks pm) := rfl
theorem q_mthk {c : Nat} : ev (.mthk c f ks pm a es) env = (ev a env).bind (kMthk c f ks pm es) := rfl
theorem q_mkk {c : Nat} : ev (.mkk c f ks pm es) env = (evs es env).bind (kMkk c f ks pm) := rfl
theorem r_chn {op op' : Cop} : kChn op op' b c ((0, d), env) = (ev b env).bind (kChn1 op op' c (0, d)) := if_pos rfl
theorem r_chn1 {op op' : Cop} {x : Wk} : kChn1 op op' c x ((0, d), env) = (dCmp op x (0, d)).bind (kChn3 op' (0, d) c env) := if_pos rfl
theorem r_chn3 {op' : Cop} {y : Wk} {k : Bool} : kChn3 op' y c env k = if k = true then (ev c env).bind (kChn2 op' y) else .ok ((0, .bl false), env) := rfl
theorem r_chn2 {op' : Cop} {y z : Wk} : kChn2 op' y (z, env) = (dCmp op' y z).bind (kB env) := rfl
theorem r_slc : kSlc a b ((0, d), env) = (prtOf a (ev a) env).bind (kSlc2 b (0, d)) := if_pos (.inl rfl)
theorem r_slcp : kSlc a b ((1, d), env) = if (a.pure && b.pure) = true then (prtOf a (ev a) env).bind (kSlc2 b (1, d)) else .stuck := by
  unfold kSlc; simp
theorem r_slc2 {x : Wk} {l : Option Int} : kSlc2 b x (l, env) = (prtOf b (ev b) env).bind (kSlc3 x l) := rfl
theorem r_slc3 {x : Wk} {l h : Option Int} : kSlc3 x l (h, env) = (dSlc x l h).bind (kR env) := rfl
theorem r_mth {c c' : Nat} : kMth c f es ((0, .nd (.obj c' fl) ds), env) = if (c == c') && !fl.contains f.name then (evs es env).bind (kMth2 f (0, .nd (.obj c' fl) ds)) else .stuck := by
  unfold kMth
  simp [isObj, notFl]
theorem r_mth2 {x : Wk} {ars : List Ar} : kMth2 f x (ars, env) = (callD f (.d x.1 x.2 :: ars) env).bind kD := rfl
theorem r_lno {c c' : Nat} : kLno c f ((0, .nd (.obj c' fl) ds), env) = if (c == c') then (callD f [.d 0 (.nd (.obj c' fl) ds)] env).bind kLno1 else .stuck := by
  unfold kLno
  simp [isObj]
theorem r_lno1 {n : Int} : kLno1 (.int n, env) = if 0 ≤ n ∧ n < 9223372036854775808 then .ok ((0, .int n), env) else .stuck := rfl
theorem r_prp {c c' : Nat} : kPrp c f ((0, .nd (.obj c' fl) ds), env) = if (c == c') then prO (callD f [.d 0 (.nd (.obj c' fl) ds)] env) else .stuck := by
  unfold kPrp
  simp [isObj]
theorem W.prO {r : Res (D × Env)} {Q : Wk × Env → Prop} : W (prO r) Q ↔ W r fun x => Q ((0, x.1), x.2) := by
  cases r with
  | ok a =>
    obtain ⟨d, env⟩ := a
    constructor
    · rintro ⟨x, e, q⟩
      cases (show Res.ok ((0, d), env) = Res.ok x from e)
      exact ⟨_, rfl, q⟩
    · rintro ⟨x, e, q⟩
      cases e
      exact ⟨_, rfl, q⟩
  | exn c d => constructor <;> (rintro ⟨_, e, _⟩; first | cases e | exact nomatch (show (Res.stuck : Res (Wk × Env)) = _ from e))
  | stuck => constructor <;> (rintro ⟨_, e, _⟩; first | cases e | exact nomatch (show (Res.stuck : Res (Wk × Env)) = _ from e))
theorem pr_ok {d : D} : prO (.ok (d, env)) = .ok ((0, d), env) := rfl
theorem r_addo {c c' : Nat} : kAdd c f b ((0, .nd (.obj c' fl) ds), env) = if (c == c') then (ev b env).bind (kAdd1 c f (0, .nd (.obj c' fl) ds)) else .stuck := by
  unfold kAdd
  simp [isObj]
theorem r_add1 {c c' : Nat} {x : Wk} : kAdd1 c f x ((0, .nd (.obj c' fl) ds), env) = if (c == c') then (callD f [.d x.1 x.2, .d 0 (.nd (.obj c' fl) ds)] env).bind kD else .stuck := by
  unfold kAdd1
  simp [isObj]
theorem r_eqo {c c' : Nat} : kEq c f b ((0, .nd (.obj c' fl) ds), env) = if (c == c') then (ev b env).bind (kEq1 c f (0, .nd (.obj c' fl) ds)) else .stuck := by
  unfold kEq
  simp [isObj]
theorem r_eq1 {c : Nat} {x : Wk} : kEq1 c f x ((0, d), env) = if (isiD c d).isSome = true then (callD f [.d x.1 x.2, .d 0 d] env).bind kEq2 else .stuck := by
  unfold kEq1
  simp
def kIsi (c : Nat) (x : Wk × Env) : Res (Wk × Env) := (ofO (isiD c x.1.2)).bind (kB x.2)
theorem q_isi {c : Nat} {nm : Str} : ev (.isi c nm a) env = (ev a env).bind (kIsi c) := rfl
theorem r_isi {c : Nat} : kIsi c ((k, d), env) = (ofO (isiD c d)).bind (kB env) := rfl
theorem isiD_obj {c c' : Nat} : isiD c (.nd (.obj c' fl) ds) = if c = c' then some true else none := rfl
theorem isiD_lst {c : Nat} : isiD c (.nd .lst ds) = some false := rfl
theorem isiD_tup {c : Nat} : isiD c (.nd .tup ds) = some false := rfl
theorem isiD_non {c : Nat} : isiD c .non = some false := rfl
theorem isiD_int {c : Nat} {i : Int} : isiD c (.int i) = some false := rfl
theorem isiD_bl {c : Nat} {i : Bool} : isiD c (.bl i) = some false := rfl
theorem isiD_str {c : Nat} {i : Str} : isiD c (.str i) = some false := rfl
def kLrg2 (env : Env) (i j : Int) : Res (Wk × Env) := if (-(2 ^ 62) ≤ i ∧ i < 2 ^ 62) ∧ (-(2 ^ 62) ≤ j ∧ j < 2 ^ 62) ∧ (j - i).toNat ≤ lim then .ok ((0, .lst (rangeL i (j - i).toNat)), env) else .stuck
def kLrg1 (i : Int) (y : Wk × Env) : Res (Wk × Env) := (asI y.1.2).bind (kLrg2 y.2 i)
def kLrg (b : E) (x : Wk × Env) : Res (Wk × Env) := (asI x.1.2).bind fun i => (ev b x.2).bind (kLrg1 i)
theorem q_lrg : ev (.lrg a b) env = (ev a env).bind (kLrg b) := rfl
theorem r_lrg {i : Int} : kLrg b ((k, .int i), env) = (ev b env).bind (kLrg1 i) := rfl
theorem r_lrg1 {i j : Int} : kLrg1 i ((k, .int j), env) = kLrg2 env i j := rfl
theorem r_lrg2 {i j : Int} : kLrg2 env i j = if (-4611686018427387904 ≤ i ∧ i < 4611686018427387904) ∧ (-4611686018427387904 ≤ j ∧ j < 4611686018427387904) ∧ (j - i).toNat ≤ 100000 then .ok ((0, .lst (rangeL i (j - i).toNat)), env) else .stuck := rfl
theorem qc_isi (c : Nat) (nm : Str) (a : E) : evs (.cons (.isi c nm a) es) env = (ev (.isi c nm a) env).bind (kCons es) := rfl
theorem qc_lrg (a b : E) : evs (.cons (.lrg a b) es) env = (ev (.lrg a b) env).bind (kCons es) := rfl
theorem r_eq2 {k : Bool} : kEq2 (.bl k, env) = .ok ((0, .bl k), env) := rfl
theorem r_mk {c : Nat} {ars : List Ar} {nw : Bool} : kMk c f nw (ars, env) = kMkD c f nw ars env (strong ars) := by
  show mkD c f nw ars env = _
  unfold mkD kMkD
  cases strong ars with
  | some ds => rfl
  | none =>
    simp only []
    congr 1
theorem r_mkS {c : Nat} {ars : List Ar} {nw : Bool} {ds : List D} : kMkD c f nw ars env (some ds) = kMk2 c f env ds := rfl
theorem r_mkN {c : Nat} {ars : List Ar} : kMkD c f false ars env none = kMkW c f ars env (argsOf env (List.replicate ars.length 0) ars) := rfl
theorem r_mkW {c : Nat} {ars : List Ar} {ds : List D} : kMkW c f ars env (some ds) = if (f.ms = 1 :: List.replicate ars.length 0 ∧ f.rk = 0) ∧ iosOf ars = [] then (f.den (.nd (.obj c []) [] :: ds)).bind (mkWO env) else .stuck := rfl
theorem r_mkWO {o : D} : mkWO env (.non, [o]) = if noLstK 1 o = true then .ok ((0, o), env) else .stuck := rfl
theorem strong_wk {i : Nat} {ars : List Ar} : strong (.wk i :: ars) = none := rfl
theorem noW_wk {i : Nat} {es : E} : E.noW (.cons (.wka i) es) = false := rfl
theorem r_mk2 {c : Nat} : kMk2 c f env ds = if f.ms = 1 :: List.replicate ds.length 0 ∧ f.rk = 0 then (f.den (.nd (.obj c []) [] :: ds)).bind (mkO env) else .stuck := rfl
theorem r_mko {o : D} : mkO env (.non, [o]) = .ok ((0, o), env) := rfl
theorem r_appk {ars : List Ar} : kAppk f ks pm (ars, env) = (ofO (kwO ks pm ars)).bind (kAppk2 f env) := rfl
theorem r_appk2 {ars : List Ar} : kAppk2 f env ars = (callD f ars env).bind kD := rfl
theorem r_mthk {c c' : Nat} : kMthk c f ks pm es ((0, .nd (.obj c' fl) ds), env) = if (c == c') && !fl.contains f.name then (evs es env).bind (kMthk2 f ks pm (0, .nd (.obj c' fl) ds)) else .stuck := by
  unfold kMthk
  simp [isObj, notFl]
theorem r_mthk2 {x : Wk} {ars : List Ar} : kMthk2 f ks pm x (ars, env) = (ofO (kwO ks pm ars)).bind (kMthk3 f x env) := rfl
theorem r_mthk3 {x : Wk} {ars : List Ar} : kMthk3 f x env ars = (callD f (.d x.1 x.2 :: ars) env).bind kD := rfl
theorem r_mkk {c : Nat} {ars : List Ar} : kMkk c f ks pm (ars, env) = (ofO (kwO ks pm ars)).bind (kMkk1 c f env) := rfl
theorem r_mkk1 {c : Nat} {ars : List Ar} : kMkk1 c f env ars = (ofO (strong ars)).bind (kMk2 c f env) := rfl
theorem kwO_eq {ars : List Ar} : kwO ks pm ars = if ars.length = ks.length then permO pm ars else none := rfl
theorem perm_nil {α : Type} {l : List α} : permO [] l = some [] := rfl
def permR {α : Type} (is : List Nat) (l : List α) : Option α → Option (List α)
  | some x => (permO is l).map (x :: ·)
  | none => none
theorem perm_cons {α : Type} {is : List Nat} {l : List α} : permO (i :: is) l = permR is l l[i]? := by
  show (match l[i]?, permO is l with | some x, some r => some (x :: r) | _, _ => none) = _
  unfold permR
  cases l[i]? <;> cases permO is l <;> rfl
theorem permR_some {α : Type} {is : List Nat} {l : List α} {x : α} : permR is l (some x) = (permO is l).map (x :: ·) := rfl
end

theorem get_split {α : Type} {xs ys : List α} {y : α} {i : Nat} (e : xs = xs.take i ++ y :: ys) (l : i ≤ xs.length) : xs[i]? = some y := by
  have h : (xs.take i).length = i := by simp; omega
  rw [e, List.getElem?_append_right (by omega), h]; simp
/-! ### comprehensions -/
def kComp3 (tg : List Nat) (env : Env) (r : Res (List D × Env)) : Res (Wk × Env) := match r with
  | .ok (ds, env') => .ok ((0, .lst ds), back env tg env')
  | _ => .stuck
def kComp (tg : List Nat) (t e : E) (x : List D × Env) : Res (Wk × Env) := if freeSl x.2 tg = true ∧ x.1.length ≤ lim then kComp3 tg x.2 (compL tg (tstOf t (ev t)) (eltOf (ev e)) x.1 (blank x.2 tg)) else .stuck
section
variable {env : Env} {tg : List Nat} {t e it : E} {xs : List D}
theorem q_comp : ev (.comp tg it t e) env = (evi it env).bind (kComp tg t e) := by
  show (evi it env).bind _ = (evi it env).bind _
  congr 1
/-- a comprehension; I: how many went by, what is made, the names -/
theorem W_comp {Q : Wk × Env → Prop} (I : Nat → List D → Env → Prop) (hf : freeSl env tg = true) (hl : xs.length ≤ lim) (h0 : I 0 [] (blank env tg))
    (hs : ∀ (i : Nat) (ds : List D) (x : D) (env1 : Env), xs[i]? = some x → I i ds env1 → W (setIs env1 tg x) fun env2 => W (tstOf t (ev t) env2) fun y => if y.1 = true then W (eltOf (ev e) y.2) fun z => freeSl z.2 tg = true ∧ I (i + 1) (ds ++ [z.1]) (blank z.2 tg) else freeSl y.2 tg = true ∧ I (i + 1) ds (blank y.2 tg))
    (he : ∀ ds env1, I xs.length ds env1 → Q ((0, .lst ds), back env tg env1)) : W (kComp tg t e (xs, env)) Q := by
  have main : ∀ (ys : List D) (i : Nat) (ds : List D) (env1 : Env), xs = xs.take i ++ ys → i + ys.length = xs.length → I i ds env1 → W (compL tg (tstOf t (ev t)) (eltOf (ev e)) ys env1) fun r => I xs.length (ds ++ r.1) r.2 := by
    intro ys
    induction ys with
    | nil =>
      intro i ds env1 e l h
      refine ⟨([], env1), rfl, ?_⟩
      have : i = xs.length := by simpa using l
      subst this
      simpa using h
    | cons y ys ih =>
      intro i ds env1 e l h
      have hi : xs[i]? = some y := get_split e (by simp at l; omega)
      have e2 : xs = xs.take (i + 1) ++ ys := by
        rw [List.take_add_one, hi]
        simpa using e
      have h2 := hs i ds y env1 hi h
      show W ((setIs env1 tg y).bind _) _
      refine W.bind.mpr (h2.mono fun env2 h3 => ?_)
      refine W.bind.mpr (h3.mono fun ⟨b, env3⟩ h4 => ?_)
      simp only at h4 ⊢
      cases b with
      | true =>
        simp only [if_true] at h4 ⊢
        refine W.bind.mpr (h4.mono fun ⟨d, env4⟩ h5 => ?_)
        simp only at h5 ⊢
        rw [if_pos h5.1]
        refine W.bind.mpr ((ih (i + 1) _ _ e2 (by simp at l; omega) h5.2).mono fun ⟨r, env5⟩ h6 => ?_)
        refine W.ok.mpr ?_
        simpa using h6
      | false =>
        simp only [Bool.false_eq_true, if_false] at h4 ⊢
        rw [if_pos h4.1]
        exact ih (i + 1) _ _ e2 (by simp at l; omega) h4.2
  unfold kComp
  rw [if_pos ⟨hf, hl⟩]
  obtain ⟨⟨ds, env1⟩, e, h⟩ := main xs 0 [] _ (by simp) (by simp) h0
  simp only
  rw [e]
  exact ⟨_, rfl, he ds env1 (by simpa using h)⟩
/-- .. that touches nothing -/
theorem W_map {Q : Wk × Env → Prop} (p : D → Bool) (g : D → D) (hf : freeSl env tg = true) (hl : xs.length ≤ lim)
    (hs : ∀ (i : Nat) (x : D), xs[i]? = some x → W (setIs (blank env tg) tg x) fun env2 => W (tstOf t (ev t) env2) fun y => y.1 = p x ∧ if p x = true then W (eltOf (ev e) y.2) fun z => z.1 = g x ∧ freeSl z.2 tg = true ∧ blank z.2 tg = blank env tg else freeSl y.2 tg = true ∧ blank y.2 tg = blank env tg)
    (he : Q ((0, .lst ((xs.filter p).map g)), back env tg (blank env tg))) : W (kComp tg t e (xs, env)) Q := by
  refine W_comp (I := fun i ds env1 => env1 = blank env tg ∧ ds = ((xs.take i).filter p).map g) hf hl ⟨rfl, rfl⟩ ?_ ?_
  · rintro i ds x env1 hx ⟨rfl, rfl⟩
    refine (hs i x hx).mono fun env2 h => h.mono fun y ⟨h1, h2⟩ => ?_
    rw [List.take_add_one, hx]
    rw [h1]
    split
    · rename_i hp
      rw [if_pos hp] at h2
      refine h2.mono fun z ⟨h3, h4, h5⟩ => ⟨h4, h5, ?_⟩
      simp [hp, h3]
    · rename_i hp
      rw [if_neg hp] at h2
      refine ⟨h2.1, h2.2, ?_⟩
      simp [hp]
  · rintro ds env1 ⟨rfl, rfl⟩
    simpa using he
def kTst (x : Wk × Env) : Res (Bool × Env) := (asB x.1.2).bind fun k => .ok (k, x.2)
def kElt (x : Wk × Env) : Res (D × Env) := (str1 x.1).bind fun d => .ok (d, x.2)
theorem tstR_nil {f : Env → Res (Wk × Env)} : tstOf .nil f env = .ok (true, env) := rfl
theorem tst_e : tstOf t (ev t) env = if notNil t = true then (ev t env).bind kTst else .ok (true, env) := by cases t <;> rfl
theorem k_tst {k : Nat} {b : Bool} : kTst ((k, .bl b), env) = .ok (b, env) := rfl
theorem elt_e : eltOf (ev e) env = (ev e env).bind kElt := rfl
theorem k_elt {d : D} : kElt ((0, d), env) = .ok (d, env) := rfl
theorem q_is1 {i : Nat} {d : D} : setIs env [i] d = setSl env i (.val d) := rfl
theorem q_is2 {i j : Nat} {is : List Nat} {ds : List D} : setIs env (i :: j :: is) (.tup ds) = setTis env ((i :: j :: is).map .sl) ds := rfl
def freeR : Option Sl → Bool
  | some .un => true
  | some (.val _) => true
  | _ => false
theorem free_nil : freeSl env [] = true := rfl
theorem free_cons {i : Nat} : freeSl env (i :: tg) = (freeR env[i]? && freeSl env tg) := by
  show ((match env[i]? with | some .un => true | some (.val _) => true | _ => false) && _) = _
  congr 1
theorem free_un : freeR (some .un) = true := rfl
theorem free_val {d : D} : freeR (some (.val d)) = true := rfl
theorem blank_nil : blank env [] = env := rfl
theorem blank_cons {i : Nat} : blank env (i :: tg) = (blank env tg).set i .un := rfl
def backR (i : Nat) (e : Env) : Option Sl → Env
  | some s => e.set i s
  | none => e
theorem back_nil {old : Env} : back old [] env = env := rfl
theorem back_cons {old : Env} {i : Nat} : back old (i :: tg) env = backR i (back old tg env) old[i]? := by
  show (match old[i]? with | some s => (back old tg env).set i s | none => back old tg env) = _
  unfold backR
  split <;> simp_all
theorem back_some {i : Nat} {s : Sl} : backR i env (some s) = env.set i s := rfl
end
/-! ### what is gone through -/
def kIlst (x : Wk × Env) : Res (List D × Env) := match x.1 with | (0, .nd .lst ds) => .ok (ds, x.2) | _ => .stuck
def kIscr (x : Wk × Env) : Res (List D × Env) := match x.1 with | (0, .nd .scr ds) => .ok (ds, x.2) | _ => .stuck
def kItup (x : Wk × Env) : Res (List D × Env) := match x.1 with | (0, .nd .tup ds) => .ok (ds, x.2) | _ => .stuck
def kIr1 (x : Wk × Env) : Res (List D × Env) := (asI x.1.2).bind fun j => if -(2 ^ 62) ≤ j ∧ j < 2 ^ 62 then .ok (rangeL 0 j.toNat, x.2) else .stuck
def kIr2b (i : Int) (y : Wk × Env) : Res (List D × Env) := (asI y.1.2).bind fun j => .ok (rangeL i (j - i).toNat, y.2)
def kIr2a (b : E) (env : Env) (i : Int) : Res (List D × Env) := (ev b env).bind (kIr2b i)
def kIr2 (b : E) (x : Wk × Env) : Res (List D × Env) := (asI x.1.2).bind (kIr2a b x.2)
def kIen (x : Wk × Env) : Res (List D × Env) := match x.1 with | (0, .nd .lst ds) => .ok (enumL 0 ds, x.2) | _ => .stuck
def kIzp2 (x : Wk) (y : Wk × Env) : Res (List D × Env) := match x, y.1 with | (0, .nd .lst xs), (0, .nd .lst ys) => .ok (zipL xs ys, y.2) | _, _ => .stuck
def kIzp (b : E) (x : Wk × Env) : Res (List D × Env) := (ev b x.2).bind (kIzp2 x.1)
section
variable {env : Env} {a b : E} {ds es : List D} {k : Nat} {i j : Int}
theorem q_ilst : evi (.ilst a) env = (ev a env).bind kIlst := rfl
theorem q_iscr : evi (.iscr a) env = (ev a env).bind kIscr := rfl
theorem q_itup : evi (.itup a) env = (ev a env).bind kItup := rfl
theorem q_ir1 : evi (.irg1 a) env = (ev a env).bind kIr1 := rfl
theorem q_ir2 : evi (.irg2 a b) env = (ev a env).bind (kIr2 b) := rfl
theorem q_ien : evi (.ienum a) env = (ev a env).bind kIen := rfl
theorem q_izp : evi (.izip a b) env = (ev a env).bind (kIzp b) := rfl
theorem r_ilst : kIlst ((0, .lst ds), env) = .ok (ds, env) := rfl
theorem r_iscr : kIscr ((0, .nd .scr ds), env) = .ok (ds, env) := rfl
theorem r_itup : kItup ((0, .tup ds), env) = .ok (ds, env) := rfl
theorem r_ir1 : kIr1 ((k, .int i), env) = if -4611686018427387904 ≤ i ∧ i < 4611686018427387904 then .ok (rangeL 0 i.toNat, env) else .stuck := rfl
theorem r_ir2 : kIr2 b ((k, .int i), env) = (ev b env).bind (kIr2b i) := rfl
theorem r_ir2b : kIr2b i ((k, .int j), env) = .ok (rangeL i (j - i).toNat, env) := rfl
theorem r_ien : kIen ((0, .lst ds), env) = .ok (enumL 0 ds, env) := rfl
theorem r_izp {x : Wk} : kIzp b (x, env) = (ev b env).bind (kIzp2 x) := rfl
theorem r_izp2 : kIzp2 (0, .lst ds) ((0, .lst es), env) = .ok (zipL ds es, env) := rfl
end
/-! ### loops -/
def LoopQ (J : Env → Prop) (Q : Out → Prop) : Out → Prop
  | .nx env => J env
  | .cnt env => J env
  | .brk env => Q (.nx env)
  | .ret d env => Q (.ret d env)
section
variable {env : Env} {tg : List Nat} {xs : List D} {Q : Out → Prop}
/-- a for; I: how many went by, the names -/
theorem W_for {b : Env → Res Out} (I : Nat → Env → Prop) (h0 : I 0 env) (hs : ∀ (i : Nat) (x : D) (env1 : Env), xs[i]? = some x → I i env1 → W (setIs env1 tg x) fun env2 => W (b env2) (LoopQ (I (i + 1)) Q)) (he : ∀ env1, I xs.length env1 → Q (.nx env1)) : W (forL tg b xs env) Q := by
  have main : ∀ (ys : List D) (i : Nat) (env1 : Env), xs = xs.take i ++ ys → i + ys.length = xs.length → I i env1 → W (forL tg b ys env1) Q := by
    intro ys
    induction ys with
    | nil =>
      intro i env1 e l h
      have : i = xs.length := by simpa using l
      subst this
      exact ⟨_, rfl, he env1 h⟩
    | cons y ys ih =>
      intro i env1 e l h
      have hi : xs[i]? = some y := get_split e (by simp at l; omega)
      have e2 : xs = xs.take (i + 1) ++ ys := by
        rw [List.take_add_one, hi]
        simpa using e
      show W ((setIs env1 tg y).bind _) _
      refine W.bind.mpr ((hs i y env1 hi h).mono fun env2 h2 => ?_)
      refine W.bind.mpr (h2.mono fun o h3 => ?_)
      cases o with
      | nx env3 => exact ih (i + 1) env3 e2 (by simp at l; omega) h3
      | cnt env3 => exact ih (i + 1) env3 e2 (by simp at l; omega) h3
      | brk env3 => exact ⟨_, rfl, h3⟩
      | ret d env3 => exact ⟨_, rfl, h3⟩
  exact main xs 0 env (by simp) (by simp) h0
/-- a while; n: what falls -/
theorem W_whl {t : E} {b : Env → Res Out} (I : Nat → Env → Prop) : ∀ (n : Nat) (env : Env), I n env → (∀ n env1, I n env1 → W (ev t env1) fun x => W (asB x.1.2) fun k => if k = true then W (b x.2) (LoopQ (fun env2 => ∃ m, m < n ∧ I m env2) Q) else Q (.nx x.2)) → W (whl (ev t) b env) Q := by
  intro n env h hs
  have main : ∀ n env, I n env → ∃ m, W (whlF (ev t) b m env) Q := by
    intro n
    induction n using Nat.strongRecOn with
    | ind n ih =>
      intro env h
      obtain ⟨⟨x, env1⟩, e1, k, e2, h2⟩ := hs n env h
      cases k with
      | false =>
        refine ⟨1, .nx env1, ?_, h2⟩
        show (ev t env).bind _ = _
        rw [e1]
        show (asB x.2).bind _ = _
        rw [show asB x.2 = _ from e2]
        rfl
      | true =>
        simp only [if_true] at h2
        obtain ⟨o, e3, h3⟩ := h2
        have step : ∀ m, whlF (ev t) b (m + 1) env = (b env1).bind fun o => match o with
            | .nx env => whlF (ev t) b m env
            | .cnt env => whlF (ev t) b m env
            | .brk env => .ok (.nx env)
            | .ret d env => .ok (.ret d env) := by
          intro m
          show (ev t env).bind _ = _
          rw [e1]
          show (asB x.2).bind _ = _
          rw [show asB x.2 = _ from e2]
          rfl
        rw [show b env1 = _ from e3] at step
        cases o with
        | nx env2 =>
          obtain ⟨m, hm, h4⟩ := h3
          obtain ⟨q, h5⟩ := ih m hm env2 h4
          exact ⟨q + 1, by rw [step]; exact h5⟩
        | cnt env2 =>
          obtain ⟨m, hm, h4⟩ := h3
          obtain ⟨q, h5⟩ := ih m hm env2 h4
          exact ⟨q + 1, by rw [step]; exact h5⟩
        | brk env2 => exact ⟨1, by rw [step]; exact ⟨_, rfl, h3⟩⟩
        | ret d env2 => exact ⟨1, by rw [step]; exact ⟨_, rfl, h3⟩⟩
  obtain ⟨m, o, e, q⟩ := main n env h
  exact ⟨o, whl_eq e (by simp), q⟩
end
end DL

namespace DL
open PySem L2
section
variable {env : Env} {i j k : Nat} {d e : D} {ds more : List D}
theorem d_eq : dCmp .eq (j, d) (k, e) = dEq d e := rfl
theorem d_ne : dCmp .ne (j, d) (k, e) = (dEq d e).bind fun b => .ok (!b) := rfl
def growR (env : Env) (i : Nat) (more : List D) : Option Sl → Res Env
  | some (.own (k + 1) d) => (growAt.grow none more (k + 1) d).bind fun d' => .ok (env.set i (.own (k + 1) d'))
  | some (.io (k + 1) d) => (growAt.grow none more (k + 1) d).bind fun d' => .ok (env.set i (.io (k + 1) d'))
  | _ => .stuck
theorem q_grow : growAt env i none more = growR env i more env[i]? := by
  unfold growAt growR
  split <;> simp_all
theorem grow_own : growR env i more (some (.own 1 (.lst ds))) = if ds.length + more.length ≤ 100000 then .ok (env.set i (.own 1 (.lst (ds ++ more)))) else .stuck := by
  show Res.bind (if ds.length + more.length ≤ 100000 then Res.ok (D.lst (ds ++ more)) else .stuck) _ = _
  split <;> rfl
theorem grow_io : growR env i more (some (.io 1 (.lst ds))) = if ds.length + more.length ≤ 100000 then .ok (env.set i (.io 1 (.lst (ds ++ more)))) else .stuck := by
  show Res.bind (if ds.length + more.length ≤ 100000 then Res.ok (D.lst (ds ++ more)) else .stuck) _ = _
  split <;> rfl
end
end DL

namespace DL
open PySem L2
/-- a slot that may be stored -/
class Nio (t : Sl) : Prop where
  h : ∀ k d, t ≠ .io k d
instance : Nio .un := ⟨nofun⟩
instance {d : D} : Nio (.val d) := ⟨nofun⟩
instance {k : Nat} {d : D} : Nio (.own k d) := ⟨nofun⟩
theorem set_nio {env : Env} {i : Nat} {s t : Sl} [n : Nio t] : setR env i s (some t) = .ok (env.set i s) := by
  cases t with
  | io k d => exact absurd rfl (n.h k d)
  | _ => rfl
end DL
namespace DL
open PySem L2
section
variable {env : Env} {i j k : Nat} {d x : D} {ds : List D} {e : E} {op : Bop}
def augR (op : Bop) (i : Nat) (e : E) (env : Env) : Option Sl → Res Out
  | some (.val x) => (ev e env).bind fun y => (dBin op (0, x) y.1).bind fun d => match x with
      | .int _ => (setSl y.2 i (.val d)).bind fun env => .ok (.nx env)
      | _ => .stuck
  | _ => .stuck
def kAug (op : Bop) (i : Nat) (x : Int) (y : Wk × Env) : Res Out := (dBin op (0, .int x) y.1).bind fun d => (setSl y.2 i (.val d)).bind fun env => .ok (.nx env)
theorem x_aug : ex (.aug op i e) env = augR op i e env env[i]? := by
  show (match env[i]? with | some (.val x) => _ | _ => _) = _
  unfold augR
  split <;> first | rfl | (simp_all; done) | (simp_all; rfl)
theorem aug_val {x : Int} : augR op i e env (some (.val (.int x))) = (ev e env).bind (kAug op i x) := rfl
theorem k_aug2 {x : Int} {y : Wk} : kAug op i x (y, env) = (dBin op (0, .int x) y).bind fun d => (setSl env i (.val d)).bind fun env => .ok (.nx env) := rfl
def frzR (env : Env) (i : Nat) : Option Sl → Res Out
  | some (.own _ d) => .ok (.nx (env.set i (.val d)))
  | _ => .stuck
theorem x_frz : ex (.frz i) env = frzR env i env[i]? := by
  show (match env[i]? with | some (.own _ d) => _ | _ => _) = _
  unfold frzR
  split <;> simp_all
theorem frz_own : frzR env i (some (.own k d)) = .ok (.nx (env.set i (.val d))) := rfl
theorem k_frz : True := trivial
theorem x_brk : ex .brk env = .ok (.brk env) := rfl
theorem x_cnt : ex .cnt env = .ok (.cnt env) := rfl
def retmR (env : Env) (i : Nat) : Option Sl → Res Out
  | some (.own 1 (.nd .lst ds)) => .ok (.ret (.lst ds) (env.set i .un))
  | _ => .stuck
theorem x_retm : ex (.retm i) env = retmR env i env[i]? := by
  show (match env[i]? with | some (.own 1 (.nd .lst ds)) => _ | _ => _) = _
  unfold retmR
  split <;> simp_all
theorem retm_own : retmR env i (some (.own 1 (.lst ds))) = .ok (.ret (.lst ds) (env.set i .un)) := rfl
theorem d_pow3 {x y : Int} {j k : Nat} (h : PowOk x y = true) : dBin .pow (j, .int x) (k, .int y) = .ok (.int (x ^ y.toNat)) := d_pow h
/-- ten to some power -/
def powR (y : Int) : Bool → Res D
  | true => .ok (.int (10 ^ y.toNat))
  | false => dBin .pow (0, .int 10) (0, .int y)
theorem d_powc {y : Int} {j k : Nat} : dBin .pow (j, .int 10) (k, .int y) = powR y (decide (0 ≤ y ∧ y ≤ 1000)) := by
  by_cases h : 0 ≤ y ∧ y ≤ 1000
  · rw [decide_eq_true h]
    refine d_pow ?_
    simp only [PowOk, Bool.and_eq_true, decide_eq_true_eq]
    refine ⟨h.1, ?_⟩
    have : (10 : Int).natAbs.log2 = 3 := rfl
    rw [this]
    omega
  · rw [decide_eq_false h]
    rfl
theorem powR_t {y : Int} : powR y true = .ok (.int (10 ^ y.toNat)) := rfl
theorem ints0 : (D.lst [] : D) = .lst (([] : List Int).map D.int) := rfl
end
end DL

namespace DL
theorem asB_bl {b : Bool} : asB (.bl b) = .ok b := rfl
theorem asI_int {i : Int} : asI (.int i) = .ok i := rfl
end DL
namespace DL
open PySem L2
def kStar2 (ars : List Ar) (y : List Ar × Env) : Res (List Ar × Env) := .ok (ars ++ y.1, y.2)
def kStar1 (es : E) (env : Env) (ars : List Ar) : Res (List Ar × Env) := (evs es env).bind (kStar2 ars)
def kStar (es : E) (x : Wk × Env) : Res (List Ar × Env) := (ofO (seqArs x.1)).bind (kStar1 es x.2)
def kApps1 (f : FnD) (env : Env) (ars : List Ar) : Res (Wk × Env) := (callD f ars env).bind kD
def kApps (f : FnD) (x : Wk × Env) : Res (Wk × Env) := (ofO (seqArs x.1)).bind (kApps1 f x.2)
def kDget (kvs : List (Str × Int)) (x : Wk × Env) : Res (Wk × Env) := (ofO (dgetD kvs x.1.2)).bind (kR x.2)
section
variable {env : Env} {a es : E} {ds : List D} {ars : List Ar} {f : FnD} {d : D} {nm : Str} {kvs : List (Str × Int)}
theorem q_star : evs (.cons (.star a) es) env = (ev a env).bind (kStar es) := rfl
theorem r_star {x : Wk} : kStar es (x, env) = (ofO (seqArs x)).bind (kStar1 es env) := rfl
theorem r_star1 : kStar1 es env ars = (evs es env).bind (kStar2 ars) := rfl
theorem r_star2 {ars2 : List Ar} : kStar2 ars (ars2, env) = .ok (ars ++ ars2, env) := rfl
theorem sq_lst : seqArs (0, .lst ds) = some (ds.map (Ar.d 0)) := rfl
theorem sq_tup : seqArs (0, .tup ds) = some (ds.map (Ar.d 0)) := rfl
theorem q_apps : ev (.apps f a) env = (ev a env).bind (kApps f) := rfl
theorem r_apps {x : Wk} : kApps f (x, env) = (ofO (seqArs x)).bind (kApps1 f env) := rfl
theorem r_apps1 : kApps1 f env ars = (callD f ars env).bind kD := rfl
theorem q_dget : ev (.dget nm kvs a) env = (ev a env).bind (kDget kvs) := rfl
theorem r_dget {x : Wk} : kDget kvs (x, env) = (ofO (dgetD kvs x.2)).bind (kR env) := rfl
theorem q_glc : ev (.glc nm d) env = .ok ((0, d), env) := rfl
theorem qc_apps (f : FnD) (a : E) : evs (.cons (.apps f a) es) env = (ev (.apps f a) env).bind (kCons es) := rfl
theorem qc_dget (nm : Str) (kvs : List (Str × Int)) (a : E) : evs (.cons (.dget nm kvs a) es) env = (ev (.dget nm kvs a) env).bind (kCons es) := rfl
theorem qc_glc (nm : Str) (d : D) : evs (.cons (.glc nm d) es) env = (ev (.glc nm d) env).bind (kCons es) := rfl
theorem strong_map : strong (ds.map (Ar.d 0) ++ ars) = (strong ars).map (ds ++ ·) := by
  induction ds with
  | nil => cases h : strong ars <;> simp [h]
  | cons d ds ih =>
    show (strong (ds.map (Ar.d 0) ++ ars)).map (d :: ·) = _
    rw [ih]
    cases strong ars <;> rfl
theorem strong_map0 : strong (ds.map (Ar.d 0)) = some ds := by
  have := strong_map (ds := ds) (ars := [])
  simpa [strong] using this
end
end DL

namespace DL
open PySem L2
def kNx (env : Env) : Res Out := .ok (.nx env)
def kParo (is : List Nat) (os : List Bool) (x : List D × Env) : Res Out := (setOwns x.2 is os x.1).bind kNx
def kEo2 (d : D) (x : List D × Env) : Res (List D × Env) := .ok (d :: x.1, x.2)
def kEoT (os : List Bool) (es : E) (x : Wk × Env) : Res (List D × Env) := match x.1 with
  | (0, .nd .lst ds) => (evsO os es x.2).bind (kEo2 (.lst ds))
  | _ => .stuck
def kEoF (os : List Bool) (es : E) (x : Wk × Env) : Res (List D × Env) := (str1 x.1).bind fun d => (evsO os es x.2).bind (kEo2 d)
def kAppd2 (x : Wk × Env) : Res Out := (str1 x.1).bind fun _ => .ok (.nx x.2)
def kAppd (e : E) (x : Wk × Env) : Res Out := match x.1 with
  | (0, .nd .lst ds) => if ds.length + 1 ≤ lim then (ev e x.2).bind kAppd2 else .stuck
  | _ => .stuck
def kSo (is : List Nat) (os : List Bool) (r : List D) (env : Env) : Res Env := setOwns env is os r
def kSetm (is : List Nat) (x : Wk × Env) : Res Out := match x.1 with
  | (0, .nd .tup ds) => if (ds.all fun d => isLst d || flat d) = true then (setOwns x.2 is (ds.map isLst) ds).bind kNx else .stuck
  | _ => .stuck
def kRett1 (x : List D × Env) : Res Out := if x.1.length ≤ lim then .ok (.ret (.tup x.1) x.2) else .stuck
def kRett (x : List Ar × Env) : Res Out := (takeAll x.1 x.2).bind kRett1
def kTk (d : D) (x : List D × Env) : Res (List D × Env) := .ok (d :: x.1, x.2)
def tkR (env : Env) (i : Nat) (r : List Ar) : Option Sl → Res (List D × Env)
  | some (.own 1 (.nd .lst ds)) => (takeAll r (env.set i .un)).bind (kTk (.lst ds))
  | _ => .stuck
section
variable {env : Env} {is : List Nat} {os : List Bool} {es e : E} {i : Nat} {d : D} {ds r : List D} {ars : List Ar}
theorem x_paro : ex (.paro is os es) env = (evsO os es env).bind (kParo is os) := rfl
theorem k_paro : kParo is os (ds, env) = (setOwns env is os ds).bind kNx := rfl
theorem eo_nil : evsO [] .nil env = .ok ([], env) := rfl
theorem eo_t : evsO (true :: os) (.cons e es) env = if ownL e = true then (ev e env).bind (kEoT os es) else .stuck := rfl
theorem eo_f : evsO (false :: os) (.cons e es) env = if plainA e = true then (ev e env).bind (kEoF os es) else .stuck := rfl
theorem k_eot : kEoT os es ((0, .lst ds), env) = (evsO os es env).bind (kEo2 (.lst ds)) := rfl
theorem k_eof : kEoF os es ((0, d), env) = (evsO os es env).bind (kEo2 d) := rfl
theorem k_eo2 : kEo2 d (ds, env) = .ok (d :: ds, env) := rfl
theorem x_appd {o : E} : ex (.appd o e) env = if ownL o = true then (ev o env).bind (kAppd e) else .stuck := rfl
theorem k_appd : kAppd e ((0, .lst ds), env) = if ds.length + 1 ≤ lim then (ev e env).bind kAppd2 else .stuck := rfl
theorem k_appd2 : kAppd2 ((0, d), env) = .ok (.nx env) := rfl
theorem so_nil : setOwns env [] [] [] = .ok env := rfl
theorem so_t : setOwns env (i :: is) (true :: os) (.nd .lst ds :: r) = (setSl env i (.own 1 (.lst ds))).bind (kSo is os r) := rfl
theorem so_f : setOwns env (i :: is) (false :: os) (d :: r) = (setSl env i (.val d)).bind (kSo is os r) := rfl
theorem k_so : kSo is os r env = setOwns env is os r := rfl
theorem k_nx : kNx env = .ok (.nx env) := rfl
theorem x_setm : ex (.setm is e) env = if ownT e = true then (ev e env).bind (kSetm is) else .stuck := rfl
theorem k_setm : kSetm is ((0, .tup ds), env) = if (ds.all fun d => isLst d || flat d) = true then (setOwns env is (ds.map isLst) ds).bind kNx else .stuck := rfl
theorem il_lst : isLst (.nd .lst ds) = true := rfl
theorem il_int {i : Int} : isLst (.int i) = false := rfl
theorem il_str {i : Str} : isLst (.str i) = false := rfl
theorem fl_int {i : Int} : flat (.int i) = true := rfl
theorem fl_str {i : Str} : flat (.str i) = true := rfl
theorem x_rett : ex (.rett es) env = (evs es env).bind kRett := rfl
theorem k_rett : kRett (ars, env) = (takeAll ars env).bind kRett1 := rfl
theorem k_rett1 : kRett1 (ds, env) = if ds.length ≤ lim then .ok (.ret (.tup ds) env) else .stuck := rfl
theorem tk_nil : takeAll [] env = .ok ([], env) := rfl
theorem tk_d : takeAll (.d 0 d :: ars) env = if flat d = true then (takeAll ars env).bind (kTk d) else .stuck := rfl
theorem tk_wk : takeAll (.wk i :: ars) env = tkR env i ars env[i]? := by
  show (match env[i]? with | some (.own 1 (.nd .lst ds)) => _ | _ => _) = _
  unfold tkR
  split <;> simp_all <;> rfl
theorem tk_own : tkR env i ars (some (.own 1 (.lst ds))) = (takeAll ars (env.set i .un)).bind (kTk (.lst ds)) := rfl
theorem k_tk : kTk d (ds, env) = .ok (d :: ds, env) := rfl
end
end DL

namespace DL
open PySem L2
def kIr3c (i j : Int) (z : Wk × Env) : Res (List D × Env) := (asI z.1.2).bind fun k => if (k = -1 ∧ -(2 ^ 62) ≤ i ∧ i < 2 ^ 62) ∧ (-(2 ^ 62) ≤ j ∧ j < 2 ^ 62) then .ok (rangeD i (i - j).toNat, z.2) else .stuck
def kIr3b (c : E) (i : Int) (y : Wk × Env) : Res (List D × Env) := (asI y.1.2).bind fun j => (ev c y.2).bind (kIr3c i j)
def kIr3a (b c : E) (x : Wk × Env) : Res (List D × Env) := (asI x.1.2).bind fun i => (ev b x.2).bind (kIr3b c i)
section
variable {env : Env} {a b c : E} {k : Nat} {i j : Int}
theorem q_ir3 : evi (.irg3 a b c) env = (ev a env).bind (kIr3a b c) := rfl
theorem r_ir3a : kIr3a b c ((k, .int i), env) = (ev b env).bind (kIr3b c i) := rfl
theorem r_ir3b : kIr3b c i ((k, .int j), env) = (ev c env).bind (kIr3c i j) := rfl
theorem r_ir3c : kIr3c i j ((k, .int (-1)), env) = if (-4611686018427387904 ≤ i ∧ i < 4611686018427387904) ∧ (-4611686018427387904 ≤ j ∧ j < 4611686018427387904) then .ok (rangeD i (i - j).toNat, env) else .stuck := by
  show (if ((-1 : Int) = -1 ∧ -(2 ^ 62) ≤ i ∧ i < 2 ^ 62) ∧ (-(2 ^ 62) ≤ j ∧ j < 2 ^ 62) then Res.ok (rangeD i (i - j).toNat, env) else .stuck) = _
  simp only [true_and]
  rfl
end
end DL
namespace DL
theorem b_intt {k : Nat} : dBlt .int [(k, .bl true)] = .ok (.int 1) := rfl
theorem b_intf {k : Nat} : dBlt .int [(k, .bl false)] = .ok (.int 0) := rfl
end DL

-- part DLu
set_option Elab.async false
set_option linter.all false
set_option maxRecDepth 100000
/-! DL, part u: data: numbers, lists of numbers, equality. -/
namespace DL
open PySem L2

/-! ### equality of data without both bools and numbers -/
def cln (b : Bool) : Nat → D → Bool
  | _, .non => true
  | _, .bl _ => b
  | _, .int _ => !b
  | _, .str x => PyData.strOk x
  | n + 1, .nd .lst ds => ds.all (cln b n)
  | n + 1, .nd .tup ds => ds.all (cln b n)
  | _, _ => false
theorem cln_ind {P : D → Prop} (b : Bool) (h1 : P .non) (h2 : ∀ c, P (.bl c)) (h3 : ∀ i, P (.int i)) (h4 : ∀ x, P (.str x)) (h5 : ∀ ds, (∀ d ∈ ds, P d) → P (.lst ds)) (h6 : ∀ ds, (∀ d ∈ ds, P d) → P (.tup ds)) : ∀ (n : Nat) (d : D), cln b n d = true → P d
  | _, .non, _ => h1
  | _, .bl c, _ => h2 c
  | _, .int i, _ => h3 i
  | _, .str x, _ => h4 x
  | n + 1, .nd .lst ds, h => h5 ds fun d hd => cln_ind b h1 h2 h3 h4 h5 h6 n d (List.all_eq_true.mp h d hd)
  | n + 1, .nd .tup ds, h => h6 ds fun d hd => cln_ind b h1 h2 h3 h4 h5 h6 n d (List.all_eq_true.mp h d hd)
  | 0, .nd _ _, h => by simp [cln] at h
  | n + 1, .nd .scr _, h => by simp [cln] at h
  | n + 1, .nd (.obj _ _) _, h => by simp [cln] at h
  | n + 1, .nd (.dic _) _, h => by simp [cln] at h
theorem toPys_len : ∀ {ds : List D}, (toPys ds).length = ds.length
  | [] => rfl
  | d :: ds => by simp [toPys, toPys_len (ds := ds)]
theorem cln_shape {b : Bool} : ∀ {n : Nat} {d : D}, cln b n d = true → plain d = true ∧ (toPy d).canLay0 = true ∧ (toPy d).depth ≤ n := by
  have all : ∀ {n : Nat} {ds : List D}, (∀ d ∈ ds, plain d = true ∧ (toPy d).canLay0 = true ∧ (toPy d).depth ≤ n) → plains ds = true ∧ PyData.canLayAll0 (toPys ds) = true ∧ PyData.depthAll (toPys ds) ≤ n := by
    intro n ds
    induction ds with
    | nil => intro _; exact ⟨rfl, rfl, by simp [toPys, PyData.depthAll]⟩
    | cons d ds ih =>
      intro h
      obtain ⟨a1, a2, a3⟩ := h d (by simp)
      obtain ⟨b1, b2, b3⟩ := ih fun e he => h e (by simp [he])
      refine ⟨by simp [plains, a1, b1], by simp [toPys, PyData.canLayAll0, a2, b2], ?_⟩
      simp only [toPys, PyData.depthAll]
      omega
  intro n
  induction n with
  | zero =>
    intro d h
    cases d with
    | non => exact ⟨rfl, rfl, by simp [toPy, PyData.depth]⟩
    | bl c => exact ⟨rfl, rfl, by simp [toPy, PyData.depth]⟩
    | int i => exact ⟨rfl, rfl, by simp [toPy, PyData.depth]⟩
    | str x => exact ⟨rfl, h, by simp [toPy, PyData.depth]⟩
    | nd k ds => simp [cln] at h
  | succ n ih =>
    intro d h
    cases d with
    | non => exact ⟨rfl, rfl, by simp [toPy, PyData.depth]⟩
    | bl c => exact ⟨rfl, rfl, by simp [toPy, PyData.depth]⟩
    | int i => exact ⟨rfl, rfl, by simp [toPy, PyData.depth]⟩
    | str x => exact ⟨rfl, h, by simp [toPy, PyData.depth]⟩
    | nd k ds =>
      cases k with
      | lst =>
        obtain ⟨a1, a2, a3⟩ := all fun d hd => ih (List.all_eq_true.mp h d hd)
        exact ⟨a1, a2, by simpa [toPy, PyData.depth] using a3⟩
      | tup =>
        obtain ⟨a1, a2, a3⟩ := all fun d hd => ih (List.all_eq_true.mp h d hd)
        exact ⟨a1, a2, by simpa [toPy, PyData.depth] using a3⟩
      | _ => simp [cln] at h
theorem eqv_cln {b : Bool} : ∀ {n m : Nat} {d e : D}, cln b n d = true → cln b m e = true → (PyData.eqv (toPy d) (toPy e) = true ↔ d = e) := by
  intro n
  induction n with
  | zero =>
    intro m d e h h'
    cases b <;> cases d <;> cases e <;> first
      | (simp [cln] at h; done)
      | (simp [cln] at h'; done)
      | (simp [toPy, PyData.eqv]; done)
      | (rename_i k ds; cases m <;> cases k <;> simp [cln, toPy, PyData.eqv] at h' ⊢)
  | succ n ih =>
    have all : ∀ {m : Nat} {ds es : List D}, ds.all (cln b n) = true → es.all (cln b m) = true → (PyData.eqvAll (toPys ds) (toPys es) = true ↔ ds = es) := by
      intro m ds
      induction ds with
      | nil => intro es _ _; cases es <;> simp [toPys, PyData.eqvAll]
      | cons d ds ih2 =>
        intro es h h'
        cases es with
        | nil => simp [toPys, PyData.eqvAll]
        | cons e es =>
          simp only [List.all_cons, Bool.and_eq_true] at h h'
          simp only [toPys, PyData.eqvAll, Bool.and_eq_true, List.cons.injEq]
          rw [ih h.1 h'.1, ih2 h.2 h'.2]
    intro m d e h h'
    cases b <;> cases d <;> cases e <;> first
      | (simp [cln] at h; done)
      | (simp [cln] at h'; done)
      | (simp [toPy, PyData.eqv]; done)
      | (rename_i k ds; cases m <;> cases k <;> simp [cln, toPy, PyData.eqv] at h h' ⊢; done)
      | (rename_i k ds _; cases k <;> simp [cln, toPy, PyData.eqv] at h h' ⊢; done)
      | (rename_i k ds k' es
         cases m with
         | zero => simp [cln] at h'
         | succ m =>
          cases k <;> cases k' <;> first
            | (simp [cln] at h; done)
            | (simp [cln] at h'; done)
            | (simp [toPy, PyData.eqv]; done)
            | (simp only [toPy, PyData.eqv, D.nd.injEq, true_and]; exact all h h'))
open Classical in
theorem dEq_cln {b : Bool} {d e : D} (h : cln b 8 d = true) (h' : cln b 8 e = true) : dEq d e = .ok (decide (d = e)) := by
  obtain ⟨a1, a2, a3⟩ := cln_shape h
  obtain ⟨b1, b2, b3⟩ := cln_shape h'
  have o1 : okPy d = true := by simp [okPy, SeqAt.shaped, a1, a2]; omega
  have o2 : okPy e = true := by simp [okPy, SeqAt.shaped, b1, b2]; omega
  unfold dEq
  rw [o1, o2, if_pos (by rfl)]
  congr 1
  rw [Bool.eq_iff_iff, decide_eq_true_iff]
  exact eqv_cln h h'
section
variable {b : Bool} {n : Nat} {x : Int} {ds : List D} {l : List Int} {d : D}
theorem cln_non : cln b n .non = true := by cases n <;> rfl
theorem cln_int : cln false n (.int x) = true := by cases n <;> rfl
theorem cln_bl {c : Bool} : cln true n (.bl c) = true := by cases n <;> rfl
theorem cln_str {s : Str} : cln b n (.str s) = PyData.strOk s := by cases n <;> rfl
theorem cln_lst : cln b (n + 1) (.nd .lst ds) = ds.all (cln b n) := rfl
theorem cln_tup : cln b (n + 1) (.nd .tup ds) = ds.all (cln b n) := rfl
theorem all_map_int {n : Nat} : (l.map D.int).all (cln false n) = true := by simp [cln_int]
end

/-! ### places in lists -/
/-- what Python's l[i] is -/
def gI (l : List Int) (i : Int) : Int := (atI l i).getD 0
theorem atI_map {α β : Type} {f : α → β} {l : List α} {i : Int} : atI (l.map f) i = (atI l i).map f := by
  unfold atI
  rw [List.length_map]
  cases ixN l.length i <;> simp
theorem ixN_nn {n : Nat} {i : Int} (h : 0 ≤ i) (h2 : i < n) : ixN n i = some i.toNat := by
  simp [ixN, h, h2]
theorem ixN_ng {n : Nat} {i : Int} (h : i < 0) (h2 : -(n : Int) ≤ i) : ixN n i = some (i + n).toNat := by
  simp [ixN, Int.not_le.mpr h, h2]
theorem atI_nn {α : Type} {l : List α} {i : Int} (h : 0 ≤ i) (h2 : i < l.length) : atI l i = l[i.toNat]? := by
  simp [atI, ixN_nn h h2]
theorem atI_ng {α : Type} {l : List α} {i : Int} (h : i < 0) (h2 : -(l.length : Int) ≤ i) : atI l i = l[(i + l.length).toNat]? := by
  simp [atI, ixN_ng h h2]
theorem atI_gI {l : List Int} {i : Int} (h : -(l.length : Int) ≤ i) (h2 : i < l.length) : atI l i = some (gI l i) := by
  unfold gI
  by_cases h3 : 0 ≤ i
  · rw [atI_nn h3 h2, List.getElem?_eq_getElem (by omega)]; rfl
  · rw [atI_ng (by omega) h, List.getElem?_eq_getElem (by omega)]; rfl
theorem atI_ints {l : List Int} {i : Int} (h : -(l.length : Int) ≤ i) (h2 : i < l.length) : atI (l.map D.int) i = some (.int (gI l i)) := by
  rw [atI_map, atI_gI h h2]; rfl
theorem gI_nn {l : List Int} {i : Int} (h : 0 ≤ i) (h2 : i < l.length) : gI l i = l[i.toNat]'(by omega) := by
  unfold gI
  rw [atI_nn h h2, List.getElem?_eq_getElem (by omega)]; rfl
theorem gI_nat {l : List Int} {i : Nat} (h2 : i < l.length) : gI l (i : Int) = l[i] := gI_nn (by omega) (by omega)
theorem gI_nat? {l : List Int} {i : Nat} {a : Int} (h : l[i]? = some a) : gI l (i : Int) = a := by
  obtain ⟨h1, h2⟩ := List.getElem?_eq_some_iff.mp h
  rw [gI_nat h1, h2]
theorem gI_last {l : List Int} {i : Nat} (h : i + 1 = l.length) : gI l (-1) = gI l (i : Int) := by
  rw [gI_nat (by omega)]
  unfold gI
  rw [atI_ng (by omega) (by omega), show ((-1 : Int) + l.length).toNat = i by omega, List.getElem?_eq_getElem (by omega)]; rfl
theorem gI_append {l m : List Int} {i : Nat} (h : i < l.length) : gI (l ++ m) (i : Int) = gI l (i : Int) := by
  rw [gI_nat (by simp; omega), gI_nat h, List.getElem_append_left h]
theorem gI_append_last {l : List Int} {a : Int} : gI (l ++ [a]) (l.length : Int) = a := by
  rw [gI_nat (by simp)]; simp
theorem ap1 {l : List Int} {x : Int} : l.map D.int ++ [D.int x] = (l ++ [x]).map D.int := by simp
theorem ap2 {l m : List Int} : l.map D.int ++ m.map D.int = (l ++ m).map D.int := by simp
theorem ints_inj {l m : List Int} : (l.map D.int = m.map D.int) = (l = m) := by
  apply propext
  constructor
  · intro h
    exact (List.map_inj_right (fun a b e => by cases e; rfl)).mp h
  · rintro rfl; rfl
theorem intsOf_map {l : List Int} : intsOf (l.map D.int) = some l := by
  induction l with
  | nil => rfl
  | cons a l ih => simp [intsOf, ih]
theorem intsOf_fn {α : Type} {l : List α} {f : α → Int} : intsOf (l.map fun x => D.int (f x)) = some (l.map f) := by
  induction l with
  | nil => rfl
  | cons a l ih => simp [intsOf, ih]
theorem boolsOf_fn {α : Type} {l : List α} {f : α → Bool} : boolsOf (l.map fun x => D.bl (f x)) = some (l.map f) := by
  induction l with
  | nil => rfl
  | cons a l ih => simp [boolsOf, ih]
/-- the numbers from lo on -/
def rg (lo : Int) (n : Nat) : List Int := (List.range n).map fun (i : Nat) => lo + (i : Int)
theorem rangeL_rg {lo : Int} {n : Nat} : rangeL lo n = (rg lo n).map D.int := by simp [rangeL, rg, Function.comp_def]
theorem rg_len {lo : Int} {n : Nat} : (rg lo n).length = n := by simp [rg]
theorem mem_rg {lo x : Int} {n : Nat} : x ∈ rg lo n ↔ lo ≤ x ∧ x < lo + n := by
  simp only [rg, List.mem_map, List.mem_range]
  constructor
  · rintro ⟨i, h, rfl⟩; omega
  · rintro ⟨h1, h2⟩; exact ⟨(x - lo).toNat, by omega, by omega⟩
theorem rg_get {lo : Int} {n i : Nat} (h : i < n) : (rg lo n)[i]? = some (lo + i) := by simp [rg, h]
theorem rg_get_of {lo x : Int} {n i : Nat} (h : (rg lo n)[i]? = some x) : i < n ∧ x = lo + i := by
  have h1 := lt_of_get h
  rw [rg_len] at h1
  rw [rg_get h1] at h
  cases h
  exact ⟨h1, rfl⟩
/-- the first of those numbers with a property -/
theorem rg_filter_first {p : Int → Bool} {lo x : Int} {n : Nat} (h : ((rg lo n).filter p)[0]? = some x) : lo ≤ x ∧ x < lo + n ∧ p x = true ∧ ∀ y, lo ≤ y → y < x → p y = false := by
  induction n generalizing lo with
  | zero => simp [rg] at h
  | succ n ih =>
    have e : rg lo (n + 1) = lo :: rg (lo + 1) n := by
      simp only [rg, List.range_succ_eq_map, List.map_cons, List.map_map]
      congr 1
      · simp
      · apply List.map_congr_left
        intro a _
        simp
        omega
    rw [e, List.filter_cons] at h
    split at h
    · rename_i hp
      simp at h
      subst h
      exact ⟨by omega, by omega, hp, fun y h1 h2 => by omega⟩
    · rename_i hp
      obtain ⟨a, b, c, d⟩ := ih h
      refine ⟨by omega, by omega, c, fun y h1 h2 => ?_⟩
      by_cases hy : y = lo
      · subst hy; simpa using hp
      · exact d y (by omega) h2
theorem rg_filter_some {p : Int → Bool} {lo x : Int} {n : Nat} (h1 : lo ≤ x) (h2 : x < lo + n) (hp : p x = true) : ∃ y, ((rg lo n).filter p)[0]? = some y := by
  have : x ∈ (rg lo n).filter p := by simp [mem_rg, h1, h2, hp]
  cases e : (rg lo n).filter p with
  | nil => rw [e] at this; simp at this
  | cons a l => exact ⟨a, by simp⟩
/-- a comprehension over a list; nothing else is touched -/
theorem W_list {α : Type} {env : Env} {tg : List Nat} {t e : E} {Q : Wk × Env → Prop} {l : List α} {em : α → D} (p : α → Bool) (g : α → D) (hf : freeSl env tg = true) (hl : l.length ≤ lim)
    (hs : ∀ x ∈ l, W (setIs (blank env tg) tg (em x)) fun env2 => W (tstOf t (ev t) env2) fun y => y.1 = p x ∧ if p x = true then W (eltOf (ev e) y.2) fun z => z.1 = g x ∧ freeSl z.2 tg = true ∧ blank z.2 tg = blank env tg else freeSl y.2 tg = true ∧ blank y.2 tg = blank env tg)
    (he : Q ((0, .lst ((l.filter p).map g)), back env tg (blank env tg))) : W (kComp tg t e (l.map em, env)) Q := by
  refine W_comp (I := fun i ds env1 => env1 = blank env tg ∧ ds = ((l.take i).filter p).map g) hf (by simpa using hl) ⟨rfl, rfl⟩ ?_ ?_
  · rintro i ds x env1 hx ⟨rfl, rfl⟩
    rw [List.getElem?_map] at hx
    cases hx2 : l[i]? with
    | none => rw [hx2] at hx; cases hx
    | some a =>
      rw [hx2] at hx
      cases hx
      refine (hs a (List.mem_of_getElem? hx2)).mono fun env2 h => h.mono fun y ⟨h1, h2⟩ => ?_
      rw [List.take_add_one, hx2]
      rw [h1]
      split
      · rename_i hp
        rw [if_pos hp] at h2
        refine h2.mono fun z ⟨h3, h4, h5⟩ => ⟨h4, h5, ?_⟩
        simp [hp, h3]
      · rename_i hp
        rw [if_neg hp] at h2
        refine ⟨h2.1, h2.2, ?_⟩
        simp [hp]
  · rintro ds env1 ⟨rfl, rfl⟩
    rw [List.length_map, List.take_length]
    exact he
end DL

namespace DL
open PySem L2
section
variable {α : Type} {x0 x1 x2 x3 x4 x5 : α} {b : Int}
theorem at3 {a b c d : α} {l : List α} : atI (a :: b :: c :: d :: l) 3 = some d := by
  rw [atI_nn (by omega) (by simp; omega)]; rfl
theorem pick2 (h : 0 ≤ b) (h2 : b < 2) : ∃ y, atI [x0, x1] b = some y ∧ (y = x0 ∨ y = x1) := by
  obtain rfl | rfl : b = 0 ∨ b = 1 := by omega
  · exact ⟨_, rfl, by simp⟩
  · exact ⟨_, rfl, by simp⟩
theorem pick3 (h : 0 ≤ b) (h2 : b < 3) : ∃ y, atI [x0, x1, x2] b = some y ∧ (y = x0 ∨ y = x1 ∨ y = x2) := by
  obtain rfl | rfl | rfl : b = 0 ∨ b = 1 ∨ b = 2 := by omega
  all_goals exact ⟨_, rfl, by simp⟩
theorem pick4 (h : 0 ≤ b) (h2 : b < 4) : ∃ y, atI [x0, x1, x2, x3] b = some y ∧ (y = x0 ∨ y = x1 ∨ y = x2 ∨ y = x3) := by
  obtain rfl | rfl | rfl | rfl : b = 0 ∨ b = 1 ∨ b = 2 ∨ b = 3 := by omega
  all_goals exact ⟨_, rfl, by simp⟩
theorem pick5 (h : 0 ≤ b) (h2 : b < 5) : ∃ y, atI [x0, x1, x2, x3, x4] b = some y ∧ (y = x0 ∨ y = x1 ∨ y = x2 ∨ y = x3 ∨ y = x4) := by
  obtain rfl | rfl | rfl | rfl | rfl : b = 0 ∨ b = 1 ∨ b = 2 ∨ b = 3 ∨ b = 4 := by omega
  all_goals exact ⟨_, rfl, by simp⟩
theorem pick6 (h : 0 ≤ b) (h2 : b < 6) : ∃ y, atI [x0, x1, x2, x3, x4, x5] b = some y ∧ (y = x0 ∨ y = x1 ∨ y = x2 ∨ y = x3 ∨ y = x4 ∨ y = x5) := by
  obtain rfl | rfl | rfl | rfl | rfl | rfl : b = 0 ∨ b = 1 ∨ b = 2 ∨ b = 3 ∨ b = 4 ∨ b = 5 := by omega
  all_goals exact ⟨_, rfl, by simp⟩
end
section
variable {x0 x1 x2 x3 x4 x5 : Int} {b : Int}
theorem pickI3 (h : 0 ≤ b) (h2 : b < 3) : ∃ y : Int, atI [D.int x0, .int x1, .int x2] b = some (.int y) ∧ (y = x0 ∨ y = x1 ∨ y = x2) := by
  obtain ⟨y, e, h | h | h⟩ := pick3 (x0 := D.int x0) (x1 := .int x1) (x2 := .int x2) h h2 <;> (subst h; exact ⟨_, e, by simp⟩)
theorem pickI4 (h : 0 ≤ b) (h2 : b < 4) : ∃ y : Int, atI [D.int x0, .int x1, .int x2, .int x3] b = some (.int y) ∧ (y = x0 ∨ y = x1 ∨ y = x2 ∨ y = x3) := by
  obtain ⟨y, e, h | h | h | h⟩ := pick4 (x0 := D.int x0) (x1 := .int x1) (x2 := .int x2) (x3 := .int x3) h h2 <;> (subst h; exact ⟨_, e, by simp⟩)
theorem pickI5 (h : 0 ≤ b) (h2 : b < 5) : ∃ y : Int, atI [D.int x0, .int x1, .int x2, .int x3, .int x4] b = some (.int y) ∧ (y = x0 ∨ y = x1 ∨ y = x2 ∨ y = x3 ∨ y = x4) := by
  obtain ⟨y, e, h | h | h | h | h⟩ := pick5 (x0 := D.int x0) (x1 := .int x1) (x2 := .int x2) (x3 := .int x3) (x4 := .int x4) h h2 <;> (subst h; exact ⟨_, e, by simp⟩)
end
end DL

namespace DL
open PySem L2
theorem log2_big {x : Int} {m : Nat} (hm : 0 < m) (h : x.natAbs < 2 ^ m) : x.natAbs.log2 < m := by
  by_cases z : x.natAbs = 0
  · rw [z]; exact hm
  · exact (Nat.log2_lt z).mpr h
theorem mulOk_big {x y : Int} (h : x.natAbs < 2 ^ 500) (h2 : y.natAbs < 2 ^ 500) : MulOk x y = true := by
  have a := log2_big (by decide) h
  have b := log2_big (by decide) h2
  have c : x.natAbs.log2 + y.natAbs.log2 < 1000000 := by omega
  simp [MulOk, c]
theorem natAbs_fdiv_le {n p : Int} (hp : 0 < p) : (n.fdiv p).natAbs ≤ n.natAbs := by
  rw [Int.fdiv_eq_ediv_of_nonneg _ (by omega)]
  have e := Int.mul_ediv_add_emod n p
  have e1 := Int.emod_nonneg n (show p ≠ 0 by omega)
  have e2 := Int.emod_lt_of_pos n hp
  generalize n / p = q at *
  rcases Int.lt_trichotomy q 0 with h | h | h
  · have : p * q ≤ 1 * q := Int.mul_le_mul_of_nonpos_right (by omega) (by omega)
    have h5 : q ≤ -1 := by omega
    have h6 : p * q ≤ p * (-1) := Int.mul_le_mul_of_nonneg_left h5 (by omega)
    by_cases hn : n < 0
    · by_cases h7 : n ≤ q
      · omega
      · exfalso
        have h8 : q + 1 ≤ n := by omega
        have h9 : p * (q + 1) ≤ 1 * (q + 1) := by
          rcases Int.lt_or_le (q + 1) 0 with k | k
          · exact Int.mul_le_mul_of_nonpos_right (by omega) (by omega)
          · have : q + 1 = 0 := by omega
            rw [this]; simp
        rw [Int.mul_add] at h9
        omega
    · omega
  · subst h; simp
  · have : 1 * q ≤ p * q := Int.mul_le_mul_of_nonneg_right (by omega) (by omega)
    omega
section
variable {k : Nat} {l : List Int} {ds : List D} {env : Env} {d : D}
theorem b_sum {ds : List D} : dBlt .sum [(k, .lst ds)] = match intsOf ds with | some is => .ok (.int is.sum) | none => .stuck := by
  cases h : intsOf ds <;> simp [dBlt, lstOf, h]
theorem b_all {α : Type} {l : List α} {f : α → Bool} : dBlt .all [(k, .lst (l.map fun x => .bl (f x)))] = .ok (.bl (l.all f)) := by
  simp [dBlt, lstOf, boolsOf_fn, List.all_map, Function.comp_def]
theorem b_any {α : Type} {l : List α} {f : α → Bool} : dBlt .any [(k, .lst (l.map fun x => .bl (f x)))] = .ok (.bl (l.any f)) := by
  simp [dBlt, lstOf, boolsOf_fn, List.any_map, Function.comp_def]
theorem b_tuple : dBlt .tuple [(0, .lst ds)] = .ok (.tup ds) := rfl
theorem b_tuple1 : dBlt .tuple [(1, .lst ds)] = .ok (.tup ds) := rfl
theorem b_list0 : dBlt .list [(0, .lst ds)] = .ok (.lst ds) := rfl
theorem b_list1 : dBlt .list [(1, .lst ds)] = .ok (.lst ds) := rfl
theorem b_listt : dBlt .list [(0, .tup ds)] = .ok (.lst ds) := rfl
theorem b_lists : dBlt .list [(0, .nd .scr ds)] = .ok (.lst ds) := rfl
theorem dsl_lst0 {lo hi : Option Int} : dSlc (0, .lst ds) lo hi = .ok (.lst (cutL ds lo hi)) := rfl
theorem dsl_lst1 {lo hi : Option Int} : dSlc (1, .lst ds) lo hi = .ok (.lst (cutL ds lo hi)) := rfl
theorem dsl_tup {lo hi : Option Int} : dSlc (0, .tup ds) lo hi = .ok (.tup (cutL ds lo hi)) := rfl
end
theorem cutL_to {α : Type} {xs : List α} {i : Int} (h : 0 ≤ i) : cutL xs none (some i) = xs.take i.toNat := by
  obtain ⟨n, rfl⟩ : ∃ n : Nat, i = n := ⟨i.toNat, by omega⟩
  unfold cutL
  rw [HT.sIx_none, HT.sIx_nat]
  simp
theorem cutL_from {α : Type} {xs : List α} {i : Int} (h : 0 ≤ i) : cutL xs (some i) none = xs.drop i.toNat := by
  obtain ⟨n, rfl⟩ : ∃ n : Nat, i = n := ⟨i.toNat, by omega⟩
  unfold cutL
  rw [HT.sIx_none, HT.sIx_nat]
  by_cases e : n ≤ xs.length
  · rw [Nat.min_eq_left e]
    exact List.take_of_length_le (by simp)
  · rw [Nat.min_eq_right (by omega), Int.toNat_natCast]
    rw [List.drop_eq_nil_of_le (by omega), List.drop_eq_nil_of_le (by omega)]; simp
theorem cutL_map {α β : Type} {f : α → β} {xs : List α} {lo hi : Option Int} : cutL (xs.map f) lo hi = (cutL xs lo hi).map f := by
  simp [cutL, List.map_take, List.map_drop]
end DL

namespace DL
open PySem L2
/-- a number or None -/
def optD : Option Int → D
  | none => .non
  | some v => .int v
theorem optD_int {v : Int} : optD (some v) = .int v := rfl
theorem optD_non : optD none = .non := rfl
theorem dEq_non : dEq .non .non = .ok true := by
  rw [dEq_cln (b := false) rfl rfl]; simp
theorem dEq_bl {a b : Bool} : dEq (.bl a) (.bl b) = .ok (a == b) := by
  rw [dEq_cln (b := true) rfl rfl]
  cases a <;> cases b <;> simp
end DL
namespace DL
open PySem L2
theorem d_catc {j k : Nat} {ds es : List D} : dBin .add (j, .lst ds) (k, .lst es) = if j ≤ 1 ∧ k ≤ 1 ∧ ds.length + es.length ≤ 100000 then .ok (.lst (ds ++ es)) else .stuck := rfl
theorem d_tcat {ds es : List D} : dBin .add (0, .tup ds) (0, .tup es) = if ds.length + es.length ≤ 100000 then .ok (.tup (ds ++ es)) else .stuck := rfl
end DL
namespace DL
theorem filt_true {α : Type} {l : List α} : l.filter (fun _ => true) = l := List.filter_eq_self.mpr (fun _ _ => rfl)
end DL

-- part LN
set_option Elab.async false
set_option linter.all false
/-! stepped lines, plainly -/
namespace LN
open PySem L2 DL

/-- the value at n -/
def lat (s : List Int) (r n : Int) : Int := gI s (n.fmod s.length) + r * (n.fdiv s.length)
structure Ok (s : List Int) (r : Int) : Prop where
  ne : 0 < s.length
  up : ∀ i : Nat, i + 1 < s.length → gI s (i : Int) ≤ gI s ((i + 1 : Nat) : Int)
  la : gI s ((s.length - 1 : Nat) : Int) ≤ gI s 0 + r
theorem fdm {n p : Int} (hp : 0 < p) : n.fmod p = n % p ∧ n.fdiv p = n / p := ⟨Int.fmod_eq_emod_of_nonneg _ (by omega), Int.fdiv_eq_ediv_of_nonneg _ (by omega)⟩
theorem lat_eq {s : List Int} {r : Int} (h : 0 < s.length) (q : Int) (i : Nat) (hi : i < s.length) : lat s r (q * s.length + i) = gI s (i : Int) + r * q := by
  have hp : (0 : Int) < s.length := by omega
  obtain ⟨e1, e2⟩ := fdm (n := q * s.length + i) hp
  unfold lat
  rw [e1, e2]
  have a1 : (q * (s.length : Int) + i) % s.length = i := by
    rw [Int.add_comm, Int.add_mul_emod_self_right]
    exact Int.emod_eq_of_lt (by omega) (by omega)
  have a2 : (q * (s.length : Int) + i) / s.length = q := by
    rw [Int.add_comm, Int.add_mul_ediv_right _ _ (by omega), Int.ediv_eq_zero_of_lt (by omega) (by omega)]
    omega
  rw [a1, a2]
/-- every place is one of a lap -/
theorem split {p : Int} (hp : 0 < p) (n : Int) : ∃ (q : Int) (i : Nat), n = q * p + i ∧ (i : Int) < p := by
  refine ⟨n / p, (n % p).toNat, ?_, ?_⟩
  · have := Int.emod_nonneg n (show p ≠ 0 by omega)
    have h2 := Int.mul_ediv_add_emod n p
    rw [Int.toNat_of_nonneg this, Int.mul_comm]
    omega
  · have := Int.emod_nonneg n (show p ≠ 0 by omega)
    have := Int.emod_lt_of_pos n hp
    omega
theorem lat_lap {s : List Int} {r : Int} (h : 0 < s.length) (n q : Int) : lat s r (n + q * s.length) = lat s r n + r * q := by
  obtain ⟨k, i, rfl, hi⟩ := split (p := s.length) (by omega) n
  rw [show k * (s.length : Int) + i + q * s.length = (k + q) * s.length + i by rw [Int.add_mul]; omega]
  rw [lat_eq h _ _ (by omega), lat_eq h _ _ (by omega), Int.mul_add]
  omega
theorem lat_zero {s : List Int} {r : Int} (h : 0 < s.length) : lat s r 0 = gI s 0 := by
  have := lat_eq (r := r) h 0 0 h
  simpa using this
theorem lat_mono1 {s : List Int} {r : Int} (o : Ok s r) (n : Int) : lat s r n ≤ lat s r (n + 1) := by
  have h := o.ne
  obtain ⟨q, i, rfl, hi⟩ := split (p := s.length) (by omega) n
  by_cases e : i + 1 < s.length
  · rw [show q * (s.length : Int) + i + 1 = q * s.length + ((i + 1 : Nat) : Int) by omega]
    rw [lat_eq h _ _ (by omega), lat_eq h _ _ (by omega)]
    have := o.up i e
    omega
  · have e2 : i = s.length - 1 := by omega
    rw [show q * (s.length : Int) + i + 1 = (q + 1) * s.length + ((0 : Nat) : Int) by rw [Int.add_mul]; omega]
    rw [lat_eq h _ _ (by omega), lat_eq h _ _ (by omega), e2, Int.mul_add]
    have := o.la
    simp only [Int.mul_one, Int.ofNat_zero] at this ⊢
    show _ ≤ gI s ((0 : Nat) : Int) + _
    have e3 : gI s ((0 : Nat) : Int) = gI s 0 := rfl
    omega
theorem lat_mono {s : List Int} {r : Int} (o : Ok s r) {m n : Int} (h : m ≤ n) : lat s r m ≤ lat s r n := by
  obtain ⟨k, rfl⟩ : ∃ k : Nat, n = m + k := ⟨(n - m).toNat, by omega⟩
  clear h
  induction k with
  | zero => simp
  | succ k ih =>
    have := lat_mono1 o (m + k)
    rw [show m + ((k + 1 : Nat) : Int) = m + k + 1 by omega]
    omega
theorem rise_nn {s : List Int} {r : Int} (o : Ok s r) : 0 ≤ r := by
  have h := o.ne
  have h1 := lat_mono o (m := 0) (n := (s.length : Int)) (by omega)
  have h2 := lat_lap (r := r) h 0 1
  simp at h2
  omega
/-! ### the least form -/
/-- p is a period of a line with so many starts (p divides their number) -/
def hasPer (s : List Int) (r p : Int) : Bool := decide ((r * p).fmod s.length = 0) && (rg 0 (s.length - p).toNat).all fun i => decide (gI s (i + p) = gI s i + (r * p).fdiv s.length)
def pers (s : List Int) (r : Int) : List Int := ((rg 1 s.length).filter fun p => decide ((s.length : Int).fmod p = 0)).filter fun p => hasPer s r p
def lper (s : List Int) (r : Int) : Int := (pers s r).head?.getD 0
def lform (s : List Int) (r : Int) : List Int × Int := (s.take (lper s r).toNat, (r * lper s r).fdiv s.length)
theorem pers_ne {s : List Int} {r : Int} (h : 0 < s.length) : ∃ p t, pers s r = p :: t ∧ 1 ≤ p ∧ p ≤ s.length ∧ (s.length : Int) % p = 0 ∧ hasPer s r p = true := by
  have hp : (0 : Int) < s.length := by omega
  have m : (s.length : Int) ∈ pers s r := by
    simp only [pers, List.mem_filter, mem_rg, hasPer, Bool.and_eq_true, decide_eq_true_eq]
    refine ⟨⟨by omega, by simp⟩, ?_, ?_⟩
    · simp
    · simp [rg]
  cases e : pers s r with
  | nil => rw [e] at m; simp at m
  | cons p t =>
    have m2 : p ∈ pers s r := by rw [e]; simp
    simp only [pers, List.mem_filter, mem_rg, decide_eq_true_eq] at m2
    obtain ⟨⟨⟨h1, h2⟩, h3⟩, h4⟩ := m2
    refine ⟨p, t, rfl, h1, by omega, ?_, h4⟩
    rw [← (fdm (by omega)).1]; exact h3
theorem lper_ok {s : List Int} {r : Int} (h : 0 < s.length) : 1 ≤ lper s r ∧ lper s r ≤ s.length ∧ (s.length : Int) % lper s r = 0 ∧ hasPer s r (lper s r) = true := by
  obtain ⟨p, t, e, h1, h2, h3, h4⟩ := pers_ne (r := r) h
  have : lper s r = p := by simp [lper, e]
  rw [this]
  exact ⟨h1, h2, h3, h4⟩
theorem gI_take {s : List Int} {k i : Nat} (h : i < k) (h2 : k ≤ s.length) : gI (s.take k) (i : Int) = gI s (i : Int) := by
  rw [gI_nat (by simp; omega), gI_nat (by omega)]
  simp
/-- .. tells the same line, by a shorter list -/
theorem take_lat {s : List Int} {r : Int} {p : Nat} {st : Int} (h : 0 < s.length) (hp : 0 < p) {k : Nat} (hk : s.length = k * p) (hs : r * p = st * s.length)
    (hper : ∀ i : Nat, i + p < s.length → gI s ((i + p : Nat) : Int) = gI s (i : Int) + st) (n : Int) : lat (s.take p) st n = lat s r n := by
  have hple : p ≤ s.length := by
    rw [hk]
    have : 0 < k := by
      rcases Nat.eq_zero_or_pos k with e | e
      · subst e; omega
      · exact e
    exact Nat.le_mul_of_pos_left p this
  have hl : (s.take p).length = p := by simp; omega
  have hr : r = st * k := by
    have : r * p = (st * k) * p := by rw [hs, hk]; push_cast; rw [Int.mul_assoc]
    exact Int.eq_of_mul_eq_mul_right (by omega) this
  have hj : ∀ (j i : Nat), i < p → j * p + i < s.length → gI s ((j * p + i : Nat) : Int) = gI s (i : Int) + st * j := by
    intro j
    induction j with
    | zero => intro i _ _; simp
    | succ j ih =>
      intro i hi hlt
      have e : (j + 1) * p + i = (j * p + i) + p := by rw [Nat.add_mul]; omega
      rw [e] at hlt ⊢
      rw [hper _ hlt, ih i hi (by omega)]
      push_cast
      rw [Int.mul_add]
      omega
  obtain ⟨q, m, rfl, hm⟩ := split (p := s.length) (by omega) n
  have hm' : m < s.length := by omega
  rw [lat_eq h _ _ hm']
  have e1 : m = (m / p) * p + m % p := by rw [Nat.mul_comm]; exact (Nat.div_add_mod m p).symm
  have hi : m % p < p := Nat.mod_lt _ hp
  have e2 := hj (m / p) (m % p) hi (by omega)
  rw [← e1] at e2
  have e3 : q * (s.length : Int) + m = (q * k + (m / p : Nat)) * ((s.take p).length : Nat) + ((m % p : Nat) : Int) := by
    rw [hl, hk, Int.add_mul, Int.mul_assoc]
    push_cast
    have : (m : Int) = ((m / p : Nat) : Int) * p + ((m % p : Nat) : Int) := by exact_mod_cast e1
    push_cast at this
    omega
  rw [e3, lat_eq (by omega) _ _ (by omega), gI_take hi hple, e2, hr, Int.mul_add]
  have : st * (q * (k : Int)) = st * k * q := by rw [Int.mul_comm q, Int.mul_assoc]
  omega
theorem lform_parts {s : List Int} {r : Int} (h : 0 < s.length) : ∃ (p k : Nat), lper s r = p ∧ 0 < p ∧ s.length = k * p ∧ r * p = (lform s r).2 * s.length ∧ (lform s r).1 = s.take p ∧ (∀ i : Nat, i + p < s.length → gI s ((i + p : Nat) : Int) = gI s (i : Int) + (lform s r).2) := by
  obtain ⟨h1, h2, h3, h4⟩ := lper_ok (r := r) h
  have hp : (0 : Int) < s.length := by omega
  obtain ⟨p, hpe⟩ : ∃ p : Nat, lper s r = p := ⟨(lper s r).toNat, by omega⟩
  rw [hpe] at h1 h2 h3 h4
  simp only [hasPer, Bool.and_eq_true, decide_eq_true_eq, List.all_eq_true, mem_rg] at h4
  obtain ⟨h5, h6⟩ := h4
  refine ⟨p, s.length / p, hpe, by omega, ?_, ?_, ?_, ?_⟩
  · have h3 : s.length % p = 0 := by exact_mod_cast h3
    have := Nat.div_add_mod s.length p
    rw [Nat.mul_comm]
    omega
  · show r * p = (r * lper s r).fdiv s.length * s.length
    rw [hpe]
    rw [(fdm hp).1] at h5
    rw [(fdm hp).2]
    have := Int.mul_ediv_add_emod (r * p) s.length
    rw [Int.mul_comm (r * ↑p / _)]
    omega
  · show s.take (lper s r).toNat = _
    rw [hpe]; rfl
  · intro i hi
    have := h6 i (by omega)
    show _ = _ + (r * lper s r).fdiv s.length
    rw [hpe]
    exact_mod_cast this
theorem lform_lat {s : List Int} {r : Int} (h : 0 < s.length) (n : Int) : lat (lform s r).1 (lform s r).2 n = lat s r n := by
  obtain ⟨p, k, h1, h2, h3, h4, h5, h6⟩ := lform_parts (r := r) h
  rw [h5]
  exact take_lat h h2 h3 h4 h6 n
theorem lform_len {s : List Int} {r : Int} (h : 0 < s.length) : 0 < (lform s r).1.length ∧ (lform s r).1.length ≤ s.length := by
  obtain ⟨p, k, h1, h2, h3, h4, h5, h6⟩ := lform_parts (r := r) h
  rw [h5]
  simp
  omega
/-- a list of values of a line that rises is a line's -/
theorem ok_of {s : List Int} {r : Int} (h : 0 < s.length) (m : ∀ n : Int, lat s r n ≤ lat s r (n + 1)) : Ok s r := by
  refine ⟨h, fun i hi => ?_, ?_⟩
  · have := m (0 * s.length + i)
    rw [show (0 : Int) * s.length + i + 1 = 0 * s.length + ((i + 1 : Nat) : Int) by omega] at this
    rw [lat_eq h _ _ (by omega), lat_eq h _ _ (by omega)] at this
    omega
  · have := m (0 * s.length + ((s.length - 1 : Nat) : Int))
    rw [show (0 : Int) * s.length + ((s.length - 1 : Nat) : Int) + 1 = 1 * s.length + ((0 : Nat) : Int) by omega] at this
    rw [lat_eq h _ _ (by omega), lat_eq h _ _ (by omega)] at this
    show _ ≤ gI s ((0 : Nat) : Int) + r
    omega
theorem lform_ok {s : List Int} {r : Int} (o : Ok s r) : Ok (lform s r).1 (lform s r).2 := by
  refine ok_of (lform_len o.ne).1 fun n => ?_
  rw [lform_lat o.ne, lform_lat o.ne]
  exact lat_mono1 o n
theorem lform_zero {s : List Int} {r : Int} (h : 0 < s.length) : (lform s r).2 = 0 ↔ r = 0 := by
  obtain ⟨p, k, h1, h2, h3, h4, h5, h6⟩ := lform_parts (r := r) h
  constructor
  · intro e
    rw [e, Int.zero_mul] at h4
    rcases Int.mul_eq_zero.mp h4 with e | e
    · exact e
    · omega
  · intro e
    subst e
    rw [Int.zero_mul] at h4
    rcases Int.mul_eq_zero.mp h4.symm with e | e
    · exact e
    · omega
theorem lform_le {s : List Int} {r : Int} (o : Ok s r) : (lform s r).2 ≤ r := by
  have h := o.ne
  obtain ⟨p, k, h1, h2, h3, h4, h5, h6⟩ := lform_parts (r := r) h
  have hk : 1 ≤ k := by
    rcases Nat.eq_zero_or_pos k with e | e
    · subst e; omega
    · exact e
  have hr : r = (lform s r).2 * k := by
    have : r * p = ((lform s r).2 * k) * p := by rw [h4, h3]; push_cast; rw [Int.mul_assoc]
    exact Int.eq_of_mul_eq_mul_right (by omega) this
  have h0 := rise_nn (lform_ok o)
  have : (lform s r).2 * 1 ≤ (lform s r).2 * k := Int.mul_le_mul_of_nonneg_left (by omega) h0
  omega
/-! ### the least place of a value -/
def lbeg (s : List Int) (r v : Int) : Int := ((v - gI s 0).fdiv r - 1) * s.length
def leastL (s : List Int) (r v : Int) : List Int := (rg (lbeg s r v) (2 * s.length + 1)).filter fun n => decide (v ≤ lat s r n)
def leastAt (s : List Int) (r v : Int) : Option Int := if r = 0 then none else (leastL s r v)[0]?
theorem leastL_some {s : List Int} {r v : Int} (o : Ok s r) (hr : r ≠ 0) : ∃ n, (leastL s r v)[0]? = some n ∧ v ≤ lat s r n ∧ lat s r (n - 1) < v := by
  have h := o.ne
  have h0 := rise_nn o
  have hr0 : 0 < r := by omega
  have e := Int.mul_ediv_add_emod (v - gI s 0) r
  have e1 := Int.emod_nonneg (v - gI s 0) (show r ≠ 0 by omega)
  have e2 := Int.emod_lt_of_pos (v - gI s 0) hr0
  have ef := (fdm (n := v - gI s 0) hr0).2
  generalize hq : (v - gI s 0) / r = q at *
  have a1 : lat s r (lbeg s r v) = gI s 0 + r * (q - 1) := by
    have := lat_eq (r := r) h (q - 1) 0 h
    simpa [lbeg, ef] using this
  have a2 : lat s r (lbeg s r v + 2 * s.length) = gI s 0 + r * (q + 1) := by
    have := lat_eq (r := r) h (q + 1) 0 h
    have e3 : (q - 1) * (s.length : Int) + 2 * s.length = (q + 1) * s.length := by rw [← Int.add_mul]; congr 1; omega
    rw [lbeg, ef, e3]
    simpa using this
  rw [Int.mul_sub] at a1
  rw [Int.mul_add] at a2
  obtain ⟨n, hn⟩ := rg_filter_some (p := fun n => decide (v ≤ lat s r n)) (lo := lbeg s r v) (x := lbeg s r v + 2 * s.length) (n := 2 * s.length + 1) (by omega) (by omega) (by simp; omega)
  refine ⟨n, hn, ?_⟩
  obtain ⟨b1, b2, b3, b4⟩ := rg_filter_first hn
  have b3 : v ≤ lat s r n := by simpa using b3
  refine ⟨b3, ?_⟩
  have : lbeg s r v ≠ n := by rintro rfl; omega
  have b5 := b4 (n - 1) (by omega) (by omega)
  simp at b5
  omega
theorem leastAt_none {s : List Int} {r v : Int} : leastAt s r v = none ↔ r = 0 ∨ (leastL s r v)[0]? = none := by
  unfold leastAt; split <;> simp_all
end LN
namespace LN
open PySem L2 DL
theorem gI_mem {l : List Int} {i : Int} (h : -(l.length : Int) ≤ i) (h2 : i < l.length) : gI l i ∈ l := by
  have e := atI_gI h h2
  unfold atI at e
  cases q : ixN l.length i with
  | none => rw [q] at e; simp at e
  | some j => rw [q] at e; exact List.mem_of_getElem? e
theorem lat_bound {s : List Int} {r n : Int} {A R N : Nat} (h : 0 < s.length) (hA : ∀ v ∈ s, v.natAbs ≤ A) (hR : r.natAbs ≤ R) (hN : n.natAbs ≤ N) : (lat s r n).natAbs ≤ A + R * N := by
  have h1 : 0 ≤ n.fmod s.length := Int.fmod_nonneg_of_pos _ (by omega)
  have h2 : n.fmod s.length < s.length := Int.fmod_lt_of_pos _ (by omega)
  have h3 := hA _ (gI_mem (l := s) (i := n.fmod s.length) (by omega) h2)
  have h4 := natAbs_fdiv_le (n := n) (p := s.length) (by omega)
  have h5 : (r * n.fdiv s.length).natAbs ≤ R * N := by
    rw [Int.natAbs_mul]
    exact Nat.mul_le_mul hR (by omega)
  unfold lat
  have := Int.natAbs_add_le (gI s (n.fmod s.length)) (r * n.fdiv s.length)
  omega
theorem lbeg_bound {s : List Int} {r v : Int} {A V L : Nat} (hr : 0 < r) (hA : (gI s 0).natAbs ≤ A) (hV : v.natAbs ≤ V) (hL : s.length ≤ L) : (lbeg s r v).natAbs ≤ (V + A + 1) * L := by
  unfold lbeg
  rw [Int.natAbs_mul]
  have := natAbs_fdiv_le (n := v - gI s 0) hr
  exact Nat.mul_le_mul (by omega) (by omega)
theorem leastAt_some {s : List Int} {r v : Int} (o : Ok s r) (hr : r ≠ 0) : ∃ n, leastAt s r v = some n ∧ v ≤ lat s r n ∧ lat s r (n - 1) < v := by
  obtain ⟨n, h1, h2⟩ := leastL_some (v := v) o hr
  exact ⟨n, by rw [leastAt, if_neg hr]; exact h1, h2⟩
end LN
namespace LN
open PySem L2 DL
def okB (s : List Int) (r : Int) : Bool := decide (0 < s.length) && ((List.range (s.length - 1)).all (fun i => decide (gI s (i : Int) ≤ gI s ((i + 1 : Nat) : Int))) && decide (gI s ((s.length - 1 : Nat) : Int) ≤ gI s 0 + r))
theorem ok_b {s : List Int} {r : Int} (h : okB s r = true) : Ok s r := by
  simp only [okB, Bool.and_eq_true, decide_eq_true_eq, List.all_eq_true, List.mem_range] at h
  exact ⟨h.1, fun i hi => h.2.1 i (by omega), h.2.2⟩
end LN

-- part LN2
set_option Elab.async false
set_option linter.all false
/-! stepped lines: periods, the least form is one; sizes of numbers -/
namespace LN
open PySem L2 DL

/-- P is a period of f -/
def Per (f : Int → Int) (P : Int) : Prop := ∃ Q, ∀ n, f (n + P) = f n + Q
theorem Per.neg {f : Int → Int} {P : Int} (h : Per f P) : Per f (-P) := by
  obtain ⟨Q, h⟩ := h
  refine ⟨-Q, fun n => ?_⟩
  have := h (n + -P)
  rw [show n + -P + P = n by omega] at this
  omega
theorem Per.add {f : Int → Int} {P R : Int} (h : Per f P) (h2 : Per f R) : Per f (P + R) := by
  obtain ⟨Q, h⟩ := h
  obtain ⟨S, h2⟩ := h2
  refine ⟨Q + S, fun n => ?_⟩
  rw [show n + (P + R) = n + P + R by omega, h2, h]
  omega
theorem Per.zero {f : Int → Int} : Per f 0 := ⟨0, fun n => by simp⟩
theorem Per.mulN {f : Int → Int} {P : Int} (h : Per f P) : ∀ k : Nat, Per f (k * P)
  | 0 => by simpa using Per.zero
  | k + 1 => by
    have := (Per.mulN h k).add h
    rw [show ((k + 1 : Nat) : Int) * P = k * P + P by push_cast; rw [Int.add_mul]; omega]
    exact this
theorem Per.mul {f : Int → Int} {P : Int} (h : Per f P) (k : Int) : Per f (k * P) := by
  rcases Int.le_total 0 k with hk | hk
  · obtain ⟨n, rfl⟩ := Int.eq_ofNat_of_zero_le hk
    exact h.mulN n
  · obtain ⟨n, hn⟩ := Int.eq_ofNat_of_zero_le (show 0 ≤ -k by omega)
    have := (h.mulN n).neg
    rw [show k * P = -((n : Int) * P) by rw [← hn, Int.neg_mul, Int.neg_neg]]
    exact this
/-- the least period divides each -/
theorem Per.dvd {f : Int → Int} {p P : Int} (hp : 0 < p) (h : Per f p) (least : ∀ q, 0 < q → q < p → ¬ Per f q) (hP : Per f P) : P % p = 0 := by
  have e := Int.mul_ediv_add_emod P p
  have h1 := Int.emod_nonneg P (show p ≠ 0 by omega)
  have h2 := Int.emod_lt_of_pos P hp
  have : Per f (P % p) := by
    have := hP.add ((h.mul (P / p)).neg)
    rw [show P + -(P / p * p) = P % p by rw [Int.mul_comm (P / p)]; omega] at this
    exact this
  by_cases z : P % p = 0
  · exact z
  · exact absurd this (least _ (by omega) h2)
theorem lat_per {s : List Int} {r : Int} (h : 0 < s.length) : Per (lat s r) s.length := ⟨r, fun n => by
  have := lat_lap (r := r) h n 1
  simpa using this⟩
/-- the values of a function with a period -/
theorem vals_lat {f : Int → Int} {s : List Int} {r : Int} (h : 0 < s.length) (hs : ∀ i : Nat, i < s.length → gI s (i : Int) = f i) (hp : ∀ n, f (n + s.length) = f n + r) (n : Int) : lat s r n = f n := by
  have up : ∀ (q : Nat) (n : Int), f (n + q * s.length) = f n + r * q := by
    intro q
    induction q with
    | zero => intro n; simp
    | succ q ih =>
      intro n
      rw [show n + ((q + 1 : Nat) : Int) * s.length = n + q * s.length + s.length by push_cast; rw [Int.add_mul]; omega, hp, ih]
      push_cast
      rw [Int.mul_add]
      omega
  obtain ⟨q, i, rfl, hi⟩ := split (p := s.length) (by omega) n
  rw [lat_eq h _ _ (by omega), hs i (by omega)]
  rcases Int.le_total 0 q with hq | hq
  · obtain ⟨k, rfl⟩ := Int.eq_ofNat_of_zero_le hq
    have := up k i
    rw [Int.add_comm] at this
    exact this.symm
  · obtain ⟨k, hk⟩ := Int.eq_ofNat_of_zero_le (show 0 ≤ -q by omega)
    have := up k (q * s.length + i)
    rw [show q * (s.length : Int) + i + k * s.length = i by rw [← hk, Int.neg_mul]; omega] at this
    rw [this, show r * (k : Int) = -(r * q) by rw [← hk, Int.mul_neg]]
    omega
theorem hasPer_iff {s : List Int} {r : Int} {p k : Nat} (h : 0 < s.length) (hp : 0 < p) (hk : s.length = k * p) : hasPer s r p = true ↔ Per (lat s r) p := by
  have hp' : (0 : Int) < s.length := by omega
  have hk0 : 0 < k := by
    rcases Nat.eq_zero_or_pos k with e | e
    · subst e; omega
    · exact e
  have hle : p ≤ s.length := by rw [hk]; exact Nat.le_mul_of_pos_left p hk0
  have kf : (r * (p : Int)).fmod s.length = (r * (p : Int)) % s.length := (fdm hp').1
  have kd : (r * (p : Int)).fdiv s.length = (r * (p : Int)) / s.length := (fdm hp').2
  simp only [hasPer, Bool.and_eq_true, decide_eq_true_eq, List.all_eq_true, mem_rg, kf, kd]
  constructor
  · rintro ⟨h5, h6⟩
    have hst : r * p = (r * (p : Int) / s.length) * s.length := by
      have := Int.mul_ediv_add_emod (r * p) s.length
      rw [Int.mul_comm (r * (p : Int) / _)]
      omega
    have hper : ∀ i : Nat, i + p < s.length → gI s ((i + p : Nat) : Int) = gI s (i : Int) + r * (p : Int) / s.length := fun i hi => by
      have := h6 i (by omega)
      exact_mod_cast this
    have hl : (s.take p).length = p := by simp; omega
    have e : lat (s.take p) (r * (p : Int) / s.length) = lat s r := funext fun n => take_lat h hp hk hst hper n
    rw [← e]
    have := lat_per (s := s.take p) (r := r * (p : Int) / s.length) (by omega)
    rwa [hl] at this
  · rintro ⟨Q, hQ⟩
    have hkQ : ∀ (j : Nat) (n : Int), lat s r (n + j * p) = lat s r n + Q * j := by
      intro j
      induction j with
      | zero => intro n; simp
      | succ j ih =>
        intro n
        rw [show n + ((j + 1 : Nat) : Int) * p = n + j * p + p by push_cast; rw [Int.add_mul]; omega, hQ, ih]
        push_cast
        rw [Int.mul_add]
        omega
    have e1 := hkQ k 0
    have e2 := lat_lap (r := r) h 0 1
    rw [show (0 : Int) + (k : Int) * p = 0 + 1 * s.length by rw [hk]; push_cast; omega, e2] at e1
    have hr : r = Q * k := by omega
    have hrp : r * p = Q * s.length := by rw [hr, hk]; push_cast; rw [Int.mul_assoc]
    have hd : r * (p : Int) / s.length = Q := by rw [hrp]; exact Int.mul_ediv_cancel _ (by omega)
    refine ⟨by rw [hrp]; exact Int.mul_emod_left _ _, fun i hi => ?_⟩
    obtain ⟨j, rfl⟩ := Int.eq_ofNat_of_zero_le hi.1
    have a := hQ j
    have b1 := lat_eq (r := r) h 0 j (by omega)
    have b2 := lat_eq (r := r) h 0 (j + p) (by omega)
    simp only [Int.zero_mul, Int.zero_add, Int.mul_zero, Int.add_zero] at b1 b2
    rw [hd, ← b1, ← a, ← Int.natCast_add, ← b2]
/-- the length of the least form is the least period -/
theorem lper_least {s : List Int} {r : Int} (h : 0 < s.length) : Per (lat s r) (lper s r) ∧ 0 < lper s r ∧ ∀ q, 0 < q → q < lper s r → ¬ Per (lat s r) q := by
  obtain ⟨p, k, h1, h2, h3, h4, h5, h6⟩ := lform_parts (r := r) h
  obtain ⟨_, _, _, hp⟩ := lper_ok (r := r) h
  rw [h1] at hp ⊢
  refine ⟨(hasPer_iff h h2 h3).mp hp, by omega, fun q hq hlt hper => ?_⟩
  -- the least of all divides the number of starts, so it was found first
  have ex : ∃ m : Nat, 0 < m ∧ Per (lat s r) m ∧ ∀ j : Nat, 0 < j → j < m → ¬ Per (lat s r) j := by
    have : ∀ b : Nat, ∀ q : Nat, q ≤ b → 0 < q → Per (lat s r) q → ∃ m : Nat, (0 < m ∧ Per (lat s r) m ∧ ∀ j : Nat, 0 < j → j < m → ¬ Per (lat s r) j) ∧ m ≤ q := by
      intro b
      induction b with
      | zero => intro q a1 a2; omega
      | succ b ih =>
        intro q a1 a2 a3
        by_cases c : ∃ j : Nat, 0 < j ∧ j < q ∧ Per (lat s r) j
        · obtain ⟨j, c1, c2, c3⟩ := c
          obtain ⟨m, d1, d2⟩ := ih j (by omega) c1 c3
          exact ⟨m, d1, by omega⟩
        · exact ⟨q, ⟨a2, a3, fun j b1 b2 b3 => c ⟨j, b1, b2, b3⟩⟩, Nat.le_refl _⟩
    obtain ⟨q', rfl⟩ := Int.eq_ofNat_of_zero_le (show 0 ≤ q by omega)
    obtain ⟨m, d1, d2⟩ := this q' q' (Nat.le_refl _) (by omega) hper
    exact ⟨m, d1⟩
  obtain ⟨m, m1, m2, m3⟩ := ex
  have least : ∀ q : Int, 0 < q → q < m → ¬ Per (lat s r) q := fun q a b c => by
    obtain ⟨j, rfl⟩ := Int.eq_ofNat_of_zero_le (show 0 ≤ q by omega)
    exact m3 j (by omega) (by omega) c
  have dv := Per.dvd (p := (m : Int)) (by omega) m2 least (lat_per (r := r) h)
  have dv' : s.length % m = 0 := by exact_mod_cast dv
  have hm : m ≤ s.length := Nat.le_of_dvd h (Nat.dvd_of_mod_eq_zero dv')
  have mq : (m : Int) ≤ q := by
    rcases Int.lt_or_le q m with c | c
    · exact absurd hper (least q hq c)
    · exact c
  have hh : hasPer s r m = true := (hasPer_iff (k := s.length / m) h m1 (by rw [Nat.div_mul_cancel (Nat.dvd_of_mod_eq_zero dv')])).mpr m2
  -- m stands ahead of p in the list
  obtain ⟨p0, t, e, _⟩ := pers_ne (r := r) h
  have hp0 : lper s r = p0 := by simp [lper, e]
  have mem : (m : Int) ∈ pers s r := by
    simp only [pers, List.mem_filter, mem_rg, decide_eq_true_eq]
    refine ⟨⟨by omega, ?_⟩, hh⟩
    rw [(fdm (by omega)).1]
    exact_mod_cast dv'
  have srt : (pers s r).Pairwise (· < ·) := by
    unfold pers
    refine List.Pairwise.filter _ (List.Pairwise.filter _ ?_)
    unfold rg
    rw [List.pairwise_map]
    exact List.Pairwise.imp (fun h => by omega) (List.pairwise_lt_range)
  rw [e] at mem srt
  rcases List.mem_cons.mp mem with c | c
  · omega
  · have := (List.pairwise_cons.mp srt).1 _ c
    omega
theorem gI_vals {s : List Int} {r : Int} (h : 0 < s.length) {i : Nat} (hi : i < s.length) : gI s (i : Int) = lat s r i := by
  have := lat_eq (r := r) h 0 i hi
  simpa using this.symm
theorem ext_gI {s t : List Int} (hl : s.length = t.length) (h : ∀ i : Nat, i < s.length → gI s (i : Int) = gI t (i : Int)) : s = t := by
  refine List.ext_getElem hl fun i h1 h2 => ?_
  have := h i h1
  rw [gI_nat h1, gI_nat h2] at this
  exact this
/-- the least form is told by the values alone -/
theorem lform_uniq {s t : List Int} {r u : Int} (hs : 0 < s.length) (ht : 0 < t.length) (e : ∀ n, lat s r n = lat t u n) : lform s r = lform t u := by
  have ef : lat s r = lat t u := funext e
  obtain ⟨a1, a2, a3⟩ := lper_least (r := r) hs
  obtain ⟨b1, b2, b3⟩ := lper_least (r := u) ht
  rw [ef] at a1 a3
  have hp : lper s r = lper t u := by
    rcases Int.lt_trichotomy (lper s r) (lper t u) with c | c | c
    · exact absurd a1 (b3 _ a2 c)
    · exact c
    · exact absurd b1 (a3 _ b2 c)
  obtain ⟨p, k, h1, h2, h3, h4, h5, h6⟩ := lform_parts (r := r) hs
  obtain ⟨p', k', g1, g2, g3, g4, g5, g6⟩ := lform_parts (r := u) ht
  have pp : p = p' := by omega
  subst pp
  have l1 := lform_len (r := r) hs
  have l2 := lform_len (r := u) ht
  have n1 : (lform s r).1.length = p := by
    have : p ≤ s.length := by
      rw [h3]
      exact Nat.le_mul_of_pos_left p (by rcases Nat.eq_zero_or_pos k with z | z; (subst z; omega); exact z)
    rw [h5]
    simp
    omega
  have n2 : (lform t u).1.length = p := by
    have : p ≤ t.length := by
      rw [g3]
      exact Nat.le_mul_of_pos_left p (by rcases Nat.eq_zero_or_pos k' with z | z; (subst z; omega); exact z)
    rw [g5]
    simp
    omega
  have q1 : (lform s r).1 = (lform t u).1 := by
    refine ext_gI (by omega) fun i hi => ?_
    rw [gI_vals (r := (lform s r).2) l1.1 hi, gI_vals (r := (lform t u).2) l2.1 (by omega), lform_lat hs, lform_lat ht, e]
  have q2 : (lform s r).2 = (lform t u).2 := by
    have a := lat_lap (r := (lform s r).2) l1.1 0 1
    have b := lat_lap (r := (lform t u).2) l2.1 0 1
    rw [lform_lat hs, lform_lat hs, e, e] at a
    rw [lform_lat ht, lform_lat ht] at b
    rw [n1] at a
    rw [n2] at b
    omega
  exact Prod.ext q1 q2
/-- a least form is its own -/
theorem lform_idem {s : List Int} {r : Int} (h : 0 < s.length) : lform (lform s r).1 (lform s r).2 = lform s r := lform_uniq (lform_len h).1 h fun n => lform_lat h n
theorem lform_lenP {s : List Int} {r : Int} (h : 0 < s.length) : ((lform s r).1.length : Int) = lper s r := by
  obtain ⟨p, k, h1, h2, h3, h4, h5, h6⟩ := lform_parts (r := r) h
  rw [h5, h1]
  have : p ≤ s.length := by
    rw [h3]
    exact Nat.le_mul_of_pos_left p (by rcases Nat.eq_zero_or_pos k with z | z; (subst z; omega); exact z)
  simp
  omega

/-! ### how great numbers are -/
def Bd (k : Nat) (x : Int) : Prop := x.natAbs < 2 ^ k
theorem Bd.mono {j k : Nat} {x : Int} (h : Bd j x) (l : j ≤ k) : Bd k x := Nat.lt_of_lt_of_le h (Nat.pow_le_pow_right (by decide) l)
theorem Bd.add {k : Nat} {x y : Int} (h : Bd k x) (h2 : Bd k y) : Bd (k + 1) (x + y) := by
  unfold Bd at *
  rw [Nat.pow_succ]
  have := Int.natAbs_add_le x y
  omega
theorem Bd.neg {k : Nat} {x : Int} (h : Bd k x) : Bd k (-x) := by unfold Bd at *; omega
theorem Bd.sub {k : Nat} {x y : Int} (h : Bd k x) (h2 : Bd k y) : Bd (k + 1) (x - y) := by
  rw [Int.sub_eq_add_neg]; exact h.add h2.neg
theorem Bd.mul {j k : Nat} {x y : Int} (h : Bd j x) (h2 : Bd k y) : Bd (j + k) (x * y) := by
  unfold Bd at *
  rw [Int.natAbs_mul, Nat.pow_add]
  exact Nat.mul_lt_mul'' h h2
theorem Bd.fdiv {k : Nat} {x p : Int} (h : Bd k x) (hp : 0 < p) : Bd k (x.fdiv p) := Nat.lt_of_le_of_lt (natAbs_fdiv_le hp) h
theorem Bd.lat {a b c : Nat} {s : List Int} {r n : Int} (h : 0 < s.length) (ha : ∀ v ∈ s, Bd a v) (hb : Bd b r) (hc : Bd c n) : Bd (max a (b + c) + 1) (lat s r n) := by
  have h1 : 0 ≤ n.fmod s.length := Int.fmod_nonneg_of_pos _ (by omega)
  have h2 : n.fmod s.length < s.length := Int.fmod_lt_of_pos _ (by omega)
  have h3 := ha _ (gI_mem (l := s) (i := n.fmod s.length) (by omega) h2)
  unfold LN.lat
  exact (h3.mono (by omega)).add ((hb.mul (hc.fdiv (by omega))).mono (by omega))
end LN

namespace LN
open PySem L2 DL
/-- a line in its least form -/
structure Nf (s : List Int) (r : Int) : Prop where
  ok : Ok s r
  fm : lform s r = (s, r)
theorem Nf.of {s : List Int} {r : Int} (o : Ok s r) : Nf (lform s r).1 (lform s r).2 := ⟨lform_ok o, lform_idem o.ne⟩
theorem Nf.uniq {s t : List Int} {r u : Int} (a : Nf s r) (b : Nf t u) (e : ∀ n, lat s r n = lat t u n) : s = t ∧ r = u := by
  have := lform_uniq a.ok.ne b.ok.ne e
  rw [a.fm, b.fm] at this
  exact ⟨congrArg Prod.fst this, congrArg Prod.snd this⟩
def LB (k : Nat) (s : List Int) (r : Int) : Prop := (∀ v ∈ s, Bd k v) ∧ Bd k r
theorem LB.mono {j k : Nat} {s : List Int} {r : Int} (h : LB j s r) (l : j ≤ k) : LB k s r := ⟨fun v hv => (h.1 v hv).mono l, h.2.mono l⟩
theorem mem_gI {s : List Int} {v : Int} (h : v ∈ s) : ∃ i : Nat, i < s.length ∧ gI s (i : Int) = v := by
  obtain ⟨i, hi, e⟩ := List.getElem_of_mem h
  exact ⟨i, hi, by rw [gI_nat hi, e]⟩
theorem lb_of {k : Nat} {s : List Int} {r : Int} (h : 0 < s.length) (b : ∀ i : Nat, i ≤ s.length → Bd k (lat s r i)) : LB (k + 1) s r := by
  refine ⟨fun v hv => ?_, ?_⟩
  · obtain ⟨i, hi, rfl⟩ := mem_gI hv
    rw [gI_vals (r := r) h hi]
    exact (b i (by omega)).mono (by omega)
  · have e := lat_lap (r := r) h 0 1
    have e2 := (b s.length (Nat.le_refl _)).sub (b 0 (by omega))
    have : r = lat s r s.length - lat s r 0 := by simp at e; omega
    rw [this]
    exact e2
theorem LB.lat {k c : Nat} {s : List Int} {r n : Int} (h : 0 < s.length) (b : LB k s r) (hc : Bd c n) : Bd (k + c + 1) (lat s r n) := (Bd.lat h b.1 b.2 hc).mono (by omega)
theorem bd_nat {n k : Nat} (h : n < 2 ^ k) : Bd k (n : Int) := by unfold Bd; omega
/-- sums -/
theorem add_per {s t : List Int} {r u : Int} (hs : 0 < s.length) (ht : 0 < t.length) {p k l : Nat} (h1 : p = k * s.length) (h2 : p = l * t.length) (n : Int) : lat s r (n + p) + lat t u (n + p) = lat s r n + lat t u n + (r * k + u * l) := by
  have a := lat_lap (r := r) hs n k
  have b := lat_lap (r := u) ht n l
  rw [show ((k : Int) * s.length) = p by rw [h1]; push_cast; rfl] at a
  rw [show ((l : Int) * t.length) = p by rw [h2]; push_cast; rfl] at b
  omega
/-- one behind another -/
theorem after_per {s t : List Int} {r u : Int} (hs : 0 < s.length) (ht : 0 < t.length) {p k m : Nat} {w : Int} (h1 : p = k * t.length) (h2 : u * k = w * s.length) (n : Int) : lat s r (lat t u (n + p)) = lat s r (lat t u n) + r * w := by
  have b := lat_lap (r := u) ht n k
  rw [show ((k : Int) * t.length) = p by rw [h1]; push_cast; rfl, h2] at b
  rw [b, lat_lap hs]
/-- the values that are laid from a function -/
theorem made {f : Int → Int} {p : Nat} {Q : Int} (hp : 0 < p) (per : ∀ n, f (n + p) = f n + Q) (mono : ∀ n, f n ≤ f (n + 1)) : Ok ((rg 0 p).map f) Q ∧ ∀ n, lat ((rg 0 p).map f) Q n = f n := by
  have hl : ((rg 0 p).map f).length = p := by simp [rg_len]
  have e : ∀ n, lat ((rg 0 p).map f) Q n = f n := vals_lat (by omega) (fun i hi => by
    rw [gI_nat hi]
    simp [rg]) (fun n => by rw [hl]; exact per n)
  refine ⟨ok_of (by omega) fun n => ?_, e⟩
  rw [e, e]
  exact mono n
end LN

-- part LN3
set_option Elab.async false
set_option linter.all false
/-! where two lines meet and part -/
namespace LN
open PySem L2 DL

/-- the least number from b on with a property, if there is one -/
def LF (b : Int) (P : Int → Prop) : Option Int → Prop
  | some n => b ≤ n ∧ P n ∧ ∀ m, b ≤ m → m < n → ¬ P m
  | none => ∀ m, b ≤ m → ¬ P m
theorem LF.uniq {b : Int} {P : Int → Prop} : ∀ {o o' : Option Int}, LF b P o → LF b P o' → o = o'
  | none, none, _, _ => rfl
  | none, some n, h, h' => absurd h'.2.1 (h n h'.1)
  | some n, none, h, h' => absurd h.2.1 (h' n h.1)
  | some n, some m, h, h' => by
    rcases Int.lt_trichotomy n m with c | c | c
    · exact absurd h.2.1 (h'.2.2 n h.1 c)
    · rw [c]
    · exact absurd h'.2.1 (h.2.2 m h'.1 c)
theorem LF.congr {b : Int} {P P' : Int → Prop} {o : Option Int} (h : LF b P o) (e : ∀ n, b ≤ n → (P n ↔ P' n)) : LF b P' o := by
  cases o with
  | none => exact fun m hm hp => h m hm ((e m hm).mpr hp)
  | some n => exact ⟨h.1, (e n h.1).mp h.2.1, fun m hm hl hp => h.2.2 m hm hl ((e m hm).mpr hp)⟩
/-- g rises by Q behind each p -/
structure Gap (g : Int → Int) (p : Nat) (Q : Int) : Prop where
  pos : 0 < p
  per : ∀ n, g (n + p) = g n + Q
theorem Gap.mul {g : Int → Int} {p : Nat} {Q : Int} (h : Gap g p Q) (n : Int) : ∀ k : Nat, g (n + k * p) = g n + Q * k
  | 0 => by simp
  | k + 1 => by
    rw [show n + ((k + 1 : Nat) : Int) * p = n + k * p + p by push_cast; rw [Int.add_mul]; omega, h.per, h.mul n k]
    push_cast
    rw [Int.mul_add]
    omega
theorem Gap.sub {f g : Int → Int} {p : Nat} {Q R : Int} (h : Gap f p Q) (h2 : Gap g p R) : Gap (fun n => f n - g n) p (Q - R) := ⟨h.pos, fun n => by
  show f (n + p) - g (n + p) = _
  rw [h.per, h2.per]
  omega⟩
theorem Gap.times {g : Int → Int} {p : Nat} {Q : Int} (h : Gap g p Q) {k : Nat} (hk : 0 < k) : Gap g (k * p) (Q * k) := ⟨Nat.mul_pos hk h.pos, fun n => by
  have := h.mul n k
  rw [← this]
  push_cast
  rfl⟩
theorem lat_gap {s : List Int} {r : Int} (h : 0 < s.length) : Gap (lat s r) s.length r := ⟨h, fun n => by
  have := lat_lap (r := r) h n 1
  simpa using this⟩
def pick (Q γ a p : Int) : Option Int := if γ = 0 then some a else if Q ≠ 0 ∧ γ.fmod Q = 0 ∧ 0 < (-γ).fdiv Q then some (a + p * (-γ).fdiv Q) else none
def meets (g : Int → Int) (b : Int) (p : Nat) (Q : Int) : List Int := (List.range p).filterMap fun (i : Nat) => pick Q (g (b + (i : Int))) (b + (i : Int)) p
theorem mem_meets {g : Int → Int} {b n : Int} {p : Nat} {Q : Int} (h : Gap g p Q) (m : n ∈ meets g b p Q) : b ≤ n ∧ g n = 0 := by
  simp only [meets, List.mem_filterMap, List.mem_range] at m
  obtain ⟨i, hi, e⟩ := m
  unfold pick at e
  split at e
  · rename_i c
    cases e
    exact ⟨by omega, c⟩
  · split at e
    · rename_i _ c
      cases e
      obtain ⟨c1, c2, c3⟩ := c
      generalize hk : (-g (b + (i : Int))).fdiv Q = k at *
      obtain ⟨k', rfl⟩ := Int.eq_ofNat_of_zero_le (show 0 ≤ k by omega)
      have hd : Q ∣ -g (b + (i : Int)) := Int.dvd_neg.mpr (Int.dvd_of_fmod_eq_zero c2)
      have hq : Q * k' = -g (b + (i : Int)) := by rw [← hk]; exact Int.mul_fdiv_cancel' hd
      have hp := h.pos
      have : (0 : Int) ≤ p * k' := Int.mul_nonneg (by omega) (by omega)
      refine ⟨by omega, ?_⟩
      have e := h.mul (b + i) k'
      rw [Int.mul_comm] at e
      rw [e]
      omega
    · cases e
theorem split_from {p : Nat} (hp : 0 < p) {b n : Int} (h : b ≤ n) : ∃ i k : Nat, i < p ∧ n = b + i + k * p := by
  obtain ⟨m, hm⟩ := Int.eq_ofNat_of_zero_le (show 0 ≤ n - b by omega)
  refine ⟨m % p, m / p, Nat.mod_lt _ hp, ?_⟩
  have := Nat.mod_add_div m p
  have : ((m % p : Nat) : Int) + (p : Int) * (m / p : Nat) = m := by exact_mod_cast this
  rw [Int.mul_comm] at this
  omega
theorem meets_of {g : Int → Int} {b n : Int} {p : Nat} {Q : Int} (h : Gap g p Q) (hb : b ≤ n) (hz : g n = 0) : (∃ m ∈ meets g b p Q, m ≤ n) ∧ (Q ≠ 0 → n ∈ meets g b p Q) := by
  obtain ⟨i, k, hi, rfl⟩ := split_from h.pos hb
  have e := h.mul (b + i) k
  rw [hz] at e
  have mem : ∀ m, pick Q (g (b + (i : Int))) (b + (i : Int)) p = some m → m ∈ meets g b p Q := fun m hm => by
    simp only [meets, List.mem_filterMap, List.mem_range]
    exact ⟨i, hi, hm⟩
  have hkp : (0 : Int) ≤ k * p := Int.mul_nonneg (by omega) (by omega)
  by_cases c : g (b + (i : Int)) = 0
  · have pk : pick Q (g (b + (i : Int))) (b + (i : Int)) p = some (b + i) := by unfold pick; rw [if_pos c]
    refine ⟨⟨_, mem _ pk, by omega⟩, fun hQ => ?_⟩
    rw [c] at e
    have hk : (k : Int) = 0 := by
      rcases Int.mul_eq_zero.mp (show Q * (k : Int) = 0 by omega) with z | z
      · exact absurd z hQ
      · exact z
    rw [hk, Int.zero_mul, Int.add_zero]
    exact mem _ pk
  · have hQ : Q ≠ 0 := fun z => by rw [z, Int.zero_mul] at e; omega
    have ev : -g (b + (i : Int)) = Q * k := by omega
    have hf : (-g (b + (i : Int))).fdiv Q = k := by rw [ev]; exact Int.mul_fdiv_cancel_left _ hQ
    have hm : (g (b + (i : Int))).fmod Q = 0 := Int.fmod_eq_zero_of_dvd ⟨-(k : Int), by rw [Int.mul_neg]; omega⟩
    have hk : k ≠ 0 := fun z => by subst z; rw [Int.natCast_zero, Int.mul_zero] at ev; omega
    have pk : pick Q (g (b + (i : Int))) (b + (i : Int)) p = some (b + i + p * k) := by
      unfold pick
      rw [if_neg c, if_pos ⟨hQ, hm, by rw [hf]; omega⟩, hf]
    have := mem _ pk
    rw [Int.mul_comm] at this
    exact ⟨⟨_, this, Int.le_refl _⟩, fun _ => this⟩
/-- the least of a list of numbers -/
def IsMin (l : List Int) : Option Int → Prop
  | some m => m ∈ l ∧ ∀ x ∈ l, m ≤ x
  | none => l = []
theorem meets_LF {g : Int → Int} {b : Int} {p : Nat} {Q : Int} (h : Gap g p Q) {o : Option Int} (m : IsMin (meets g b p Q) o) : LF b (fun n => g n = 0) o := by
  cases o with
  | none =>
    intro n hn hz
    obtain ⟨⟨x, hx, _⟩, _⟩ := meets_of h hn hz
    rw [show meets g b p Q = [] from m] at hx
    cases hx
  | some n =>
    obtain ⟨h1, h2⟩ := mem_meets h m.1
    refine ⟨h1, h2, fun x hx hl hz => ?_⟩
    obtain ⟨⟨y, hy, hle⟩, _⟩ := meets_of h hx hz
    have := m.2 y hy
    omega
/-- where it is not 0 -/
theorem part_bound {g : Int → Int} {b : Int} {p : Nat} {Q : Int} (h : Gap g p Q) (z : ∀ i : Nat, i ≤ p → g (b + i) = 0) : ∀ n, b ≤ n → g n = 0 := by
  have hQ : Q = 0 := by
    have a := h.per b
    have c := z p (Nat.le_refl _)
    have d := z 0 (by omega)
    simp at d
    omega
  intro n hn
  obtain ⟨i, k, hi, rfl⟩ := split_from h.pos hn
  rw [h.mul, z i (by omega), hQ]
  simp
theorem part_all {g : Int → Int} {b : Int} {p : Nat} {Q : Int} (h : Gap g p Q) (z : ∀ n, b ≤ n → g n = 0) : ∀ n, g n = 0 := by
  have hQ : Q = 0 := by
    have a := h.per b
    have c := z (b + p) (by omega)
    have d := z b (Int.le_refl _)
    omega
  intro n
  -- some periods farther
  have hp := h.pos
  have e := h.mul n (b - n).toNat
  rw [z _ (by
    have : (b - n).toNat ≤ (b - n).toNat * p := Nat.le_mul_of_pos_right _ hp
    have : ((b - n).toNat : Int) ≤ (b - n).toNat * p := by exact_mod_cast this
    omega), hQ] at e
  omega
/-- the least number with a property, up to a bound -/
theorem least_of {b : Int} {P : Int → Prop} [DecidablePred P] : ∀ (k : Nat), P (b + k) → ∃ n, LF b P (some n) ∧ n ≤ b + k := by
  intro k
  induction k using Nat.strongRecOn with
  | ind k ih =>
    intro hk
    by_cases c : ∃ j : Nat, j < k ∧ P (b + j)
    · obtain ⟨j, hj, hp⟩ := c
      obtain ⟨n, h1, h2⟩ := ih j hj hp
      exact ⟨n, h1, by omega⟩
    · refine ⟨b + k, ⟨by omega, hk, fun m hm hl hp => c ⟨(m - b).toNat, by omega, ?_⟩⟩, Int.le_refl _⟩
      rwa [show b + ((m - b).toNat : Int) = m by omega]
/-- a list of numbers by a test, from b on: its least one -/
theorem filter_LF {b : Int} {P : Int → Prop} [DecidablePred P] {k : Nat} (big : (∀ i : Nat, i < k → ¬ P (b + i)) → ∀ n, b ≤ n → ¬ P n) {o : Option Int} (m : IsMin ((rg b k).filter fun n => decide (P n)) o) : LF b P o := by
  cases o with
  | none =>
    refine big fun i hi hp => ?_
    have : b + (i : Int) ∈ (rg b k).filter fun n => decide (P n) := by
      simp only [List.mem_filter, mem_rg, decide_eq_true_eq]
      exact ⟨⟨by omega, by omega⟩, hp⟩
    rw [show ((rg b k).filter fun n => decide (P n)) = [] from m] at this
    cases this
  | some n =>
    have h1 := m.1
    simp only [List.mem_filter, mem_rg, decide_eq_true_eq] at h1
    refine ⟨h1.1.1, h1.2, fun x hx hl hp => ?_⟩
    have := m.2 x (by
      simp only [List.mem_filter, mem_rg, decide_eq_true_eq]
      exact ⟨⟨hx, by omega⟩, hp⟩)
    omega
/-! sorted lists -/
theorem mem_ins {x y : Int} : ∀ {l : List Int}, y ∈ insI x l ↔ y = x ∨ y ∈ l
  | [] => by simp [insI]
  | z :: l => by
    unfold insI
    split
    · simp
    · simp only [List.mem_cons, mem_ins (l := l)]
      constructor
      · rintro (h | h | h) <;> simp [h]
      · rintro (h | h | h) <;> simp [h]
theorem mem_sort {y : Int} : ∀ {l : List Int}, y ∈ sortI l ↔ y ∈ l
  | [] => by simp [sortI]
  | x :: l => by
    show y ∈ insI x (sortI l) ↔ _
    rw [mem_ins, mem_sort (l := l)]
    simp
theorem ins_len {x : Int} : ∀ {l : List Int}, (insI x l).length = l.length + 1
  | [] => rfl
  | y :: l => by
    unfold insI
    split
    · simp
    · simp [ins_len (l := l)]
theorem sort_len : ∀ {l : List Int}, (sortI l).length = l.length
  | [] => rfl
  | x :: l => by
    show (insI x (sortI l)).length = _
    rw [ins_len, sort_len]; simp
theorem ins_sorted {x : Int} : ∀ {l : List Int}, l.Pairwise (· ≤ ·) → (insI x l).Pairwise (· ≤ ·)
  | [], _ => by simp [insI]
  | y :: l, h => by
    unfold insI
    obtain ⟨h1, h2⟩ := List.pairwise_cons.mp h
    split
    · rename_i c
      refine List.pairwise_cons.mpr ⟨fun z hz => ?_, h⟩
      rcases List.mem_cons.mp hz with rfl | hz
      · exact c
      · have := h1 z hz; omega
    · rename_i c
      refine List.pairwise_cons.mpr ⟨fun z hz => ?_, ins_sorted h2⟩
      rcases mem_ins.mp hz with rfl | hz
      · omega
      · exact h1 z hz
theorem sort_sorted : ∀ {l : List Int}, (sortI l).Pairwise (· ≤ ·)
  | [] => List.Pairwise.nil
  | x :: l => ins_sorted sort_sorted
theorem sort_min {l : List Int} : IsMin l (sortI l)[0]? := by
  cases e : sortI l with
  | nil =>
    have := sort_len (l := l)
    rw [e] at this
    exact List.length_eq_zero_iff.mp this.symm
  | cons m t =>
    refine ⟨mem_sort.mp (by rw [e]; simp), fun x hx => ?_⟩
    have h := sort_sorted (l := l)
    rw [e] at h
    have hx := mem_sort.mpr hx
    rw [e] at hx
    rcases List.mem_cons.mp hx with rfl | hx
    · exact Int.le_refl _
    · exact (List.pairwise_cons.mp h).1 x hx
theorem minL_min : ∀ {l : List Int}, IsMin l (minL l)
  | [] => rfl
  | x :: l => by
    have key : ∀ (l : List Int) (x : Int), (l.foldl min x = x ∨ l.foldl min x ∈ l) ∧ l.foldl min x ≤ x ∧ ∀ y ∈ l, l.foldl min x ≤ y := by
      intro l
      induction l with
      | nil => intro x; simp
      | cons y l ih =>
        intro x
        obtain ⟨i1, i2, i3⟩ := ih (min x y)
        simp only [List.foldl_cons, List.mem_cons]
        refine ⟨?_, by omega, ?_⟩
        · rcases i1 with h | h
          · rw [h]; omega
          · exact .inr (.inr h)
        · rintro z (rfl | hz)
          · omega
          · exact i3 z hz
    obtain ⟨h1, h2, h3⟩ := key l x
    refine ⟨?_, fun y hy => ?_⟩
    · rcases h1 with h | h
      · rw [h]; simp
      · exact List.mem_cons_of_mem _ h
    · rcases List.mem_cons.mp hy with rfl | hy
      · exact h2
      · exact h3 y hy
end LN

-- part LN4
set_option Elab.async false
set_option linter.all false
/-! the same line by more periods; a line that differs from a place on; lines of one value -/
namespace LN
open PySem L2 DL
def lapL (l : List Int) (more : Int) : Nat → List Int
  | 0 => []
  | k + 1 => lapL l more k ++ l.map fun v => v + (k : Nat) * more
theorem lapL_len {l : List Int} {more : Int} : ∀ {k : Nat}, (lapL l more k).length = k * l.length
  | 0 => by simp [lapL]
  | k + 1 => by simp [lapL, lapL_len (k := k), Nat.add_mul]
theorem lapL_get {l : List Int} {more : Int} (h : 0 < l.length) : ∀ {k i : Nat}, i < k * l.length → gI (lapL l more k) (i : Int) = lat l more i
  | 0, i, hi => by simp at hi
  | k + 1, i, hi => by
    by_cases c : i < k * l.length
    · rw [show lapL l more (k + 1) = lapL l more k ++ l.map (fun v => v + (k : Nat) * more) from rfl, gI_append (by rw [lapL_len]; exact c)]
      exact lapL_get h c
    · obtain ⟨j, rfl⟩ : ∃ j, i = k * l.length + j := ⟨i - k * l.length, by omega⟩
      have hj : j < l.length := by rw [Nat.add_mul] at hi; omega
      have e : gI (lapL l more (k + 1)) ((k * l.length + j : Nat) : Int) = gI l (j : Int) + k * more := by
        rw [gI_nat (by rw [lapL_len]; exact hi), gI_nat hj]
        simp only [lapL]
        rw [List.getElem_append_right (by rw [lapL_len]; omega)]
        simp [lapL_len]
      have e2 := lat_eq (r := more) h k j hj
      rw [e]
      push_cast
      rw [e2, Int.mul_comm]
theorem lapL_lat {l : List Int} {more : Int} (h : 0 < l.length) {k : Nat} (hk : 0 < k) (n : Int) : lat (lapL l more k) (more * k) n = lat l more n := by
  have hp : 0 < (lapL l more k).length := by rw [lapL_len]; exact Nat.mul_pos hk h
  refine vals_lat hp (fun i hi => lapL_get h (by rwa [lapL_len] at hi)) (fun n => ?_) n
  rw [lapL_len]
  have := lat_lap (r := more) h n k
  push_cast
  exact this
theorem lapL_ok {l : List Int} {more : Int} (o : Ok l more) {k : Nat} (hk : 0 < k) : Ok (lapL l more k) (more * k) :=
  ok_of (by rw [lapL_len]; exact Nat.mul_pos hk o.ne) fun n => by rw [lapL_lat o.ne hk, lapL_lat o.ne hk]; exact lat_mono1 o n
theorem lapL_mem {l : List Int} {more a b : Int} (h0 : 0 ≤ more) (h : ∀ v ∈ l, a ≤ v ∧ v ≤ b) : ∀ {k : Nat}, ∀ v ∈ lapL l more k, a ≤ v ∧ v ≤ b + k * more
  | 0, v, hv => by simp [lapL] at hv
  | k + 1, v, hv => by
    simp only [lapL, List.mem_append, List.mem_map] at hv
    have e : ((k + 1 : Nat) : Int) * more = k * more + more := by push_cast; rw [Int.add_mul]; omega
    have hkm : (0 : Int) ≤ k * more := Int.mul_nonneg (by omega) h0
    rcases hv with hv | ⟨w, hw, rfl⟩
    · have := lapL_mem h0 h v hv
      omega
    · have := h w hw
      omega
/-- one more from a place on -/
def bump (l : List Int) (p : Nat) : List Int := l.take p ++ (l.drop p).map (· + 1)
theorem bump_len {l : List Int} {p : Nat} : (bump l p).length = l.length := by simp [bump]; omega
theorem bump_get {l : List Int} {p i : Nat} (hi : i < l.length) : gI (bump l p) (i : Int) = gI l (i : Int) + if p ≤ i then 1 else 0 := by
  rw [gI_nat (by rw [bump_len]; exact hi), gI_nat hi]
  unfold bump
  by_cases c : i < p
  · rw [List.getElem_append_left (by simp; omega), if_neg (by omega)]
    simp
  · rw [List.getElem_append_right (by simp; omega), if_pos (by omega)]
    simp
    congr 2
    omega
theorem bump_ok {l : List Int} {r : Int} {p : Nat} (o : Ok l r) (hp : p < l.length) : Ok (bump l p) (r + if 0 < p then 1 else 0) := by
  refine ⟨by rw [bump_len]; exact o.ne, fun i hi => ?_, ?_⟩
  · rw [bump_len] at hi
    rw [bump_get (by omega), bump_get (by omega)]
    have := o.up i hi
    split <;> split <;> omega
  · rw [bump_len, bump_get (by omega), show (0 : Int) = ((0 : Nat) : Int) from rfl, bump_get o.ne]
    have := o.la
    simp only [Int.natCast_zero] at *
    split <;> split <;> split <;> omega
theorem bump_mem {l : List Int} {p : Nat} {a b : Int} (h : ∀ v ∈ l, a ≤ v ∧ v ≤ b) : ∀ v ∈ bump l p, a ≤ v ∧ v ≤ b + 1 := by
  intro v hv
  simp only [bump, List.mem_append, List.mem_map] at hv
  rcases hv with hv | ⟨w, hw, rfl⟩
  · have := h v (List.mem_of_mem_take hv); omega
  · have := h w (List.mem_of_mem_drop hw); omega
/-- lines of one value -/
theorem lat_one {a r n : Int} : lat [a] r n = a + r * n := by
  have := lat_eq (s := [a]) (r := r) (by simp) n 0 (by simp)
  simp at this
  rw [this]
  rfl
theorem lform_one {a r : Int} : lform [a] r = ([a], r) := by
  obtain ⟨h1, h2, _, _⟩ := lper_ok (s := [a]) (r := r) (by simp)
  have e : lper [a] r = 1 := by simp at h2; omega
  unfold lform
  rw [e]
  simp
theorem ok_one {a r : Int} (h : 0 ≤ r) : Ok [a] r := ok_of (by simp) fun n => by
  rw [lat_one, lat_one, Int.mul_add]
  omega
theorem nf_one {a r : Int} (h : 0 ≤ r) : Nf [a] r := ⟨ok_one h, lform_one⟩
end LN

-- part FSb
set_option Elab.async false
set_option linter.all false
set_option maxRecDepth 100000
set_option maxHeartbeats 1000000
namespace FS
open PySem L2 DL 
/-! check_line -/
noncomputable abbrev b_check_line : S :=
 (.cons (.ife (.cmp .eq (.name 0) (.lst .nil))
 .never
 .nil)
 (.cons (.for_ [2] (.irg2 (.lit (.int 1)) (.blt .len (.cons (.name 0) .nil)))
 (.cons (.ife (.cmp .lt (.idx (.name 0) (.name 2)) (.idx (.name 0) (.bin .sub (.name 2) (.lit (.int 1)))))
 .never
 .nil)
 .nil))
 (.cons (.ife (.cmp .gt (.idx (.name 0) (.neg (.lit (.int 1)))) (.bin .add (.idx (.name 0) (.lit (.int 0))) (.name 1)))
 .never
 .nil)
 .nil)))
abbrev n_check_line : List Str := ["starts", "rise", "number"]
noncomputable def f_check_line : FnD := ⟨"check_line", [0, 0], 0, run [0, 0] 3 b_check_line⟩
theorem m_check_line : f_check_line.ms = [0, 0] := rfl
theorem k_check_line : f_check_line.rk = 0 := rfl
theorem e_check_line : f_check_line.den = run [0, 0] 3 b_check_line := rfl
/-! has_period -/
noncomputable abbrev b_has_period : S :=
 (.cons (.set (.one (.sl 3)) (.blt .len (.cons (.name 0) .nil)))
 (.cons (.ife (.cmp .ne (.bin .mod (.bin .mul (.name 1) (.name 2)) (.name 3)) (.lit (.int 0)))
 (.cons (.ret (.lit (.bl false)))
 .nil)
 .nil)
 (.cons (.set (.one (.sl 4)) (.bin .fdiv (.bin .mul (.name 1) (.name 2)) (.name 3)))
 (.cons (.ret (.blt .all (.cons (.comp [5] (.irg1 (.bin .sub (.name 3) (.name 2))) .nil (.cmp .eq (.idx (.name 0) (.bin .add (.name 5) (.name 2))) (.bin .add (.idx (.name 0) (.name 5)) (.name 4)))) .nil)))
 .nil))))
abbrev n_has_period : List Str := ["starts", "rise", "period", "size", "step", "spot"]
noncomputable def f_has_period : FnD := ⟨"has_period", [0, 0, 0], 0, run [0, 0, 0] 6 b_has_period⟩
theorem m_has_period : f_has_period.ms = [0, 0, 0] := rfl
theorem k_has_period : f_has_period.rk = 0 := rfl
theorem e_has_period : f_has_period.den = run [0, 0, 0] 6 b_has_period := rfl
/-! divisors_of -/
noncomputable abbrev b_divisors_of : S :=
 (.cons (.ret (.comp [1] (.irg2 (.lit (.int 1)) (.bin .add (.name 0) (.lit (.int 1)))) (.cmp .eq (.bin .mod (.name 0) (.name 1)) (.lit (.int 0))) (.name 1)))
 .nil)
abbrev n_divisors_of : List Str := ["number", "one"]
noncomputable def f_divisors_of : FnD := ⟨"divisors_of", [0], 0, run [0] 2 b_divisors_of⟩
theorem m_divisors_of : f_divisors_of.ms = [0] := rfl
theorem k_divisors_of : f_divisors_of.rk = 0 := rfl
theorem e_divisors_of : f_divisors_of.den = run [0] 2 b_divisors_of := rfl
/-! least_form -/
noncomputable abbrev b_least_form : S :=
 (.cons (.set (.one (.sl 2)) (.blt .len (.cons (.name 0) .nil)))
 (.cons (.set (.one (.sl 4)) (.idx (.comp [3] (.ilst (.app f_divisors_of (.cons (.name 2) .nil))) (.app f_has_period (.cons (.name 0) (.cons (.name 1) (.cons (.name 3) .nil)))) (.name 3)) (.lit (.int 0))))
 (.cons (.ret (.tup (.cons (.blt .tuple (.cons (.slc (.name 0) .nil (.name 4)) .nil)) (.cons (.bin .fdiv (.bin .mul (.name 1) (.name 4)) (.name 2)) .nil))))
 .nil)))
abbrev n_least_form : List Str := ["starts", "rise", "size", "one", "period"]
noncomputable def f_least_form : FnD := ⟨"least_form", [0, 0], 0, run [0, 0] 5 b_least_form⟩
theorem m_least_form : f_least_form.ms = [0, 0] := rfl
theorem k_least_form : f_least_form.rk = 0 := rfl
theorem e_least_form : f_least_form.den = run [0, 0] 5 b_least_form := rfl
/-! __init__ -/
noncomputable abbrev b_Line_init : S :=
 (.cons (.drop (.app f_check_line (.cons (.name 1) (.cons (.name 2) .nil))))
 (.cons (.set (.tup [(.at 0 0 "kept_starts"), (.at 0 0 "kept_rise")]) (.app f_least_form (.cons (.blt .list (.cons (.name 1) .nil)) (.cons (.name 2) .nil))))
 .nil))
abbrev n_Line_init : List Str := ["self", "starts", "rise"]
noncomputable def f_Line_init : FnD := ⟨"Line", [1, 0, 0], 0, run [1, 0, 0] 3 b_Line_init⟩
theorem m_Line_init : f_Line_init.ms = [1, 0, 0] := rfl
theorem k_Line_init : f_Line_init.rk = 0 := rfl
theorem e_Line_init : f_Line_init.den = run [1, 0, 0] 3 b_Line_init := rfl
/-! __len__ -/
noncomputable abbrev b_Line_len : S :=
 (.cons (.ret (.blt .len (.cons (.fld 0 "kept_starts" (.name 0)) .nil)))
 .nil)
abbrev n_Line_len : List Str := ["self"]
noncomputable def f_Line_len : FnD := ⟨"__len__", [0], 0, run [0] 1 b_Line_len⟩
theorem m_Line_len : f_Line_len.ms = [0] := rfl
theorem k_Line_len : f_Line_len.rk = 0 := rfl
theorem e_Line_len : f_Line_len.den = run [0] 1 b_Line_len := rfl
/-! at -/
noncomputable abbrev b_Line_at : S :=
 (.cons (.set (.one (.sl 2)) (.blt .len (.cons (.fld 0 "kept_starts" (.name 0)) .nil)))
 (.cons (.ret (.bin .add (.idx (.fld 0 "kept_starts" (.name 0)) (.bin .mod (.name 1) (.name 2))) (.bin .mul (.fld 0 "kept_rise" (.name 0)) (.bin .fdiv (.name 1) (.name 2)))))
 .nil))
abbrev n_Line_at : List Str := ["self", "n", "period"]
noncomputable def f_Line_at : FnD := ⟨"at", [0, 0], 0, run [0, 0] 3 b_Line_at⟩
theorem m_Line_at : f_Line_at.ms = [0, 0] := rfl
theorem k_Line_at : f_Line_at.rk = 0 := rfl
theorem e_Line_at : f_Line_at.den = run [0, 0] 3 b_Line_at := rfl
/-! least_at -/
noncomputable abbrev b_Line_least_at : S :=
 (.cons (.ife (.cmp .eq (.fld 0 "kept_rise" (.name 0)) (.lit (.int 0)))
 (.cons (.ret (.lit .non))
 .nil)
 .nil)
 (.cons (.set (.one (.sl 2)) (.lno 0 f_Line_len (.name 0)))
 (.cons (.set (.one (.sl 3)) (.bin .mul (.bin .sub (.bin .fdiv (.bin .sub (.name 1) (.idx (.fld 0 "kept_starts" (.name 0)) (.lit (.int 0)))) (.fld 0 "kept_rise" (.name 0))) (.lit (.int 1))) (.name 2)))
 (.cons (.ret (.idx (.comp [4] (.irg2 (.name 3) (.bin .add (.bin .add (.name 3) (.bin .mul (.lit (.int 2)) (.name 2))) (.lit (.int 1)))) (.cmp .ge (.mth 0 f_Line_at (.name 0) (.cons (.name 4) .nil)) (.name 1)) (.name 4)) (.lit (.int 0))))
 .nil))))
abbrev n_Line_least_at : List Str := ["self", "value", "period", "begin", "n"]
noncomputable def f_Line_least_at : FnD := ⟨"least_at", [0, 0], 0, run [0, 0] 5 b_Line_least_at⟩
theorem m_Line_least_at : f_Line_least_at.ms = [0, 0] := rfl
theorem k_Line_least_at : f_Line_least_at.rk = 0 := rfl
theorem e_Line_least_at : f_Line_least_at.den = run [0, 0] 5 b_Line_least_at := rfl
end FS

-- part FSc
set_option Elab.async false
set_option linter.all false
set_option maxRecDepth 100000
set_option maxHeartbeats 1000000
namespace FS
open PySem L2 DL 
/-! rise -/
noncomputable abbrev b_Line_rise : S :=
 (.cons (.ret (.fld 0 "kept_rise" (.name 0)))
 .nil)
abbrev n_Line_rise : List Str := ["self"]
noncomputable def f_Line_rise : FnD := ⟨"rise", [0], 0, run [0] 1 b_Line_rise⟩
theorem m_Line_rise : f_Line_rise.ms = [0] := rfl
theorem k_Line_rise : f_Line_rise.rk = 0 := rfl
theorem e_Line_rise : f_Line_rise.den = run [0] 1 b_Line_rise := rfl
/-! starts -/
noncomputable abbrev b_Line_starts : S :=
 (.cons (.reto (.blt .list (.cons (.fld 0 "kept_starts" (.name 0)) .nil)))
 .nil)
abbrev n_Line_starts : List Str := ["self"]
noncomputable def f_Line_starts : FnD := ⟨"starts", [0], 1, run [0] 1 b_Line_starts⟩
theorem m_Line_starts : f_Line_starts.ms = [0] := rfl
theorem k_Line_starts : f_Line_starts.rk = 1 := rfl
theorem e_Line_starts : f_Line_starts.den = run [0] 1 b_Line_starts := rfl
/-! common_divisor -/
noncomputable abbrev b_common_divisor : S :=
 (.cons (.whl (.cmp .gt (.name 1) (.lit (.int 0)))
 (.cons (.par [0, 1] (.cons (.name 1) (.cons (.bin .mod (.name 0) (.name 1)) .nil)))
 .nil))
 (.cons (.ret (.name 0))
 .nil))
abbrev n_common_divisor : List Str := ["one", "other"]
noncomputable def f_common_divisor : FnD := ⟨"common_divisor", [0, 0], 0, run [0, 0] 2 b_common_divisor⟩
theorem m_common_divisor : f_common_divisor.ms = [0, 0] := rfl
theorem k_common_divisor : f_common_divisor.rk = 0 := rfl
theorem e_common_divisor : f_common_divisor.den = run [0, 0] 2 b_common_divisor := rfl
/-! after -/
noncomputable abbrev b_Line_after : S :=
 (.cons (.set (.one (.sl 2)) (.lno 0 f_Line_len (.name 0)))
 (.cons (.set (.one (.sl 3)) (.bin .mul (.lno 0 f_Line_len (.name 1)) (.bin .fdiv (.name 2) (.app f_common_divisor (.cons (.name 2) (.cons (.fld 0 "kept_rise" (.name 1)) .nil))))))
 (.cons (.set (.one (.sl 5)) (.comp [4] (.irg1 (.name 3)) .nil (.mth 0 f_Line_at (.name 0) (.cons (.mth 0 f_Line_at (.name 1) (.cons (.name 4) .nil)) .nil))))
 (.cons (.ret (.mk 0 f_Line_init (.cons (.name 5) (.cons (.bin .sub (.mth 0 f_Line_at (.name 0) (.cons (.mth 0 f_Line_at (.name 1) (.cons (.name 3) .nil)) .nil)) (.idx (.name 5) (.lit (.int 0)))) .nil))))
 .nil))))
abbrev n_Line_after : List Str := ["self", "inner", "size", "period", "n", "starts"]
noncomputable def f_Line_after : FnD := ⟨"after", [0, 0], 0, run [0, 0] 6 b_Line_after⟩
theorem m_Line_after : f_Line_after.ms = [0, 0] := rfl
theorem k_Line_after : f_Line_after.rk = 0 := rfl
theorem e_Line_after : f_Line_after.den = run [0, 0] 6 b_Line_after := rfl
/-! common_multiple -/
noncomputable abbrev b_common_multiple : S :=
 (.cons (.ret (.bin .mul (.bin .fdiv (.name 0) (.app f_common_divisor (.cons (.name 0) (.cons (.name 1) .nil)))) (.name 1)))
 .nil)
abbrev n_common_multiple : List Str := ["one", "other"]
noncomputable def f_common_multiple : FnD := ⟨"common_multiple", [0, 0], 0, run [0, 0] 2 b_common_multiple⟩
theorem m_common_multiple : f_common_multiple.ms = [0, 0] := rfl
theorem k_common_multiple : f_common_multiple.rk = 0 := rfl
theorem e_common_multiple : f_common_multiple.den = run [0, 0] 2 b_common_multiple := rfl
/-! __add__ -/
noncomputable abbrev b_Line_add : S :=
 (.cons (.set (.one (.sl 2)) (.app f_common_multiple (.cons (.lno 0 f_Line_len (.name 0)) (.cons (.lno 0 f_Line_len (.name 1)) .nil))))
 (.cons (.set (.one (.sl 4)) (.comp [3] (.irg1 (.name 2)) .nil (.bin .add (.mth 0 f_Line_at (.name 0) (.cons (.name 3) .nil)) (.mth 0 f_Line_at (.name 1) (.cons (.name 3) .nil)))))
 (.cons (.ret (.mk 0 f_Line_init (.cons (.name 4) (.cons (.bin .sub (.bin .add (.mth 0 f_Line_at (.name 0) (.cons (.name 2) .nil)) (.mth 0 f_Line_at (.name 1) (.cons (.name 2) .nil))) (.idx (.name 4) (.lit (.int 0)))) .nil))))
 .nil)))
abbrev n_Line_add : List Str := ["self", "other", "period", "n", "starts"]
noncomputable def f_Line_add : FnD := ⟨"__add__", [0, 0], 0, run [0, 0] 5 b_Line_add⟩
theorem m_Line_add : f_Line_add.ms = [0, 0] := rfl
theorem k_Line_add : f_Line_add.rk = 0 := rfl
theorem e_Line_add : f_Line_add.den = run [0, 0] 5 b_Line_add := rfl
/-! __eq__ -/
noncomputable abbrev b_Line_eq : S :=
 (.cons (.ife (.notv (.isi 0 "Line" (.name 1)))
 (.cons (.ret (.lit (.bl false)))
 .nil)
 .nil)
 (.cons (.ret (.cmp .eq (.tup (.cons (.fld 0 "kept_starts" (.name 0)) (.cons (.fld 0 "kept_rise" (.name 0)) .nil))) (.tup (.cons (.fld 0 "kept_starts" (.name 1)) (.cons (.fld 0 "kept_rise" (.name 1)) .nil)))))
 .nil))
abbrev n_Line_eq : List Str := ["self", "other"]
noncomputable def f_Line_eq : FnD := ⟨"__eq__", [0, 0], 0, run [0, 0] 2 b_Line_eq⟩
theorem m_Line_eq : f_Line_eq.ms = [0, 0] := rfl
theorem k_Line_eq : f_Line_eq.rk = 0 := rfl
theorem e_Line_eq : f_Line_eq.den = run [0, 0] 2 b_Line_eq := rfl
end FS

-- part LPb
set_option Elab.async false
set_option linter.all false
set_option maxRecDepth 100000
set_option maxHeartbeats 1000000
namespace LP
open PySem L2 DL FS
/-! _law_draw -/
noncomputable abbrev b_law_draw : S :=
 (.cons (.ife (.cmp .gt (.idx (.name 0) (.lit (.int 0))) (.lit (.int 0)))
 (.cons (.set (.one (.sl 2)) (.bin .mod (.blt .int (.cons (.idx (.name 0) (.lit (.int 0))) .nil)) (.name 1)))
 (.cons (.sub 0 (.lit (.int 0)) (.bin .fdiv (.idx (.name 0) (.lit (.int 0))) (.name 1)))
 (.cons (.ret (.name 2))
 .nil)))
 .nil)
 (.cons (.sub 0 (.lit (.int 2)) (.bin .add (.idx (.name 0) (.lit (.int 2))) (.lit (.int 1))))
 (.cons (.set (.one (.sl 3)) (.bin .mod (.blt .int (.cons (.bin .pow (.bin .add (.idx (.name 0) (.lit (.int 1))) (.bin .mul (.lit (.int 15488849)) (.idx (.name 0) (.lit (.int 2))))) (.lit (.int 3))) .nil)) (.lit (.int 162259276829213363391578010288127))))
 (.cons (.set (.one (.sl 3)) (.bin .mod (.blt .int (.cons (.bin .pow (.bin .add (.name 3) (.bin .mul (.lit (.int 32454521)) (.idx (.name 0) (.lit (.int 2))))) (.lit (.int 5))) .nil)) (.lit (.int 170141183460469231731687303715884105727))))
 (.cons (.ret (.bin .mod (.blt .int (.cons (.bin .fdiv (.name 3) (.lit (.int 1048576))) .nil)) (.name 1)))
 .nil)))))
abbrev n_law_draw : List Str := ["pool", "many", "drawn", "mixed"]
noncomputable def f_law_draw : FnD := ⟨"_law_draw", [1, 0], 0, run [1, 0] 4 b_law_draw⟩
theorem m_law_draw : f_law_draw.ms = [1, 0] := rfl
theorem k_law_draw : f_law_draw.rk = 0 := rfl
theorem e_law_draw : f_law_draw.den = run [1, 0] 4 b_law_draw := rfl
/-! _law_values -/
noncomputable abbrev b_law_values : S :=
 (.cons (.seto 1 2 (.lst (.cons (.bin .sub (.app f_law_draw (.cons (.ioa 0) (.cons (.lit (.int 41)) .nil))) (.lit (.int 20))) .nil)))
 (.cons (.for_ [3] (.irg1 (.app f_law_draw (.cons (.ioa 0) (.cons (.name 1) .nil))))
 (.cons (.app 2 .nil (.bin .add (.idx (.name 2) (.neg (.lit (.int 1)))) (.idx (.lst (.cons (.lit (.int 0)) (.cons (.lit (.int 0)) (.cons (.lit (.int 1)) (.cons (.app f_law_draw (.cons (.ioa 0) (.cons (.lit (.int 9)) .nil))) .nil))))) (.app f_law_draw (.cons (.ioa 0) (.cons (.lit (.int 4)) .nil))))))
 .nil))
 (.cons (.frz 2)
 (.cons (.set (.one (.sl 4)) (.idx (.lst (.cons (.lit (.int 0)) (.cons (.lit (.int 1)) (.cons (.app f_law_draw (.cons (.ioa 0) (.cons (.lit (.int 40)) .nil))) (.cons (.app f_law_draw (.cons (.ioa 0) (.cons (.lit (.int 900)) .nil))) .nil))))) (.app f_law_draw (.cons (.ioa 0) (.cons (.lit (.int 4)) .nil)))))
 (.cons (.ret (.tup (.cons (.name 2) (.cons (.bin .add (.bin .sub (.idx (.name 2) (.neg (.lit (.int 1)))) (.idx (.name 2) (.lit (.int 0)))) (.name 4)) .nil))))
 .nil)))))
abbrev n_law_values : List Str := ["pool", "many", "found", "turn", "rest"]
noncomputable def f_law_values : FnD := ⟨"_law_values", [1, 0], 0, run [1, 0] 5 b_law_values⟩
theorem m_law_values : f_law_values.ms = [1, 0] := rfl
theorem k_law_values : f_law_values.rk = 0 := rfl
theorem e_law_values : f_law_values.den = run [1, 0] 5 b_law_values := rfl
/-! _law_at -/
noncomputable abbrev b_law_at : S :=
 (.cons (.set (.one (.sl 3)) (.bin .fdiv (.name 2) (.blt .len (.cons (.name 0) .nil))))
 (.cons (.ret (.bin .add (.idx (.name 0) (.bin .sub (.name 2) (.bin .mul (.name 3) (.blt .len (.cons (.name 0) .nil))))) (.bin .mul (.name 3) (.name 1))))
 .nil))
abbrev n_law_at : List Str := ["found", "more", "place", "laps"]
noncomputable def f_law_at : FnD := ⟨"_law_at", [0, 0, 0], 0, run [0, 0, 0] 4 b_law_at⟩
theorem m_law_at : f_law_at.ms = [0, 0, 0] := rfl
theorem k_law_at : f_law_at.rk = 0 := rfl
theorem e_law_at : f_law_at.den = run [0, 0, 0] 4 b_law_at := rfl
/-! _law_place -/
noncomputable abbrev b_law_place : S :=
 (.cons (.ret (.idx (.lst (.cons (.bin .sub (.app f_law_draw (.cons (.ioa 0) (.cons (.lit (.int 41)) .nil))) (.lit (.int 20))) (.cons (.bin .sub (.app f_law_draw (.cons (.ioa 0) (.cons (.bin .pow (.lit (.int 10)) (.lit (.int 31))) .nil))) (.bin .mul (.lit (.int 5)) (.bin .pow (.lit (.int 10)) (.lit (.int 30))))) (.cons (.lit (.int 0)) .nil)))) (.app f_law_draw (.cons (.ioa 0) (.cons (.lit (.int 3)) .nil)))))
 .nil)
abbrev n_law_place : List Str := ["pool"]
noncomputable def f_law_place : FnD := ⟨"_law_place", [1], 0, run [1] 1 b_law_place⟩
theorem m_law_place : f_law_place.ms = [1] := rfl
theorem k_law_place : f_law_place.rk = 0 := rfl
theorem e_law_place : f_law_place.den = run [1] 1 b_law_place := rfl
/-! _law_pool -/
noncomputable abbrev b_law_pool : S :=
 (.cons (.set (.one (.sl 2)) (.lit (.int 0)))
 (.cons (.ife (.cmp .lt (.name 1) (.blt .len (.cons (.name 0) .nil)))
 (.cons (.set (.one (.sl 2)) (.idx (.name 0) (.name 1)))
 .nil)
 .nil)
 (.cons (.reto (.lst (.cons (.blt .max2 (.cons (.lit (.int 0)) (.cons (.bin .sub (.blt .abs (.cons (.name 2) .nil)) (.bin .pow (.lit (.int 10)) (.lit (.int 18)))) .nil))) (.cons (.bin .add (.bin .mod (.blt .int (.cons (.name 2) .nil)) (.lit (.int 2305843009213693951))) (.bin .mul (.lit (.int 3367900777)) (.bin .add (.name 1) (.lit (.int 1))))) (.cons (.lit (.int 0)) .nil)))))
 .nil)))
abbrev n_law_pool : List Str := ["script", "at", "given"]
noncomputable def f_law_pool : FnD := ⟨"_law_pool", [0, 0], 1, run [0, 0] 3 b_law_pool⟩
theorem m_law_pool : f_law_pool.ms = [0, 0] := rfl
theorem k_law_pool : f_law_pool.rk = 1 := rfl
theorem e_law_pool : f_law_pool.den = run [0, 0] 3 b_law_pool := rfl
end LP

-- part LPc
set_option Elab.async false
set_option linter.all false
set_option maxRecDepth 100000
set_option maxHeartbeats 1000000
namespace LP
open PySem L2 DL FS
/-! _law_great -/
noncomputable abbrev b_law_great : S :=
 (.cons (.set (.one (.sl 3)) (.idx (.lst (.cons (.lit (.int 1)) (.cons (.lit (.int 1)) (.cons (.lit (.int 1)) (.cons (.bin .pow (.lit (.int 10)) (.lit (.int 27))) .nil))))) (.app f_law_draw (.cons (.ioa 0) (.cons (.lit (.int 4)) .nil)))))
 (.cons (.ret (.tup (.cons (.comp [4] (.ilst (.name 1)) .nil (.bin .mul (.name 3) (.name 4))) (.cons (.bin .mul (.name 3) (.name 2)) .nil))))
 .nil))
abbrev n_law_great : List Str := ["pool", "found", "more", "many", "one"]
noncomputable def f_law_great : FnD := ⟨"_law_great", [1, 0, 0], 0, run [1, 0, 0] 5 b_law_great⟩
theorem m_law_great : f_law_great.ms = [1, 0, 0] := rfl
theorem k_law_great : f_law_great.rk = 0 := rfl
theorem e_law_great : f_law_great.den = run [1, 0, 0] 5 b_law_great := rfl
end LP

-- part FSd
set_option Elab.async false
set_option linter.all false
set_option maxRecDepth 100000
set_option maxHeartbeats 1000000
namespace FS
open PySem L2 DL LP
/-! parting -/
noncomputable abbrev b_Line_parting : S :=
 (.cons (.ife (.eqo 0 f_Line_eq (.name 0) (.name 1))
 (.cons (.ret (.lit .non))
 .nil)
 .nil)
 (.cons (.set (.one (.sl 3)) (.name 2))
 (.cons (.whl (.cmp .eq (.mth 0 f_Line_at (.name 0) (.cons (.name 3) .nil)) (.mth 0 f_Line_at (.name 1) (.cons (.name 3) .nil)))
 (.cons (.set (.one (.sl 3)) (.bin .add (.name 3) (.lit (.int 1))))
 .nil))
 (.cons (.ret (.name 3))
 .nil))))
abbrev n_Line_parting : List Str := ["self", "other", "start", "n"]
noncomputable def f_Line_parting : FnD := ⟨"parting", [0, 0, 0], 0, run [0, 0, 0] 4 b_Line_parting⟩
theorem m_Line_parting : f_Line_parting.ms = [0, 0, 0] := rfl
theorem k_Line_parting : f_Line_parting.rk = 0 := rfl
theorem e_Line_parting : f_Line_parting.den = run [0, 0, 0] 4 b_Line_parting := rfl
/-! gaps -/
noncomputable abbrev b_Line_gaps : S :=
 (.cons (.set (.one (.sl 3)) (.app f_common_multiple (.cons (.lno 0 f_Line_len (.name 0)) (.cons (.lno 0 f_Line_len (.name 1)) .nil))))
 (.cons (.set (.one (.sl 5)) (.comp [4] (.irg2 (.name 2) (.bin .add (.name 2) (.name 3))) .nil (.bin .sub (.mth 0 f_Line_at (.name 0) (.cons (.name 4) .nil)) (.mth 0 f_Line_at (.name 1) (.cons (.name 4) .nil)))))
 (.cons (.ret (.tup (.cons (.name 5) (.cons (.bin .sub (.bin .sub (.mth 0 f_Line_at (.name 0) (.cons (.bin .add (.name 2) (.name 3)) .nil)) (.mth 0 f_Line_at (.name 1) (.cons (.bin .add (.name 2) (.name 3)) .nil))) (.idx (.name 5) (.lit (.int 0)))) .nil))))
 .nil)))
abbrev n_Line_gaps : List Str := ["self", "other", "start", "period", "n", "found"]
noncomputable def f_Line_gaps : FnD := ⟨"gaps", [0, 0, 0], 0, run [0, 0, 0] 6 b_Line_gaps⟩
theorem m_Line_gaps : f_Line_gaps.ms = [0, 0, 0] := rfl
theorem k_Line_gaps : f_Line_gaps.rk = 0 := rfl
theorem e_Line_gaps : f_Line_gaps.den = run [0, 0, 0] 6 b_Line_gaps := rfl
/-! meetings -/
noncomputable abbrev b_Line_meetings : S :=
 (.cons (.set (.tup [(.sl 4), (.sl 3)]) (.mth 0 f_Line_gaps (.name 0) (.cons (.name 1) (.cons (.name 2) .nil))))
 (.cons (.seto 1 5 (.lst .nil))
 (.cons (.for_ [7, 6] (.ienum (.name 4))
 (.cons (.ife (.cmp .eq (.name 6) (.lit (.int 0)))
 (.cons (.app 5 .nil (.bin .add (.name 2) (.name 7)))
 .nil)
 (.cons (.ife (.andv (.cmp .ne (.name 3) (.lit (.int 0))) (.andv (.cmp .eq (.bin .mod (.name 6) (.name 3)) (.lit (.int 0))) (.cmp .gt (.bin .fdiv (.neg (.name 6)) (.name 3)) (.lit (.int 0)))))
 (.cons (.app 5 .nil (.bin .add (.bin .add (.name 2) (.name 7)) (.bin .mul (.blt .len (.cons (.name 4) .nil)) (.bin .fdiv (.neg (.name 6)) (.name 3)))))
 .nil)
 .nil)
 .nil))
 .nil))
 (.cons (.frz 5)
 (.cons (.ret (.blt .sorted (.cons (.name 5) .nil)))
 .nil)))))
abbrev n_Line_meetings : List Str := ["self", "other", "start", "step", "gaps", "found", "gap", "spot"]
noncomputable def f_Line_meetings : FnD := ⟨"meetings", [0, 0, 0], 0, run [0, 0, 0] 8 b_Line_meetings⟩
theorem m_Line_meetings : f_Line_meetings.ms = [0, 0, 0] := rfl
theorem k_Line_meetings : f_Line_meetings.rk = 0 := rfl
theorem e_Line_meetings : f_Line_meetings.den = run [0, 0, 0] 8 b_Line_meetings := rfl
/-! meeting -/
noncomputable abbrev b_Line_meeting : S :=
 (.cons (.set (.one (.sl 3)) (.mth 0 f_Line_meetings (.name 0) (.cons (.name 1) (.cons (.name 2) .nil))))
 (.cons (.ret (.ife (.cmp .eq (.name 3) (.lst .nil)) (.lit .non) (.idx (.name 3) (.lit (.int 0)))))
 .nil))
abbrev n_Line_meeting : List Str := ["self", "other", "start", "found"]
noncomputable def f_Line_meeting : FnD := ⟨"meeting", [0, 0, 0], 0, run [0, 0, 0] 4 b_Line_meeting⟩
theorem m_Line_meeting : f_Line_meeting.ms = [0, 0, 0] := rfl
theorem k_Line_meeting : f_Line_meeting.rk = 0 := rfl
theorem e_Line_meeting : f_Line_meeting.den = run [0, 0, 0] 4 b_Line_meeting := rfl
end FS

-- part FSp
set_option Elab.async false
set_option linter.all false
set_option maxRecDepth 100000
set_option maxHeartbeats 1000000
/-! the program's lines, walked -/
namespace FS
open PySem DL L2 LN
local macro_rules | `(tactic| walk_at "dl") => `(tactic| simp -implicitDefEqProofs only [DL.x_nil, DL.x_cons, DL.x_pass, DL.x_set, DL.x_ife, DL.x_par, DL.x_for, DL.x_whl, DL.x_ret, DL.x_retn, DL.x_drop, DL.x_sub, DL.x_app, DL.x_ext, DL.x_seto, DL.x_reto, DL.k_set, DL.k_seto, DL.k_par, DL.k_par2, DL.k_ife, DL.k_for,
  DL.k_ret, DL.k_reto, DL.k_drop, DL.k_sub, DL.k_sub2, DL.k_app, DL.k_ext, DL.q_name, DL.q_lit, DL.q_bin, DL.q_neg, DL.q_cmp, DL.q_and, DL.q_or, DL.q_not, DL.q_ife, DL.q_tup, DL.q_lst, DL.q_idx, DL.q_app, DL.q_blt, DL.q_fld,
  DL.q_nil, DL.q_cio, DL.q_cwk, DL.q_chn, DL.q_slc, DL.q_mth, DL.q_lno, DL.q_prp, DL.q_addo, DL.q_eqo, DL.q_mk, DL.q_appk, DL.q_mthk, DL.q_mkk, DL.q_comp, DL.qc_name, DL.qc_lit, DL.qc_bin, DL.qc_neg, DL.qc_cmp, DL.qc_chn, DL.qc_andv,
  DL.qc_orv, DL.qc_notv, DL.qc_ife, DL.qc_tup, DL.qc_lst, DL.qc_idx, DL.qc_slc, DL.qc_app, DL.qc_blt, DL.qc_fld, DL.qc_prp, DL.qc_mth, DL.qc_lno, DL.qc_addo, DL.qc_eqo, DL.qc_mk, DL.qc_appk, DL.qc_mthk, DL.qc_mkk, DL.qc_comp,
  DL.r_chn, DL.r_chn1, DL.r_chn3, DL.r_chn2, DL.r_slc, DL.r_slcp, DL.r_slc2, DL.r_slc3, DL.r_mth, DL.r_mth2, DL.r_lno, DL.r_lno1, DL.r_prp, DL.W.prO, DL.pr_ok, DL.r_addo, DL.r_add1, DL.r_eqo, DL.r_eq1, DL.r_eq2, DL.r_mk, DL.r_mkS, DL.r_mkN, DL.r_mkW, DL.r_mkWO, DL.strong_wk, DL.noW_wk, Option.map_none, DL.r_mk2,
  DL.r_mko, DL.r_appk, DL.r_appk2, DL.r_mthk, DL.r_mthk2, DL.r_mthk3, DL.r_mkk, DL.r_mkk1, DL.kwO_eq, DL.perm_nil, DL.perm_cons, DL.permR_some, DL.prt_nil, DL.prt_e, DL.k_prt, DL.notNil, DL.q_ilst, DL.q_iscr, DL.q_itup, DL.q_ir1,
  DL.q_ir2, DL.q_ien, DL.q_izp, DL.r_ilst, DL.r_iscr, DL.r_itup, DL.r_ir1, DL.r_ir2, DL.r_ir2b, DL.r_ien, DL.r_izp, DL.r_izp2, DL.rangeL_rg, DL.tstR_nil, DL.tst_e, DL.k_tst, DL.elt_e, DL.k_elt, DL.q_is1, DL.q_is2, DL.free_nil,
  DL.free_cons, DL.free_un, DL.free_val, DL.blank_nil, DL.blank_cons, DL.back_nil, DL.back_cons, DL.back_some, DL.q_call, DL.call_some, DL.call_k, DL.call_k2, DL.a_nil, DL.a_d, DL.a_wk, DL.a_io1, DL.a_io2, DL.a_wk2, DL.a_io3,
  DL.q_lent, DL.lentR_own, DL.lent_io, DL.pb_nil, DL.pb_cons, DL.pb_own, DL.pb_io, DL.ios_nil, DL.ios_d, DL.ios_wk, DL.ios_io, DL.wks_nil, DL.wks_d, DL.wks_wk, DL.wks_io, DL.okAr_eq, DL.nodup0, DL.nodup1, DL.q_held, DL.held_own,
  DL.held_io, DL.q_seq, DL.k_seq1, DL.k_seq2, DL.k_seq3, DL.k_seq4, List.all_nil, List.all_cons, List.isEmpty_nil, List.isEmpty_cons, Bool.true_or, Bool.or_true, Bool.false_or, Bool.or_false, Bool.not_true, Bool.not_false,
  Bool.false_and, Bool.and_false, DL.r_tup2, DL.r_lst2, DL.lim, Nat.reduceLeDiff, DL.n_val, DL.n_own, DL.n_io, DL.r_R, DL.r_bin, DL.r_binp, DL.r_bin2, DL.r_neg, DL.r_B, DL.r_cmp, DL.r_cmpp, DL.r_cmp2, DL.r_bl, DL.r_and, DL.r_or,
  DL.r_not, DL.r_if, DL.r_tup, DL.r_lst, DL.r_W, DL.r_idx, DL.r_idxp, DL.r_idx2, DL.r_D, DL.r_app, DL.r_blt, DL.r_blt2, DL.r_fld, DL.r_cons, DL.r_consp, DL.r_cons2, DL.r_io, DL.r_wk, DL.d_add, DL.d_sub, DL.d_lt, DL.d_le, DL.d_gt,
  DL.d_ge, DL.d_idxl, DL.d_idxt, DL.d_idxs, DL.ix_some, DL.at0, DL.at1, DL.at2, DL.q_sub, DL.sub_own, DL.sub_io, DL.sub_o, DL.sub_i, DL.ix30, DL.ix31, DL.ix32, DL.q_setSl, DL.set_un, DL.set_val, DL.set_own, DL.set_nio, DL.q_setTg,
  DL.q_setTup, DL.q_tis0, DL.q_tis, DL.b_int, DL.b_abs, DL.b_max2, DL.b_min2, DL.b_lenl, DL.b_lent, DL.b_lens, DL.isL_own, DL.isL_io, DL.e_nx, DL.e_ret, DL.okOuts, DL.outsOf, DL.weaks, DL.strong, Option.map_some, DL.ofO_some,
  DL.E.pure, Bool.and_self, Bool.and_true, Bool.true_and, DL.ownL, List.map_cons, List.map_nil, List.length_map, DL.d_eq, DL.d_ne, DL.dEq_int, DL.grow_own, DL.grow_io, DL.q_grow, DL.W.bind, DL.W.ok, DL.Res.bind_ok, List.getElem?_cons_zero,
  List.getElem?_cons_succ, List.length_cons, List.length_nil, List.replicate, List.cons_append, List.nil_append, List.set_cons_zero, List.set_cons_succ, Nat.reduceAdd, Nat.reduceSub, Nat.reduceBEq, Nat.reduceEqDiff, beq_self_eq_true,
  Int.reduceLE, Int.reduceLT, Int.reduceToNat, Int.reduceNeg, Int.reduceAdd, Int.reduceSub, Int.reduceMul, DL.initS, decide_true, decide_false, ↓reduceIte, Bool.false_eq_true, eq_self, and_self, true_and, and_true, DL.LoopQ,
  DL.x_aug, DL.aug_val, DL.k_aug2, DL.frz_own, DL.x_brk, DL.x_cnt, DL.x_retm, DL.retm_own, DL.x_frz, DL.d_powc, DL.powR_t, Int.reducePow, DL.b_tuple, DL.b_tuple1, DL.b_list0, DL.b_list1, DL.b_listt, DL.b_lists, DL.dsl_lst0,
  DL.dsl_lst1, DL.dsl_tup, DL.b_all, DL.b_any, DL.cln_non, DL.cln_int, DL.cln_bl, DL.cln_str, DL.cln_lst, DL.cln_tup, DL.all_map_int, DL.d_catc, DL.d_tcat, DL.q_isi, DL.r_isi, DL.isiD_obj, DL.isiD_lst, DL.isiD_tup, DL.isiD_non, DL.isiD_int, DL.isiD_bl, DL.isiD_str, DL.q_lrg, DL.r_lrg, DL.r_lrg1, DL.r_lrg2, DL.qc_isi, DL.qc_lrg, Option.isSome_some, DL.asB_bl, DL.asI_int, DL.q_star, DL.r_star, DL.r_star1, DL.r_star2, DL.sq_lst, DL.sq_tup, DL.q_apps, DL.r_apps, DL.r_apps1, DL.q_dget, DL.r_dget, DL.q_glc, DL.qc_apps, DL.qc_dget, DL.qc_glc, DL.strong_map, DL.strong_map0, DL.b_intt, DL.b_intf, DL.q_ir3, DL.r_ir3a, DL.r_ir3b, DL.r_ir3c, DL.x_paro, DL.k_paro, DL.eo_nil, DL.eo_t, DL.eo_f, DL.k_eot, DL.k_eof, DL.k_eo2, DL.x_appd, DL.k_appd, DL.k_appd2, DL.so_nil, DL.so_t, DL.so_f, DL.k_so, DL.k_nx, DL.x_setm, DL.k_setm, DL.il_lst, DL.il_int, DL.il_str, DL.fl_int, DL.fl_str, DL.x_rett, DL.k_rett, DL.k_rett1, DL.tk_nil, DL.tk_d, DL.tk_wk, DL.tk_own, DL.k_tk, DL.plainA, DL.ownT, m_check_line, m_has_period, m_divisors_of, m_least_form, m_Line_init, m_Line_len, m_Line_at, m_Line_least_at, k_check_line, k_has_period, k_divisors_of, k_least_form, k_Line_init, k_Line_len, k_Line_at, k_Line_least_at])
local macro_rules | `(tactic| walk_at "wk") => `(tactic| repeat (first
  | walk_at "dl"
  | rw [DL.atI_ints (by omega) (by omega)]
  | rw [DL.d_mod (by omega)]
  | rw [DL.d_mul (DL.mulOk_r (by omega))]
  | rw [DL.d_mul (DL.mulOk_l (by omega))]
  | rw [DL.d_fdiv (DL.divOk (by omega) (by omega))]
  | rw [if_pos (by omega)]
  | rw [decide_eq_true (by omega)]
  | rw [decide_eq_false (by omega)]))
/-- a line as an object -/
abbrev lineD (s : List Int) (r : Int) : D := .nd (.obj 0 ["kept_starts", "kept_rise"]) [.tup (s.map .int), .int r]
theorem check_line {s : List Int} {r : Int} (o : Ok s r) (hl : s.length ≤ 50000) : f_check_line.den [.lst (s.map .int), .int r] = .ok (.non, []) := by
  have h := o.ne
  apply W.eq
  rw [e_check_line, run_eq rfl]
  walk_at "dl"
  have e1 : dEq (.lst (s.map .int)) (.lst []) = .ok false := by
    rw [dEq_cln (b := false) (by simp [cln, cln_int]) (by simp [cln])]
    congr 1
    rw [decide_eq_false_iff_not]
    intro e
    cases s with
    | nil => simp at h
    | cons a t => simp at e
  rw [e1]
  walk_at "dl"
  refine W_for (I := fun _ env => ∃ (t : Sl) (_ : Nio t), env = [.val (.lst (s.map .int)), .val (.int r), t]) ⟨_, inferInstance, rfl⟩ ?_ ?_
  · rintro i x _ hx ⟨t, ht, rfl⟩
    obtain ⟨v, hv, rfl⟩ : ∃ v, (rg 1 ((s.length : Int) - 1).toNat)[i]? = some v ∧ D.int v = x := by simpa using hx
    obtain ⟨hi, rfl⟩ := rg_get_of hv
    walk_at "dl"
    rw [atI_ints (by omega) (by omega)]
    walk_at "dl"
    rw [atI_ints (by omega) (by omega)]
    walk_at "dl"
    have := o.up i (by omega)
    have e2 : ((i + 1 : Nat) : Int) = 1 + (i : Int) := by omega
    rw [e2] at this
    rw [show (1 : Int) + i - 1 = i by omega, decide_eq_false (by omega)]
    walk_at "dl"
    exact ⟨_, inferInstance, rfl⟩
  · rintro _ ⟨t, ht, rfl⟩
    walk_at "dl"
    rw [atI_ints (by omega) (by omega), gI_last (i := s.length - 1) (by omega)]
    walk_at "dl"
    rw [atI_ints (by omega) (by omega)]
    walk_at "dl"
    have := o.la
    rw [decide_eq_false (by omega)]
    walk_at "dl"
theorem has_period {s : List Int} {r p : Int} (hl : s.length ≤ 50000) (hp : 0 < p) (hp2 : p ≤ s.length) : f_has_period.den [.lst (s.map .int), .int r, .int p] = .ok (.bl (hasPer s r p), []) := by
  apply W.eq
  rw [e_has_period, run_eq rfl]
  walk_at "dl"
  rw [d_mul (mulOk_r (by omega))]
  walk_at "dl"
  rw [d_mod (by omega)]
  walk_at "dl"
  by_cases c : (r * p).fmod s.length = 0
  · rw [decide_eq_true c]
    walk_at "dl"
    rw [d_mul (mulOk_r (by omega))]
    walk_at "dl"
    rw [d_fdiv (divOk (by omega) (by omega))]
    walk_at "dl"
    rw [if_pos (by omega)]
    walk_at "dl"
    refine W_list (p := fun _ => true) (g := fun i => .bl (decide (gI s (i + p) = gI s i + (r * p).fdiv s.length))) (by walk_at "dl") (by rw [rg_len]; simp only [lim]; omega) ?_ ?_
    · intro i hi
      rw [mem_rg] at hi
      walk_at "dl"
      rw [atI_ints (by omega) (by omega)]
      walk_at "dl"
      rw [atI_ints (by omega) (by omega)]
      walk_at "dl"
    · walk_at "dl"
      simp [hasPer, c]
  · rw [decide_eq_false c]
    walk_at "dl"
    simp [hasPer, c]
theorem divisors_of {n : Nat} (h : 0 < n) (h2 : n ≤ 50000) : f_divisors_of.den [.int n] = .ok (.lst (((rg 1 n).filter fun p => decide ((n : Int).fmod p = 0)).map .int), []) := by
  apply W.eq
  rw [e_divisors_of, run_eq rfl]
  walk_at "dl"
  refine W_list (p := fun p => decide ((n : Int).fmod p = 0)) (g := .int) (by walk_at "dl") (by rw [rg_len]; simp only [lim]; omega) ?_ ?_
  · intro i hi
    rw [mem_rg] at hi
    walk_at "dl"
    rw [d_mod (by omega)]
    walk_at "dl"
    by_cases c : (n : Int).fmod i = 0
    · simp [c]
    · simp [c]
  · walk_at "dl"
    rw [show ((n : Int) + 1 - 1).toNat = n by omega]
theorem least_form {s : List Int} {r : Int} (h : 0 < s.length) (hl : s.length ≤ 50000) : f_least_form.den [.lst (s.map .int), .int r] = .ok (.tup [.tup ((lform s r).1.map .int), .int (lform s r).2], []) := by
  obtain ⟨p0, t0, ep, hp1, hp2, hp3, hp4⟩ := pers_ne (r := r) h
  apply W.eq
  rw [e_least_form, run_eq rfl]
  walk_at "dl"
  rw [divisors_of h hl]
  walk_at "dl"
  refine W_list (p := fun p => hasPer s r p) (g := .int) (by walk_at "dl") ?_ ?_ ?_
  · have := List.length_filter_le (fun p => decide ((s.length : Int).fmod p = 0)) (rg 1 s.length)
    rw [rg_len] at this
    simp only [lim]; omega
  · intro i hi
    simp only [List.mem_filter, mem_rg] at hi
    walk_at "dl"
    rw [has_period hl (by omega) (by omega)]
    walk_at "dl"
    by_cases c : hasPer s r i = true
    · simp only [c, ↓reduceIte]
      try walk_at "dl"
    · simp [c]
  · walk_at "dl"
    have e : ((rg 1 s.length).filter fun p => decide ((s.length : Int).fmod p = 0)).filter (fun p => hasPer s r p) = p0 :: t0 := ep
    rw [e]
    walk_at "dl"
    rw [cutL_to (by omega), d_mul (mulOk_r (by omega))]
    walk_at "dl"
    rw [d_fdiv (divOk (by omega) (by omega))]
    walk_at "dl"
    simp [lform, lper, ep, List.map_take]
theorem init_set {a b x y : D} : setTis [.io 1 (.nd (.obj 0 []) []), .val a, .val b] [.at 0 0 "kept_starts", .at 0 0 "kept_rise"] [x, y] = .ok [.io 1 (.nd (.obj 0 ["kept_starts", "kept_rise"]) [x, y]), .val a, .val b] := by
  rfl
theorem line_init {s : List Int} {r : Int} (o : Ok s r) (hl : s.length ≤ 50000) : f_Line_init.den [.nd (.obj 0 []) [], .lst (s.map .int), .int r] = .ok (.non, [lineD (lform s r).1 (lform s r).2]) := by
  apply W.eq
  rw [e_Line_init, run_eq rfl]
  walk_at "dl"
  rw [check_line o hl]
  walk_at "dl"
  rw [least_form o.ne hl]
  walk_at "dl"
  rw [init_set]
  walk_at "dl"
theorem fld_starts {s : List Int} {r : Int} : fieldOf 0 "kept_starts" (0, lineD s r) = .ok (0, .tup (s.map .int)) := by rfl
theorem fld_rise {s : List Int} {r : Int} : fieldOf 0 "kept_rise" (0, lineD s r) = .ok (0, .int r) := by rfl
theorem line_len {s : List Int} {r : Int} : f_Line_len.den [lineD s r] = .ok (.int s.length, []) := by
  apply W.eq
  rw [e_Line_len, run_eq rfl]
  walk_at "dl"
  rw [fld_starts]
  walk_at "dl"
theorem line_at {s : List Int} {r n : Int} (h : 0 < s.length) (hl : s.length ≤ 50000) (hr : r.natAbs < 2 ^ 500) (hn : n.natAbs < 2 ^ 500) : f_Line_at.den [lineD s r, .int n] = .ok (.int (lat s r n), []) := by
  have h1 : 0 ≤ n.fmod s.length := Int.fmod_nonneg_of_pos _ (by omega)
  have h2 : n.fmod s.length < s.length := Int.fmod_lt_of_pos _ (by omega)
  have h3 := natAbs_fdiv_le (n := n) (p := s.length) (by omega)
  apply W.eq
  rw [e_Line_at, run_eq rfl]
  walk_at "dl"
  rw [fld_starts]
  walk_at "dl"
  rw [fld_starts]
  walk_at "dl"
  rw [d_mod (by omega)]
  walk_at "dl"
  rw [atI_ints (by omega) (by omega)]
  walk_at "dl"
  rw [fld_rise]
  walk_at "dl"
  rw [d_fdiv (divOk (by omega) (by omega))]
  walk_at "dl"
  rw [d_mul (mulOk_big hr (Nat.lt_of_le_of_lt h3 hn))]
  walk_at "dl"
  rfl
theorem nf_Line_at : (["kept_starts", "kept_rise"] : List Str).contains f_Line_at.name = false := by decide +kernel
theorem nf_Line_least_at : (["kept_starts", "kept_rise"] : List Str).contains f_Line_least_at.name = false := by decide +kernel
theorem line_least0 {s : List Int} {r v : Int} (c : r = 0) : f_Line_least_at.den [lineD s r, .int v] = .ok (optD (leastAt s r v), []) := by
  apply W.eq
  rw [e_Line_least_at, run_eq rfl]
  walk_at "dl"
  rw [fld_rise]
  walk_at "dl"
  rw [decide_eq_true c]
  walk_at "dl"
  rw [leastAt, if_pos c]; rfl
theorem line_least {s : List Int} {r v : Int} (o : Ok s r) (hl : s.length ≤ 40000) (hr : r.natAbs < 2 ^ 500) (hb : (lbeg s r v).natAbs + 80001 < 2 ^ 500) : f_Line_least_at.den [lineD s r, .int v] = .ok (optD (leastAt s r v), []) := by
  have h := o.ne
  apply W.eq
  rw [e_Line_least_at, run_eq rfl]
  walk_at "dl"
  rw [fld_rise]
  walk_at "dl"
  by_cases c : r = 0
  · rw [decide_eq_true c]
    walk_at "dl"
    rw [leastAt, if_pos c]; rfl
  · rw [decide_eq_false c]
    walk_at "dl"
    rw [line_len]
    walk_at "dl"
    rw [if_pos (by omega)]
    walk_at "dl"
    rw [fld_starts]
    walk_at "dl"
    rw [atI_ints (by omega) (by omega)]
    walk_at "dl"
    rw [fld_rise]
    walk_at "dl"
    have h0 := rise_nn o
    have hd : DivOk r = true := by
      have := log2_big (by decide) hr
      simp only [DivOk, Bool.and_eq_true, decide_eq_true_eq]
      omega
    rw [d_fdiv hd]
    walk_at "dl"
    rw [d_mul (mulOk_r (by omega))]
    walk_at "dl"
    rw [d_mul (mulOk_r (by omega))]
    walk_at "dl"
    have e0 : ((v - gI s 0).fdiv r - 1) * (s.length : Int) = lbeg s r v := rfl
    rw [e0, show (lbeg s r v + 2 * (s.length : Int) + 1 - lbeg s r v).toNat = 2 * s.length + 1 by omega]
    refine W_list (p := fun n => decide (v ≤ lat s r n)) (g := .int) (by walk_at "dl") (by rw [rg_len]; simp only [lim]; omega) ?_ ?_
    · intro i hi
      rw [mem_rg] at hi
      walk_at "dl"
      rw [nf_Line_at]
      walk_at "dl"
      rw [line_at h (by omega) hr (by omega)]
      walk_at "dl"
      by_cases c : v ≤ lat s r i
      · simp [c]
        try walk_at "dl"
      · simp [c]
    · walk_at "dl"
      have e2 : (rg (lbeg s r v) (2 * s.length + 1)).filter (fun n => decide (v ≤ lat s r n)) = leastL s r v := rfl
      rw [e2]
      obtain ⟨n, e3, _⟩ := leastL_some (v := v) o c
      have e4 : atI ((leastL s r v).map D.int) 0 = some (.int n) := by
        rw [atI_map]
        cases e5 : leastL s r v with
        | nil => rw [e5] at e3; simp at e3
        | cons a l => rw [e5] at e3; simp at e3; subst e3; rw [at0]; rfl
      rw [e4]
      walk_at "dl"
      rw [leastAt, if_neg c, e3]; rfl
end FS

-- part FSq
set_option Elab.async false
set_option linter.all false
set_option maxRecDepth 100000
set_option maxHeartbeats 1000000
/-! the program's lines, walked: sums, one behind another, == -/
namespace FS
open PySem DL L2 LN
local macro_rules | `(tactic| walk_at "dl") => `(tactic| simp -implicitDefEqProofs only [DL.x_nil, DL.x_cons, DL.x_pass, DL.x_set, DL.x_ife, DL.x_par, DL.x_for, DL.x_whl, DL.x_ret, DL.x_retn, DL.x_drop, DL.x_sub, DL.x_app, DL.x_ext, DL.x_seto, DL.x_reto, DL.k_set, DL.k_seto, DL.k_par, DL.k_par2, DL.k_ife, DL.k_for,
  DL.k_ret, DL.k_reto, DL.k_drop, DL.k_sub, DL.k_sub2, DL.k_app, DL.k_ext, DL.q_name, DL.q_lit, DL.q_bin, DL.q_neg, DL.q_cmp, DL.q_and, DL.q_or, DL.q_not, DL.q_ife, DL.q_tup, DL.q_lst, DL.q_idx, DL.q_app, DL.q_blt, DL.q_fld,
  DL.q_nil, DL.q_cio, DL.q_cwk, DL.q_chn, DL.q_slc, DL.q_mth, DL.q_lno, DL.q_prp, DL.q_addo, DL.q_eqo, DL.q_mk, DL.q_appk, DL.q_mthk, DL.q_mkk, DL.q_comp, DL.qc_name, DL.qc_lit, DL.qc_bin, DL.qc_neg, DL.qc_cmp, DL.qc_chn, DL.qc_andv,
  DL.qc_orv, DL.qc_notv, DL.qc_ife, DL.qc_tup, DL.qc_lst, DL.qc_idx, DL.qc_slc, DL.qc_app, DL.qc_blt, DL.qc_fld, DL.qc_prp, DL.qc_mth, DL.qc_lno, DL.qc_addo, DL.qc_eqo, DL.qc_mk, DL.qc_appk, DL.qc_mthk, DL.qc_mkk, DL.qc_comp,
  DL.r_chn, DL.r_chn1, DL.r_chn3, DL.r_chn2, DL.r_slc, DL.r_slcp, DL.r_slc2, DL.r_slc3, DL.r_mth, DL.r_mth2, DL.r_lno, DL.r_lno1, DL.r_prp, DL.W.prO, DL.pr_ok, DL.r_addo, DL.r_add1, DL.r_eqo, DL.r_eq1, DL.r_eq2, DL.r_mk, DL.r_mkS, DL.r_mkN, DL.r_mkW, DL.r_mkWO, DL.strong_wk, DL.noW_wk, Option.map_none, DL.r_mk2,
  DL.r_mko, DL.r_appk, DL.r_appk2, DL.r_mthk, DL.r_mthk2, DL.r_mthk3, DL.r_mkk, DL.r_mkk1, DL.kwO_eq, DL.perm_nil, DL.perm_cons, DL.permR_some, DL.prt_nil, DL.prt_e, DL.k_prt, DL.notNil, DL.q_ilst, DL.q_iscr, DL.q_itup, DL.q_ir1,
  DL.q_ir2, DL.q_ien, DL.q_izp, DL.r_ilst, DL.r_iscr, DL.r_itup, DL.r_ir1, DL.r_ir2, DL.r_ir2b, DL.r_ien, DL.r_izp, DL.r_izp2, DL.rangeL_rg, DL.tstR_nil, DL.tst_e, DL.k_tst, DL.elt_e, DL.k_elt, DL.q_is1, DL.q_is2, DL.free_nil,
  DL.free_cons, DL.free_un, DL.free_val, DL.blank_nil, DL.blank_cons, DL.back_nil, DL.back_cons, DL.back_some, DL.q_call, DL.call_some, DL.call_k, DL.call_k2, DL.a_nil, DL.a_d, DL.a_wk, DL.a_io1, DL.a_io2, DL.a_wk2, DL.a_io3,
  DL.q_lent, DL.lentR_own, DL.lent_io, DL.pb_nil, DL.pb_cons, DL.pb_own, DL.pb_io, DL.ios_nil, DL.ios_d, DL.ios_wk, DL.ios_io, DL.wks_nil, DL.wks_d, DL.wks_wk, DL.wks_io, DL.okAr_eq, DL.nodup0, DL.nodup1, DL.q_held, DL.held_own,
  DL.held_io, DL.q_seq, DL.k_seq1, DL.k_seq2, DL.k_seq3, DL.k_seq4, List.all_nil, List.all_cons, List.isEmpty_nil, List.isEmpty_cons, Bool.true_or, Bool.or_true, Bool.false_or, Bool.or_false, Bool.not_true, Bool.not_false,
  Bool.false_and, Bool.and_false, DL.r_tup2, DL.r_lst2, DL.lim, Nat.reduceLeDiff, DL.n_val, DL.n_own, DL.n_io, DL.r_R, DL.r_bin, DL.r_binp, DL.r_bin2, DL.r_neg, DL.r_B, DL.r_cmp, DL.r_cmpp, DL.r_cmp2, DL.r_bl, DL.r_and, DL.r_or,
  DL.r_not, DL.r_if, DL.r_tup, DL.r_lst, DL.r_W, DL.r_idx, DL.r_idxp, DL.r_idx2, DL.r_D, DL.r_app, DL.r_blt, DL.r_blt2, DL.r_fld, DL.r_cons, DL.r_consp, DL.r_cons2, DL.r_io, DL.r_wk, DL.d_add, DL.d_sub, DL.d_lt, DL.d_le, DL.d_gt,
  DL.d_ge, DL.d_idxl, DL.d_idxt, DL.d_idxs, DL.ix_some, DL.at0, DL.at1, DL.at2, DL.q_sub, DL.sub_own, DL.sub_io, DL.sub_o, DL.sub_i, DL.ix30, DL.ix31, DL.ix32, DL.q_setSl, DL.set_un, DL.set_val, DL.set_own, DL.set_nio, DL.q_setTg,
  DL.q_setTup, DL.q_tis0, DL.q_tis, DL.b_int, DL.b_abs, DL.b_max2, DL.b_min2, DL.b_lenl, DL.b_lent, DL.b_lens, DL.isL_own, DL.isL_io, DL.e_nx, DL.e_ret, DL.okOuts, DL.outsOf, DL.weaks, DL.strong, Option.map_some, DL.ofO_some,
  DL.E.pure, Bool.and_self, Bool.and_true, Bool.true_and, DL.ownL, List.map_cons, List.map_nil, List.length_map, DL.d_eq, DL.d_ne, DL.dEq_int, DL.grow_own, DL.grow_io, DL.q_grow, DL.W.bind, DL.W.ok, DL.Res.bind_ok, List.getElem?_cons_zero,
  List.getElem?_cons_succ, List.length_cons, List.length_nil, List.replicate, List.cons_append, List.nil_append, List.set_cons_zero, List.set_cons_succ, Nat.reduceAdd, Nat.reduceSub, Nat.reduceBEq, Nat.reduceEqDiff, beq_self_eq_true,
  Int.reduceLE, Int.reduceLT, Int.reduceToNat, Int.reduceNeg, Int.reduceAdd, Int.reduceSub, Int.reduceMul, DL.initS, decide_true, decide_false, ↓reduceIte, Bool.false_eq_true, eq_self, and_self, true_and, and_true, DL.LoopQ,
  DL.x_aug, DL.aug_val, DL.k_aug2, DL.frz_own, DL.x_brk, DL.x_cnt, DL.x_retm, DL.retm_own, DL.x_frz, DL.d_powc, DL.powR_t, Int.reducePow, DL.b_tuple, DL.b_tuple1, DL.b_list0, DL.b_list1, DL.b_listt, DL.b_lists, DL.dsl_lst0,
  DL.dsl_lst1, DL.dsl_tup, DL.b_all, DL.b_any, DL.cln_non, DL.cln_int, DL.cln_bl, DL.cln_str, DL.cln_lst, DL.cln_tup, DL.all_map_int, DL.d_catc, DL.d_tcat, DL.q_isi, DL.r_isi, DL.isiD_obj, DL.isiD_lst, DL.isiD_tup, DL.isiD_non, DL.isiD_int, DL.isiD_bl, DL.isiD_str, DL.q_lrg, DL.r_lrg, DL.r_lrg1, DL.r_lrg2, DL.qc_isi, DL.qc_lrg, Option.isSome_some, DL.asB_bl, DL.asI_int, DL.q_star, DL.r_star, DL.r_star1, DL.r_star2, DL.sq_lst, DL.sq_tup, DL.q_apps, DL.r_apps, DL.r_apps1, DL.q_dget, DL.r_dget, DL.q_glc, DL.qc_apps, DL.qc_dget, DL.qc_glc, DL.strong_map, DL.strong_map0, DL.b_intt, DL.b_intf, DL.q_ir3, DL.r_ir3a, DL.r_ir3b, DL.r_ir3c, DL.x_paro, DL.k_paro, DL.eo_nil, DL.eo_t, DL.eo_f, DL.k_eot, DL.k_eof, DL.k_eo2, DL.x_appd, DL.k_appd, DL.k_appd2, DL.so_nil, DL.so_t, DL.so_f, DL.k_so, DL.k_nx, DL.x_setm, DL.k_setm, DL.il_lst, DL.il_int, DL.il_str, DL.fl_int, DL.fl_str, DL.x_rett, DL.k_rett, DL.k_rett1, DL.tk_nil, DL.tk_d, DL.tk_wk, DL.tk_own, DL.k_tk, DL.plainA, DL.ownT, m_common_divisor, k_common_divisor, m_common_multiple, k_common_multiple, m_Line_len, k_Line_len, m_Line_at, k_Line_at, m_Line_init, k_Line_init, FS.nf_Line_at])
local macro_rules | `(tactic| walk_at "wk") => `(tactic| repeat (first
  | walk_at "dl"
  | rw [DL.atI_ints (by omega) (by omega)]
  | rw [DL.d_mod (by omega)]
  | rw [DL.d_mul (DL.mulOk_r (by omega))]
  | rw [DL.d_mul (DL.mulOk_l (by omega))]
  | rw [DL.d_fdiv (DL.divOk (by omega) (by omega))]
  | rw [if_pos (by omega)]
  | rw [decide_eq_true (by omega)]
  | rw [decide_eq_false (by omega)]))
theorem common_divisor (a b : Nat) : f_common_divisor.den [.int a, .int b] = .ok (.int (Nat.gcd a b), []) := by
  apply W.eq
  rw [e_common_divisor, run_eq rfl]
  walk_at "dl"
  refine W_whl (I := fun n env => ∃ x y : Nat, env = [.val (.int x), .val (.int y)] ∧ y = n ∧ Nat.gcd x y = Nat.gcd a b) b _ ⟨a, b, rfl, rfl, rfl⟩ ?_
  rintro n _ ⟨x, y, rfl, rfl, e⟩
  walk_at "dl"
  by_cases c : 0 < y
  · have c' : (0 : Int) < y := by omega
    rw [decide_eq_true c']
    walk_at "dl"
    rw [d_mod (by omega)]
    walk_at "dl"
    rw [(fdm c').1]
    refine ⟨x % y, Nat.mod_lt _ c, y, x % y, by push_cast; rfl, rfl, ?_⟩
    rw [← e, Nat.gcd_comm x y, Nat.gcd_rec y x, Nat.gcd_comm]
  · have c' : ¬ (0 : Int) < y := by omega
    rw [decide_eq_false c']
    walk_at "dl"
    have : y = 0 := by omega
    subst this
    rw [Nat.gcd_zero_right] at e
    rw [e]
theorem common_multiple {a b : Nat} (ha : 0 < a) (hb : b < 2 ^ 60) (ha2 : a < 2 ^ 60) : f_common_multiple.den [.int a, .int b] = .ok (.int (a / Nat.gcd a b * b : Nat), []) := by
  have hg : 0 < Nat.gcd a b := Nat.gcd_pos_of_pos_left b ha
  have hg2 : Nat.gcd a b ≤ a := Nat.gcd_le_left b ha
  apply W.eq
  rw [e_common_multiple, run_eq rfl]
  walk_at "dl"
  rw [common_divisor]
  walk_at "dl"
  rw [d_fdiv (divOk (by omega) (by omega))]
  walk_at "dl"
  rw [d_mul (mulOk_r (by omega))]
  walk_at "dl"
  rw [(fdm (by omega)).2]
  push_cast
  rfl
theorem lcm_facts {a b : Nat} (ha : 0 < a) (hb : 0 < b) : (∃ k, a / Nat.gcd a b * b = k * a) ∧ 0 < a / Nat.gcd a b * b ∧ a / Nat.gcd a b * b ≤ a * b := by
  have hg : 0 < Nat.gcd a b := Nat.gcd_pos_of_pos_left b ha
  obtain ⟨x, hx⟩ := Nat.gcd_dvd_left a b
  obtain ⟨y, hy⟩ := Nat.gcd_dvd_right a b
  have e1 : a / Nat.gcd a b = x := Nat.div_eq_of_eq_mul_right hg hx
  rw [e1]
  have hx0 : 0 < x := by
    rcases Nat.eq_zero_or_pos x with z | z
    · subst z; omega
    · exact z
  have hxa : x ≤ a := by rw [hx]; exact Nat.le_mul_of_pos_left x hg
  refine ⟨⟨y, ?_⟩, Nat.mul_pos hx0 hb, Nat.mul_le_mul_right b hxa⟩
  generalize Nat.gcd a b = g at *
  rw [hx, hy]
  rw [← Nat.mul_assoc, ← Nat.mul_assoc, Nat.mul_comm x g, Nat.mul_comm y g, Nat.mul_assoc, Nat.mul_assoc, Nat.mul_comm x y]
/-- the sum, the line behind a line, as they are made -/
def addP (s t : List Int) : Nat := s.length / Nat.gcd s.length t.length * t.length
def addL (s : List Int) (r : Int) (t : List Int) (u : Int) : List Int × Int := lform ((rg 0 (addP s t)).map fun n => lat s r n + lat t u n) (lat s r (addP s t) + lat t u (addP s t) - (lat s r 0 + lat t u 0))
def aftP (s t : List Int) (u : Int) : Nat := t.length * (s.length / Nat.gcd s.length u.toNat)
def aftL (s : List Int) (r : Int) (t : List Int) (u : Int) : List Int × Int := lform ((rg 0 (aftP s t u)).map fun n => lat s r (lat t u n)) (lat s r (lat t u (aftP s t u)) - lat s r (lat t u 0))
theorem line_rise {s : List Int} {r : Int} : f_Line_rise.den [lineD s r] = .ok (.int r, []) := by
  apply W.eq
  rw [e_Line_rise, run_eq rfl]
  walk_at "dl"
  rw [fld_rise]
  walk_at "dl"
theorem line_starts {s : List Int} {r : Int} : f_Line_starts.den [lineD s r] = .ok (.lst (s.map .int), []) := by
  apply W.eq
  rw [e_Line_starts, run_eq rfl]
  walk_at "dl"
  rw [fld_starts]
  walk_at "dl"
open Classical in
theorem line_eq {s t : List Int} {r u : Int} : f_Line_eq.den [lineD s r, lineD t u] = .ok (.bl (decide (s = t ∧ r = u)), []) := by
  apply W.eq
  rw [e_Line_eq, run_eq rfl]
  walk_at "dl"
  rw [fld_starts]
  walk_at "dl"
  rw [fld_rise]
  walk_at "dl"
  rw [fld_starts]
  walk_at "dl"
  rw [fld_rise]
  walk_at "dl"
  rw [dEq_cln (b := false) (by simp [cln, cln_int]) (by simp [cln, cln_int])]
  walk_at "dl"
  simp [D.nd.injEq, ints_inj]
theorem line_eq_same {s : List Int} {r : Int} : f_Line_eq.den [lineD s r, lineD s r] = .ok (.bl true, []) := by rw [line_eq]; simp
theorem line_eq_other {s : List Int} {r : Int} {d : D} (h : isiD 0 d = some false) : f_Line_eq.den [lineD s r, d] = .ok (.bl false, []) := by
  apply W.eq
  rw [e_Line_eq, run_eq rfl]
  walk_at "dl"
  rw [h]
  walk_at "dl"
/-- the length's range, for lno -/
theorem line_add {s t : List Int} {r u : Int} {k : Nat} (o : Ok s r) (o2 : Ok t u) (b : LB k s r) (b2 : LB k t u) (hk : k ≤ 400) (hs : s.length ≤ 5000) (hl : s.length * t.length ≤ 50000) :
    W (f_Line_add.den [lineD s r, lineD t u]) fun x => ∃ (s' : List Int) (r' : Int), x = (lineD s' r', []) ∧ addL s r t u = (s', r') ∧ Nf s' r' ∧ (∀ n, lat s' r' n = lat s r n + lat t u n) ∧ s'.length ≤ s.length * t.length ∧ LB (k + 20) s' r' := by
  have h := o.ne
  have h2 := o2.ne
  have ht : t.length ≤ 50000 := by
    have : 1 * t.length ≤ s.length * t.length := Nat.mul_le_mul_right _ h
    omega
  obtain ⟨⟨c, hc⟩, hp, hpl⟩ := lcm_facts h h2
  generalize hpe : s.length / Nat.gcd s.length t.length * t.length = p at hc hp hpl
  have hc2 := hpe.symm
  have big : ∀ i : Int, 0 ≤ i → i ≤ p → Bd 17 i := fun i h1 h2 => by unfold Bd; omega
  have b500 : ∀ {x : Int} {j : Nat}, Bd j x → j ≤ 500 → x.natAbs < 2 ^ 500 := fun h l => h.mono l
  have per := add_per (r := r) (u := u) h h2 hc hc2
  generalize hQ : r * (c : Int) + u * ((s.length / Nat.gcd s.length t.length : Nat) : Int) = Q at per
  obtain ⟨ok, e⟩ := made (f := fun n => lat s r n + lat t u n) hp per (fun n => by have := lat_mono1 o n; have := lat_mono1 o2 n; omega)
  have hml : ((rg 0 p).map fun n => lat s r n + lat t u n).length = p := by simp [rg_len]
  have e0 : gI ((rg 0 p).map fun n => lat s r n + lat t u n) 0 = lat s r 0 + lat t u 0 := by
    have := lat_zero (r := Q) ok.ne
    rw [← this, e]
  have eQ : lat s r p + lat t u p - (lat s r 0 + lat t u 0) = Q := by
    have := per 0
    simp only [Int.zero_add] at this
    omega
  have hnat : ∀ i : Int, 0 ≤ i → i ≤ p → i.natAbs < 2 ^ 500 := fun i a c => b500 (big i a c) (by omega)
  rw [e_Line_add, run_eq rfl]
  walk_at "dl"
  rw [line_len]
  walk_at "dl"
  rw [if_pos (by omega)]
  walk_at "dl"
  rw [line_len]
  walk_at "dl"
  rw [if_pos (by omega)]
  walk_at "dl"
  rw [common_multiple h (by omega) (by omega), hpe]
  walk_at "dl"
  rw [if_pos (by omega)]
  walk_at "dl"
  refine W_list (p := fun _ => true) (g := fun n => .int (lat s r n + lat t u n)) (by walk_at "dl") (by rw [rg_len]; simp only [lim]; omega) ?_ ?_
  · intro i hi
    rw [mem_rg] at hi
    walk_at "dl"
    rw [line_at h (by omega) (b500 b.2 (by omega)) (hnat i (by omega) (by omega))]
    walk_at "dl"
    rw [line_at h2 (by omega) (b500 b2.2 (by omega)) (hnat i (by omega) (by omega))]
    walk_at "dl"
  · walk_at "dl"
    rw [show (List.filter (fun _ => true) (rg 0 (p : Int).toNat)).map (fun n => D.int (lat s r n + lat t u n)) = ((rg 0 p).map fun n => lat s r n + lat t u n).map D.int by simp [Function.comp_def, filt_true]]
    rw [line_at h (by omega) (b500 b.2 (by omega)) (hnat p (by omega) (by omega))]
    walk_at "dl"
    rw [line_at h2 (by omega) (b500 b2.2 (by omega)) (hnat p (by omega) (by omega))]
    walk_at "dl"
    rw [atI_ints (by omega) (by rw [hml]; omega), e0]
    walk_at "dl"
    rw [eQ, line_init ok (by omega)]
    walk_at "dl"
    refine ⟨_, _, rfl, by unfold addL addP; rw [hpe, eQ], Nf.of ok, fun n => ?_, ?_, ?_⟩
    · rw [lform_lat ok.ne, e]
    · have := (lform_len (r := Q) ok.ne).2
      omega
    · have hlen := (lform_len (r := Q) ok.ne).2
      refine (lb_of (k := k + 19) (lform_len ok.ne).1 fun i hi => ?_).mono (by omega)
      rw [lform_lat ok.ne, e]
      have hi' := big i (by omega) (by omega)
      exact ((b.lat h hi').add (b2.lat h2 hi')).mono (by omega)
theorem line_after {s t : List Int} {r u : Int} {k k2 : Nat} (o : Ok s r) (o2 : Ok t u) (b : LB k s r) (b2 : LB k2 t u) (hk : k + k2 ≤ 400) (hl : t.length * s.length ≤ 50000) :
    W (f_Line_after.den [lineD s r, lineD t u]) fun x => ∃ (s' : List Int) (r' : Int), x = (lineD s' r', []) ∧ aftL s r t u = (s', r') ∧ Nf s' r' ∧ (∀ n, lat s' r' n = lat s r (lat t u n)) ∧ s'.length ≤ t.length * s.length ∧ LB (k + k2 + 20) s' r' := by
  have h := o.ne
  have h2 := o2.ne
  have hu := rise_nn o2
  obtain ⟨w, rfl⟩ := Int.eq_ofNat_of_zero_le hu
  have hg : 0 < Nat.gcd s.length w := Nat.gcd_pos_of_pos_left w h
  have hg2 : Nat.gcd s.length w ≤ s.length := Nat.gcd_le_left w h
  have hs : s.length ≤ 50000 := by
    have : 1 * s.length ≤ t.length * s.length := Nat.mul_le_mul_right _ h2
    omega
  have ht : t.length ≤ 50000 := by
    have : t.length * 1 ≤ t.length * s.length := Nat.mul_le_mul_left _ h
    omega
  obtain ⟨x, hx⟩ := Nat.gcd_dvd_left s.length w
  obtain ⟨y, hy⟩ := Nat.gcd_dvd_right s.length w
  have e1 : s.length / Nat.gcd s.length w = x := Nat.div_eq_of_eq_mul_right hg hx
  have hx0 : 0 < x := by
    rcases Nat.eq_zero_or_pos x with z | z
    · subst z; omega
    · exact z
  have hxs : x ≤ s.length := by
    have : 1 * x ≤ Nat.gcd s.length w * x := Nat.mul_le_mul_right _ hg
    omega
  have hp : 0 < t.length * x := Nat.mul_pos h2 hx0
  have hpl : t.length * x ≤ t.length * s.length := Nat.mul_le_mul_left _ hxs
  have hux : (w : Int) * x = (y : Int) * s.length := by
    have : w * x = y * s.length := by
      generalize Nat.gcd s.length w = g at *
      rw [hy, hx]
      rw [Nat.mul_comm g y, Nat.mul_assoc]
    exact_mod_cast this
  generalize hpe : t.length * x = p at hp hpl
  have per := after_per (s := s) (t := t) (r := r) (u := (w : Int)) (p := p) (k := x) (m := 0) h h2 (by rw [← hpe, Nat.mul_comm]) hux
  generalize hQ : r * (y : Int) = Q at per
  obtain ⟨ok, e⟩ := made (f := fun n => lat s r (lat t w n)) hp per (fun n => lat_mono o (lat_mono1 o2 n))
  have hml : ((rg 0 p).map fun n => lat s r (lat t w n)).length = p := by simp [rg_len]
  have big : ∀ i : Int, 0 ≤ i → i ≤ p → Bd 17 i := fun i h1 h2 => by unfold Bd; omega
  have b500 : ∀ {x : Int} {j : Nat}, Bd j x → j ≤ 500 → x.natAbs < 2 ^ 500 := fun h l => h.mono l
  have hnat : ∀ i : Int, 0 ≤ i → i ≤ p → i.natAbs < 2 ^ 500 := fun i a c => b500 (big i a c) (by omega)
  have hin : ∀ i : Int, 0 ≤ i → i ≤ p → Bd (k2 + 18) (lat t w i) := fun i a c => (b2.lat h2 (big i a c)).mono (by omega)
  have e0 : gI ((rg 0 p).map fun n => lat s r (lat t w n)) 0 = lat s r (lat t w 0) := by
    have := lat_zero (r := Q) ok.ne
    rw [← this, e]
  have eQ : lat s r (lat t w p) - lat s r (lat t w 0) = Q := by
    have := per 0
    simp only [Int.zero_add] at this
    omega
  rw [e_Line_after, run_eq rfl]
  walk_at "dl"
  rw [line_len]
  walk_at "dl"
  rw [if_pos (by omega)]
  walk_at "dl"
  rw [line_len]
  walk_at "dl"
  rw [if_pos (by omega)]
  walk_at "dl"
  rw [fld_rise]
  walk_at "dl"
  rw [common_divisor]
  walk_at "dl"
  rw [d_fdiv (divOk (by omega) (by omega))]
  walk_at "dl"
  rw [d_mul (mulOk_l (by omega))]
  walk_at "dl"
  have ep : (t.length : Int) * (s.length : Int).fdiv (Nat.gcd s.length w : Nat) = (p : Nat) := by
    rw [(fdm (by omega)).2, ← hpe, ← e1]
    push_cast
    rfl
  rw [ep, if_pos (by omega)]
  walk_at "dl"
  refine W_list (p := fun _ => true) (g := fun n => .int (lat s r (lat t w n))) (by walk_at "dl") (by rw [rg_len]; simp only [lim]; omega) ?_ ?_
  · intro i hi
    rw [mem_rg] at hi
    walk_at "dl"
    rw [line_at h2 (by omega) (b500 b2.2 (by omega)) (hnat i (by omega) (by omega))]
    walk_at "dl"
    rw [line_at h (by omega) (b500 b.2 (by omega)) (b500 (hin i (by omega) (by omega)) (by omega))]
    walk_at "dl"
  · walk_at "dl"
    rw [show (List.filter (fun _ => true) (rg 0 (p : Int).toNat)).map (fun n => D.int (lat s r (lat t w n))) = ((rg 0 p).map fun n => lat s r (lat t w n)).map D.int by simp [Function.comp_def, filt_true]]
    rw [line_at h2 (by omega) (b500 b2.2 (by omega)) (hnat p (by omega) (by omega))]
    walk_at "dl"
    rw [line_at h (by omega) (b500 b.2 (by omega)) (b500 (hin p (by omega) (by omega)) (by omega))]
    walk_at "dl"
    rw [atI_ints (by omega) (by rw [hml]; omega), e0]
    walk_at "dl"
    rw [eQ, line_init ok (by omega)]
    walk_at "dl"
    refine ⟨_, _, rfl, by unfold aftL aftP; simp only [Int.toNat_natCast, e1, hpe, eQ], Nf.of ok, fun n => ?_, ?_, ?_⟩
    · rw [lform_lat ok.ne, e]
    · have := (lform_len (r := Q) ok.ne).2
      omega
    · have hlen := (lform_len (r := Q) ok.ne).2
      refine (lb_of (k := k + k2 + 19) (lform_len ok.ne).1 fun i hi => ?_).mono (by omega)
      rw [lform_lat ok.ne, e]
      exact (b.lat h (hin i (by omega) (by omega))).mono (by omega)
end FS

-- part FSr
set_option Elab.async false
set_option linter.all false
set_option maxRecDepth 100000
set_option maxHeartbeats 1000000
/-! the program's lines, walked: where they meet and part -/
namespace FS
open PySem DL L2 LN
theorem nf_Line_gaps : (["kept_starts", "kept_rise"] : List Str).contains f_Line_gaps.name = false := by decide +kernel
theorem nf_Line_meetings : (["kept_starts", "kept_rise"] : List Str).contains f_Line_meetings.name = false := by decide +kernel
theorem nf_Line_meeting : (["kept_starts", "kept_rise"] : List Str).contains f_Line_meeting.name = false := by decide +kernel
theorem nf_Line_parting : (["kept_starts", "kept_rise"] : List Str).contains f_Line_parting.name = false := by decide +kernel
local macro_rules | `(tactic| walk_at "dl") => `(tactic| simp -implicitDefEqProofs only [DL.x_nil, DL.x_cons, DL.x_pass, DL.x_set, DL.x_ife, DL.x_par, DL.x_for, DL.x_whl, DL.x_ret, DL.x_retn, DL.x_drop, DL.x_sub, DL.x_app, DL.x_ext, DL.x_seto, DL.x_reto, DL.k_set, DL.k_seto, DL.k_par, DL.k_par2, DL.k_ife, DL.k_for,
  DL.k_ret, DL.k_reto, DL.k_drop, DL.k_sub, DL.k_sub2, DL.k_app, DL.k_ext, DL.q_name, DL.q_lit, DL.q_bin, DL.q_neg, DL.q_cmp, DL.q_and, DL.q_or, DL.q_not, DL.q_ife, DL.q_tup, DL.q_lst, DL.q_idx, DL.q_app, DL.q_blt, DL.q_fld,
  DL.q_nil, DL.q_cio, DL.q_cwk, DL.q_chn, DL.q_slc, DL.q_mth, DL.q_lno, DL.q_prp, DL.q_addo, DL.q_eqo, DL.q_mk, DL.q_appk, DL.q_mthk, DL.q_mkk, DL.q_comp, DL.qc_name, DL.qc_lit, DL.qc_bin, DL.qc_neg, DL.qc_cmp, DL.qc_chn, DL.qc_andv,
  DL.qc_orv, DL.qc_notv, DL.qc_ife, DL.qc_tup, DL.qc_lst, DL.qc_idx, DL.qc_slc, DL.qc_app, DL.qc_blt, DL.qc_fld, DL.qc_prp, DL.qc_mth, DL.qc_lno, DL.qc_addo, DL.qc_eqo, DL.qc_mk, DL.qc_appk, DL.qc_mthk, DL.qc_mkk, DL.qc_comp,
  DL.r_chn, DL.r_chn1, DL.r_chn3, DL.r_chn2, DL.r_slc, DL.r_slcp, DL.r_slc2, DL.r_slc3, DL.r_mth, DL.r_mth2, DL.r_lno, DL.r_lno1, DL.r_prp, DL.W.prO, DL.pr_ok, DL.r_addo, DL.r_add1, DL.r_eqo, DL.r_eq1, DL.r_eq2, DL.r_mk, DL.r_mkS, DL.r_mkN, DL.r_mkW, DL.r_mkWO, DL.strong_wk, DL.noW_wk, Option.map_none, DL.r_mk2,
  DL.r_mko, DL.r_appk, DL.r_appk2, DL.r_mthk, DL.r_mthk2, DL.r_mthk3, DL.r_mkk, DL.r_mkk1, DL.kwO_eq, DL.perm_nil, DL.perm_cons, DL.permR_some, DL.prt_nil, DL.prt_e, DL.k_prt, DL.notNil, DL.q_ilst, DL.q_iscr, DL.q_itup, DL.q_ir1,
  DL.q_ir2, DL.q_ien, DL.q_izp, DL.r_ilst, DL.r_iscr, DL.r_itup, DL.r_ir1, DL.r_ir2, DL.r_ir2b, DL.r_ien, DL.r_izp, DL.r_izp2, DL.rangeL_rg, DL.tstR_nil, DL.tst_e, DL.k_tst, DL.elt_e, DL.k_elt, DL.q_is1, DL.q_is2, DL.free_nil,
  DL.free_cons, DL.free_un, DL.free_val, DL.blank_nil, DL.blank_cons, DL.back_nil, DL.back_cons, DL.back_some, DL.q_call, DL.call_some, DL.call_k, DL.call_k2, DL.a_nil, DL.a_d, DL.a_wk, DL.a_io1, DL.a_io2, DL.a_wk2, DL.a_io3,
  DL.q_lent, DL.lentR_own, DL.lent_io, DL.pb_nil, DL.pb_cons, DL.pb_own, DL.pb_io, DL.ios_nil, DL.ios_d, DL.ios_wk, DL.ios_io, DL.wks_nil, DL.wks_d, DL.wks_wk, DL.wks_io, DL.okAr_eq, DL.nodup0, DL.nodup1, DL.q_held, DL.held_own,
  DL.held_io, DL.q_seq, DL.k_seq1, DL.k_seq2, DL.k_seq3, DL.k_seq4, List.all_nil, List.all_cons, List.isEmpty_nil, List.isEmpty_cons, Bool.true_or, Bool.or_true, Bool.false_or, Bool.or_false, Bool.not_true, Bool.not_false,
  Bool.false_and, Bool.and_false, DL.r_tup2, DL.r_lst2, DL.lim, Nat.reduceLeDiff, DL.n_val, DL.n_own, DL.n_io, DL.r_R, DL.r_bin, DL.r_binp, DL.r_bin2, DL.r_neg, DL.r_B, DL.r_cmp, DL.r_cmpp, DL.r_cmp2, DL.r_bl, DL.r_and, DL.r_or,
  DL.r_not, DL.r_if, DL.r_tup, DL.r_lst, DL.r_W, DL.r_idx, DL.r_idxp, DL.r_idx2, DL.r_D, DL.r_app, DL.r_blt, DL.r_blt2, DL.r_fld, DL.r_cons, DL.r_consp, DL.r_cons2, DL.r_io, DL.r_wk, DL.d_add, DL.d_sub, DL.d_lt, DL.d_le, DL.d_gt,
  DL.d_ge, DL.d_idxl, DL.d_idxt, DL.d_idxs, DL.ix_some, DL.at0, DL.at1, DL.at2, DL.q_sub, DL.sub_own, DL.sub_io, DL.sub_o, DL.sub_i, DL.ix30, DL.ix31, DL.ix32, DL.q_setSl, DL.set_un, DL.set_val, DL.set_own, DL.set_nio, DL.q_setTg,
  DL.q_setTup, DL.q_tis0, DL.q_tis, DL.b_int, DL.b_abs, DL.b_max2, DL.b_min2, DL.b_lenl, DL.b_lent, DL.b_lens, DL.isL_own, DL.isL_io, DL.e_nx, DL.e_ret, DL.okOuts, DL.outsOf, DL.weaks, DL.strong, Option.map_some, DL.ofO_some,
  DL.E.pure, Bool.and_self, Bool.and_true, Bool.true_and, DL.ownL, List.map_cons, List.map_nil, List.length_map, DL.d_eq, DL.d_ne, DL.dEq_int, DL.grow_own, DL.grow_io, DL.q_grow, DL.W.bind, DL.W.ok, DL.Res.bind_ok, List.getElem?_cons_zero,
  List.getElem?_cons_succ, List.length_cons, List.length_nil, List.replicate, List.cons_append, List.nil_append, List.set_cons_zero, List.set_cons_succ, Nat.reduceAdd, Nat.reduceSub, Nat.reduceBEq, Nat.reduceEqDiff, beq_self_eq_true,
  Int.reduceLE, Int.reduceLT, Int.reduceToNat, Int.reduceNeg, Int.reduceAdd, Int.reduceSub, Int.reduceMul, DL.initS, decide_true, decide_false, ↓reduceIte, Bool.false_eq_true, eq_self, and_self, true_and, and_true, DL.LoopQ,
  DL.x_aug, DL.aug_val, DL.k_aug2, DL.frz_own, DL.x_brk, DL.x_cnt, DL.x_retm, DL.retm_own, DL.x_frz, DL.d_powc, DL.powR_t, Int.reducePow, DL.b_tuple, DL.b_tuple1, DL.b_list0, DL.b_list1, DL.b_listt, DL.b_lists, DL.dsl_lst0,
  DL.dsl_lst1, DL.dsl_tup, DL.b_all, DL.b_any, DL.cln_non, DL.cln_int, DL.cln_bl, DL.cln_str, DL.cln_lst, DL.cln_tup, DL.all_map_int, DL.d_catc, DL.d_tcat, DL.q_isi, DL.r_isi, DL.isiD_obj, DL.isiD_lst, DL.isiD_tup, DL.isiD_non, DL.isiD_int, DL.isiD_bl, DL.isiD_str, DL.q_lrg, DL.r_lrg, DL.r_lrg1, DL.r_lrg2, DL.qc_isi, DL.qc_lrg, Option.isSome_some, DL.asB_bl, DL.asI_int, DL.q_star, DL.r_star, DL.r_star1, DL.r_star2, DL.sq_lst, DL.sq_tup, DL.q_apps, DL.r_apps, DL.r_apps1, DL.q_dget, DL.r_dget, DL.q_glc, DL.qc_apps, DL.qc_dget, DL.qc_glc, DL.strong_map, DL.strong_map0, DL.b_intt, DL.b_intf, DL.q_ir3, DL.r_ir3a, DL.r_ir3b, DL.r_ir3c, DL.x_paro, DL.k_paro, DL.eo_nil, DL.eo_t, DL.eo_f, DL.k_eot, DL.k_eof, DL.k_eo2, DL.x_appd, DL.k_appd, DL.k_appd2, DL.so_nil, DL.so_t, DL.so_f, DL.k_so, DL.k_nx, DL.x_setm, DL.k_setm, DL.il_lst, DL.il_int, DL.il_str, DL.fl_int, DL.fl_str, DL.x_rett, DL.k_rett, DL.k_rett1, DL.tk_nil, DL.tk_d, DL.tk_wk, DL.tk_own, DL.k_tk, DL.plainA, DL.ownT, m_common_multiple, k_common_multiple, m_Line_len, k_Line_len, m_Line_at, k_Line_at, m_Line_eq, k_Line_eq, m_Line_gaps, k_Line_gaps, m_Line_meetings, k_Line_meetings, m_Line_meeting, k_Line_meeting, m_Line_parting, k_Line_parting, FS.nf_Line_at, FS.nf_Line_gaps, FS.nf_Line_meetings, FS.line_len, DL.rg_len])
local macro_rules | `(tactic| walk_at "wk") => `(tactic| repeat (first
  | walk_at "dl"
  | rw [DL.atI_ints (by omega) (by omega)]
  | rw [DL.d_mod (by omega)]
  | rw [DL.d_mul (DL.mulOk_r (by omega))]
  | rw [DL.d_mul (DL.mulOk_l (by omega))]
  | rw [DL.d_fdiv (DL.divOk (by omega) (by omega))]
  | rw [if_pos (by omega)]
  | rw [decide_eq_true (by omega)]
  | rw [decide_eq_false (by omega)]))
/-- the difference of two lines -/
def gp (s : List Int) (r : Int) (t : List Int) (u : Int) (n : Int) : Int := lat s r n - lat t u n
theorem gp_gap {s t : List Int} {r u : Int} (hs : 0 < s.length) (ht : 0 < t.length) : Gap (gp s r t u) (addP s t) (gp s r t u (addP s t) - gp s r t u 0) := by
  obtain ⟨⟨c, hc⟩, hp, hpl⟩ := lcm_facts hs ht
  have hg : 0 < Nat.gcd s.length t.length := Nat.gcd_pos_of_pos_left _ hs
  have a : Gap (lat s r) (addP s t) (r * c) := by
    have := (lat_gap (r := r) hs).times (k := c) (by
      rcases Nat.eq_zero_or_pos c with z | z
      · subst z; omega
      · exact z)
    unfold addP
    rw [hc]
    exact this
  have b : Gap (lat t u) (addP s t) (u * (s.length / Nat.gcd s.length t.length : Nat)) := by
    refine (lat_gap (r := u) ht).times (k := s.length / Nat.gcd s.length t.length) ?_
    rcases Nat.eq_zero_or_pos (s.length / Nat.gcd s.length t.length) with z | z
    · rw [z] at hp; omega
    · exact z
  have q := a.sub b
  have e := q.per 0
  simp only [Int.zero_add] at e
  have e2 : gp s r t u (addP s t) - gp s r t u 0 = r * c - u * (s.length / Nat.gcd s.length t.length : Nat) := by
    unfold gp
    omega
  rw [e2]
  exact q
theorem bd500' {k : Nat} {x : Int} (h : Bd k x) (l : k ≤ 500) : x.natAbs < 2 ^ 500 := h.mono l
/-- what is wanted of two lines and a begin -/
structure Two (s : List Int) (r : Int) (t : List Int) (u : Int) (b : Int) (k : Nat) : Prop where
  o : Ok s r
  o2 : Ok t u
  b1 : LB k s r
  b2 : LB k t u
  bb : Bd k b
  hk : k ≤ 150
  hs : s.length ≤ 5000
  ht : t.length ≤ 5000
  hl : s.length * t.length ≤ 50000
theorem Two.addP {s t : List Int} {r u b : Int} {k : Nat} (w : Two s r t u b k) : 0 < addP s t ∧ FS.addP s t ≤ 50000 := by
  obtain ⟨_, hp, hpl⟩ := lcm_facts w.o.ne w.o2.ne
  exact ⟨hp, Nat.le_trans hpl w.hl⟩
theorem Two.at1 {s t : List Int} {r u b : Int} {k : Nat} (w : Two s r t u b k) {n : Int} (h : Bd 300 n) : f_Line_at.den [lineD s r, .int n] = .ok (.int (lat s r n), []) :=
  line_at w.o.ne (by have := w.hs; omega) (bd500' w.b1.2 (by have := w.hk; omega)) (bd500' h (by omega))
theorem Two.at2 {s t : List Int} {r u b : Int} {k : Nat} (w : Two s r t u b k) {n : Int} (h : Bd 300 n) : f_Line_at.den [lineD t u, .int n] = .ok (.int (lat t u n), []) :=
  line_at w.o2.ne (by have := w.ht; omega) (bd500' w.b2.2 (by have := w.hk; omega)) (bd500' h (by omega))
theorem Two.near {s t : List Int} {r u b : Int} {k : Nat} (w : Two s r t u b k) {i : Int} (h : 0 ≤ i) (h2 : i ≤ 100000) : Bd 300 (b + i) := by
  have h3 : Bd 160 b := w.bb.mono (by have := w.hk; omega)
  have h4 : Bd 160 i := by unfold Bd; omega
  exact (h3.add h4).mono (by omega)
theorem line_gaps {s t : List Int} {r u b : Int} {k : Nat} (w : Two s r t u b k) : f_Line_gaps.den [lineD s r, lineD t u, .int b] = .ok (.tup [.lst (((rg b (addP s t)).map (gp s r t u)).map .int), .int (gp s r t u (addP s t) - gp s r t u 0)], []) := by
  have h := w.o.ne
  have h2 := w.o2.ne
  obtain ⟨hp, hpl⟩ := w.addP
  have hs := w.hs
  have ht := w.ht
  have hl := w.hl
  have gg := gp_gap (r := r) (u := u) h h2
  have ep : f_common_multiple.den [.int s.length, .int t.length] = .ok (.int (addP s t : Nat), []) := common_multiple h (by omega) (by omega)
  apply W.eq
  rw [e_Line_gaps, run_eq rfl]
  walk_at "wk"
  rw [ep]
  walk_at "wk"
  rw [show b + (addP s t : Int) - b = (addP s t : Int) by omega, Int.toNat_natCast]
  refine W_list (p := fun _ => true) (g := fun n => .int (gp s r t u n)) (by walk_at "dl") (by rw [rg_len]; simp only [lim]; omega) ?_ ?_
  · intro i hi
    rw [mem_rg] at hi
    have bd : Bd 300 i := by
      have := w.near (i := i - b) (by omega) (by omega)
      rwa [show b + (i - b) = i by omega] at this
    walk_at "wk"
    rw [w.at1 bd]
    walk_at "wk"
    rw [w.at2 bd]
    walk_at "wk"
    simp [gp]
  · have bd : Bd 300 (b + addP s t) := w.near (by omega) (by omega)
    walk_at "wk"
    rw [show (List.filter (fun _ => true) (rg b (addP s t))).map (fun n => D.int (gp s r t u n)) = ((rg b (addP s t)).map (gp s r t u)).map D.int by simp [Function.comp_def, filt_true]]
    rw [w.at1 bd]
    walk_at "wk"
    rw [w.at2 bd]
    walk_at "wk"
    rw [atI_ints (by omega) (by simp [rg_len]; omega)]
    walk_at "wk"
    have e0 : gI ((rg b (addP s t)).map (gp s r t u)) 0 = gp s r t u b := by
      rw [show (0 : Int) = ((0 : Nat) : Int) from rfl, gI_nat (by simp [rg_len]; exact hp)]
      simp [rg]
    rw [e0]
    have e1 := gg.per b
    have e2 : lat s r (b + addP s t) - lat t u (b + addP s t) - gp s r t u b = gp s r t u (addP s t) - gp s r t u 0 := by
      rw [show lat s r (b + addP s t) - lat t u (b + addP s t) = gp s r t u (b + addP s t) from rfl, e1]
      omega
    rw [e2]
open Classical in
theorem dEq_f {b : Bool} {d e : D} (h : cln b 8 d = true) (h' : cln b 8 e = true) (n : d ≠ e) : dEq d e = .ok false := by
  rw [dEq_cln h h', decide_eq_false n]
open Classical in
theorem dEq_t {b : Bool} {d : D} (h : cln b 8 d = true) : dEq d d = .ok true := by
  rw [dEq_cln h h, decide_eq_true rfl]
theorem enum_get : ∀ {ds : List D} {k i : Nat} {d : D}, (enumL k ds)[i]? = some d → ∃ e, ds[i]? = some e ∧ d = .tup [.int ((k + i : Nat) : Int), e]
  | [], _, _, _, h => by simp [enumL] at h
  | e :: ds, k, 0, d, h => by
    simp [enumL] at h
    exact ⟨e, rfl, by rw [← h]; simp⟩
  | e :: ds, k, i + 1, d, h => by
    obtain ⟨x, h1, h2⟩ := enum_get (ds := ds) (k := k + 1) (i := i) (by simpa [enumL] using h)
    exact ⟨x, by simpa using h1, by rw [h2]; congr 3; omega⟩
theorem enum_len : ∀ {ds : List D} {k : Nat}, (enumL k ds).length = ds.length
  | [], _ => rfl
  | e :: ds, k => by simp [enumL, enum_len (ds := ds)]
theorem b_sorted {k : Nat} (hk : k ≤ 1) {l : List Int} (h : l.length ≤ 100000) : dBlt .sorted [(k, .lst (l.map .int))] = .ok (.lst ((sortI l).map .int)) := by
  have h2 : (l.map D.int).length ≤ lim := by simpa [lim] using h
  show (if k ≤ 1 then (match lstOf (.lst (l.map .int)) with | some ds => dSorted ds | none => .stuck) else .stuck) = _
  rw [if_pos hk]
  show dSorted (l.map .int) = _
  unfold dSorted
  rw [intsOf_map]
  exact if_pos h2
/-- what a common period adds to the difference -/
abbrev gQ (s : List Int) (r : Int) (t : List Int) (u : Int) : Int := gp s r t u (addP s t) - gp s r t u 0
abbrev mts (s : List Int) (r : Int) (t : List Int) (u b : Int) : List Int := meets (gp s r t u) b (addP s t) (gQ s r t u)
theorem Two.bdg {s t : List Int} {r u b : Int} {k : Nat} (w : Two s r t u b k) {n : Int} (h : Bd 300 n) : Bd 460 (gp s r t u n) :=
  ((w.b1.lat w.o.ne h).sub (w.b2.lat w.o2.ne h)).mono (by have := w.hk; omega)
theorem divOk_bd {k : Nat} {x : Int} (h : Bd k x) (hk : k ≤ 500) (hk0 : 0 < k) (hx : x ≠ 0) : DivOk x = true := by
  have := log2_big (m := k) hk0 h
  simp only [DivOk, Bool.and_eq_true, decide_eq_true_eq]
  exact ⟨hx, by omega⟩
theorem meets_succ {g : Int → Int} {b : Int} {Q : Int} {p i : Nat} : ((List.range (i + 1)).filterMap fun (j : Nat) => pick Q (g (b + (j : Int))) (b + (j : Int)) p) = ((List.range i).filterMap fun (j : Nat) => pick Q (g (b + (j : Int))) (b + (j : Int)) p) ++ (pick Q (g (b + (i : Int))) (b + (i : Int)) p).toList := by
  rw [List.range_succ, List.filterMap_append]
  congr 1
theorem meets_len {g : Int → Int} {b : Int} {Q : Int} {p i : Nat} : ((List.range i).filterMap fun (j : Nat) => pick Q (g (b + (j : Int))) (b + (j : Int)) p).length ≤ i := by
  have := List.length_filterMap_le (fun (j : Nat) => pick Q (g (b + (j : Int))) (b + (j : Int)) p) (List.range i)
  simpa using this
theorem line_meetings {s t : List Int} {r u b : Int} {k : Nat} (w : Two s r t u b k) : f_Line_meetings.den [lineD s r, lineD t u, .int b] = .ok (.lst ((sortI (mts s r t u b)).map .int), []) := by
  obtain ⟨hp, hpl⟩ := w.addP
  have hQ : Bd 470 (gp s r t u (addP s t) - gp s r t u 0) := ((w.bdg (n := addP s t) (by unfold Bd; omega)).sub (w.bdg (n := 0) (by unfold Bd; omega))).mono (by omega)
  apply W.eq
  rw [e_Line_meetings, run_eq rfl]
  walk_at "wk"
  rw [line_gaps w]
  walk_at "wk"
  generalize hq : gp s r t u (addP s t) - gp s r t u 0 = Q at *
  refine W_for (I := fun i env => ∃ (t6 t7 : Sl) (_ : Nio t6) (_ : Nio t7), env = [.val (lineD s r), .val (lineD t u), .val (.int b), .val (.int Q), .val (.lst (((rg b (addP s t)).map (gp s r t u)).map .int)), .own 1 (.lst (((List.range i).filterMap fun (j : Nat) => pick Q (gp s r t u (b + (j : Int))) (b + (j : Int)) (addP s t)).map .int)), t6, t7]) ⟨_, _, inferInstance, inferInstance, rfl⟩ ?_ ?_
  · rintro i x _ hx ⟨t6, t7, h6, h7, rfl⟩
    obtain ⟨e, he, rfl⟩ := enum_get hx
    have hi := lt_of_get hx
    rw [enum_len, List.length_map, List.length_map, rg_len] at hi
    have he : e = .int (gp s r t u (b + (i : Int))) := by
      rw [List.map_map, List.getElem?_map, rg_get hi] at he
      simpa using he.symm
    subst he
    have hml := meets_len (g := gp s r t u) (b := b) (Q := Q) (p := addP s t) (i := i)
    have hsu := meets_succ (g := gp s r t u) (b := b) (Q := Q) (p := addP s t) (i := i)
    generalize ((List.range i).filterMap fun (j : Nat) => pick Q (gp s r t u (b + (j : Int))) (b + (j : Int)) (addP s t)) = L at hml hsu
    rw [hsu]
    have hg := w.bdg (w.near (i := i) (by omega) (by omega))
    generalize gp s r t u (b + (i : Int)) = γ at hg
    rw [show ((0 + i : Nat) : Int) = (i : Int) by omega]
    walk_at "wk"
    by_cases c : γ = 0
    · rw [decide_eq_true c]
      walk_at "wk"
      refine ⟨.val (.int γ), .val (.int i), inferInstance, inferInstance, ?_⟩
      simp [pick, c]
    · rw [decide_eq_false c]
      walk_at "wk"
      by_cases c2 : Q = 0
      · rw [decide_eq_true c2]
        walk_at "wk"
        refine ⟨.val (.int γ), .val (.int i), inferInstance, inferInstance, ?_⟩
        simp [pick, c, c2]
      · rw [decide_eq_false c2]
        walk_at "wk"
        by_cases c3 : γ.fmod Q = 0
        · rw [decide_eq_true c3]
          walk_at "wk"
          rw [d_fdiv (divOk_bd hQ (by omega) (by omega) c2)]
          walk_at "wk"
          by_cases c4 : 0 < (-γ).fdiv Q
          · rw [decide_eq_true c4]
            walk_at "wk"
            refine ⟨.val (.int γ), .val (.int i), inferInstance, inferInstance, ?_⟩
            simp [pick, c, c2, c3, c4, rg_len]
          · rw [decide_eq_false c4]
            walk_at "wk"
            refine ⟨.val (.int γ), .val (.int i), inferInstance, inferInstance, ?_⟩
            simp [pick, c, c2, c3, c4]
        · rw [decide_eq_false c3]
          walk_at "wk"
          refine ⟨.val (.int γ), .val (.int i), inferInstance, inferInstance, ?_⟩
          simp [pick, c, c2, c3]
  · rintro _ ⟨t6, t7, h6, h7, rfl⟩
    rw [enum_len, List.length_map, List.length_map, rg_len]
    walk_at "wk"
    have hml := meets_len (g := gp s r t u) (b := b) (Q := Q) (p := addP s t) (i := addP s t)
    rw [b_sorted (by omega) (by omega)]
    walk_at "wk"
    simp [mts, meets, gQ, hq]
theorem line_meeting0 {s t : List Int} {r u b : Int} {k : Nat} (w : Two s r t u b k) : f_Line_meeting.den [lineD s r, lineD t u, .int b] = .ok (optD (sortI (mts s r t u b))[0]?, []) := by
  apply W.eq
  rw [e_Line_meeting, run_eq rfl]
  walk_at "wk"
  rw [line_meetings w]
  walk_at "wk"
  try rw [show meets (gp s r t u) b (addP s t) (gp s r t u (addP s t) - gp s r t u 0) = mts s r t u b from rfl]
  cases e : sortI (mts s r t u b) with
  | nil =>
    rw [dEq_cln (b := false) (by simp [cln]) (by simp [cln])]
    walk_at "wk"
    simp [optD]
  | cons m l =>
    rw [dEq_f (b := false) (by simp [cln, cln_int]) (by simp [cln]) (by simp)]
    walk_at "wk"
    simp [optD]
theorem line_meeting {s t : List Int} {r u b : Int} {k : Nat} (w : Two s r t u b k) : ∃ o, LF b (fun n => gp s r t u n = 0) o ∧ f_Line_meeting.den [lineD s r, lineD t u, .int b] = .ok (optD o, []) :=
  ⟨_, meets_LF (gp_gap w.o.ne w.o2.ne) sort_min, line_meeting0 w⟩
theorem line_parting {s t : List Int} {r u b : Int} {k : Nat} (w : Two s r t u b k) (n1 : Nf s r) (n2 : Nf t u) : ∃ o, LF b (fun n => gp s r t u n ≠ 0) o ∧ f_Line_parting.den [lineD s r, lineD t u, .int b] = .ok (optD o, []) := by
  by_cases c : s = t ∧ r = u
  · obtain ⟨rfl, rfl⟩ := c
    refine ⟨none, fun n _ h => h (by simp [gp]), ?_⟩
    apply W.eq
    rw [e_Line_parting, run_eq rfl]
    walk_at "wk"
    rw [line_eq_same]
    walk_at "wk"
    rfl
  · have gg := gp_gap (r := r) (u := u) w.o.ne w.o2.ne
    have ex : ∃ i : Nat, i ≤ addP s t ∧ gp s r t u (b + i) ≠ 0 := by
      refine Classical.byContradiction fun z => c ?_
      have z2 : ∀ i : Nat, i ≤ addP s t → gp s r t u (b + i) = 0 := fun i hi => Classical.byContradiction fun y => z ⟨i, hi, y⟩
      have all := part_all gg (part_bound gg z2)
      refine n1.uniq n2 fun n => ?_
      have := all n
      unfold gp at this
      omega
    obtain ⟨i, hi, hne⟩ := ex
    obtain ⟨N, hN, hNi⟩ := least_of (P := fun n => gp s r t u n ≠ 0) i hne
    obtain ⟨_, hpl⟩ := w.addP
    refine ⟨some N, hN, ?_⟩
    apply W.eq
    rw [e_Line_parting, run_eq rfl]
    walk_at "wk"
    rw [line_eq, decide_eq_false c]
    walk_at "wk"
    refine W_whl (I := fun n env => ∃ x : Int, env = [.val (lineD s r), .val (lineD t u), .val (.int b), .val (.int x)] ∧ b ≤ x ∧ x ≤ N ∧ n = (N - x).toNat) _ _ ⟨b, rfl, Int.le_refl _, hN.1, rfl⟩ ?_
    rintro n _ ⟨x, rfl, h1, h2, rfl⟩
    have bd : Bd 300 x := by
      have := w.near (i := x - b) (by omega) (by omega)
      rwa [show b + (x - b) = x by omega] at this
    walk_at "wk"
    rw [w.at1 bd]
    walk_at "wk"
    rw [w.at2 bd]
    walk_at "wk"
    by_cases c2 : x = N
    · subst c2
      rw [decide_eq_false (by have := hN.2.1; unfold gp at this; omega)]
      walk_at "wk"
      rfl
    · have := hN.2.2 x h1 (by omega)
      have z : gp s r t u x = 0 := Classical.byContradiction this
      rw [decide_eq_true (by unfold gp at z; omega)]
      walk_at "wk"
      exact ⟨_, by omega, x + 1, rfl, by omega, by omega, rfl⟩
end FS

-- part LPp
set_option Elab.async false
set_option linter.all false
set_option maxRecDepth 100000
set_option maxHeartbeats 1000000
/-! the law's own drawing, walked -/
namespace LP
open PySem DL L2 FS LN
local macro_rules | `(tactic| walk_at "dl") => `(tactic| simp -implicitDefEqProofs only [DL.x_nil, DL.x_cons, DL.x_pass, DL.x_set, DL.x_ife, DL.x_par, DL.x_for, DL.x_whl, DL.x_ret, DL.x_retn, DL.x_drop, DL.x_sub, DL.x_app, DL.x_ext, DL.x_seto, DL.x_reto, DL.k_set, DL.k_seto, DL.k_par, DL.k_par2, DL.k_ife, DL.k_for,
  DL.k_ret, DL.k_reto, DL.k_drop, DL.k_sub, DL.k_sub2, DL.k_app, DL.k_ext, DL.q_name, DL.q_lit, DL.q_bin, DL.q_neg, DL.q_cmp, DL.q_and, DL.q_or, DL.q_not, DL.q_ife, DL.q_tup, DL.q_lst, DL.q_idx, DL.q_app, DL.q_blt, DL.q_fld,
  DL.q_nil, DL.q_cio, DL.q_cwk, DL.q_chn, DL.q_slc, DL.q_mth, DL.q_lno, DL.q_prp, DL.q_addo, DL.q_eqo, DL.q_mk, DL.q_appk, DL.q_mthk, DL.q_mkk, DL.q_comp, DL.qc_name, DL.qc_lit, DL.qc_bin, DL.qc_neg, DL.qc_cmp, DL.qc_chn, DL.qc_andv,
  DL.qc_orv, DL.qc_notv, DL.qc_ife, DL.qc_tup, DL.qc_lst, DL.qc_idx, DL.qc_slc, DL.qc_app, DL.qc_blt, DL.qc_fld, DL.qc_prp, DL.qc_mth, DL.qc_lno, DL.qc_addo, DL.qc_eqo, DL.qc_mk, DL.qc_appk, DL.qc_mthk, DL.qc_mkk, DL.qc_comp,
  DL.r_chn, DL.r_chn1, DL.r_chn3, DL.r_chn2, DL.r_slc, DL.r_slcp, DL.r_slc2, DL.r_slc3, DL.r_mth, DL.r_mth2, DL.r_lno, DL.r_lno1, DL.r_prp, DL.W.prO, DL.pr_ok, DL.r_addo, DL.r_add1, DL.r_eqo, DL.r_eq1, DL.r_eq2, DL.r_mk, DL.r_mkS, DL.r_mkN, DL.r_mkW, DL.r_mkWO, DL.strong_wk, DL.noW_wk, Option.map_none, DL.r_mk2,
  DL.r_mko, DL.r_appk, DL.r_appk2, DL.r_mthk, DL.r_mthk2, DL.r_mthk3, DL.r_mkk, DL.r_mkk1, DL.kwO_eq, DL.perm_nil, DL.perm_cons, DL.permR_some, DL.prt_nil, DL.prt_e, DL.k_prt, DL.notNil, DL.q_ilst, DL.q_iscr, DL.q_itup, DL.q_ir1,
  DL.q_ir2, DL.q_ien, DL.q_izp, DL.r_ilst, DL.r_iscr, DL.r_itup, DL.r_ir1, DL.r_ir2, DL.r_ir2b, DL.r_ien, DL.r_izp, DL.r_izp2, DL.rangeL_rg, DL.tstR_nil, DL.tst_e, DL.k_tst, DL.elt_e, DL.k_elt, DL.q_is1, DL.q_is2, DL.free_nil,
  DL.free_cons, DL.free_un, DL.free_val, DL.blank_nil, DL.blank_cons, DL.back_nil, DL.back_cons, DL.back_some, DL.q_call, DL.call_some, DL.call_k, DL.call_k2, DL.a_nil, DL.a_d, DL.a_wk, DL.a_io1, DL.a_io2, DL.a_wk2, DL.a_io3,
  DL.q_lent, DL.lentR_own, DL.lent_io, DL.pb_nil, DL.pb_cons, DL.pb_own, DL.pb_io, DL.ios_nil, DL.ios_d, DL.ios_wk, DL.ios_io, DL.wks_nil, DL.wks_d, DL.wks_wk, DL.wks_io, DL.okAr_eq, DL.nodup0, DL.nodup1, DL.q_held, DL.held_own,
  DL.held_io, DL.q_seq, DL.k_seq1, DL.k_seq2, DL.k_seq3, DL.k_seq4, List.all_nil, List.all_cons, List.isEmpty_nil, List.isEmpty_cons, Bool.true_or, Bool.or_true, Bool.false_or, Bool.or_false, Bool.not_true, Bool.not_false,
  Bool.false_and, Bool.and_false, DL.r_tup2, DL.r_lst2, DL.lim, Nat.reduceLeDiff, DL.n_val, DL.n_own, DL.n_io, DL.r_R, DL.r_bin, DL.r_binp, DL.r_bin2, DL.r_neg, DL.r_B, DL.r_cmp, DL.r_cmpp, DL.r_cmp2, DL.r_bl, DL.r_and, DL.r_or,
  DL.r_not, DL.r_if, DL.r_tup, DL.r_lst, DL.r_W, DL.r_idx, DL.r_idxp, DL.r_idx2, DL.r_D, DL.r_app, DL.r_blt, DL.r_blt2, DL.r_fld, DL.r_cons, DL.r_consp, DL.r_cons2, DL.r_io, DL.r_wk, DL.d_add, DL.d_sub, DL.d_lt, DL.d_le, DL.d_gt,
  DL.d_ge, DL.d_idxl, DL.d_idxt, DL.d_idxs, DL.ix_some, DL.at0, DL.at1, DL.at2, DL.q_sub, DL.sub_own, DL.sub_io, DL.sub_o, DL.sub_i, DL.ix30, DL.ix31, DL.ix32, DL.q_setSl, DL.set_un, DL.set_val, DL.set_own, DL.set_nio, DL.q_setTg,
  DL.q_setTup, DL.q_tis0, DL.q_tis, DL.b_int, DL.b_abs, DL.b_max2, DL.b_min2, DL.b_lenl, DL.b_lent, DL.b_lens, DL.isL_own, DL.isL_io, DL.e_nx, DL.e_ret, DL.okOuts, DL.outsOf, DL.weaks, DL.strong, Option.map_some, DL.ofO_some,
  DL.E.pure, Bool.and_self, Bool.and_true, Bool.true_and, DL.ownL, List.map_cons, List.map_nil, List.length_map, DL.d_eq, DL.d_ne, DL.dEq_int, DL.grow_own, DL.grow_io, DL.q_grow, DL.W.bind, DL.W.ok, DL.Res.bind_ok, List.getElem?_cons_zero,
  List.getElem?_cons_succ, List.length_cons, List.length_nil, List.replicate, List.cons_append, List.nil_append, List.set_cons_zero, List.set_cons_succ, Nat.reduceAdd, Nat.reduceSub, Nat.reduceBEq, Nat.reduceEqDiff, beq_self_eq_true,
  Int.reduceLE, Int.reduceLT, Int.reduceToNat, Int.reduceNeg, Int.reduceAdd, Int.reduceSub, Int.reduceMul, DL.initS, decide_true, decide_false, ↓reduceIte, Bool.false_eq_true, eq_self, and_self, true_and, and_true, DL.LoopQ,
  DL.x_aug, DL.aug_val, DL.k_aug2, DL.frz_own, DL.x_brk, DL.x_cnt, DL.x_retm, DL.retm_own, DL.x_frz, DL.d_powc, DL.powR_t, Int.reducePow, DL.b_tuple, DL.b_tuple1, DL.b_list0, DL.b_list1, DL.b_listt, DL.b_lists, DL.dsl_lst0,
  DL.dsl_lst1, DL.dsl_tup, DL.b_all, DL.b_any, DL.cln_non, DL.cln_int, DL.cln_bl, DL.cln_str, DL.cln_lst, DL.cln_tup, DL.all_map_int, DL.d_catc, DL.d_tcat, DL.q_isi, DL.r_isi, DL.isiD_obj, DL.isiD_lst, DL.isiD_tup, DL.isiD_non, DL.isiD_int, DL.isiD_bl, DL.isiD_str, DL.q_lrg, DL.r_lrg, DL.r_lrg1, DL.r_lrg2, DL.qc_isi, DL.qc_lrg, Option.isSome_some, DL.asB_bl, DL.asI_int, DL.q_star, DL.r_star, DL.r_star1, DL.r_star2, DL.sq_lst, DL.sq_tup, DL.q_apps, DL.r_apps, DL.r_apps1, DL.q_dget, DL.r_dget, DL.q_glc, DL.qc_apps, DL.qc_dget, DL.qc_glc, DL.strong_map, DL.strong_map0, DL.b_intt, DL.b_intf, DL.q_ir3, DL.r_ir3a, DL.r_ir3b, DL.r_ir3c, DL.x_paro, DL.k_paro, DL.eo_nil, DL.eo_t, DL.eo_f, DL.k_eot, DL.k_eof, DL.k_eo2, DL.x_appd, DL.k_appd, DL.k_appd2, DL.so_nil, DL.so_t, DL.so_f, DL.k_so, DL.k_nx, DL.x_setm, DL.k_setm, DL.il_lst, DL.il_int, DL.il_str, DL.fl_int, DL.fl_str, DL.x_rett, DL.k_rett, DL.k_rett1, DL.tk_nil, DL.tk_d, DL.tk_wk, DL.tk_own, DL.k_tk, DL.plainA, DL.ownT, m_law_draw, k_law_draw, m_law_pool, k_law_pool])
local macro_rules | `(tactic| walk_at "wk") => `(tactic| repeat (first
  | walk_at "dl"
  | rw [DL.atI_ints (by omega) (by omega)]
  | rw [DL.d_mod (by omega)]
  | rw [DL.d_mul (DL.mulOk_r (by omega))]
  | rw [DL.d_mul (DL.mulOk_l (by omega))]
  | rw [DL.d_fdiv (DL.divOk (by omega) (by omega))]
  | rw [if_pos (by omega)]
  | rw [decide_eq_true (by omega)]
  | rw [decide_eq_false (by omega)]))
def PoolOk (d : D) (B : Int) : Prop := ∃ p0 p1 p2 : Int, d = .lst [.int p0, .int p1, .int p2] ∧ 0 ≤ p1 ∧ p1 < 2 ^ 63 ∧ 0 ≤ p2 ∧ p2 ≤ B
theorem PoolOk.mono {d : D} {B C : Int} (h : PoolOk d B) (l : B ≤ C) : PoolOk d C := by
  obtain ⟨p0, p1, p2, e, h1, h2, h3, h4⟩ := h
  exact ⟨p0, p1, p2, e, h1, h2, h3, by omega⟩
/-- a draw -/
theorem draw {p : D} {B many : Int} (h : PoolOk p B) (hB : B ≤ 10 ^ 12) (hm : 0 < many) (hm' : many < 2 ^ 200) : W (f_law_draw.den [p, .int many]) fun x => ∃ r p', x = (.int r, [p']) ∧ 0 ≤ r ∧ r < many ∧ PoolOk p' (B + 1) := by
  obtain ⟨p0, p1, p2, rfl, h1, h1', h2, h2'⟩ := h
  have hd : DivOk many = true := divOk hm (Int.lt_trans hm' (by decide))
  have hz : many ≠ 0 := by omega
  rw [e_law_draw, run_eq rfl]
  walk_at "dl"
  by_cases h0 : 0 < p0
  · simp only [h0, decide_true, ↓reduceIte, d_mod hz]
    walk_at "dl"
    simp only [d_fdiv hd]
    walk_at "dl"
    exact ⟨_, _, rfl, Int.fmod_nonneg_of_pos _ hm, Int.fmod_lt_of_pos _ hm, _, _, _, rfl, h1, h1', h2, by omega⟩
  generalize hc1 : (15488849 : Int) = c1
  generalize hc2 : (32454521 : Int) = c2
  generalize hq1 : (162259276829213363391578010288127 : Int) = q1
  generalize hq2 : (170141183460469231731687303715884105727 : Int) = q2
  generalize hs : (1048576 : Int) = sh
  have e1 : MulOk c1 (p2 + 1) = true := mulOk_l (by omega)
  have e2 : MulOk c2 (p2 + 1) = true := mulOk_l (by omega)
  simp only [h0, decide_false, Bool.false_eq_true, ↓reduceIte]
  walk_at "dl"
  simp only [d_mul e1]
  walk_at "dl"
  have e3 : PowOk (p1 + c1 * (p2 + 1)) (3 : Nat) = true := powOk (m := 100) (by subst hc1; omega) (by decide) (by decide)
  have e3 : dBin .pow (0, .int (p1 + c1 * (p2 + 1))) (0, .int 3) = .ok (.int ((p1 + c1 * (p2 + 1)) ^ 3)) := d_pow e3
  simp only [e3]
  walk_at "dl"
  generalize (p1 + c1 * (p2 + 1)) ^ 3 = t
  rw [d_mod (show q1 ≠ 0 by omega)]
  walk_at "dl"
  have ht : 0 ≤ t.fmod q1 ∧ t.fmod q1 < q1 := ⟨Int.fmod_nonneg_of_pos _ (by omega), Int.fmod_lt_of_pos _ (by omega)⟩
  generalize t.fmod q1 = u at ht
  simp only [d_mul e2]
  walk_at "dl"
  have e4 : PowOk (u + c2 * (p2 + 1)) (5 : Nat) = true := powOk (m := 120) (by subst hc2 hq1; omega) (by decide) (by decide)
  have e4 : dBin .pow (0, .int (u + c2 * (p2 + 1))) (0, .int 5) = .ok (.int ((u + c2 * (p2 + 1)) ^ 5)) := d_pow e4
  simp only [e4]
  walk_at "dl"
  generalize (u + c2 * (p2 + 1)) ^ 5 = v
  rw [d_mod (show q2 ≠ 0 by omega)]
  walk_at "dl"
  rw [d_fdiv (show DivOk sh = true by subst hs; rfl)]
  walk_at "dl"
  rw [d_mod hz]
  walk_at "dl"
  exact ⟨_, _, rfl, Int.fmod_nonneg_of_pos _ hm, Int.fmod_lt_of_pos _ hm, _, _, _, rfl, h1, h1', by omega, by omega⟩
/-- the pool of a place of the script -/
theorem pool {ns : List Int} {i : Int} (h : 0 ≤ i) (h2 : i < 100) : W (f_law_pool.den [.nd .scr (ns.map .int), .int i]) fun x => ∃ p, x = (p, []) ∧ PoolOk p 0 := by
  rw [e_law_pool, run_eq rfl]
  walk_at "dl"
  generalize hc1 : (3367900777 : Int) = c1
  generalize hc2 : (2305843009213693951 : Int) = c2
  have e1 : MulOk c1 (i + 1) = true := mulOk_l (by omega)
  have hz : c2 ≠ 0 := by omega
  have main : ∀ g a : Int, PoolOk (.lst [.int (if a > 0 then a else 0), .int (g.fmod c2 + c1 * (i + 1)), .int 0]) 0 := fun g a => by
    have h3 : 0 ≤ g.fmod c2 := Int.fmod_nonneg_of_pos _ (by omega)
    have h4 : g.fmod c2 < c2 := Int.fmod_lt_of_pos _ (by omega)
    refine ⟨_, _, _, rfl, ?_, ?_, by omega, by omega⟩ <;> (subst hc1 hc2; omega)
  by_cases c : i < ns.length
  · simp only [c, decide_true, ↓reduceIte, atI_ints (show -(ns.length : Int) ≤ i by omega) c]
    walk_at "dl"
    simp only [d_mod hz]
    walk_at "dl"
    simp only [d_mul e1]
    walk_at "dl"
    exact ⟨_, rfl, main _ _⟩
  · simp only [c, decide_false, Bool.false_eq_true, ↓reduceIte]
    walk_at "dl"
    simp only [d_mod hz]
    walk_at "dl"
    simp only [d_mul e1]
    walk_at "dl"
    exact ⟨_, rfl, main _ _⟩
theorem up_app {l : List Int} {a : Int} {j : Nat} (hl : l.length = j + 1) (h : ∀ i : Nat, i + 1 < l.length → gI l (i : Int) ≤ gI l ((i + 1 : Nat) : Int)) (h2 : gI l (j : Int) ≤ a) : ∀ i : Nat, i + 1 < (l ++ [a]).length → gI (l ++ [a]) (i : Int) ≤ gI (l ++ [a]) ((i + 1 : Nat) : Int) := by
  intro i hi
  simp at hi
  rw [gI_append (by omega)]
  by_cases e : i + 1 < l.length
  · rw [gI_append e]; exact h i e
  · have e1 : i = j := by omega
    have e2 : i + 1 = l.length := by omega
    rw [e2, gI_append_last, e1]
    exact h2
/-- values of a line, what it adds -/
theorem values {p : D} {B many : Int} (h : PoolOk p B) (hB : B ≤ 10 ^ 11) (hm : 0 < many) (hm' : many ≤ 100) : W (f_law_values.den [p, .int many]) fun x => ∃ (l : List Int) (more : Int) (p' : D), x = (.tup [.lst (l.map .int), .int more], [p']) ∧ PoolOk p' (B + 300) ∧ Ok l more ∧ l.length ≤ many ∧ more ≤ 2000 ∧ (∀ v ∈ l, -20 ≤ v ∧ v ≤ 1000) := by
  rw [e_law_values, run_eq rfl]
  walk_at "dl"
  refine (draw h (by omega) (by omega) (by omega)).mono ?_
  rintro _ ⟨v, p1, rfl, hv, hv', hp1⟩
  walk_at "dl"
  refine (draw hp1 (by omega) (by omega) (by omega)).mono ?_
  rintro _ ⟨n, p2, rfl, hn, hn', hp2⟩
  walk_at "dl"
  rw [if_pos (by omega)]
  walk_at "dl"
  refine W_for (I := fun i env => ∃ (l : List Int) (p' : D) (t : Sl) (_ : Nio t), env = [.io 1 p', .val (.int many), .own 1 (.lst (l.map .int)), t, .un] ∧ PoolOk p' (B + 2 + 2 * i) ∧ l.length = i + 1 ∧ (∀ i : Nat, i + 1 < l.length → gI l (i : Int) ≤ gI l ((i + 1 : Nat) : Int)) ∧ (∀ v ∈ l, -20 ≤ v ∧ v ≤ 20 + 8 * (i : Int)) ∧ i ≤ n) ?_ ?_ ?_
  · refine ⟨[v - 20], p2, .un, inferInstance, rfl, hp2.mono (by omega), rfl, ?_, ?_, by omega⟩
    · intro i hi; simp at hi
    · simp; omega
  · rintro i x _ hx ⟨l, p', t, ht, rfl, hp', hl, hu, hb, hi⟩
    walk_at "dl"
    have e : atI (l.map D.int) (-1) = some (.int (gI l (i : Int))) := by
      rw [atI_ints (by omega) (by omega), gI_last (i := i) (by omega)]
    rw [e]
    walk_at "dl"
    refine (draw hp' (by omega) (by omega) (by omega)).mono ?_
    rintro _ ⟨a, p1, rfl, ha, ha', hp1⟩
    walk_at "dl"
    refine (draw hp1 (by omega) (by omega) (by omega)).mono ?_
    rintro _ ⟨b, p2, rfl, hb1, hb', hp2⟩
    walk_at "dl"
    obtain ⟨y, e, hy⟩ := pickI4 (x0 := 0) (x1 := 0) (x2 := 1) (x3 := a) hb1 hb'
    rw [e]
    walk_at "dl"
    have hi2 := lt_of_get hx
    simp only [List.length_map, rg_len] at hi2
    rw [if_pos (by omega), ap1]
    walk_at "dl"
    have hm : gI l (i : Int) ∈ l := by rw [gI_nat (by omega)]; simp
    have hb0 := hb _ hm
    refine ⟨_, _, _, inferInstance, rfl, hp2.mono (by omega), by simp; omega, up_app hl hu (by omega), ?_, by omega⟩
    intro v hv
    rcases List.mem_append.mp hv with hv | hv
    · have := hb v hv; omega
    · simp at hv; omega
  · rintro _ ⟨l, p', t, ht, rfl, hp', hl, hu, hb, hi⟩
    simp only [List.length_map, rg_len] at hp' hl hb hi
    walk_at "dl"
    refine (draw hp' (by omega) (by omega) (by omega)).mono ?_
    rintro _ ⟨a, p1, rfl, ha, ha', hp1⟩
    walk_at "dl"
    refine (draw hp1 (by omega) (by omega) (by omega)).mono ?_
    rintro _ ⟨b, p2, rfl, hb1, hb', hp2⟩
    walk_at "dl"
    refine (draw hp2 (by omega) (by omega) (by omega)).mono ?_
    rintro _ ⟨c, p3, rfl, hc1, hc', hp3⟩
    walk_at "dl"
    obtain ⟨y, e, hy⟩ := pickI4 (x0 := 0) (x1 := 1) (x2 := a) (x3 := b) hc1 hc'
    rw [e]
    walk_at "dl"
    rw [atI_ints (by omega) (by omega), gI_last (i := n.toNat) (by omega)]
    walk_at "dl"
    rw [atI_ints (by omega) (by omega)]
    walk_at "dl"
    have hm1 := hb (gI l (n.toNat : Int)) (by rw [gI_nat (by omega)]; simp)
    have hm2 := hb (gI l 0) (by rw [show gI l 0 = gI l ((0 : Nat) : Int) from rfl, gI_nat (by omega)]; simp)
    refine ⟨l, _, _, rfl, hp3.mono (by omega), ⟨by omega, hu, ?_⟩, by omega, by omega, ?_⟩
    · rw [show l.length - 1 = n.toNat by omega]; omega
    · intro v hv
      have := hb v hv
      omega
/-- the value of a line at a place -/
theorem lat_lap0 {l : List Int} {n : Int} (h : 0 < l.length) : n - n.fdiv l.length * l.length = n.fmod l.length := by
  have e := fdm (n := n) (p := l.length) (by omega)
  rw [e.1, e.2]
  have := Int.mul_ediv_add_emod n l.length
  rw [Int.mul_comm]
  omega
theorem lawAt {l : List Int} {r n : Int} (h : 0 < l.length) (hl : l.length ≤ 100000) (hr : r.natAbs < 2 ^ 64) : f_law_at.den [.lst (l.map .int), .int r, .int n] = .ok (.int (lat l r n), []) := by
  apply W.eq
  rw [e_law_at, run_eq rfl]
  walk_at "dl"
  rw [d_fdiv (divOk (by omega) (by omega))]
  walk_at "dl"
  rw [d_mul (mulOk_r (by omega))]
  walk_at "dl"
  rw [lat_lap0 h]
  have h1 : 0 ≤ n.fmod l.length := Int.fmod_nonneg_of_pos _ (by omega)
  have h2 : n.fmod l.length < l.length := Int.fmod_lt_of_pos _ (by omega)
  rw [atI_ints (by omega) (by omega)]
  walk_at "dl"
  rw [d_mul (mulOk_r hr)]
  walk_at "dl"
  unfold lat
  rw [Int.mul_comm r]
/-- a place, near or far -/
theorem place {p : D} {B : Int} (h : PoolOk p B) (hB : B ≤ 10 ^ 11) : W (f_law_place.den [p]) fun x => ∃ (r : Int) (p' : D), x = (.int r, [p']) ∧ r.natAbs < 2 ^ 104 ∧ PoolOk p' (B + 3) := by
  rw [e_law_place, run_eq rfl]
  walk_at "dl"
  refine (draw h (by omega) (by omega) (by omega)).mono ?_
  rintro _ ⟨a, p1, rfl, ha, ha', hp1⟩
  walk_at "dl"
  refine (draw hp1 (by omega) (by omega) (by omega)).mono ?_
  rintro _ ⟨b, p2, rfl, hb1, hb', hp2⟩
  walk_at "dl"
  rw [d_mul (mulOk_l (by omega))]
  walk_at "dl"
  refine (draw hp2 (by omega) (by omega) (by omega)).mono ?_
  rintro _ ⟨c, p3, rfl, hc1, hc', hp3⟩
  walk_at "dl"
  obtain ⟨y, e, hy⟩ := pickI3 (x0 := a - 20) (x1 := b - 5 * 10 ^ 30) (x2 := 0) hc1 hc'
  have e' := e
  simp only [Int.reducePow, Int.reduceMul] at e'
  rw [e']
  walk_at "dl"
  exact ⟨_, _, rfl, by omega, hp3.mono (by omega)⟩
end LP

-- part LPq
set_option Elab.async false
set_option linter.all false
set_option maxRecDepth 100000
set_option maxHeartbeats 1000000
/-! lines many times as steep -/
namespace LP
open PySem DL L2 FS LN
local macro_rules | `(tactic| walk_at "dl") => `(tactic| simp -implicitDefEqProofs only [DL.x_nil, DL.x_cons, DL.x_pass, DL.x_set, DL.x_ife, DL.x_par, DL.x_for, DL.x_whl, DL.x_ret, DL.x_retn, DL.x_drop, DL.x_sub, DL.x_app, DL.x_ext, DL.x_seto, DL.x_reto, DL.k_set, DL.k_seto, DL.k_par, DL.k_par2, DL.k_ife, DL.k_for,
  DL.k_ret, DL.k_reto, DL.k_drop, DL.k_sub, DL.k_sub2, DL.k_app, DL.k_ext, DL.q_name, DL.q_lit, DL.q_bin, DL.q_neg, DL.q_cmp, DL.q_and, DL.q_or, DL.q_not, DL.q_ife, DL.q_tup, DL.q_lst, DL.q_idx, DL.q_app, DL.q_blt, DL.q_fld,
  DL.q_nil, DL.q_cio, DL.q_cwk, DL.q_chn, DL.q_slc, DL.q_mth, DL.q_lno, DL.q_prp, DL.q_addo, DL.q_eqo, DL.q_mk, DL.q_appk, DL.q_mthk, DL.q_mkk, DL.q_comp, DL.qc_name, DL.qc_lit, DL.qc_bin, DL.qc_neg, DL.qc_cmp, DL.qc_chn, DL.qc_andv,
  DL.qc_orv, DL.qc_notv, DL.qc_ife, DL.qc_tup, DL.qc_lst, DL.qc_idx, DL.qc_slc, DL.qc_app, DL.qc_blt, DL.qc_fld, DL.qc_prp, DL.qc_mth, DL.qc_lno, DL.qc_addo, DL.qc_eqo, DL.qc_mk, DL.qc_appk, DL.qc_mthk, DL.qc_mkk, DL.qc_comp,
  DL.r_chn, DL.r_chn1, DL.r_chn3, DL.r_chn2, DL.r_slc, DL.r_slcp, DL.r_slc2, DL.r_slc3, DL.r_mth, DL.r_mth2, DL.r_lno, DL.r_lno1, DL.r_prp, DL.W.prO, DL.pr_ok, DL.r_addo, DL.r_add1, DL.r_eqo, DL.r_eq1, DL.r_eq2, DL.r_mk, DL.r_mkS, DL.r_mkN, DL.r_mkW, DL.r_mkWO, DL.strong_wk, DL.noW_wk, Option.map_none, DL.r_mk2,
  DL.r_mko, DL.r_appk, DL.r_appk2, DL.r_mthk, DL.r_mthk2, DL.r_mthk3, DL.r_mkk, DL.r_mkk1, DL.kwO_eq, DL.perm_nil, DL.perm_cons, DL.permR_some, DL.prt_nil, DL.prt_e, DL.k_prt, DL.notNil, DL.q_ilst, DL.q_iscr, DL.q_itup, DL.q_ir1,
  DL.q_ir2, DL.q_ien, DL.q_izp, DL.r_ilst, DL.r_iscr, DL.r_itup, DL.r_ir1, DL.r_ir2, DL.r_ir2b, DL.r_ien, DL.r_izp, DL.r_izp2, DL.rangeL_rg, DL.tstR_nil, DL.tst_e, DL.k_tst, DL.elt_e, DL.k_elt, DL.q_is1, DL.q_is2, DL.free_nil,
  DL.free_cons, DL.free_un, DL.free_val, DL.blank_nil, DL.blank_cons, DL.back_nil, DL.back_cons, DL.back_some, DL.q_call, DL.call_some, DL.call_k, DL.call_k2, DL.a_nil, DL.a_d, DL.a_wk, DL.a_io1, DL.a_io2, DL.a_wk2, DL.a_io3,
  DL.q_lent, DL.lentR_own, DL.lent_io, DL.pb_nil, DL.pb_cons, DL.pb_own, DL.pb_io, DL.ios_nil, DL.ios_d, DL.ios_wk, DL.ios_io, DL.wks_nil, DL.wks_d, DL.wks_wk, DL.wks_io, DL.okAr_eq, DL.nodup0, DL.nodup1, DL.q_held, DL.held_own,
  DL.held_io, DL.q_seq, DL.k_seq1, DL.k_seq2, DL.k_seq3, DL.k_seq4, List.all_nil, List.all_cons, List.isEmpty_nil, List.isEmpty_cons, Bool.true_or, Bool.or_true, Bool.false_or, Bool.or_false, Bool.not_true, Bool.not_false,
  Bool.false_and, Bool.and_false, DL.r_tup2, DL.r_lst2, DL.lim, Nat.reduceLeDiff, DL.n_val, DL.n_own, DL.n_io, DL.r_R, DL.r_bin, DL.r_binp, DL.r_bin2, DL.r_neg, DL.r_B, DL.r_cmp, DL.r_cmpp, DL.r_cmp2, DL.r_bl, DL.r_and, DL.r_or,
  DL.r_not, DL.r_if, DL.r_tup, DL.r_lst, DL.r_W, DL.r_idx, DL.r_idxp, DL.r_idx2, DL.r_D, DL.r_app, DL.r_blt, DL.r_blt2, DL.r_fld, DL.r_cons, DL.r_consp, DL.r_cons2, DL.r_io, DL.r_wk, DL.d_add, DL.d_sub, DL.d_lt, DL.d_le, DL.d_gt,
  DL.d_ge, DL.d_idxl, DL.d_idxt, DL.d_idxs, DL.ix_some, DL.at0, DL.at1, DL.at2, DL.q_sub, DL.sub_own, DL.sub_io, DL.sub_o, DL.sub_i, DL.ix30, DL.ix31, DL.ix32, DL.q_setSl, DL.set_un, DL.set_val, DL.set_own, DL.set_nio, DL.q_setTg,
  DL.q_setTup, DL.q_tis0, DL.q_tis, DL.b_int, DL.b_abs, DL.b_max2, DL.b_min2, DL.b_lenl, DL.b_lent, DL.b_lens, DL.isL_own, DL.isL_io, DL.e_nx, DL.e_ret, DL.okOuts, DL.outsOf, DL.weaks, DL.strong, Option.map_some, DL.ofO_some,
  DL.E.pure, Bool.and_self, Bool.and_true, Bool.true_and, DL.ownL, List.map_cons, List.map_nil, List.length_map, DL.d_eq, DL.d_ne, DL.dEq_int, DL.grow_own, DL.grow_io, DL.q_grow, DL.W.bind, DL.W.ok, DL.Res.bind_ok, List.getElem?_cons_zero,
  List.getElem?_cons_succ, List.length_cons, List.length_nil, List.replicate, List.cons_append, List.nil_append, List.set_cons_zero, List.set_cons_succ, Nat.reduceAdd, Nat.reduceSub, Nat.reduceBEq, Nat.reduceEqDiff, beq_self_eq_true,
  Int.reduceLE, Int.reduceLT, Int.reduceToNat, Int.reduceNeg, Int.reduceAdd, Int.reduceSub, Int.reduceMul, DL.initS, decide_true, decide_false, ↓reduceIte, Bool.false_eq_true, eq_self, and_self, true_and, and_true, DL.LoopQ,
  DL.x_aug, DL.aug_val, DL.k_aug2, DL.frz_own, DL.x_brk, DL.x_cnt, DL.x_retm, DL.retm_own, DL.x_frz, DL.d_powc, DL.powR_t, Int.reducePow, DL.b_tuple, DL.b_tuple1, DL.b_list0, DL.b_list1, DL.b_listt, DL.b_lists, DL.dsl_lst0,
  DL.dsl_lst1, DL.dsl_tup, DL.b_all, DL.b_any, DL.cln_non, DL.cln_int, DL.cln_bl, DL.cln_str, DL.cln_lst, DL.cln_tup, DL.all_map_int, DL.d_catc, DL.d_tcat, DL.q_isi, DL.r_isi, DL.isiD_obj, DL.isiD_lst, DL.isiD_tup, DL.isiD_non, DL.isiD_int, DL.isiD_bl, DL.isiD_str, DL.q_lrg, DL.r_lrg, DL.r_lrg1, DL.r_lrg2, DL.qc_isi, DL.qc_lrg, Option.isSome_some, DL.asB_bl, DL.asI_int, DL.q_star, DL.r_star, DL.r_star1, DL.r_star2, DL.sq_lst, DL.sq_tup, DL.q_apps, DL.r_apps, DL.r_apps1, DL.q_dget, DL.r_dget, DL.q_glc, DL.qc_apps, DL.qc_dget, DL.qc_glc, DL.strong_map, DL.strong_map0, DL.b_intt, DL.b_intf, DL.q_ir3, DL.r_ir3a, DL.r_ir3b, DL.r_ir3c, DL.x_paro, DL.k_paro, DL.eo_nil, DL.eo_t, DL.eo_f, DL.k_eot, DL.k_eof, DL.k_eo2, DL.x_appd, DL.k_appd, DL.k_appd2, DL.so_nil, DL.so_t, DL.so_f, DL.k_so, DL.k_nx, DL.x_setm, DL.k_setm, DL.il_lst, DL.il_int, DL.il_str, DL.fl_int, DL.fl_str, DL.x_rett, DL.k_rett, DL.k_rett1, DL.tk_nil, DL.tk_d, DL.tk_wk, DL.tk_own, DL.k_tk, DL.plainA, DL.ownT, m_law_draw, k_law_draw])
local macro_rules | `(tactic| walk_at "wk") => `(tactic| repeat (first
  | walk_at "dl"
  | rw [DL.atI_ints (by omega) (by omega)]
  | rw [DL.d_mod (by omega)]
  | rw [DL.d_mul (DL.mulOk_r (by omega))]
  | rw [DL.d_mul (DL.mulOk_l (by omega))]
  | rw [DL.d_fdiv (DL.divOk (by omega) (by omega))]
  | rw [if_pos (by omega)]
  | rw [decide_eq_true (by omega)]
  | rw [decide_eq_false (by omega)]))
theorem lawAtB {l : List Int} {r n : Int} (h : 0 < l.length) (hl : l.length ≤ 100000) (hr : r.natAbs < 2 ^ 500) (hn : n.natAbs < 2 ^ 500) : f_law_at.den [.lst (l.map .int), .int r, .int n] = .ok (.int (lat l r n), []) := by
  have h3 := natAbs_fdiv_le (n := n) (p := l.length) (by omega)
  apply W.eq
  rw [e_law_at, run_eq rfl]
  walk_at "dl"
  rw [d_fdiv (divOk (by omega) (by omega))]
  walk_at "dl"
  rw [d_mul (mulOk_r (by omega))]
  walk_at "dl"
  rw [lat_lap0 h]
  have h1 : 0 ≤ n.fmod l.length := Int.fmod_nonneg_of_pos _ (by omega)
  have h2 : n.fmod l.length < l.length := Int.fmod_lt_of_pos _ (by omega)
  rw [atI_ints (by omega) (by omega)]
  walk_at "dl"
  rw [d_mul (mulOk_big (Nat.lt_of_le_of_lt h3 hn) hr)]
  walk_at "dl"
  unfold lat
  rw [Int.mul_comm r]
theorem gI_map {f : Int → Int} {l : List Int} {i : Nat} (h : i < l.length) : gI (l.map f) (i : Int) = f (gI l (i : Int)) := by
  rw [gI_nat (by simpa using h), gI_nat h]; simp
theorem mul_ok {l : List Int} {r m : Int} (o : Ok l r) (hm : 0 ≤ m) : Ok (l.map (m * ·)) (m * r) := by
  have h := o.ne
  refine ⟨by simpa using h, fun i hi => ?_, ?_⟩
  · simp at hi
    rw [gI_map (by omega), gI_map (by omega)]
    exact Int.mul_le_mul_of_nonneg_left (o.up i hi) hm
  · rw [List.length_map, gI_map (by omega)]
    show m * _ ≤ gI (l.map (m * ·)) ((0 : Nat) : Int) + _
    rw [gI_map h, ← Int.mul_add]
    exact Int.mul_le_mul_of_nonneg_left o.la hm
theorem great {p : D} {B r : Int} {l : List Int} (h : PoolOk p B) (hB : B ≤ 10 ^ 11) (o : Ok l r) (hl : l.length ≤ 100) (hr : r ≤ 2000) (hv : ∀ v ∈ l, -20 ≤ v ∧ v ≤ 1000) :
    W (f_law_great.den [p, .lst (l.map .int), .int r]) fun x => ∃ (l' : List Int) (r' : Int) (p' : D), x = (.tup [.lst (l'.map .int), .int r'], [p']) ∧ PoolOk p' (B + 1) ∧ Ok l' r' ∧ l'.length = l.length ∧ LB 110 l' r' := by
  have h0 := rise_nn o
  rw [e_law_great, run_eq rfl]
  walk_at "dl"
  refine (draw h (by omega) (by omega) (by omega)).mono ?_
  rintro _ ⟨b, p1, rfl, hb, hb', hp1⟩
  walk_at "dl"
  obtain ⟨m, e, hm⟩ := pickI4 (x0 := 1) (x1 := 1) (x2 := 1) (x3 := 1000000000000000000000000000) hb hb'
  rw [e]
  walk_at "dl"
  refine W_list (p := fun _ => true) (g := fun n => .int (m * n)) (by walk_at "dl") (by simp only [lim]; omega) ?_ ?_
  · intro i hi
    have := hv i hi
    walk_at "dl"
    rw [d_mul (mulOk_r (by omega))]
    walk_at "dl"
  · walk_at "dl"
    rw [d_mul (mulOk_r (by omega))]
    walk_at "dl"
    have hmB : Bd 90 m := by unfold Bd; omega
    refine ⟨l.map (m * ·), m * r, p1, ?_, hp1, mul_ok o (by omega), by simp, ?_, ?_⟩
    · simp [filt_true, Function.comp_def]
    · intro v hv'
      obtain ⟨w, hw, rfl⟩ := List.mem_map.mp hv'
      have := hv w hw
      exact (hmB.mul (k := 11) (by unfold Bd; omega)).mono (by omega)
    · exact (hmB.mul (k := 11) (by unfold Bd; omega)).mono (by omega)
end LP

-- part K01b
set_option Elab.async false
set_option linter.all false
set_option maxRecDepth 100000
set_option maxHeartbeats 1000000
namespace K01
open PySem L2 DL FS LP
/-! _law_often -/
noncomputable abbrev b_law_often : S :=
 (.cons (.seto 1 3 (.lst .nil))
 (.cons (.for_ [5] (.irg1 (.bin .add (.lit (.int 1)) (.app f_law_draw (.cons (.ioa 0) (.cons (.lit (.int 3)) .nil)))))
 (.cons (.ext 3 .nil (.comp [4] (.ilst (.name 1)) .nil (.bin .add (.name 4) (.bin .mul (.name 5) (.name 2)))))
 .nil))
 (.cons (.rett (.cons (.wka 3) (.cons (.bin .mul (.name 2) (.bin .fdiv (.blt .len (.cons (.name 3) .nil)) (.blt .len (.cons (.name 1) .nil)))) .nil)))
 .nil)))
abbrev n_law_often : List Str := ["pool", "found", "more", "longer", "one", "lap"]
noncomputable def f_law_often : FnD := ⟨"_law_often", [1, 0, 0], 2, run [1, 0, 0] 6 b_law_often⟩
theorem m_law_often : f_law_often.ms = [1, 0, 0] := rfl
theorem k_law_often : f_law_often.rk = 2 := rfl
theorem e_law_often : f_law_often.den = run [1, 0, 0] 6 b_law_often := rfl
/-! _law_least -/
noncomputable abbrev b_law_least : S :=
 (.cons (.for_ [4] (.irg2 (.lit (.int 1)) (.bin .add (.blt .len (.cons (.name 0) .nil)) (.lit (.int 1))))
 (.cons (.ife (.andv (.cmp .eq (.bin .mod (.blt .int (.cons (.blt .len (.cons (.name 0) .nil)) .nil)) (.name 4)) (.lit (.int 0))) (.cmp .eq (.bin .mod (.blt .int (.cons (.bin .mul (.name 1) (.name 4)) .nil)) (.blt .len (.cons (.name 0) .nil))) (.lit (.int 0))))
 (.cons (.set (.one (.sl 3)) (.bin .fdiv (.bin .mul (.name 1) (.name 4)) (.blt .len (.cons (.name 0) .nil))))
 (.cons (.ife (.cmp .eq (.comp [2] (.irg1 (.bin .sub (.blt .len (.cons (.name 0) .nil)) (.name 4))) (.cmp .ne (.idx (.name 0) (.bin .add (.name 2) (.name 4))) (.bin .add (.idx (.name 0) (.name 2)) (.name 3))) (.lit (.int 1))) (.lst .nil))
 (.cons (.ret (.tup (.cons (.slc (.name 0) .nil (.name 4)) (.cons (.name 3) .nil))))
 .nil)
 .nil)
 .nil))
 .nil)
 .nil))
 (.cons (.ret (.lit .non))
 .nil))
abbrev n_law_least : List Str := ["found", "more", "at", "step", "part"]
noncomputable def f_law_least : FnD := ⟨"_law_least", [0, 0], 0, run [0, 0] 5 b_law_least⟩
theorem m_law_least : f_law_least.ms = [0, 0] := rfl
theorem k_law_least : f_law_least.rk = 0 := rfl
theorem e_law_least : f_law_least.den = run [0, 0] 5 b_law_least := rfl
/-! _law_right -/
noncomputable abbrev b_law_right : S :=
 (.cons (.set (.tup [(.sl 2), (.sl 1)]) (.app f_law_values (.cons (.ioa 0) (.cons (.lit (.int 8)) .nil))))
 (.cons (.set (.tup [(.sl 2), (.sl 1)]) (.app f_law_great (.cons (.ioa 0) (.cons (.name 2) (.cons (.name 1) .nil)))))
 (.cons (.setm [4, 3] (.app f_law_often (.cons (.ioa 0) (.cons (.name 2) (.cons (.name 1) .nil)))))
 (.cons (.par [6, 5] (.cons (.blt .list (.cons (.name 4) .nil)) (.cons (.app f_law_least (.cons (.name 2) (.cons (.name 1) .nil))) .nil)))
 (.cons (.set (.tup [(.sl 8), (.sl 7)]) (.tup (.cons (.mk 0 f_Line_init (.cons (.wka 4) (.cons (.name 3) .nil))) (.cons (.mkk 0 f_Line_init ["rise", "starts"] [1, 0] (.cons (.name 1) (.cons (.name 2) .nil))) .nil))))
 (.cons (.ife (.orv (.cmp .ne (.tup (.cons (.prp 0 f_Line_starts (.name 8)) (.cons (.prp 0 f_Line_rise (.name 8)) (.cons (.lno 0 f_Line_len (.name 8)) .nil)))) (.tup (.cons (.idx (.name 5) (.lit (.int 0))) (.cons (.idx (.name 5) (.lit (.int 1))) (.cons (.blt .len (.cons (.idx (.name 5) (.lit (.int 0))) .nil)) .nil))))) (.cmp .ne (.name 4) (.name 6)))
 (.cons (.ret (.lit (.bl false)))
 .nil)
 .nil)
 (.cons (.for_ [10] (.irg1 (.lit (.int 4)))
 (.cons (.set (.one (.sl 9)) (.app f_law_place (.cons (.ioa 0) .nil)))
 (.cons (.ife (.cmp .ne (.lst (.cons (.mth 0 f_Line_at (.name 8) (.cons (.name 9) .nil)) (.cons (.mthk 0 f_Line_at ["n"] [0] (.name 7) (.cons (.name 9) .nil)) .nil))) (.bin .mul (.lst (.cons (.app f_law_at (.cons (.name 2) (.cons (.name 1) (.cons (.name 9) .nil)))) .nil)) (.lit (.int 2))))
 (.cons (.ret (.lit (.bl false)))
 .nil)
 .nil)
 .nil)))
 (.cons (.app 4 .nil (.lit .non))
 (.cons (.frz 4)
 (.cons (.appd (.prp 0 f_Line_starts (.name 8)) (.lit (.int 99)))
 (.cons (.set (.tup [(.sl 11), (.sl 3)]) (.app f_law_values (.cons (.ioa 0) (.cons (.lit (.int 3)) .nil))))
 (.cons (.ife (.cmp .eq (.app f_law_draw (.cons (.ioa 0) (.cons (.lit (.int 2)) .nil))) (.lit (.int 0)))
 (.cons (.par [11, 3] (.cons (.blt .list (.cons (.name 2) .nil)) (.cons (.name 1) .nil)))
 (.cons (.set (.one (.sl 13)) (.app f_law_draw (.cons (.ioa 0) (.cons (.blt .len (.cons (.name 11) .nil)) .nil))))
 (.cons (.set (.one (.sl 11)) (.bin .add (.slc (.name 11) .nil (.name 13)) (.comp [12] (.ilst (.slc (.name 11) (.name 13) .nil)) .nil (.bin .add (.name 12) (.lit (.int 1))))))
 (.cons (.set (.one (.sl 3)) (.bin .add (.name 1) (.blt .int (.cons (.cmp .gt (.name 13) (.lit (.int 0))) .nil))))
 .nil))))
 .nil)
 (.cons (.set (.one (.sl 14)) (.mk 0 f_Line_init (.cons (.name 11) (.cons (.name 3) .nil))))
 (.cons (.ife (.cmp .ne (.lst (.cons (.eqo 0 f_Line_eq (.name 8) (.name 14)) (.cons (.eqo 0 f_Line_eq (.name 14) (.name 8)) .nil))) (.bin .mul (.lst (.cons (.cmp .eq (.app f_law_least (.cons (.name 11) (.cons (.name 3) .nil))) (.name 5)) .nil)) (.lit (.int 2))))
 (.cons (.ret (.lit (.bl false)))
 .nil)
 .nil)
 (.cons (.set (.one (.sl 15)) (.lst (.cons (.idx (.name 5) (.lit (.int 0))) (.cons (.name 5) (.cons (.lit (.int 0)) (.cons (.lit .non) (.cons (.lit (.str "line")) (.cons (.name 4) .nil))))))))
 (.cons (.ret (.andv (.eqo 0 f_Line_eq (.name 8) (.name 7)) (.andv (.cmp .eq (.prp 0 f_Line_starts (.name 8)) (.idx (.name 5) (.lit (.int 0)))) (.cmp .eq (.comp [16] (.ilst (.name 15)) (.eqo 0 f_Line_eq (.name 8) (.name 16)) (.lit (.int 1))) (.lst .nil)))))
 .nil))))))))))))))))
abbrev n_law_right : List Str := ["pool", "more", "found", "much", "longer", "due", "held", "short", "line", "place", "turn", "other", "one", "spot", "second", "odd", "thing"]
noncomputable def f_law_right : FnD := ⟨"_law_right", [1], 0, run [1] 17 b_law_right⟩
theorem m_law_right : f_law_right.ms = [1] := rfl
theorem k_law_right : f_law_right.rk = 0 := rfl
theorem e_law_right : f_law_right.den = run [1] 17 b_law_right := rfl
/-! law -/
noncomputable abbrev b_law : S :=
 (.cons (.for_ [3] (.irg1 (.blt .max2 (.cons (.lit (.int 1)) (.cons (.blt .min2 (.cons (.lit (.int 10)) (.cons (.blt .len (.cons (.name 0) .nil)) .nil))) .nil))))
 (.cons (.seto 1 2 (.app f_law_pool (.cons (.name 0) (.cons (.name 3) .nil))))
 (.cons (.for_ [1] (.irg1 (.lit (.int 10)))
 (.cons (.ife (.notv (.app f_law_right (.cons (.ioa 2) .nil)))
 (.cons (.ret (.lit (.bl false)))
 .nil)
 .nil)
 .nil))
 .nil)))
 (.cons (.set (.one (.sl 4)) (.mk 0 f_Line_init (.cons (.lst (.cons (.lit (.int 0)) (.cons (.lit (.int 0)) (.cons (.lit (.int 1)) (.cons (.lit (.int 1)) .nil))))) (.cons (.lit (.int 2)) .nil))))
 (.cons (.ret (.andv (.cmp .eq (.lst (.cons (.prp 0 f_Line_starts (.name 4)) (.cons (.prp 0 f_Line_rise (.name 4)) (.cons (.lno 0 f_Line_len (.name 4)) (.cons (.mth 0 f_Line_at (.name 4) (.cons (.neg (.lit (.int 3))) .nil)) .nil))))) (.lst (.cons (.lst (.cons (.lit (.int 0)) (.cons (.lit (.int 0)) .nil))) (.cons (.lit (.int 1)) (.cons (.lit (.int 2)) (.cons (.neg (.lit (.int 2))) .nil)))))) (.cmp .eq (.lno 0 f_Line_len (.mk 0 f_Line_init (.cons (.lst (.cons (.lit (.int 7)) (.cons (.lit (.int 7)) (.cons (.lit (.int 7)) .nil)))) (.cons (.lit (.int 0)) .nil)))) (.lit (.int 1)))))
 .nil)))
abbrev n_law : List Str := ["script", "turn", "pool", "at", "half"]
noncomputable def f_law : FnD := ⟨"law", [0], 0, run [0] 5 b_law⟩
theorem m_law : f_law.ms = [0] := rfl
theorem k_law : f_law.rk = 0 := rfl
theorem e_law : f_law.den = run [0] 5 b_law := rfl
end K01

-- part K01
set_option Elab.async false
set_option linter.all false
set_option maxRecDepth 100000
set_option maxHeartbeats 1000000
namespace K01
open PySem PySem.Spec PyProof.Rows L2 DL FS LP
def top (i : Nat) : Stmt := PySem.Challenge.pw_fitsizes_k01_lines_made.main.body.getD i (.Pass ⟨0, 0, 0, 0⟩)
def inn (i j : Nat) : Stmt := match top i with
  | .ClassDef _ _ _ b _ _ _ _ _ _ _ => b.getD j (.Pass ⟨0, 0, 0, 0⟩)
  | _ => .Pass ⟨0, 0, 0, 0⟩
/-! the checks -/
theorem c_law_draw : chkS n_law_draw (defScope (top 14)) 0 b_law_draw (defBody (top 14)) = true := by kernel_rfl
theorem s_law_draw : C8.scC n_law_draw ["pool", "many"] (defScope (top 14)) = true := by kernel_rfl
theorem c_law_values : chkS n_law_values (defScope (top 15)) 0 b_law_values (defBody (top 15)) = true := by kernel_rfl
theorem s_law_values : C8.scC n_law_values ["pool", "many"] (defScope (top 15)) = true := by kernel_rfl
theorem c_law_great : chkS n_law_great (defScope (top 17)) 0 b_law_great (defBody (top 17)) = true := by kernel_rfl
theorem s_law_great : C8.scC n_law_great ["pool", "found", "more"] (defScope (top 17)) = true := by kernel_rfl
theorem c_law_often : chkS n_law_often (defScope (top 16)) 2 b_law_often (defBody (top 16)) = true := by kernel_rfl
theorem s_law_often : C8.scC n_law_often ["pool", "found", "more"] (defScope (top 16)) = true := by kernel_rfl
theorem c_law_least : chkS n_law_least (defScope (top 20)) 0 b_law_least (defBody (top 20)) = true := by kernel_rfl
theorem s_law_least : C8.scC n_law_least ["found", "more"] (defScope (top 20)) = true := by kernel_rfl
theorem c_check_line : chkS n_check_line (defScope (top 8)) 0 b_check_line (defBody (top 8)) = true := by kernel_rfl
theorem s_check_line : C8.scC n_check_line ["starts", "rise"] (defScope (top 8)) = true := by kernel_rfl
theorem c_has_period : chkS n_has_period (defScope (top 9)) 0 b_has_period (defBody (top 9)) = true := by kernel_rfl
theorem s_has_period : C8.scC n_has_period ["starts", "rise", "period"] (defScope (top 9)) = true := by kernel_rfl
theorem c_divisors_of : chkS n_divisors_of (defScope (top 7)) 0 b_divisors_of (defBody (top 7)) = true := by kernel_rfl
theorem s_divisors_of : C8.scC n_divisors_of ["number"] (defScope (top 7)) = true := by kernel_rfl
theorem c_least_form : chkS n_least_form (defScope (top 10)) 0 b_least_form (defBody (top 10)) = true := by kernel_rfl
theorem s_least_form : C8.scC n_least_form ["starts", "rise"] (defScope (top 10)) = true := by kernel_rfl
theorem c_Line_init : chkS n_Line_init (defScope (inn 11 0)) 0 b_Line_init (defBody (inn 11 0)) = true := by kernel_rfl
theorem s_Line_init : C8.scC n_Line_init ["self", "starts", "rise"] (defScope (inn 11 0)) = true := by kernel_rfl
theorem c_Line_len : chkS n_Line_len (defScope (inn 11 3)) 0 b_Line_len (defBody (inn 11 3)) = true := by kernel_rfl
theorem s_Line_len : C8.scC n_Line_len ["self"] (defScope (inn 11 3)) = true := by kernel_rfl
theorem c_Line_rise : chkS n_Line_rise (defScope (inn 11 2)) 0 b_Line_rise (defBody (inn 11 2)) = true := by kernel_rfl
theorem s_Line_rise : C8.scC n_Line_rise ["self"] (defScope (inn 11 2)) = true := by kernel_rfl
theorem c_Line_starts : chkS n_Line_starts (defScope (inn 11 1)) 1 b_Line_starts (defBody (inn 11 1)) = true := by kernel_rfl
theorem s_Line_starts : C8.scC n_Line_starts ["self"] (defScope (inn 11 1)) = true := by kernel_rfl
theorem c_law_at : chkS n_law_at (defScope (top 18)) 0 b_law_at (defBody (top 18)) = true := by kernel_rfl
theorem s_law_at : C8.scC n_law_at ["found", "more", "place"] (defScope (top 18)) = true := by kernel_rfl
theorem c_Line_at : chkS n_Line_at (defScope (inn 11 5)) 0 b_Line_at (defBody (inn 11 5)) = true := by kernel_rfl
theorem s_Line_at : C8.scC n_Line_at ["self", "n"] (defScope (inn 11 5)) = true := by kernel_rfl
theorem c_law_place : chkS n_law_place (defScope (top 19)) 0 b_law_place (defBody (top 19)) = true := by kernel_rfl
theorem s_law_place : C8.scC n_law_place ["pool"] (defScope (top 19)) = true := by kernel_rfl
theorem c_Line_eq : chkS n_Line_eq (defScope (inn 11 4)) 0 b_Line_eq (defBody (inn 11 4)) = true := by kernel_rfl
theorem s_Line_eq : C8.scC n_Line_eq ["self", "other"] (defScope (inn 11 4)) = true := by kernel_rfl
theorem c_law_right : chkS n_law_right (defScope (top 21)) 0 b_law_right (defBody (top 21)) = true := by kernel_rfl
theorem s_law_right : C8.scC n_law_right ["pool"] (defScope (top 21)) = true := by kernel_rfl
theorem c_law_pool : chkS n_law_pool (defScope (top 13)) 1 b_law_pool (defBody (top 13)) = true := by kernel_rfl
theorem s_law_pool : C8.scC n_law_pool ["script", "at"] (defScope (top 13)) = true := by kernel_rfl
theorem c_law : chkS n_law (defScope (top 22)) 0 b_law (defBody (top 22)) = true := by kernel_rfl
theorem s_law : C8.scC n_law ["script"] (defScope (top 22)) = true := by kernel_rfl
/-! the top -/
def fcs : List He.Fa := [.glo "_law_draw", .glo "_law_values", .glo "_law_great", .glo "_law_often", .glo "_law_least", .glo "check_line", .glo "has_period", .glo "divisors_of", .glo "least_form", .glo "_law_at", .glo "_law_place", .glo "_law_right", .glo "_law_pool", .glo "law", .glo "Line", .free "isinstance", .free "len", .free "abs", .free "min", .free "max", .free "sum", .free "all", .free "any", .free "sorted", .free "list", .free "tuple", .free "int", .free "str", .free "range", .free "enumerate", .free "zip", .cls "Line", .noat "Line" "kept_starts", .noat "Line" "kept_rise", .mkr "Line", .meth "Line" "at"]
def prs : List (Str × Str) := [("Line", "rise"), ("Line", "starts")]
def ops : List (Str × Str) := [("Line", "__len__"), ("Line", "__eq__")]
def sfs : List Str := []
def iss : List Str := ["Line"]
def tbs : List (Str × List (Str × Int)) := []
def tabs : List He.Tab := tbs.map fun t => (fun K => He.ga K t.1, t.2.map (·.1))
def ck (K : PySem.W.Frag) : Bool := (fcs.all fun f => f.ok K) && ((tbs.all fun t => tabB K (He.ga K t.1) t.2) && ((prs.all fun p => propB K (He.ga K p.1) p.2) && ((ops.all fun p => opB K (He.ga K p.1) p.2) && ((sfs.all fun x => PySem.W.selfFirst K (He.ga K x)) && (iss.all fun x => isB K (He.ga K x))))))
def d_law_draw : Df := ⟨fun K => He.ga K "_law_draw", "_law_draw", "_law_draw", defArgs (top 14), defBody (top 14), defScope (top 14)⟩
def d_law_values : Df := ⟨fun K => He.ga K "_law_values", "_law_values", "_law_values", defArgs (top 15), defBody (top 15), defScope (top 15)⟩
def d_law_great : Df := ⟨fun K => He.ga K "_law_great", "_law_great", "_law_great", defArgs (top 17), defBody (top 17), defScope (top 17)⟩
def d_law_often : Df := ⟨fun K => He.ga K "_law_often", "_law_often", "_law_often", defArgs (top 16), defBody (top 16), defScope (top 16)⟩
def d_law_least : Df := ⟨fun K => He.ga K "_law_least", "_law_least", "_law_least", defArgs (top 20), defBody (top 20), defScope (top 20)⟩
def d_check_line : Df := ⟨fun K => He.ga K "check_line", "check_line", "check_line", defArgs (top 8), defBody (top 8), defScope (top 8)⟩
def d_has_period : Df := ⟨fun K => He.ga K "has_period", "has_period", "has_period", defArgs (top 9), defBody (top 9), defScope (top 9)⟩
def d_divisors_of : Df := ⟨fun K => He.ga K "divisors_of", "divisors_of", "divisors_of", defArgs (top 7), defBody (top 7), defScope (top 7)⟩
def d_least_form : Df := ⟨fun K => He.ga K "least_form", "least_form", "least_form", defArgs (top 10), defBody (top 10), defScope (top 10)⟩
def d_Line_init : Df := ⟨fun K => He.ma K (He.ga K "Line") "__init__", "__init__", "Line.__init__", defArgs (inn 11 0), defBody (inn 11 0), defScope (inn 11 0)⟩
def d_Line_len : Df := ⟨fun K => He.ma K (He.ga K "Line") "__len__", "__len__", "Line.__len__", defArgs (inn 11 3), defBody (inn 11 3), defScope (inn 11 3)⟩
def d_Line_rise : Df := ⟨fun K => getA K (He.ga K "Line") "rise", "rise", "Line.rise", defArgs (inn 11 2), defBody (inn 11 2), defScope (inn 11 2)⟩
def d_Line_starts : Df := ⟨fun K => getA K (He.ga K "Line") "starts", "starts", "Line.starts", defArgs (inn 11 1), defBody (inn 11 1), defScope (inn 11 1)⟩
def d_law_at : Df := ⟨fun K => He.ga K "_law_at", "_law_at", "_law_at", defArgs (top 18), defBody (top 18), defScope (top 18)⟩
def d_Line_at : Df := ⟨fun K => He.ma K (He.ga K "Line") "at", "at", "Line.at", defArgs (inn 11 5), defBody (inn 11 5), defScope (inn 11 5)⟩
def d_law_place : Df := ⟨fun K => He.ga K "_law_place", "_law_place", "_law_place", defArgs (top 19), defBody (top 19), defScope (top 19)⟩
def d_Line_eq : Df := ⟨fun K => He.ma K (He.ga K "Line") "__eq__", "__eq__", "Line.__eq__", defArgs (inn 11 4), defBody (inn 11 4), defScope (inn 11 4)⟩
def d_law_right : Df := ⟨fun K => He.ga K "_law_right", "_law_right", "_law_right", defArgs (top 21), defBody (top 21), defScope (top 21)⟩
def d_law_pool : Df := ⟨fun K => He.ga K "_law_pool", "_law_pool", "_law_pool", defArgs (top 13), defBody (top 13), defScope (top 13)⟩
def d_law : Df := ⟨fun K => He.ga K "law", "law", "law", defArgs (top 22), defBody (top 22), defScope (top 22)⟩
def dfs : List Df := [d_law_draw, d_law_values, d_law_great, d_law_often, d_law_least, d_check_line, d_has_period, d_divisors_of, d_least_form, d_Line_init, d_Line_len, d_Line_rise, d_Line_starts, d_law_at, d_Line_at, d_law_place, d_Line_eq, d_law_right, d_law_pool, d_law]
abbrev mo (K : PySem.W.Frag) : Mo := ⟨K, fun c => if c = 0 then some (He.ga K "Line") else none⟩
set_option maxHeartbeats 4000000
theorem w_law_draw : b_law_draw.needs = [] := by kernel_rfl
theorem w_law_values : b_law_values.needs = [.gl f_law_draw, .gl f_law_draw, .gl f_law_draw, .gl f_law_draw, .gl f_law_draw, .gl f_law_draw, .gl f_law_draw] := by kernel_rfl
theorem w_law_great : b_law_great.needs = [.gl f_law_draw] := by kernel_rfl
theorem w_law_often : b_law_often.needs = [.gl f_law_draw] := by kernel_rfl
theorem w_law_least : b_law_least.needs = [] := by kernel_rfl
theorem w_check_line : b_check_line.needs = [] := by kernel_rfl
theorem w_has_period : b_has_period.needs = [] := by kernel_rfl
theorem w_divisors_of : b_divisors_of.needs = [] := by kernel_rfl
theorem w_least_form : b_least_form.needs = [.gl f_divisors_of, .gl f_has_period] := by kernel_rfl
theorem w_Line_init : b_Line_init.needs = [.gl f_check_line, .fd 0 "kept_starts", .fd 0 "kept_rise", .gl f_least_form] := by kernel_rfl
theorem w_Line_len : b_Line_len.needs = [.fd 0 "kept_starts"] := by kernel_rfl
theorem w_Line_rise : b_Line_rise.needs = [.fd 0 "kept_rise"] := by kernel_rfl
theorem w_Line_starts : b_Line_starts.needs = [.fd 0 "kept_starts"] := by kernel_rfl
theorem w_law_at : b_law_at.needs = [] := by kernel_rfl
theorem w_Line_at : b_Line_at.needs = [.fd 0 "kept_starts", .fd 0 "kept_starts", .fd 0 "kept_rise"] := by kernel_rfl
theorem w_law_place : b_law_place.needs = [.gl f_law_draw, .gl f_law_draw, .gl f_law_draw] := by kernel_rfl
theorem w_Line_eq : b_Line_eq.needs = [.is 0 "Line", .fd 0 "kept_starts", .fd 0 "kept_rise", .fd 0 "kept_starts", .fd 0 "kept_rise"] := by kernel_rfl
theorem w_law_right : b_law_right.needs = [.gl f_law_values, .gl f_law_great, .gl f_law_often, .gl f_law_least, .mk 0 f_Line_init, .mkk 0 f_Line_init ["rise", "starts"] [1, 0], .pr 0 f_Line_starts, .pr 0 f_Line_rise, .ln 0 f_Line_len, .gl f_law_place, .mt 0 f_Line_at, .mtk 0 f_Line_at ["n"] [0], .gl f_law_at, .pr 0 f_Line_starts, .gl f_law_values, .gl f_law_draw, .gl f_law_draw, .mk 0 f_Line_init, .eq 0 f_Line_eq, .eq 0 f_Line_eq, .gl f_law_least, .eq 0 f_Line_eq, .pr 0 f_Line_starts, .eq 0 f_Line_eq] := by kernel_rfl
theorem w_law_pool : b_law_pool.needs = [] := by kernel_rfl
theorem w_law : b_law.needs = [.gl f_law_pool, .gl f_law_right, .mk 0 f_Line_init, .pr 0 f_Line_starts, .pr 0 f_Line_rise, .ln 0 f_Line_len, .mt 0 f_Line_at, .ln 0 f_Line_len, .mk 0 f_Line_init] := by kernel_rfl
theorem facts {P : Program} {w : World} {K : PySem.W.Frag} {h : Heap} {mg : Str → Option Value} {fa : Addr} (X : K.In h) (G : h.Ns mainGlobals mg) (hfa : mg ("law" : Str) = some (.ref fa)) (c : ck K = true) (d : ∀ x ∈ dfs, x.Has K) (tb : TabsOk w K tabs) :
    ∃ fd : FuncData, (∀ (s : Shared) (v : Value), BindsTo s fd ⟨[v], []⟩ [("script", v)]) ∧ ∀ base : Heap, K.In base → base.Ns mainGlobals mg → FnOk P w K mg base CX0 13 fa fd ["script"] (Spec (mo K) f_law) := by
  obtain ⟨c1, c2⟩ := Bool.and_eq_true_iff.mp c
  obtain ⟨ct, c2⟩ := Bool.and_eq_true_iff.mp c2
  obtain ⟨c2, c3⟩ := Bool.and_eq_true_iff.mp c2
  obtain ⟨c3, c4⟩ := Bool.and_eq_true_iff.mp c3
  obtain ⟨c4, c5⟩ := Bool.and_eq_true_iff.mp c4
  have k1 : ∀ (i : Nat) {f : He.Fa}, fcs[i]? = some f → f.ok K = true := fun i f e => List.all_eq_true.mp c1 f (List.mem_of_getElem? e)
  have g__law_draw : mg ("_law_draw" : Str) = some (.ref (He.ga K "_law_draw")) := He.glo_ok X G (k1 0 rfl)
  have g__law_values : mg ("_law_values" : Str) = some (.ref (He.ga K "_law_values")) := He.glo_ok X G (k1 1 rfl)
  have g__law_great : mg ("_law_great" : Str) = some (.ref (He.ga K "_law_great")) := He.glo_ok X G (k1 2 rfl)
  have g__law_often : mg ("_law_often" : Str) = some (.ref (He.ga K "_law_often")) := He.glo_ok X G (k1 3 rfl)
  have g__law_least : mg ("_law_least" : Str) = some (.ref (He.ga K "_law_least")) := He.glo_ok X G (k1 4 rfl)
  have g_check_line : mg ("check_line" : Str) = some (.ref (He.ga K "check_line")) := He.glo_ok X G (k1 5 rfl)
  have g_has_period : mg ("has_period" : Str) = some (.ref (He.ga K "has_period")) := He.glo_ok X G (k1 6 rfl)
  have g_divisors_of : mg ("divisors_of" : Str) = some (.ref (He.ga K "divisors_of")) := He.glo_ok X G (k1 7 rfl)
  have g_least_form : mg ("least_form" : Str) = some (.ref (He.ga K "least_form")) := He.glo_ok X G (k1 8 rfl)
  have g__law_at : mg ("_law_at" : Str) = some (.ref (He.ga K "_law_at")) := He.glo_ok X G (k1 9 rfl)
  have g__law_place : mg ("_law_place" : Str) = some (.ref (He.ga K "_law_place")) := He.glo_ok X G (k1 10 rfl)
  have g__law_right : mg ("_law_right" : Str) = some (.ref (He.ga K "_law_right")) := He.glo_ok X G (k1 11 rfl)
  have g__law_pool : mg ("_law_pool" : Str) = some (.ref (He.ga K "_law_pool")) := He.glo_ok X G (k1 12 rfl)
  have g_law : mg ("law" : Str) = some (.ref (He.ga K "law")) := He.glo_ok X G (k1 13 rfl)
  have g_Line : mg ("Line" : Str) = some (.ref (He.ga K "Line")) := He.glo_ok X G (k1 14 rfl)
  have B : Blts mg := ⟨fun b => (by
    cases b with
    | len => exact He.free_ok X G (k1 16 rfl)
    | abs => exact He.free_ok X G (k1 17 rfl)
    | min2 => exact He.free_ok X G (k1 18 rfl)
    | max2 => exact He.free_ok X G (k1 19 rfl)
    | min1 => exact He.free_ok X G (k1 18 rfl)
    | max1 => exact He.free_ok X G (k1 19 rfl)
    | sum => exact He.free_ok X G (k1 20 rfl)
    | all => exact He.free_ok X G (k1 21 rfl)
    | any => exact He.free_ok X G (k1 22 rfl)
    | sorted => exact He.free_ok X G (k1 23 rfl)
    | list => exact He.free_ok X G (k1 24 rfl)
    | tuple => exact He.free_ok X G (k1 25 rfl)
    | int => exact He.free_ok X G (k1 26 rfl)
    | str => exact He.free_ok X G (k1 27 rfl)
    ), He.free_ok X G (k1 28 rfl), He.free_ok X G (k1 29 rfl), He.free_ok X G (k1 30 rfl)⟩
  obtain ⟨t_law_draw, F_law_draw⟩ := d d_law_draw (List.mem_of_getElem? (i := 0) rfl)
  have B_law_draw : Binds K t_law_draw ["pool", "many"] [] := F_law_draw.bindsN fun _ _ _ _ _ _ us hl => match us, hl with | [_, _], _ => rfl
  obtain ⟨t_law_values, F_law_values⟩ := d d_law_values (List.mem_of_getElem? (i := 1) rfl)
  have B_law_values : Binds K t_law_values ["pool", "many"] [] := F_law_values.bindsN fun _ _ _ _ _ _ us hl => match us, hl with | [_, _], _ => rfl
  obtain ⟨t_law_great, F_law_great⟩ := d d_law_great (List.mem_of_getElem? (i := 2) rfl)
  have B_law_great : Binds K t_law_great ["pool", "found", "more"] [] := F_law_great.bindsN fun _ _ _ _ _ _ us hl => match us, hl with | [_, _, _], _ => rfl
  obtain ⟨t_law_often, F_law_often⟩ := d d_law_often (List.mem_of_getElem? (i := 3) rfl)
  have B_law_often : Binds K t_law_often ["pool", "found", "more"] [] := F_law_often.bindsN fun _ _ _ _ _ _ us hl => match us, hl with | [_, _, _], _ => rfl
  obtain ⟨t_law_least, F_law_least⟩ := d d_law_least (List.mem_of_getElem? (i := 4) rfl)
  have B_law_least : Binds K t_law_least ["found", "more"] [] := F_law_least.bindsN fun _ _ _ _ _ _ us hl => match us, hl with | [_, _], _ => rfl
  obtain ⟨t_check_line, F_check_line⟩ := d d_check_line (List.mem_of_getElem? (i := 5) rfl)
  have B_check_line : Binds K t_check_line ["starts", "rise"] [] := F_check_line.bindsN fun _ _ _ _ _ _ us hl => match us, hl with | [_, _], _ => rfl
  obtain ⟨t_has_period, F_has_period⟩ := d d_has_period (List.mem_of_getElem? (i := 6) rfl)
  have B_has_period : Binds K t_has_period ["starts", "rise", "period"] [] := F_has_period.bindsN fun _ _ _ _ _ _ us hl => match us, hl with | [_, _, _], _ => rfl
  obtain ⟨t_divisors_of, F_divisors_of⟩ := d d_divisors_of (List.mem_of_getElem? (i := 7) rfl)
  have B_divisors_of : Binds K t_divisors_of ["number"] [] := F_divisors_of.bindsN fun _ _ _ _ _ _ us hl => match us, hl with | [_], _ => rfl
  obtain ⟨t_least_form, F_least_form⟩ := d d_least_form (List.mem_of_getElem? (i := 8) rfl)
  have B_least_form : Binds K t_least_form ["starts", "rise"] [] := F_least_form.bindsN fun _ _ _ _ _ _ us hl => match us, hl with | [_, _], _ => rfl
  obtain ⟨t_Line_init, F_Line_init⟩ := d d_Line_init (List.mem_of_getElem? (i := 9) rfl)
  have B_Line_init : Binds K t_Line_init ["self", "starts", "rise"] [] := F_Line_init.bindsN fun _ _ _ _ _ _ us hl => match us, hl with | [_, _, _], _ => rfl
  obtain ⟨t_Line_len, F_Line_len⟩ := d d_Line_len (List.mem_of_getElem? (i := 10) rfl)
  have B_Line_len : Binds K t_Line_len ["self"] [] := F_Line_len.bindsN fun _ _ _ _ _ _ us hl => match us, hl with | [_], _ => rfl
  obtain ⟨t_Line_rise, F_Line_rise⟩ := d d_Line_rise (List.mem_of_getElem? (i := 11) rfl)
  have B_Line_rise : Binds K t_Line_rise ["self"] [] := F_Line_rise.bindsN fun _ _ _ _ _ _ us hl => match us, hl with | [_], _ => rfl
  obtain ⟨t_Line_starts, F_Line_starts⟩ := d d_Line_starts (List.mem_of_getElem? (i := 12) rfl)
  have B_Line_starts : Binds K t_Line_starts ["self"] [] := F_Line_starts.bindsN fun _ _ _ _ _ _ us hl => match us, hl with | [_], _ => rfl
  obtain ⟨t_law_at, F_law_at⟩ := d d_law_at (List.mem_of_getElem? (i := 13) rfl)
  have B_law_at : Binds K t_law_at ["found", "more", "place"] [] := F_law_at.bindsN fun _ _ _ _ _ _ us hl => match us, hl with | [_, _, _], _ => rfl
  obtain ⟨t_Line_at, F_Line_at⟩ := d d_Line_at (List.mem_of_getElem? (i := 14) rfl)
  have B_Line_at : Binds K t_Line_at ["self", "n"] [] := F_Line_at.bindsN fun _ _ _ _ _ _ us hl => match us, hl with | [_, _], _ => rfl
  obtain ⟨t_law_place, F_law_place⟩ := d d_law_place (List.mem_of_getElem? (i := 15) rfl)
  have B_law_place : Binds K t_law_place ["pool"] [] := F_law_place.bindsN fun _ _ _ _ _ _ us hl => match us, hl with | [_], _ => rfl
  obtain ⟨t_Line_eq, F_Line_eq⟩ := d d_Line_eq (List.mem_of_getElem? (i := 16) rfl)
  have B_Line_eq : Binds K t_Line_eq ["self", "other"] [] := F_Line_eq.bindsN fun _ _ _ _ _ _ us hl => match us, hl with | [_, _], _ => rfl
  obtain ⟨t_law_right, F_law_right⟩ := d d_law_right (List.mem_of_getElem? (i := 17) rfl)
  have B_law_right : Binds K t_law_right ["pool"] [] := F_law_right.bindsN fun _ _ _ _ _ _ us hl => match us, hl with | [_], _ => rfl
  obtain ⟨t_law_pool, F_law_pool⟩ := d d_law_pool (List.mem_of_getElem? (i := 18) rfl)
  have B_law_pool : Binds K t_law_pool ["script", "at"] [] := F_law_pool.bindsN fun _ _ _ _ _ _ us hl => match us, hl with | [_, _], _ => rfl
  obtain ⟨t_law, F_law⟩ := d d_law (List.mem_of_getElem? (i := 19) rfl)
  have e := hfa.symm.trans g_law
  cases e
  refine ⟨t_law, fun s v => FunD.bindsA (ps := ["script"]) F_law (fun _ _ _ _ _ _ us hl => match us, hl with | [_], _ => rfl) s [v] rfl, fun base _ _ => ?_⟩
  have A_law_draw : Avls CX0 P w K mg base (mo K) 0 b_law_draw.needs := (by rw [w_law_draw]; exact avn)
  have O_law_draw : FnOk P w K mg base CX0 1 (d_law_draw.pl K) t_law_draw ["pool", "many"] (Spec (mo K) f_law_draw) := df_ok (d := d_law_draw) pass_CX0 B rfl F_law_draw s_law_draw rfl c_law_draw A_law_draw fun _ => rfl
  have A_law_values : Avls CX0 P w K mg base (mo K) 3 b_law_values.needs := (by rw [w_law_values]; exact (avc (av_gl (O_law_draw) (by decide) B_law_draw g__law_draw F_law_draw.kp) (avc (av_gl (O_law_draw) (by decide) B_law_draw g__law_draw F_law_draw.kp) (avc (av_gl (O_law_draw) (by decide) B_law_draw g__law_draw F_law_draw.kp) (avc (av_gl (O_law_draw) (by decide) B_law_draw g__law_draw F_law_draw.kp) (avc (av_gl (O_law_draw) (by decide) B_law_draw g__law_draw F_law_draw.kp) (avc (av_gl (O_law_draw) (by decide) B_law_draw g__law_draw F_law_draw.kp) (avc (av_gl (O_law_draw) (by decide) B_law_draw g__law_draw F_law_draw.kp) avn))))))))
  have O_law_values : FnOk P w K mg base CX0 4 (d_law_values.pl K) t_law_values ["pool", "many"] (Spec (mo K) f_law_values) := df_ok (d := d_law_values) pass_CX0 B rfl F_law_values s_law_values rfl c_law_values A_law_values fun _ => rfl
  have A_law_great : Avls CX0 P w K mg base (mo K) 3 b_law_great.needs := (by rw [w_law_great]; exact (avc (av_gl (O_law_draw) (by decide) B_law_draw g__law_draw F_law_draw.kp) avn))
  have O_law_great : FnOk P w K mg base CX0 4 (d_law_great.pl K) t_law_great ["pool", "found", "more"] (Spec (mo K) f_law_great) := df_ok (d := d_law_great) pass_CX0 B rfl F_law_great s_law_great rfl c_law_great A_law_great fun _ => rfl
  have A_law_often : Avls CX0 P w K mg base (mo K) 3 b_law_often.needs := (by rw [w_law_often]; exact (avc (av_gl (O_law_draw) (by decide) B_law_draw g__law_draw F_law_draw.kp) avn))
  have O_law_often : FnOk P w K mg base CX0 4 (d_law_often.pl K) t_law_often ["pool", "found", "more"] (Spec (mo K) f_law_often) := df_ok (d := d_law_often) pass_CX0 B rfl F_law_often s_law_often rfl c_law_often A_law_often fun _ => rfl
  have A_law_least : Avls CX0 P w K mg base (mo K) 0 b_law_least.needs := (by rw [w_law_least]; exact avn)
  have O_law_least : FnOk P w K mg base CX0 1 (d_law_least.pl K) t_law_least ["found", "more"] (Spec (mo K) f_law_least) := df_ok (d := d_law_least) pass_CX0 B rfl F_law_least s_law_least rfl c_law_least A_law_least fun _ => rfl
  have A_check_line : Avls CX0 P w K mg base (mo K) 0 b_check_line.needs := (by rw [w_check_line]; exact avn)
  have O_check_line : FnOk P w K mg base CX0 1 (d_check_line.pl K) t_check_line ["starts", "rise"] (Spec (mo K) f_check_line) := df_ok (d := d_check_line) pass_CX0 B rfl F_check_line s_check_line rfl c_check_line A_check_line fun _ => rfl
  have A_has_period : Avls CX0 P w K mg base (mo K) 0 b_has_period.needs := (by rw [w_has_period]; exact avn)
  have O_has_period : FnOk P w K mg base CX0 1 (d_has_period.pl K) t_has_period ["starts", "rise", "period"] (Spec (mo K) f_has_period) := df_ok (d := d_has_period) pass_CX0 B rfl F_has_period s_has_period rfl c_has_period A_has_period fun _ => rfl
  have A_divisors_of : Avls CX0 P w K mg base (mo K) 0 b_divisors_of.needs := (by rw [w_divisors_of]; exact avn)
  have O_divisors_of : FnOk P w K mg base CX0 1 (d_divisors_of.pl K) t_divisors_of ["number"] (Spec (mo K) f_divisors_of) := df_ok (d := d_divisors_of) pass_CX0 B rfl F_divisors_of s_divisors_of rfl c_divisors_of A_divisors_of fun _ => rfl
  have A_least_form : Avls CX0 P w K mg base (mo K) 3 b_least_form.needs := (by rw [w_least_form]; exact (avc (av_gl (O_divisors_of) (by decide) B_divisors_of g_divisors_of F_divisors_of.kp) (avc (av_gl (O_has_period) (by decide) B_has_period g_has_period F_has_period.kp) avn)))
  have O_least_form : FnOk P w K mg base CX0 4 (d_least_form.pl K) t_least_form ["starts", "rise"] (Spec (mo K) f_least_form) := df_ok (d := d_least_form) pass_CX0 B rfl F_least_form s_least_form rfl c_least_form A_least_form fun _ => rfl
  have A_Line_init : Avls CX0 P w K mg base (mo K) 6 b_Line_init.needs := (by rw [w_Line_init]; exact (avc (av_gl (O_check_line) (by decide) B_check_line g_check_line F_check_line.kp) (avc (av_fd rfl (He.cls_ok (k1 31 rfl)) (He.noat_ok (k1 32 rfl))) (avc (av_fd rfl (He.cls_ok (k1 31 rfl)) (He.noat_ok (k1 33 rfl))) (avc (av_gl (O_least_form) (by decide) B_least_form g_least_form F_least_form.kp) avn)))))
  have O_Line_init : FnOk P w K mg base CX0 7 (d_Line_init.pl K) t_Line_init ["self", "starts", "rise"] (Spec (mo K) f_Line_init) := df_ok (d := d_Line_init) pass_CX0 B rfl F_Line_init s_Line_init rfl c_Line_init A_Line_init fun _ => rfl
  have A_Line_len : Avls CX0 P w K mg base (mo K) 0 b_Line_len.needs := (by rw [w_Line_len]; exact (avc (av_fd rfl (He.cls_ok (k1 31 rfl)) (He.noat_ok (k1 32 rfl))) avn))
  have O_Line_len : FnOk P w K mg base CX0 1 (d_Line_len.pl K) t_Line_len ["self"] (Spec (mo K) f_Line_len) := df_ok (d := d_Line_len) pass_CX0 B rfl F_Line_len s_Line_len rfl c_Line_len A_Line_len fun _ => rfl
  have A_Line_rise : Avls CX0 P w K mg base (mo K) 0 b_Line_rise.needs := (by rw [w_Line_rise]; exact (avc (av_fd rfl (He.cls_ok (k1 31 rfl)) (He.noat_ok (k1 33 rfl))) avn))
  have O_Line_rise : FnOk P w K mg base CX0 1 (d_Line_rise.pl K) t_Line_rise ["self"] (Spec (mo K) f_Line_rise) := df_ok (d := d_Line_rise) pass_CX0 B rfl F_Line_rise s_Line_rise rfl c_Line_rise A_Line_rise fun _ => rfl
  have A_Line_starts : Avls CX0 P w K mg base (mo K) 0 b_Line_starts.needs := (by rw [w_Line_starts]; exact (avc (av_fd rfl (He.cls_ok (k1 31 rfl)) (He.noat_ok (k1 32 rfl))) avn))
  have O_Line_starts : FnOk P w K mg base CX0 1 (d_Line_starts.pl K) t_Line_starts ["self"] (Spec (mo K) f_Line_starts) := df_ok (d := d_Line_starts) pass_CX0 B rfl F_Line_starts s_Line_starts rfl c_Line_starts A_Line_starts fun _ => rfl
  have A_law_at : Avls CX0 P w K mg base (mo K) 0 b_law_at.needs := (by rw [w_law_at]; exact avn)
  have O_law_at : FnOk P w K mg base CX0 1 (d_law_at.pl K) t_law_at ["found", "more", "place"] (Spec (mo K) f_law_at) := df_ok (d := d_law_at) pass_CX0 B rfl F_law_at s_law_at rfl c_law_at A_law_at fun _ => rfl
  have A_Line_at : Avls CX0 P w K mg base (mo K) 0 b_Line_at.needs := (by rw [w_Line_at]; exact (avc (av_fd rfl (He.cls_ok (k1 31 rfl)) (He.noat_ok (k1 32 rfl))) (avc (av_fd rfl (He.cls_ok (k1 31 rfl)) (He.noat_ok (k1 32 rfl))) (avc (av_fd rfl (He.cls_ok (k1 31 rfl)) (He.noat_ok (k1 33 rfl))) avn))))
  have O_Line_at : FnOk P w K mg base CX0 1 (d_Line_at.pl K) t_Line_at ["self", "n"] (Spec (mo K) f_Line_at) := df_ok (d := d_Line_at) pass_CX0 B rfl F_Line_at s_Line_at rfl c_Line_at A_Line_at fun _ => rfl
  have A_law_place : Avls CX0 P w K mg base (mo K) 3 b_law_place.needs := (by rw [w_law_place]; exact (avc (av_gl (O_law_draw) (by decide) B_law_draw g__law_draw F_law_draw.kp) (avc (av_gl (O_law_draw) (by decide) B_law_draw g__law_draw F_law_draw.kp) (avc (av_gl (O_law_draw) (by decide) B_law_draw g__law_draw F_law_draw.kp) avn))))
  have O_law_place : FnOk P w K mg base CX0 4 (d_law_place.pl K) t_law_place ["pool"] (Spec (mo K) f_law_place) := df_ok (d := d_law_place) pass_CX0 B rfl F_law_place s_law_place rfl c_law_place A_law_place fun _ => rfl
  have A_Line_eq : Avls CX0 P w K mg base (mo K) 0 b_Line_eq.needs := (by rw [w_Line_eq]; exact (avc (av_is rfl (isB_ok (He.cls_ok (k1 31 rfl)) (List.all_eq_true.mp c5 "Line" (List.mem_of_getElem? (i := 0) rfl))) (He.free_ok X G (k1 15 rfl)) g_Line) (avc (av_fd rfl (He.cls_ok (k1 31 rfl)) (He.noat_ok (k1 32 rfl))) (avc (av_fd rfl (He.cls_ok (k1 31 rfl)) (He.noat_ok (k1 33 rfl))) (avc (av_fd rfl (He.cls_ok (k1 31 rfl)) (He.noat_ok (k1 32 rfl))) (avc (av_fd rfl (He.cls_ok (k1 31 rfl)) (He.noat_ok (k1 33 rfl))) avn))))))
  have O_Line_eq : FnOk P w K mg base CX0 1 (d_Line_eq.pl K) t_Line_eq ["self", "other"] (Spec (mo K) f_Line_eq) := df_ok (d := d_Line_eq) pass_CX0 B rfl F_Line_eq s_Line_eq rfl c_Line_eq A_Line_eq fun _ => rfl
  have A_law_right : Avls CX0 P w K mg base (mo K) 9 b_law_right.needs := (by rw [w_law_right]; exact (avc (av_gl (O_law_values) (by decide) B_law_values g__law_values F_law_values.kp) (avc (av_gl (O_law_great) (by decide) B_law_great g__law_great F_law_great.kp) (avc (av_gl (O_law_often) (by decide) B_law_often g__law_often F_law_often.kp) (avc (av_gl (O_law_least) (by decide) B_law_least g__law_least F_law_least.kp) (avc (av_mk (O_Line_init) (by decide) B_Line_init rfl (He.mkr_ok (k1 34 rfl)) g_Line) (avc (av_mkk (O_Line_init) (by decide) (kb_of F_Line_init 1 ["rise", "starts"] [1, 0] fun _ _ _ _ _ _ us ws l1 l2 => match us, ws, l1, l2 with | [_], [_, _], _, _ => rfl) rfl (He.mkr_ok (k1 34 rfl)) g_Line) (avc (av_pr (O_Line_starts) (by decide) B_Line_starts rfl (He.cls_ok (k1 31 rfl)) (propB_ok (List.all_eq_true.mp c2 ("Line", "starts") (List.mem_of_getElem? (i := 1) rfl)))) (avc (av_pr (O_Line_rise) (by decide) B_Line_rise rfl (He.cls_ok (k1 31 rfl)) (propB_ok (List.all_eq_true.mp c2 ("Line", "rise") (List.mem_of_getElem? (i := 0) rfl)))) (avc (av_ln (O_Line_len) (by decide) B_Line_len rfl (opB_ok (List.all_eq_true.mp c3 ("Line", "__len__") (List.mem_of_getElem? (i := 0) rfl))).1 (opB_ok (List.all_eq_true.mp c3 ("Line", "__len__") (List.mem_of_getElem? (i := 0) rfl))).2) (avc (av_gl (O_law_place) (by decide) B_law_place g__law_place F_law_place.kp) (avc (av_mt (O_Line_at) (by decide) B_Line_at rfl (He.cls_ok (k1 31 rfl)) (He.meth_ok (k1 35 rfl))) (avc (av_mtk (O_Line_at) (by decide) (kb_of F_Line_at 1 ["n"] [0] fun _ _ _ _ _ _ us ws l1 l2 => match us, ws, l1, l2 with | [_], [_], _, _ => rfl) rfl (He.cls_ok (k1 31 rfl)) (He.meth_ok (k1 35 rfl))) (avc (av_gl (O_law_at) (by decide) B_law_at g__law_at F_law_at.kp) (avc (av_pr (O_Line_starts) (by decide) B_Line_starts rfl (He.cls_ok (k1 31 rfl)) (propB_ok (List.all_eq_true.mp c2 ("Line", "starts") (List.mem_of_getElem? (i := 1) rfl)))) (avc (av_gl (O_law_values) (by decide) B_law_values g__law_values F_law_values.kp) (avc (av_gl (O_law_draw) (by decide) B_law_draw g__law_draw F_law_draw.kp) (avc (av_gl (O_law_draw) (by decide) B_law_draw g__law_draw F_law_draw.kp) (avc (av_mk (O_Line_init) (by decide) B_Line_init rfl (He.mkr_ok (k1 34 rfl)) g_Line) (avc (av_eq (O_Line_eq) (by decide) B_Line_eq rfl (isB_ok (He.cls_ok (k1 31 rfl)) (List.all_eq_true.mp c5 "Line" (List.mem_of_getElem? (i := 0) rfl))) (opB_ok (List.all_eq_true.mp c3 ("Line", "__eq__") (List.mem_of_getElem? (i := 1) rfl))).1 (opB_ok (List.all_eq_true.mp c3 ("Line", "__eq__") (List.mem_of_getElem? (i := 1) rfl))).2) (avc (av_eq (O_Line_eq) (by decide) B_Line_eq rfl (isB_ok (He.cls_ok (k1 31 rfl)) (List.all_eq_true.mp c5 "Line" (List.mem_of_getElem? (i := 0) rfl))) (opB_ok (List.all_eq_true.mp c3 ("Line", "__eq__") (List.mem_of_getElem? (i := 1) rfl))).1 (opB_ok (List.all_eq_true.mp c3 ("Line", "__eq__") (List.mem_of_getElem? (i := 1) rfl))).2) (avc (av_gl (O_law_least) (by decide) B_law_least g__law_least F_law_least.kp) (avc (av_eq (O_Line_eq) (by decide) B_Line_eq rfl (isB_ok (He.cls_ok (k1 31 rfl)) (List.all_eq_true.mp c5 "Line" (List.mem_of_getElem? (i := 0) rfl))) (opB_ok (List.all_eq_true.mp c3 ("Line", "__eq__") (List.mem_of_getElem? (i := 1) rfl))).1 (opB_ok (List.all_eq_true.mp c3 ("Line", "__eq__") (List.mem_of_getElem? (i := 1) rfl))).2) (avc (av_pr (O_Line_starts) (by decide) B_Line_starts rfl (He.cls_ok (k1 31 rfl)) (propB_ok (List.all_eq_true.mp c2 ("Line", "starts") (List.mem_of_getElem? (i := 1) rfl)))) (avc (av_eq (O_Line_eq) (by decide) B_Line_eq rfl (isB_ok (He.cls_ok (k1 31 rfl)) (List.all_eq_true.mp c5 "Line" (List.mem_of_getElem? (i := 0) rfl))) (opB_ok (List.all_eq_true.mp c3 ("Line", "__eq__") (List.mem_of_getElem? (i := 1) rfl))).1 (opB_ok (List.all_eq_true.mp c3 ("Line", "__eq__") (List.mem_of_getElem? (i := 1) rfl))).2) avn)))))))))))))))))))))))))
  have O_law_right : FnOk P w K mg base CX0 10 (d_law_right.pl K) t_law_right ["pool"] (Spec (mo K) f_law_right) := df_ok (d := d_law_right) pass_CX0 B rfl F_law_right s_law_right rfl c_law_right A_law_right fun _ => rfl
  have A_law_pool : Avls CX0 P w K mg base (mo K) 0 b_law_pool.needs := (by rw [w_law_pool]; exact avn)
  have O_law_pool : FnOk P w K mg base CX0 1 (d_law_pool.pl K) t_law_pool ["script", "at"] (Spec (mo K) f_law_pool) := df_ok (d := d_law_pool) pass_CX0 B rfl F_law_pool s_law_pool rfl c_law_pool A_law_pool fun _ => rfl
  have A_law : Avls CX0 P w K mg base (mo K) 12 b_law.needs := (by rw [w_law]; exact (avc (av_gl (O_law_pool) (by decide) B_law_pool g__law_pool F_law_pool.kp) (avc (av_gl (O_law_right) (by decide) B_law_right g__law_right F_law_right.kp) (avc (av_mk (O_Line_init) (by decide) B_Line_init rfl (He.mkr_ok (k1 34 rfl)) g_Line) (avc (av_pr (O_Line_starts) (by decide) B_Line_starts rfl (He.cls_ok (k1 31 rfl)) (propB_ok (List.all_eq_true.mp c2 ("Line", "starts") (List.mem_of_getElem? (i := 1) rfl)))) (avc (av_pr (O_Line_rise) (by decide) B_Line_rise rfl (He.cls_ok (k1 31 rfl)) (propB_ok (List.all_eq_true.mp c2 ("Line", "rise") (List.mem_of_getElem? (i := 0) rfl)))) (avc (av_ln (O_Line_len) (by decide) B_Line_len rfl (opB_ok (List.all_eq_true.mp c3 ("Line", "__len__") (List.mem_of_getElem? (i := 0) rfl))).1 (opB_ok (List.all_eq_true.mp c3 ("Line", "__len__") (List.mem_of_getElem? (i := 0) rfl))).2) (avc (av_mt (O_Line_at) (by decide) B_Line_at rfl (He.cls_ok (k1 31 rfl)) (He.meth_ok (k1 35 rfl))) (avc (av_ln (O_Line_len) (by decide) B_Line_len rfl (opB_ok (List.all_eq_true.mp c3 ("Line", "__len__") (List.mem_of_getElem? (i := 0) rfl))).1 (opB_ok (List.all_eq_true.mp c3 ("Line", "__len__") (List.mem_of_getElem? (i := 0) rfl))).2) (avc (av_mk (O_Line_init) (by decide) B_Line_init rfl (He.mkr_ok (k1 34 rfl)) g_Line) avn))))))))))
  have O_law : FnOk P w K mg base CX0 13 (d_law.pl K) t_law ["script"] (Spec (mo K) f_law) := df_ok (d := d_law) pass_CX0 B rfl F_law s_law rfl c_law A_law fun _ => rfl
  exact O_law
abbrev R : PySem.W.OpenRow := PySem.W.OpenLaw.row PySem.Challenge.rw_fitsizes_k01_lines_made
def loose : List Str := (["_wall", "SizeError", "InvalidLine", "common_divisor", "common_multiple", "divisors_of", "check_line", "has_period", "least_form", "Line", "_law_pool", "_law_draw", "_law_values", "_law_often", "_law_great", "_law_at", "_law_place", "_law_least", "_law_right"] : List Str)
abbrev hk : PySem.W.Hook := watch 5 ck dfs tabs
abbrev ob (s : PySem.W.SharedT) : DL.Seen := watchT 5 ck dfs tabs s
theorem top_run (w : World) : HandSHeadRun.RunEq R (PySem.W.view R.prog [22]) hk ob 4000 loose w := by
  intro os
  kernel_rfl
end K01

-- part K01m
set_option Elab.async false
set_option linter.all false
set_option maxRecDepth 100000
set_option maxHeartbeats 2000000
namespace LN
open PySem L2 DL
def goodQ (s : List Int) (r p : Int) : Bool := decide ((s.length : Int).fmod p = 0) && hasPer s r p
theorem pers_good {s : List Int} {r : Int} : pers s r = (rg 1 s.length).filter (goodQ s r) := by
  unfold pers
  rw [List.filter_filter]
  congr 1
  funext p
  unfold goodQ
  rw [Bool.and_comm]
theorem lper_first {s : List Int} {r : Int} {i : Nat} (hi : i < s.length) (h : (rg 1 i).filter (goodQ s r) = []) (g : goodQ s r (1 + i) = true) : lper s r = 1 + i := by
  unfold lper
  rw [pers_good]
  have e : rg 1 s.length = rg 1 i ++ (1 + (i : Int)) :: rg (1 + i + 1) (s.length - i - 1) := by
    have : s.length = i + (1 + (s.length - i - 1)) := by omega
    conv => lhs; rw [this]
    unfold rg
    rw [List.range_add, List.map_append, List.map_map, List.range_add, List.map_append, List.map_map]
    simp [Function.comp_def]
    intro a _
    omega
  rw [e, List.filter_append, h, List.filter_cons_of_pos g]
  rfl
theorem rg1_snoc {i : Nat} : rg 1 (i + 1) = rg 1 i ++ [1 + (i : Int)] := by
  unfold rg
  rw [List.range_succ, List.map_append]
  rfl
theorem eq_nil1 {l : List Int} : dEq (.lst (l.map fun _ => D.int 1)) (.lst []) = .ok l.isEmpty := by
  cases l with
  | nil => exact FS.dEq_t (b := false) (by simp [cln])
  | cons a l => exact FS.dEq_f (b := false) (by simp [cln, cln_int]) (by simp [cln]) (by simp)
theorem cln_ints {l : List Int} : cln false 8 (.lst (l.map .int)) = true := by simp [cln, cln_int]
theorem noLsts_ints : ∀ {l : List Int}, noLsts (l.map .int) = true
  | [] => rfl
  | _ :: l => noLsts_ints (l := l)
theorem mul2 {d : D} : dBin .mul (0, .lst [d]) (0, .int 2) = .ok (.lst [d, d]) := by rfl
theorem least_eq {s t : List Int} {r u : Int} : dEq (.tup [.lst (s.map .int), .int r]) (.tup [.lst (t.map .int), .int u]) = .ok (decide (s = t ∧ r = u)) := by
  by_cases c : s = t ∧ r = u
  · obtain ⟨rfl, rfl⟩ := c
    rw [FS.dEq_t (b := false) (by simp [cln, cln_int])]
    simp
  · rw [FS.dEq_f (b := false) (by simp [cln, cln_int]) (by simp [cln, cln_int]) (fun e => c (by
      simp only [D.nd.injEq, List.cons.injEq, true_and, and_true, D.int.injEq] at e
      exact ⟨ints_inj.mp e.1, e.2⟩)), decide_eq_false c]
theorem dec_symm {s t : List Int} {r u : Int} : decide (s = t ∧ r = u) = decide (t = s ∧ u = r) := decide_eq_decide.mpr ⟨fun h => ⟨h.1.symm, h.2.symm⟩, fun h => ⟨h.1.symm, h.2.symm⟩⟩
theorem filt_nil {l : List Int} {f g : Int → Int} : (l.filter fun a => decide (f a ≠ g a)).isEmpty = l.all fun a => decide (f a = g a) := by
  induction l with
  | nil => rfl
  | cons a l ih =>
    by_cases c : f a = g a
    · rw [List.filter_cons_of_neg (by simp [c]), ih, List.all_cons, decide_eq_true c, Bool.true_and]
    · rw [List.filter_cons_of_pos (by simp [c]), List.all_cons, decide_eq_false c]; rfl
end LN
namespace K01
open PySem L2 DL FS LP LN
local macro_rules | `(tactic| walk_at "dl") => `(tactic| simp -implicitDefEqProofs only [DL.x_nil, DL.x_cons, DL.x_pass, DL.x_set, DL.x_ife, DL.x_par, DL.x_for, DL.x_whl, DL.x_ret, DL.x_retn, DL.x_drop, DL.x_sub, DL.x_app, DL.x_ext, DL.x_seto, DL.x_reto, DL.k_set, DL.k_seto, DL.k_par, DL.k_par2, DL.k_ife, DL.k_for,
  DL.k_ret, DL.k_reto, DL.k_drop, DL.k_sub, DL.k_sub2, DL.k_app, DL.k_ext, DL.q_name, DL.q_lit, DL.q_bin, DL.q_neg, DL.q_cmp, DL.q_and, DL.q_or, DL.q_not, DL.q_ife, DL.q_tup, DL.q_lst, DL.q_idx, DL.q_app, DL.q_blt, DL.q_fld,
  DL.q_nil, DL.q_cio, DL.q_cwk, DL.q_chn, DL.q_slc, DL.q_mth, DL.q_lno, DL.q_prp, DL.q_addo, DL.q_eqo, DL.q_mk, DL.q_appk, DL.q_mthk, DL.q_mkk, DL.q_comp, DL.qc_name, DL.qc_lit, DL.qc_bin, DL.qc_neg, DL.qc_cmp, DL.qc_chn, DL.qc_andv,
  DL.qc_orv, DL.qc_notv, DL.qc_ife, DL.qc_tup, DL.qc_lst, DL.qc_idx, DL.qc_slc, DL.qc_app, DL.qc_blt, DL.qc_fld, DL.qc_prp, DL.qc_mth, DL.qc_lno, DL.qc_addo, DL.qc_eqo, DL.qc_mk, DL.qc_appk, DL.qc_mthk, DL.qc_mkk, DL.qc_comp,
  DL.r_chn, DL.r_chn1, DL.r_chn3, DL.r_chn2, DL.r_slc, DL.r_slcp, DL.r_slc2, DL.r_slc3, DL.r_mth, DL.r_mth2, DL.r_lno, DL.r_lno1, DL.r_prp, DL.W.prO, DL.pr_ok, DL.r_addo, DL.r_add1, DL.r_eqo, DL.r_eq1, DL.r_eq2, DL.r_mk, DL.r_mkS, DL.r_mkN, DL.r_mkW, DL.r_mkWO, DL.strong_wk, DL.noW_wk, Option.map_none, DL.r_mk2,
  DL.r_mko, DL.r_appk, DL.r_appk2, DL.r_mthk, DL.r_mthk2, DL.r_mthk3, DL.r_mkk, DL.r_mkk1, DL.kwO_eq, DL.perm_nil, DL.perm_cons, DL.permR_some, DL.prt_nil, DL.prt_e, DL.k_prt, DL.notNil, DL.q_ilst, DL.q_iscr, DL.q_itup, DL.q_ir1,
  DL.q_ir2, DL.q_ien, DL.q_izp, DL.r_ilst, DL.r_iscr, DL.r_itup, DL.r_ir1, DL.r_ir2, DL.r_ir2b, DL.r_ien, DL.r_izp, DL.r_izp2, DL.rangeL_rg, DL.tstR_nil, DL.tst_e, DL.k_tst, DL.elt_e, DL.k_elt, DL.q_is1, DL.q_is2, DL.free_nil,
  DL.free_cons, DL.free_un, DL.free_val, DL.blank_nil, DL.blank_cons, DL.back_nil, DL.back_cons, DL.back_some, DL.q_call, DL.call_some, DL.call_k, DL.call_k2, DL.a_nil, DL.a_d, DL.a_wk, DL.a_io1, DL.a_io2, DL.a_wk2, DL.a_io3,
  DL.q_lent, DL.lentR_own, DL.lent_io, DL.pb_nil, DL.pb_cons, DL.pb_own, DL.pb_io, DL.ios_nil, DL.ios_d, DL.ios_wk, DL.ios_io, DL.wks_nil, DL.wks_d, DL.wks_wk, DL.wks_io, DL.okAr_eq, DL.nodup0, DL.nodup1, DL.q_held, DL.held_own,
  DL.held_io, DL.q_seq, DL.k_seq1, DL.k_seq2, DL.k_seq3, DL.k_seq4, List.all_nil, List.all_cons, List.isEmpty_nil, List.isEmpty_cons, Bool.true_or, Bool.or_true, Bool.false_or, Bool.or_false, Bool.not_true, Bool.not_false,
  Bool.false_and, Bool.and_false, DL.r_tup2, DL.r_lst2, DL.lim, Nat.reduceLeDiff, DL.n_val, DL.n_own, DL.n_io, DL.r_R, DL.r_bin, DL.r_binp, DL.r_bin2, DL.r_neg, DL.r_B, DL.r_cmp, DL.r_cmpp, DL.r_cmp2, DL.r_bl, DL.r_and, DL.r_or,
  DL.r_not, DL.r_if, DL.r_tup, DL.r_lst, DL.r_W, DL.r_idx, DL.r_idxp, DL.r_idx2, DL.r_D, DL.r_app, DL.r_blt, DL.r_blt2, DL.r_fld, DL.r_cons, DL.r_consp, DL.r_cons2, DL.r_io, DL.r_wk, DL.d_add, DL.d_sub, DL.d_lt, DL.d_le, DL.d_gt,
  DL.d_ge, DL.d_idxl, DL.d_idxt, DL.d_idxs, DL.ix_some, DL.at0, DL.at1, DL.at2, DL.q_sub, DL.sub_own, DL.sub_io, DL.sub_o, DL.sub_i, DL.ix30, DL.ix31, DL.ix32, DL.q_setSl, DL.set_un, DL.set_val, DL.set_own, DL.set_nio, DL.q_setTg,
  DL.q_setTup, DL.q_tis0, DL.q_tis, DL.b_int, DL.b_abs, DL.b_max2, DL.b_min2, DL.b_lenl, DL.b_lent, DL.b_lens, DL.isL_own, DL.isL_io, DL.e_nx, DL.e_ret, DL.okOuts, DL.outsOf, DL.weaks, DL.strong, Option.map_some, DL.ofO_some,
  DL.E.pure, Bool.and_self, Bool.and_true, Bool.true_and, DL.ownL, List.map_cons, List.map_nil, List.length_map, DL.d_eq, DL.d_ne, DL.dEq_int, DL.grow_own, DL.grow_io, DL.q_grow, DL.W.bind, DL.W.ok, DL.Res.bind_ok, List.getElem?_cons_zero,
  List.getElem?_cons_succ, List.length_cons, List.length_nil, List.replicate, List.cons_append, List.nil_append, List.set_cons_zero, List.set_cons_succ, Nat.reduceAdd, Nat.reduceSub, Nat.reduceBEq, Nat.reduceEqDiff, beq_self_eq_true,
  Int.reduceLE, Int.reduceLT, Int.reduceToNat, Int.reduceNeg, Int.reduceAdd, Int.reduceSub, Int.reduceMul, DL.initS, decide_true, decide_false, ↓reduceIte, Bool.false_eq_true, eq_self, and_self, true_and, and_true, DL.LoopQ,
  DL.x_aug, DL.aug_val, DL.k_aug2, DL.frz_own, DL.x_brk, DL.x_cnt, DL.x_retm, DL.retm_own, DL.x_frz, DL.d_powc, DL.powR_t, Int.reducePow, DL.b_tuple, DL.b_tuple1, DL.b_list0, DL.b_list1, DL.b_listt, DL.b_lists, DL.dsl_lst0,
  DL.dsl_lst1, DL.dsl_tup, DL.b_all, DL.b_any, DL.cln_non, DL.cln_int, DL.cln_bl, DL.cln_str, DL.cln_lst, DL.cln_tup, DL.all_map_int, DL.d_catc, DL.d_tcat, DL.q_isi, DL.r_isi, DL.isiD_obj, DL.isiD_lst, DL.isiD_tup, DL.isiD_non, DL.isiD_int, DL.isiD_bl, DL.isiD_str, DL.q_lrg, DL.r_lrg, DL.r_lrg1, DL.r_lrg2, DL.qc_isi, DL.qc_lrg, Option.isSome_some, DL.asB_bl, DL.asI_int, DL.q_star, DL.r_star, DL.r_star1, DL.r_star2, DL.sq_lst, DL.sq_tup, DL.q_apps, DL.r_apps, DL.r_apps1, DL.q_dget, DL.r_dget, DL.q_glc, DL.qc_apps, DL.qc_dget, DL.qc_glc, DL.strong_map, DL.strong_map0, DL.b_intt, DL.b_intf, DL.q_ir3, DL.r_ir3a, DL.r_ir3b, DL.r_ir3c, DL.x_paro, DL.k_paro, DL.eo_nil, DL.eo_t, DL.eo_f, DL.k_eot, DL.k_eof, DL.k_eo2, DL.x_appd, DL.k_appd, DL.k_appd2, DL.so_nil, DL.so_t, DL.so_f, DL.k_so, DL.k_nx, DL.x_setm, DL.k_setm, DL.il_lst, DL.il_int, DL.il_str, DL.fl_int, DL.fl_str, DL.x_rett, DL.k_rett, DL.k_rett1, DL.tk_nil, DL.tk_d, DL.tk_wk, DL.tk_own, DL.k_tk, DL.plainA, DL.ownT, Int.toNat_natCast, m_law_draw, k_law_draw, m_law_values, k_law_values, m_law_great, k_law_great, m_law_at, k_law_at, m_law_place, k_law_place, m_law_pool, k_law_pool, m_law_often, k_law_often, m_law_least, k_law_least, m_Line_init, k_Line_init, m_Line_at, k_Line_at, m_Line_rise, k_Line_rise, m_Line_starts, k_Line_starts, m_Line_eq, k_Line_eq, m_Line_len, k_Line_len, m_law_right, k_law_right, nf_Line_at, DL.rg_len, DL.ap1, DL.ap2, dEq_non, dEq_bl])
local macro_rules | `(tactic| walk_at "wk") => `(tactic| repeat (first
  | walk_at "dl"
  | rw [DL.atI_ints (by omega) (by omega)]
  | rw [DL.d_mod (by omega)]
  | rw [DL.d_mul (DL.mulOk_r (by omega))]
  | rw [DL.d_mul (DL.mulOk_l (by omega))]
  | rw [DL.d_fdiv (DL.divOk (by omega) (by omega))]
  | rw [if_pos (by omega)]
  | rw [decide_eq_true (by omega)]
  | rw [decide_eq_false (by omega)]))
theorem least {l : List Int} {r : Int} (h : 0 < l.length) (hl : l.length ≤ 1000) : f_law_least.den [.lst (l.map .int), .int r] = .ok (.tup [.lst ((lform l r).1.map .int), .int (lform l r).2], []) := by
  apply W.eq
  rw [e_law_least, run_eq rfl]
  walk_at "wk"
  rw [show ((l.length : Int) + 1 - 1).toNat = l.length by omega]
  refine W_for (I := fun i env => ∃ (t3 t4 : Sl) (_ : Nio t3) (_ : Nio t4), env = [.val (.lst (l.map .int)), .val (.int r), .un, t3, t4] ∧ (rg 1 i).filter (goodQ l r) = []) ⟨_, _, inferInstance, inferInstance, rfl, rfl⟩ ?_ ?_
  · rintro i x _ hx ⟨t3, t4, n3, n4, rfl, hnil⟩
    obtain ⟨v, hv, rfl⟩ : ∃ v, (rg 1 l.length)[i]? = some v ∧ D.int v = x := by simpa using hx
    obtain ⟨hi, rfl⟩ := rg_get_of hv
    have first := lper_first (r := r) hi hnil
    have snoc : goodQ l r (1 + i) = false → (rg 1 (i + 1)).filter (goodQ l r) = [] := fun e => by
      rw [rg1_snoc, List.filter_append, hnil, List.filter_cons_of_neg (by rw [e]; simp)]; rfl
    generalize hq : 1 + (i : Int) = q at *
    have hgd : goodQ l r q = (decide ((l.length : Int).fmod q = 0) && (decide ((r * q).fmod l.length = 0) && (rg 0 (l.length - q).toNat).all fun i => decide (gI l (i + q) = gI l i + (r * q).fdiv l.length))) := rfl
    walk_at "wk"
    by_cases c1 : (l.length : Int).fmod q = 0
    · rw [decide_eq_true c1]
      walk_at "wk"
      by_cases c2 : (r * q).fmod l.length = 0
      · rw [decide_eq_true c2]
        walk_at "wk"
        refine W_list (p := fun a => decide (gI l (a + q) ≠ gI l a + (r * q).fdiv l.length)) (g := fun _ => .int 1) (by walk_at "dl") (by rw [rg_len]; simp only [lim]; omega) ?_ ?_
        · intro a ha
          rw [mem_rg] at ha
          walk_at "wk"
          by_cases c3 : gI l (a + q) = gI l a + (r * q).fdiv l.length
          · simp [c3]
          · simp [c3]
        walk_at "wk"
        rw [eq_nil1, filt_nil]
        rw [c1, c2] at hgd
        simp only [decide_true, Bool.true_and] at hgd
        rw [← hgd]
        by_cases c3 : goodQ l r q = true
        · rw [c3]
          walk_at "wk"
          rw [cutL_to (by omega)]
          have e := first c3
          walk_at "wk"
          simp [lform, e, List.map_take]
        · rw [Bool.not_eq_true] at c3
          rw [c3]
          walk_at "wk"
          exact ⟨_, _, inferInstance, inferInstance, rfl, snoc c3⟩
      · rw [decide_eq_false c2] at hgd ⊢
        walk_at "wk"
        exact ⟨_, _, inferInstance, inferInstance, rfl, snoc (by rw [hgd]; simp)⟩
    · rw [decide_eq_false c1] at hgd ⊢
      walk_at "wk"
      exact ⟨_, _, inferInstance, inferInstance, rfl, snoc (by rw [hgd]; simp)⟩
  · rintro _ ⟨t3, t4, n3, n4, rfl, hnil⟩
    exfalso
    obtain ⟨p, t, e, _⟩ := pers_ne (r := r) h
    rw [List.length_map, rg_len, ← pers_good, e] at hnil
    cases hnil
theorem often {p : D} {B r : Int} {l : List Int} (h : PoolOk p B) (hB : B ≤ 10 ^ 11) (o : Ok l r) (hl : l.length ≤ 8) :
    W (f_law_often.den [p, .lst (l.map .int), .int r]) fun x => ∃ (k : Nat) (p' : D), x = (.tup [.lst ((lapL l r k).map .int), .int (r * k)], [p']) ∧ PoolOk p' (B + 1) ∧ 1 ≤ k ∧ k ≤ 3 := by
  have hne := o.ne
  rw [e_law_often, run_eq rfl]
  walk_at "wk"
  refine (draw h (by omega) (by omega) (by omega)).mono ?_
  rintro _ ⟨b, p1, rfl, hb, hb', hp1⟩
  walk_at "wk"
  obtain ⟨k, hk⟩ : ∃ k : Nat, (1 + b : Int) = k := ⟨(1 + b).toNat, by omega⟩
  rw [hk, Int.toNat_natCast]
  refine W_for (I := fun i env => ∃ (t5 : Sl) (_ : Nio t5), env = [.io 1 p1, .val (.lst (l.map .int)), .val (.int r), .own 1 (.lst ((lapL l r i).map .int)), .un, t5]) ⟨_, inferInstance, rfl⟩ ?_ ?_
  · rintro i x _ hx ⟨t5, h5, rfl⟩
    obtain ⟨v, hv, rfl⟩ : ∃ v, (rg 0 k)[i]? = some v ∧ D.int v = x := by simpa using hx
    obtain ⟨hi, rfl⟩ := rg_get_of hv
    rw [show (0 : Int) + i = i by omega]
    walk_at "wk"
    refine W_list (p := fun _ => true) (g := fun n => .int (n + i * r)) (by walk_at "dl") (by simp only [lim]; omega) ?_ ?_
    · intro x hx
      walk_at "wk"
    · have hll := lapL_len (l := l) (more := r) (k := i)
      have : i * l.length ≤ 3 * 8 := Nat.mul_le_mul (by omega) hl
      walk_at "wk"
      rw [if_pos (by simp [hll, filt_true]; omega)]
      walk_at "wk"
      refine ⟨.val (.int (i : Int)), inferInstance, ?_⟩
      simp [lapL, filt_true, Function.comp_def]
  · rintro _ ⟨t5, h5, rfl⟩
    rw [List.length_map, rg_len]
    have hll := lapL_len (l := l) (more := r) (k := k)
    have hk3 : k * l.length ≤ 3 * 8 := Nat.mul_le_mul (by omega) hl
    have e : ((lapL l r k).length : Int).fdiv l.length = k := by
      rw [hll]
      push_cast
      rw [Int.mul_comm]
      exact Int.mul_fdiv_cancel_left _ (by omega)
    walk_at "wk"
    rw [e]
    walk_at "wk"
    exact ⟨k, p1, rfl, hp1, by omega, by omega⟩
theorem right {p : D} {B : Int} (h : PoolOk p B) (hB : B ≤ 10 ^ 9) : W (f_law_right.den [p]) fun x => ∃ p', x = (.bl true, [p']) ∧ PoolOk p' (B + 900) := by
  rw [e_law_right, run_eq rfl]
  walk_at "wk"
  refine (values h (by omega) (by omega) (by omega)).mono ?_
  rintro _ ⟨l0, r0, p1, rfl, hp1, ok0, hl0, hr0, hv0⟩
  obtain ⟨z0, z1, z2, rfl, _⟩ := id hp1
  walk_at "wk"
  generalize (D.lst [D.int z0, D.int z1, D.int z2]) = p1 at *
  refine (great hp1 (by omega) ok0 (by omega) hr0 hv0).mono ?_
  rintro _ ⟨l, r, p2, rfl, hp2, ok, hll, lb⟩
  have hl : l.length ≤ 8 := by omega
  clear hr0 hv0 ok0
  obtain ⟨z0, z1, z2, rfl, _⟩ := id hp2
  walk_at "wk"
  generalize (D.lst [D.int z0, D.int z1, D.int z2]) = p2 at *
  refine (often hp2 (by omega) ok hl).mono ?_
  rintro _ ⟨k, p3, rfl, hp3, hk1, hk3⟩
  have hne := ok.ne
  have hln := lapL_len (l := l) (more := r) (k := k)
  have hkl : k * l.length ≤ 3 * 8 := Nat.mul_le_mul hk3 hl
  have oklap := lapL_ok ok (show 0 < k by omega)
  have elap : lform (lapL l r k) (r * k) = lform l r := lform_uniq oklap.ne hne fun n => lapL_lat hne (by omega) n
  have i1 := line_init oklap (by omega)
  have i2 := line_init ok (by omega)
  rw [elap] at i1
  have nf := Nf.of ok
  have slat := fun n => lform_lat (r := r) hne n
  have slen := (lform_len (r := r) hne).2
  have lst := least (r := r) hne (by omega)
  generalize lapL l r k = longer at *
  walk_at "wk"
  generalize hLF : lform l r = LF at *
  obtain ⟨s, u⟩ := LF
  simp only [] at i1 i2 nf slat slen lst
  have i1 : f_Line_init.den [.nd (.obj 0 []) [], .lst (longer.map .int), .int (r * k)] = .ok (.non, [lineD s u]) := i1
  have i2 : f_Line_init.den [.nd (.obj 0 []) [], .lst (l.map .int), .int r] = .ok (.non, [lineD s u]) := i2
  have hs0 := nf.ok.ne
  rw [lst]
  walk_at "wk"
  rw [i1]
  walk_at "wk"
  rw [if_pos (by simp [noLstK, noLst, noLsts, noLsts_ints])]
  walk_at "wk"
  rw [i2]
  walk_at "wk"
  rw [line_starts]
  walk_at "wk"
  rw [line_rise]
  walk_at "wk"
  rw [line_len]
  walk_at "wk"
  rw [dEq_t (b := false) (by simp [cln, cln_int])]
  walk_at "wk"
  rw [dEq_t (b := false) cln_ints]
  walk_at "wk"
  refine W_for (I := fun i env => ∃ (p' : D) (t9 t10 : Sl) (_ : Nio t9) (_ : Nio t10), env = [.io 1 p', .val (.int r), .val (.lst (l.map .int)), .val (.int (r * k)), .own 1 (.lst (longer.map .int)), .val (.tup [.lst (s.map .int), .int u]), .val (.lst (longer.map .int)), .val (lineD s u), .val (lineD s u), t9, t10, .un, .un, .un, .un, .un, .un] ∧ PoolOk p' (B + 302 + 3 * i)) ⟨p3, _, _, inferInstance, inferInstance, rfl, hp3.mono (by omega)⟩ ?_ ?_
  · clear hp3 p3
    rintro i x _ hx ⟨p3, t9, t10, n9, n10, rfl, hp3⟩
    have hi := lt_of_get hx
    rw [List.length_map, rg_len] at hi
    walk_at "wk"
    refine (place hp3 (by omega)).mono ?_
    rintro _ ⟨n, p4, rfl, hn, hp4⟩
    have hn5 : n.natAbs < 2 ^ 500 := Nat.lt_trans hn (Nat.pow_lt_pow_right (by decide) (by decide))
    have hr5 : r.natAbs < 2 ^ 500 := lb.2.mono (by omega)
    have hu5 : u.natAbs < 2 ^ 500 := by
      have h1 := lform_le ok
      rw [hLF] at h1
      have h2 := rise_nn nf.ok
      have h1 : u ≤ r := h1
      omega
    walk_at "wk"
    rw [line_at hs0 (by omega) hu5 hn5]
    walk_at "wk"
    rw [line_at hs0 (by omega) hu5 hn5]
    walk_at "wk"
    rw [lawAtB hne (by omega) hr5 hn5]
    walk_at "wk"
    rw [slat, mul2]
    walk_at "wk"
    rw [dEq_t (b := false) (by simp [cln, cln_int])]
    walk_at "wk"
    exact ⟨p4, _, _, inferInstance, inferInstance, rfl, hp4.mono (by omega)⟩
  · clear hp3 p3
    rintro _ ⟨p3, t9, t10, n9, n10, rfl, hp3⟩
    rw [List.length_map, rg_len] at hp3
    walk_at "wk"
    rw [line_starts]
    walk_at "wk"
    refine (values hp3 (by omega) (by omega) (by omega)).mono ?_
    rintro _ ⟨l2, r2, p4, rfl, hp4, ok2, hl2, hr2, hv2⟩
    obtain ⟨z0, z1, z2, rfl, _⟩ := id hp4
    walk_at "wk"
    generalize (D.lst [D.int z0, D.int z1, D.int z2]) = p4 at *
    refine (draw hp4 (by omega) (by omega) (by omega)).mono ?_
    rintro _ ⟨way, p5, rfl, hw, hw', hp5⟩
    walk_at "wk"
    refine W.mono (Q := fun a => ∃ (l3 : List Int) (r3 : Int) (p6 : D) (t13 : Sl) (_ : Nio t13), a = .nx [Sl.io 1 p6, Sl.val (D.int r), Sl.val (D.lst (List.map D.int l)), Sl.val (D.int r3), Sl.val (D.lst (List.map D.int longer ++ [D.non])), Sl.val (D.tup [D.lst (List.map D.int s), D.int u]), Sl.val (D.lst (List.map D.int longer)), Sl.val (lineD s u), Sl.val (lineD s u), t9, t10, Sl.val (D.lst (List.map D.int l3)), Sl.un, t13, Sl.un, Sl.un, Sl.un] ∧ Ok l3 r3 ∧ l3.length ≤ 8 ∧ PoolOk p6 (B + 800)) ?_ ?_
    · by_cases c : way = 0
      · rw [decide_eq_true c]
        walk_at "wk"
        refine (draw hp5 (by omega) (by omega) (by omega)).mono ?_
        rintro _ ⟨sp, p6, rfl, hs, hs', hp6⟩
        obtain ⟨q, rfl⟩ := Int.eq_ofNat_of_zero_le hs
        walk_at "wk"
        rw [cutL_to (by omega), cutL_from (by omega), ← List.map_drop, ← List.map_take]
        walk_at "wk"
        refine W_list (p := fun _ => true) (g := fun n => .int (n + 1)) (by walk_at "dl") (by simp only [lim, List.length_drop]; omega) ?_ ?_
        · intro x hx
          walk_at "wk"
        · walk_at "wk"
          rw [if_pos (by simp [filt_true]; omega)]
          walk_at "wk"
          have bo := bump_ok (p := q) ok (by omega)
          have bl := bump_len (l := l) (p := q)
          have fin : ∀ e : Int, e = (if 0 < q then 1 else 0) → ∃ (l3 : List Int) (r3 : Int) (p6' : D) (t13 : Sl) (_ : Nio t13), (Out.nx [Sl.io 1 p6, Sl.val (D.int r), Sl.val (D.lst (List.map D.int l)), Sl.val (D.int (r + e)), Sl.val (D.lst (List.map D.int longer ++ [D.non])), Sl.val (D.tup [D.lst (List.map D.int s), D.int u]), Sl.val (D.lst (List.map D.int longer)), Sl.val (lineD s u), Sl.val (lineD s u), t9, t10, Sl.val (D.lst ((l.take q).map .int ++ ((l.drop q).filter (fun _ => true)).map (fun n => D.int (n + 1)))), Sl.un, Sl.val (D.int q), Sl.un, Sl.un, Sl.un]) = .nx [Sl.io 1 p6', Sl.val (D.int r), Sl.val (D.lst (List.map D.int l)), Sl.val (D.int r3), Sl.val (D.lst (List.map D.int longer ++ [D.non])), Sl.val (D.tup [D.lst (List.map D.int s), D.int u]), Sl.val (D.lst (List.map D.int longer)), Sl.val (lineD s u), Sl.val (lineD s u), t9, t10, Sl.val (D.lst (List.map D.int l3)), Sl.un, t13, Sl.un, Sl.un, Sl.un] ∧ Ok l3 r3 ∧ l3.length ≤ 8 ∧ PoolOk p6' (B + 800) := by
            intro e he
            refine ⟨LN.bump l q, r + e, p6, .val (.int q), inferInstance, ?_, by rw [he]; exact bo, by omega, hp6.mono (by omega)⟩
            simp [LN.bump, filt_true, Function.comp_def]
          by_cases c3 : (0 : Int) < q
          · rw [decide_eq_true c3]
            walk_at "wk"
            exact fin 1 (by rw [if_pos (by omega)])
          · rw [decide_eq_false c3]
            walk_at "wk"
            exact fin 0 (by rw [if_neg (by omega)])
      · rw [decide_eq_false c]
        walk_at "wk"
        exact ⟨l2, r2, p5, _, inferInstance, rfl, ok2, by omega, hp5.mono (by omega)⟩
    rintro _ ⟨l3, r3, p6, t13, n13, rfl, ok3, hl3, hp6⟩
    have hne3 := ok3.ne
    have i3 := line_init ok3 (by omega)
    have lst3 := least (r := r3) hne3 (by omega)
    have nf3 := Nf.of ok3
    generalize hLF3 : lform l3 r3 = LF3 at *
    obtain ⟨s3, u3⟩ := LF3
    have i3 : f_Line_init.den [.nd (.obj 0 []) [], .lst (l3.map .int), .int r3] = .ok (.non, [lineD s3 u3]) := i3
    simp only [] at lst3 nf3
    walk_at "wk"
    rw [i3]
    walk_at "wk"
    rw [line_eq]
    walk_at "wk"
    rw [line_eq]
    walk_at "wk"
    rw [lst3]
    walk_at "wk"
    rw [least_eq]
    walk_at "wk"
    rw [mul2, dec_symm (s := s)]
    walk_at "wk"
    rw [dEq_t (b := true) (by simp [cln, cln_bl])]
    walk_at "wk"
    rw [line_eq_same]
    walk_at "wk"
    rw [line_starts]
    walk_at "wk"
    rw [dEq_t (b := false) cln_ints]
    walk_at "wk"
    refine W_comp (I := fun _ ds env => ds = [] ∧ env = [Sl.io 1 p6, Sl.val (D.int r), Sl.val (D.lst (List.map D.int l)), Sl.val (D.int r3), Sl.val (D.lst (List.map D.int longer ++ [D.non])), Sl.val (D.tup [D.lst (List.map D.int s), D.int u]), Sl.val (D.lst (List.map D.int longer)), Sl.val (lineD s u), Sl.val (lineD s u), t9, t10, Sl.val (D.lst (List.map D.int l3)), Sl.un, t13, Sl.val (lineD s3 u3), Sl.val (D.lst [D.lst (List.map D.int s), D.tup [D.lst (List.map D.int s), D.int u], D.int 0, D.non, D.str "line", D.lst (List.map D.int longer ++ [D.non])]), Sl.un]) (by walk_at "dl") (by simp [lim]) ?_ ?_ ?_
    · walk_at "dl"
    · rintro i ds x _ hx ⟨rfl, rfl⟩
      have hm := List.mem_of_getElem? hx
      have ho : isiD 0 x = some false := by
        simp only [List.mem_cons, List.not_mem_nil, or_false] at hm
        rcases hm with rfl | rfl | rfl | rfl | rfl | rfl <;> rfl
      walk_at "wk"
      rw [ho]
      walk_at "wk"
      rw [line_eq_other ho]
      walk_at "wk"
    · rintro _ _ ⟨rfl, rfl⟩
      walk_at "wk"
      rw [dEq_t (b := false) (by simp [cln])]
      walk_at "wk"
      exact ⟨_, rfl, hp6.mono (by omega)⟩
theorem made_line {s s' : List Int} {r r' : Int} (h1 : okB s r = true) (h2 : lform s r = (s', r')) (hl : s.length ≤ 100) :
    f_Line_init.den [.nd (.obj 0 []) [], .lst (s.map .int), .int r] = .ok (.non, [lineD s' r']) ∧ Nf s' r' := by
  have ok := ok_b h1
  have e := line_init ok (by omega)
  have nf := Nf.of ok
  rw [h2] at e nf
  exact ⟨e, nf⟩
theorem law_den (ns : List Int) (h : ns.length ≤ 63) : f_law.den [.nd .scr (ns.map .int)] = .ok (.bl true, []) := by
  apply W.eq
  rw [e_law, run_eq rfl]
  walk_at "dl"
  generalize hn : (if (if (ns.length : Int) < 10 then (ns.length : Int) else 10) > 1 then if (ns.length : Int) < 10 then (ns.length : Int) else 10 else 1) = n
  have hn1 : 0 ≤ n ∧ n ≤ 10 := by omega
  rw [if_pos (by omega)]
  walk_at "dl"
  refine W_for (I := fun _ env => ∃ (t1 t2 t3 : Sl) (_ : Nio t1) (_ : Nio t2) (_ : Nio t3), env = [.val (.nd .scr (ns.map .int)), t1, t2, t3, .un]) ?_ ?_ ?_
  · exact ⟨_, _, _, inferInstance, inferInstance, inferInstance, rfl⟩
  · rintro i x _ hx ⟨t1, t2, t3, h1, h2, h3, rfl⟩
    obtain ⟨v, hv, rfl⟩ : ∃ v, (rg 0 n.toNat)[i]? = some v ∧ D.int v = x := by simpa using hx
    obtain ⟨hi, rfl⟩ := rg_get_of hv
    walk_at "dl"
    refine (pool (by omega) (by omega)).mono ?_
    rintro _ ⟨p, rfl, hp⟩
    obtain ⟨q0, q1, q2, rfl, _⟩ := id hp
    walk_at "dl"
    refine W_for (I := fun i env => ∃ (p : D) (t1 t3 : Sl) (_ : Nio t1) (_ : Nio t3), env = [.val (.nd .scr (ns.map .int)), t1, .own 1 p, t3, .un] ∧ PoolOk p (1000 * i)) ?_ ?_ ?_
    · exact ⟨_, _, _, inferInstance, inferInstance, rfl, hp.mono (by omega)⟩
    · rintro j x _ hx ⟨p, t1, t3, h1, h3, rfl, hp⟩
      have hj := lt_of_get hx
      simp only [List.length_map, rg_len] at hj
      walk_at "dl"
      refine (right hp (by omega)).mono ?_
      rintro _ ⟨p', rfl, hp'⟩
      walk_at "dl"
      exact ⟨_, _, _, inferInstance, inferInstance, rfl, hp'.mono (by omega)⟩
    · rintro _ ⟨p, t1, t3, h1, h3, rfl, hp⟩
      walk_at "dl"
      exact ⟨_, _, _, inferInstance, inferInstance, inferInstance, rfl⟩
  · rintro _ ⟨t1, t2, t3, h1, h2, h3, rfl⟩
    obtain ⟨a1, n1⟩ := made_line (s := [0, 0, 1, 1]) (s' := [0, 0]) (r := 2) (r' := 1) (by decide +kernel) (by decide +kernel) (by decide)
    obtain ⟨a3, n3⟩ := made_line (s := [7, 7, 7]) (s' := [7]) (r := 0) (r' := 0) (by decide +kernel) (by decide +kernel) (by decide)
    have s1 := line_starts (s := [0, 0]) (r := 1)
    have r1 := line_rise (s := [0, 0]) (r := 1)
    have l1 : f_Line_len.den [lineD [0, 0] 1] = .ok (.int 2, []) := line_len
    have at1 := line_at (s := [0, 0]) (r := 1) (n := -3) (by decide) (by decide) (by decide +kernel) (by decide +kernel)
    rw [show lat [0, 0] 1 (-3) = -2 by decide +kernel] at at1
    have l3 : f_Line_len.den [lineD [7] 0] = .ok (.int 1, []) := line_len
    simp only [lineD, List.map_cons, List.map_nil, List.length_cons, List.length_nil] at a1 a3 s1 r1 l1 at1 l3
    walk_at "dl"
    rw [a1]
    walk_at "dl"
    rw [s1]
    walk_at "dl"
    rw [r1]
    walk_at "dl"
    rw [l1]
    walk_at "dl"
    rw [at1]
    walk_at "dl"
    rw [dEq_t (b := false) (by decide +kernel)]
    walk_at "dl"
    rw [a3]
    walk_at "dl"
    rw [l3]
    walk_at "dl"
end K01

-- part K01e
set_option Elab.async false
set_option linter.all false
set_option maxRecDepth 100000
set_option maxHeartbeats 0
open PySem PySem.W PySem.Calls PyProof.Rows
theorem PySem.Challenge.cw_fitsizes_k01_lines_made_holds : PySem.Challenge.rw_fitsizes_k01_lines_made.Holds := by
  w_on; o_law
  refine HandSHeadRun.head_any (r := OpenLaw.row PySem.Challenge.rw_fitsizes_k01_lines_made) (q := view (OpenLaw.row PySem.Challenge.rw_fitsizes_k01_lines_made).prog [22]) (H := K01.hk) (ob := K01.ob) (M := 4000)
    (loose := K01.loose) (d := HandSHeadRun.topDef (OpenLaw.row PySem.Challenge.rw_fitsizes_k01_lines_made).prog 22) (kwd := []) (fun s => DL.watchT_eq s)
    (by kernel_rfl) (fun s => by kernel_rfl) K01.top_run (by kernel_rfl) (by kernel_rfl) (by kernel_rfl) (by rfl) (by first | assumption | decide +kernel) (by decide +kernel) ⟨rfl, rfl, rfl, rfl, rfl, by decide +kernel⟩ ?hw ?hc
  case hw => w_witness2
  case hc =>
    refine L2.walk_ofE (l := PySem.Challenge.rw_fitsizes_k01_lines_made) (n := 63) (k := 13) (x := "script") (CX := L2.CX0) rfl (by decide) (by kernel_rfl) ⟨rfl, by decide, by decide⟩ ?F (fun _ _ _ _ z => z)
    intro w mg fa h ⟨K, KX, c, ds, tb⟩ G hmg
    have hn : mg ("law" : PySem.Str) = some (.ref fa) := by
      have e : (HandSHeadRun.topDef (OpenLaw.row PySem.Challenge.rw_fitsizes_k01_lines_made).prog 22).name = ("law" : PySem.Str) := by kernel_rfl
      exact e ▸ hmg
    obtain ⟨fd, hb, hF⟩ := K01.facts (P := (PySem.Challenge.rw_fitsizes_k01_lines_made).prog) (w := w) KX G hn c ds tb
    exact ⟨K, fd, _, KX, hb, fun H a ns hl _ hS => DL.law_end rfl rfl K01.law_den H a ns hl hS, hF⟩
