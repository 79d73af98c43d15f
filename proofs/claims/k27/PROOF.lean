import PyProof.Rows.All
import Wide.All
import OpenK.AllK
import Wide.FinOn
import HandS.ForMost
import HandS.Wide
import HandS.Style
import HandS.Conv
import HandS.Deep
import HandS.TupLe
import HandS.SortInts
import HandS.IsInst
import KE.KMathG
import Flt.RightSqrt
import HandS.TryOnly
import PySem.Challenge.RW_wholeconic_k27_new_unknowns
set_option Elab.async false
set_option linter.all false
set_option maxRecDepth 100000
set_option maxHeartbeats 4000000
namespace DL
open PySem PySem.Spec PyProof.Rows L2

/-! ### data -/
inductive D where
  | non | bl (b : Bool) | int (i : Int) | str (s : Str) | st | tup (xs : List D) | lst (xs : List D)
  deriving Inhabited

/-- where the law's own state stands; what is written once for all -/
structure Wd where
  g : Option Addr
  hd : Hp
structure Wd.le (a b : Wd) : Prop where
  g : ∀ p, a.g = some p → b.g = some p
  hd : ∀ p o, a.hd p = some o → b.hd p = some o
theorem Wd.le.refl (a : Wd) : a.le a := ⟨fun _ h => h, fun _ _ h => h⟩
theorem Wd.le.trans {a b c : Wd} (x : a.le b) (y : b.le c) : a.le c := ⟨fun p h => y.g p (x.g p h), fun p o h => y.hd p o (x.hd p o h)⟩

mutual
def Rep (K : PySem.W.Frag) (ω : Wd) : D → V → Prop
  | .non, v => v = .non
  | .bl b, v => v = .bl b
  | .int i, v => v = .int i
  | .str s, v => v = .str s
  | .st, v => ∃ a, ω.g = some a ∧ v = .ref a
  | .tup xs, v => ∃ a vs, v = .ref a ∧ SqT K ω.hd a vs ∧ Reps K ω xs vs
  | .lst xs, v => ∃ a vs, v = .ref a ∧ SqL K ω.hd a vs ∧ Reps K ω xs vs
def Reps (K : PySem.W.Frag) (ω : Wd) : List D → List V → Prop
  | [], vs => vs = []
  | d :: ds, vs => ∃ v r, vs = v :: r ∧ Rep K ω d v ∧ Reps K ω ds r
end

theorem sqL_mono {K : PySem.W.Frag} {H H' : Hp} (e : ∀ p o, H p = some o → H' p = some o) {a : Addr} {vs : List V} (h : SqL K H a vs) : SqL K H' a vs := by
  rcases h with (h | ⟨o, h⟩) | h
  · exact .inl (.inl (e _ _ h))
  · exact .inl (.inr ⟨o, e _ _ h⟩)
  · exact .inr h
theorem sqT_mono {K : PySem.W.Frag} {H H' : Hp} (e : ∀ p o, H p = some o → H' p = some o) {a : Addr} {vs : List V} (h : SqT K H a vs) : SqT K H' a vs := by
  rcases h with (h | ⟨o, h⟩) | h
  · exact .inl (.inl (e _ _ h))
  · exact .inl (.inr ⟨o, e _ _ h⟩)
  · exact .inr h

mutual
theorem Rep.mono {K : PySem.W.Frag} {ω ω' : Wd} (l : ω.le ω') : ∀ {d : D} {v : V}, Rep K ω d v → Rep K ω' d v
  | .non, _, h => by unfold Rep at h ⊢; exact h
  | .bl b, _, h => by unfold Rep at h ⊢; exact h
  | .int i, _, h => by unfold Rep at h ⊢; exact h
  | .str s, _, h => by unfold Rep at h ⊢; exact h
  | .st, _, h => by
    unfold Rep at h ⊢
    obtain ⟨a, h1, h2⟩ := h
    exact ⟨a, l.g a h1, h2⟩
  | .tup xs, _, h => by
    unfold Rep at h ⊢
    obtain ⟨a, vs, h1, h2, h3⟩ := h
    exact ⟨a, vs, h1, sqT_mono l.hd h2, Reps.mono l h3⟩
  | .lst xs, _, h => by
    unfold Rep at h ⊢
    obtain ⟨a, vs, h1, h2, h3⟩ := h
    exact ⟨a, vs, h1, sqL_mono l.hd h2, Reps.mono l h3⟩
theorem Reps.mono {K : PySem.W.Frag} {ω ω' : Wd} (l : ω.le ω') : ∀ {ds : List D} {vs : List V}, Reps K ω ds vs → Reps K ω' ds vs
  | [], _, h => by unfold Reps at h ⊢; exact h
  | d :: ds, _, h => by
    unfold Reps at h ⊢
    obtain ⟨v, r, h1, h2, h3⟩ := h
    exact ⟨v, r, h1, Rep.mono l h2, Reps.mono l h3⟩
end
section
variable {K : PySem.W.Frag} {ω : Wd}
theorem Rep.int_iff {i : Int} {v : V} : Rep K ω (.int i) v ↔ v = .int i := by unfold Rep; exact Iff.rfl
theorem Rep.bl_iff {i : Bool} {v : V} : Rep K ω (.bl i) v ↔ v = .bl i := by unfold Rep; exact Iff.rfl
theorem Rep.str_iff {i : Str} {v : V} : Rep K ω (.str i) v ↔ v = .str i := by unfold Rep; exact Iff.rfl
theorem Rep.non_iff {v : V} : Rep K ω .non v ↔ v = .non := by unfold Rep; exact Iff.rfl
theorem Rep.tup_iff {xs : List D} {v : V} : Rep K ω (.tup xs) v ↔ ∃ a vs, v = .ref a ∧ SqT K ω.hd a vs ∧ Reps K ω xs vs := by conv => lhs; unfold Rep
theorem Rep.lst_iff {xs : List D} {v : V} : Rep K ω (.lst xs) v ↔ ∃ a vs, v = .ref a ∧ SqL K ω.hd a vs ∧ Reps K ω xs vs := by conv => lhs; unfold Rep
theorem Rep.st_iff {v : V} : Rep K ω .st v ↔ ∃ a, ω.g = some a ∧ v = .ref a := by conv => lhs; unfold Rep
theorem Reps.nil : Reps K ω [] [] := by unfold Reps; rfl
theorem Reps.nil_iff {vs : List V} : Reps K ω [] vs ↔ vs = [] := by unfold Reps; exact Iff.rfl
theorem Reps.cons_iff {d : D} {ds : List D} {vs : List V} : Reps K ω (d :: ds) vs ↔ ∃ v r, vs = v :: r ∧ Rep K ω d v ∧ Reps K ω ds r := by conv => lhs; unfold Reps
theorem Reps.cons {d : D} {ds : List D} {v : V} {vs : List V} (h : Rep K ω d v) (t : Reps K ω ds vs) : Reps K ω (d :: ds) (v :: vs) := Reps.cons_iff.mpr ⟨v, vs, rfl, h, t⟩
theorem Reps.length : ∀ {ds : List D} {vs : List V}, Reps K ω ds vs → vs.length = ds.length
  | [], _, h => by rw [Reps.nil_iff] at h; rw [h]; rfl
  | d :: ds, _, h => by
    obtain ⟨v, r, rfl, _, h3⟩ := Reps.cons_iff.mp h
    rw [List.length_cons, List.length_cons, Reps.length h3]
theorem Reps.get : ∀ {ds : List D} {vs : List V} {i : Nat} {d : D}, Reps K ω ds vs → ds[i]? = some d → ∃ v, vs[i]? = some v ∧ Rep K ω d v
  | [], _, _, _, _, e => by simp at e
  | d :: ds, _, 0, _, h, e => by
    obtain ⟨v, r, rfl, h2, h3⟩ := Reps.cons_iff.mp h
    simp at e; subst e
    exact ⟨v, rfl, h2⟩
  | d :: ds, _, i + 1, d', h, e => by
    obtain ⟨v, r, rfl, h2, h3⟩ := Reps.cons_iff.mp h
    obtain ⟨v', e', h'⟩ := Reps.get (i := i) (d := d') h3 (by simpa using e)
    exact ⟨v', by simpa using e', h'⟩
theorem Reps.append : ∀ {ds es : List D} {vs us : List V}, Reps K ω ds vs → Reps K ω es us → Reps K ω (ds ++ es) (vs ++ us)
  | [], _, _, _, h, t => by rw [Reps.nil_iff] at h; subst h; exact t
  | d :: ds, _, _, _, h, t => by
    obtain ⟨v, r, rfl, h2, h3⟩ := Reps.cons_iff.mp h
    exact Reps.cons h2 (Reps.append h3 t)
theorem Reps.drop : ∀ {ds : List D} {vs : List V} (n : Nat), Reps K ω ds vs → Reps K ω (ds.drop n) (vs.drop n)
  | _, _, 0, h => h
  | [], _, n + 1, h => by rw [Reps.nil_iff] at h; subst h; exact Reps.nil
  | d :: ds, _, n + 1, h => by
    obtain ⟨v, r, rfl, h2, h3⟩ := Reps.cons_iff.mp h
    exact Reps.drop n h3
theorem Reps.take : ∀ {ds : List D} {vs : List V} (n : Nat), Reps K ω ds vs → Reps K ω (ds.take n) (vs.take n)
  | _, _, 0, h => Reps.nil
  | [], _, n + 1, h => by rw [Reps.nil_iff] at h; subst h; exact Reps.nil
  | d :: ds, _, n + 1, h => by
    obtain ⟨v, r, rfl, h2, h3⟩ := Reps.cons_iff.mp h
    exact Reps.cons h2 (Reps.take n h3)
end

/-! ### what a name holds, what an expression gives -/
inductive EV where
  | val (d : D) | own (ds : List D)
  deriving Inhabited
def EV.d : EV → D
  | .val d => d
  | .own ds => .lst ds
abbrev En := List (Option EV)
abbrev Tk := Option Nat
structure C where
  K : PySem.W.Frag
  w0 : Wd
  H0 : Hp
  pr : Addr → Prop := fun _ => False

def StOk (K : PySem.W.Frag) (ω : Wd) (H : Hp) (tk : Tk) : Prop :=
  (ω.g = none ∧ tk = none) ∨ ∃ (a : Addr) (k : Nat), ω.g = some a ∧ tk = some k ∧ ω.hd a = none ∧ ∃ (n : Addr) (ns : List Int), H a = some (.lst [.ref n, .int (k : Int)]) ∧ SqL K ω.hd n (ns.map V.int) ∧ ns.length = 120 ∧ ∀ x ∈ ns, (0 : Int) ≤ x ∧ x < 1000
def OwnAt (c : C) (ω : Wd) (H : Hp) (p : Addr) (ds : List D) : Prop := ∃ vs, H p = some (.lst vs) ∧ ω.hd p = none ∧ ω.g ≠ some p ∧ (c.H0 p = none ∧ ¬ c.pr p) ∧ Reps c.K ω ds vs
def SlotV (c : C) (ω : Wd) (H : Hp) : EV → V → Prop
  | .val d, v => Rep c.K ω d v
  | .own ds, v => ∃ p, v = .ref p ∧ OwnAt c ω H p ds
structure Ok (c : C) (ω : Wd) (H : Hp) (σ : L2.St) (env : En) (tk : Tk) : Prop where
  len : σ.length = env.length
  sub : ∀ b o, ω.hd b = some o → H b = some o
  st : StOk c.K ω H tk
  slots : ∀ (i : Nat) (e : EV), env[i]? = some (some e) → ∃ v, σ[i]? = some (some v) ∧ SlotV c ω H e v
  dist : ∀ (i j : Nat) (p : Addr) (ds es : List D), env[i]? = some (some (.own ds)) → env[j]? = some (some (.own es)) → σ[i]? = some (some (.ref p)) → σ[j]? = some (some (.ref p)) → i = j
  new : ∀ b, ω.hd b ≠ none → c.w0.hd b ≠ none ∨ c.H0 b = none
  ng : ∀ a, ω.g = some a → c.w0.g = some a ∨ c.H0 a = none
  fr : ∀ b o, c.H0 b = some o → c.w0.g ≠ some b → H b = some o
  le0 : c.w0.le ω
  pr : ∀ b, c.pr b → H b ≠ none ∧ ω.hd b = none ∧ ω.g ≠ some b
/-- an expression's step -/
structure Stp (ω : Wd) (H : Hp) (ω' : Wd) (H' : Hp) : Prop where
  le : ω.le ω'
  fr : ∀ b o, H b = some o → ω.g ≠ some b → H' b = some o
  ng : ∀ a, ω'.g = some a → ω.g = some a ∨ H a = none
theorem Stp.refl (ω : Wd) (H : Hp) : Stp ω H ω H := ⟨.refl _, fun _ _ h _ => h, fun _ h => .inl h⟩
theorem Stp.trans {ω ω1 ω2 : Wd} {H H1 H2 : Hp} (a : Stp ω H ω1 H1) (b : Stp ω1 H1 ω2 H2) : Stp ω H ω2 H2 := by
  refine ⟨a.le.trans b.le, fun p o h n => b.fr p o (a.fr p o h n) fun e => ?_, fun p h => ?_⟩
  · rcases a.ng p e with e | e
    · exact n e
    · rw [h] at e; cases e
  · rcases b.ng p h with e | e
    · exact a.ng p e
    · by_cases q : ω.g = some p
      · exact .inl q
      · refine .inr ?_
        cases z : H p with
        | none => rfl
        | some o =>
          rw [a.fr p o z q] at e
          cases e
/-- read without giving away -/
def RepP (c : C) (ω : Wd) (H : Hp) (d : D) (v : V) : Prop := Rep c.K ω d v ∨ ∃ ds p vs, d = .lst ds ∧ v = .ref p ∧ H p = some (.lst vs) ∧ ω.g ≠ some p ∧ Reps c.K ω ds vs
def RepE (c : C) (ω : Wd) (H : Hp) (σ : L2.St) (env : En) : EV → V → Prop
  | .val d, v => Rep c.K ω d v
  | .own ds, v => ∃ p, v = .ref p ∧ OwnAt c ω H p ds ∧ ∀ (i : Nat) (es : List D), env[i]? = some (some (.own es)) → σ[i]? ≠ some (some (.ref p))
theorem RepP.step {c : C} {ω ω' : Wd} {H H' : Hp} {d : D} {v : V} (h : RepP c ω H d v) (s : Stp ω H ω' H') : RepP c ω' H' d v := by
  rcases h with h | ⟨ds, p, vs, rfl, rfl, h1, h2, h3⟩
  · exact .inl (h.mono s.le)
  · refine .inr ⟨ds, p, vs, rfl, rfl, s.fr p _ h1 h2, fun e => ?_, h3.mono s.le⟩
    rcases s.ng p e with e | e
    · exact h2 e
    · rw [h1] at e; cases e
section
variable {c : C} {ω : Wd} {H : Hp} {v : V}
theorem RepP.int {i : Int} (h : RepP c ω H (.int i) v) : v = .int i := by
  rcases h with h | ⟨ds, p, vs, e, _⟩
  · exact Rep.int_iff.mp h
  · cases e
theorem RepP.bl {i : Bool} (h : RepP c ω H (.bl i) v) : v = .bl i := by
  rcases h with h | ⟨ds, p, vs, e, _⟩
  · exact Rep.bl_iff.mp h
  · cases e
theorem RepP.str {i : Str} (h : RepP c ω H (.str i) v) : v = .str i := by
  rcases h with h | ⟨ds, p, vs, e, _⟩
  · exact Rep.str_iff.mp h
  · cases e
theorem RepP.lst (sub : ∀ b o, ω.hd b = some o → H b = some o) {ds : List D} (h : RepP c ω H (.lst ds) v) : ∃ p vs, v = .ref p ∧ SqL c.K H p vs ∧ Reps c.K ω ds vs := by
  rcases h with h | ⟨ds, p, vs, e, rfl, h1, h2, h3⟩
  · obtain ⟨a, vs, rfl, h1, h2⟩ := Rep.lst_iff.mp h
    exact ⟨a, vs, rfl, sqL_mono sub h1, h2⟩
  · cases e
    exact ⟨p, vs, rfl, .of h1, h3⟩
theorem RepP.tup (sub : ∀ b o, ω.hd b = some o → H b = some o) {ds : List D} (h : RepP c ω H (.tup ds) v) : ∃ p vs, v = .ref p ∧ SqT c.K H p vs ∧ Reps c.K ω ds vs := by
  rcases h with h | ⟨ds, p, vs, e, _⟩
  · obtain ⟨a, vs, rfl, h1, h2⟩ := Rep.tup_iff.mp h
    exact ⟨a, vs, rfl, sqT_mono sub h1, h2⟩
  · cases e
end
end DL

namespace DL
open PySem PySem.Spec PyProof.Rows L2

/-! ### the world grows -/
section
variable {c : C} {ω : Wd} {H : Hp} {σ : L2.St} {env : En} {tk : Tk} {p : Addr}
theorem Ok.nohd (ok : Ok c ω H σ env tk) (n : H p = none) : ω.hd p = none := by
  cases z : ω.hd p with
  | none => rfl
  | some o => rw [ok.sub p o z] at n; cases n
theorem StOk.there {K : PySem.W.Frag} (st : StOk K ω H tk) {a : Addr} (h : ω.g = some a) : H a ≠ none := by
  rcases st with ⟨e, _⟩ | ⟨a', k, e, _, _, n, ns, e2, _⟩
  · rw [h] at e; cases e
  · rw [h] at e; cases e
    intro z
    rw [e2] at z; cases z
theorem Ok.nog (ok : Ok c ω H σ env tk) (n : H p = none) : ω.g ≠ some p := fun e => ok.st.there e n
theorem Ok.noH0 (ok : Ok c ω H σ env tk) (n : H p = none) : c.H0 p = none := by
  cases z : c.H0 p with
  | none => rfl
  | some o =>
    by_cases q : c.w0.g = some p
    · exact absurd n (ok.st.there (ok.le0.g p q))
    · rw [ok.fr p o z q] at n; cases n
theorem Ok.nopr (ok : Ok c ω H σ env tk) (n : H p = none) : ¬ c.pr p := fun e => (ok.pr p e).1 n
/-- a slot's own list does not stand at a free place, nor at a frozen one -/
theorem Ok.noslot (ok : Ok c ω H σ env tk) (n : H p = none ∨ ω.hd p ≠ none) : ∀ (i : Nat) (es : List D), env[i]? = some (some (.own es)) → σ[i]? ≠ some (some (.ref p)) := fun i es e z => by
  obtain ⟨v, hv, q, rfl, vs, h1, h2, _⟩ := ok.slots i _ e
  rw [z] at hv
  cases hv
  rcases n with n | n
  · rw [h1] at n; cases n
  · exact n h2
theorem le_upd {o : HO} (n : ω.hd p = none) : ω.le ⟨ω.g, upd ω.hd p o⟩ := ⟨fun _ h => h, fun q u h => by
  show upd ω.hd p o q = some u
  rw [upd_ne (ne_of_none h n)]
  exact h⟩
theorem StOk.upd {K : PySem.W.Frag} {o : HO} (st : StOk K ω H tk) (n : H p = none) : StOk K ω (upd H p o) tk := by
  rcases st with st | ⟨a', k, e, e1, e0, nn, ns, e2, r⟩
  · exact .inl st
  · exact .inr ⟨a', k, e, e1, e0, nn, ns, by rw [upd_ne (ne_of_none e2 n)]; exact e2, r⟩
theorem StOk.hd {K : PySem.W.Frag} {o : HO} (st : StOk K ω H tk) (n : ω.g ≠ some p) (n2 : ω.hd p = none) : StOk K ⟨ω.g, L2.upd ω.hd p o⟩ H tk := by
  rcases st with st | ⟨a', k, e, e1, e0, nn, ns, e2, r, r2⟩
  · exact .inl st
  · refine .inr ⟨a', k, e, e1, ?_, nn, ns, e2, sqL_mono (le_upd n2).hd r, r2⟩
    show L2.upd ω.hd p o a' = none
    rw [upd_ne (fun q => n (by rw [e, q]))]
    exact e0
theorem SlotV.up {e : EV} {v : V} {ω' : Wd} {H' : Hp} (s : SlotV c ω H e v) (l : ω.le ω') (hg : ω'.g = ω.g) (k : ∀ q vs, v = .ref q → H q = some (.lst vs) → ω.hd q = none → c.H0 q = none ∧ ¬ c.pr q → H' q = some (.lst vs) ∧ ω'.hd q = none) : SlotV c ω' H' e v := by
  cases e with
  | val d => exact Rep.mono l s
  | own ds =>
    obtain ⟨q, rfl, vs, h1, h2, h3, h4, h5⟩ := s
    obtain ⟨k1, k2⟩ := k q vs rfl h1 h2 h4
    exact ⟨q, rfl, vs, k1, k2, by rw [hg]; exact h3, h4, h5.mono l⟩
/-- a new object, frozen at once -/
theorem Ok.alloc (ok : Ok c ω H σ env tk) (n : H p = none) (o : HO) : Ok c ⟨ω.g, upd ω.hd p o⟩ (upd H p o) σ env tk where
  len := ok.len
  sub := fun b u h => by
    by_cases e : b = p
    · subst e
      have h' : upd ω.hd b o b = some u := h
      rw [upd_same] at h' ⊢
      exact h'
    · have h' : upd ω.hd p o b = some u := h
      rw [upd_ne e] at h' ⊢
      exact ok.sub b u h'
  st := (ok.st.upd n).hd (ok.nog n) (ok.nohd n)
  slots := fun i e he => by
    obtain ⟨v, h1, h2⟩ := ok.slots i e he
    refine ⟨v, h1, h2.up (le_upd (ok.nohd n)) rfl fun q vs _ a1 a2 _ => ?_⟩
    have hq : q ≠ p := ne_of_none a1 n
    exact ⟨by rw [upd_ne hq]; exact a1, by show upd ω.hd p o q = none; rw [upd_ne hq]; exact a2⟩
  dist := ok.dist
  new := fun b h => by
    by_cases e : b = p
    · subst e
      exact .inr (ok.noH0 n)
    · have h' : upd ω.hd p o b ≠ none := h
      rw [upd_ne e] at h'
      exact ok.new b h'
  ng := ok.ng
  fr := fun b u h q => by
    have hb : b ≠ p := ne_of_none h (ok.noH0 n)
    rw [upd_ne hb]
    exact ok.fr b u h q
  le0 := ok.le0.trans (le_upd (ok.nohd n))
  pr := fun b h => by
    obtain ⟨h1, h2, h3⟩ := ok.pr b h
    have hb : b ≠ p := fun e => ok.nopr n (e ▸ h)
    exact ⟨by rw [upd_ne hb]; exact h1, by show upd ω.hd p o b = none; rw [upd_ne hb]; exact h2, h3⟩
theorem Stp.alloc (n : H p = none) (nh : ω.hd p = none) (o : HO) : Stp ω H ⟨ω.g, upd ω.hd p o⟩ (upd H p o) := ⟨le_upd nh, fun b u h _ => by rw [upd_ne (ne_of_none h n)]; exact h, fun _ h => .inl h⟩
/-- a new list, not yet frozen -/
theorem Ok.newL (ok : Ok c ω H σ env tk) (n : H p = none) (o : HO) : Ok c ω (upd H p o) σ env tk where
  len := ok.len
  sub := fun b u h => by
    rw [upd_ne (ne_of_none h (ok.nohd n))]
    exact ok.sub b u h
  st := ok.st.upd n
  slots := fun i e he => by
    obtain ⟨v, h1, h2⟩ := ok.slots i e he
    refine ⟨v, h1, h2.up (.refl _) rfl fun q vs _ a1 a2 _ => ?_⟩
    exact ⟨by rw [upd_ne (ne_of_none a1 n)]; exact a1, a2⟩
  dist := ok.dist
  new := ok.new
  ng := ok.ng
  fr := fun b u h q => by
    rw [upd_ne (ne_of_none h (ok.noH0 n))]
    exact ok.fr b u h q
  le0 := ok.le0
  pr := fun b h => by
    obtain ⟨h1, h2, h3⟩ := ok.pr b h
    have hb : b ≠ p := fun e => ok.nopr n (e ▸ h)
    exact ⟨by rw [upd_ne hb]; exact h1, h2, h3⟩
theorem Stp.newL (n : H p = none) (o : HO) : Stp ω H ω (upd H p o) := ⟨.refl _, fun b u h _ => by rw [upd_ne (ne_of_none h n)]; exact h, fun _ h => .inl h⟩
theorem Ok.own (ok : Ok c ω H σ env tk) (n : H p = none) {ds : List D} {vs : List V} (r : Reps c.K ω ds vs) : RepE c ω (upd H p (.lst vs)) σ env (.own ds) (.ref p) :=
  ⟨p, rfl, ⟨vs, upd_same, ok.nohd n, ok.nog n, ⟨ok.noH0 n, ok.nopr n⟩, r⟩, ok.noslot (.inl n)⟩
/-- an own list is given away -/
theorem Ok.freeze (ok : Ok c ω H σ env tk) {vs : List V} (h1 : H p = some (.lst vs)) (h2 : ω.hd p = none) (h3 : ω.g ≠ some p) (h4 : c.H0 p = none ∧ ¬ c.pr p)
    (hs : ∀ (i : Nat) (es : List D), env[i]? = some (some (.own es)) → σ[i]? ≠ some (some (.ref p))) : Ok c ⟨ω.g, upd ω.hd p (.lst vs)⟩ H σ env tk where
  len := ok.len
  sub := fun b u h => by
    have h' : upd ω.hd p (.lst vs) b = some u := h
    by_cases e : b = p
    · subst e
      rw [upd_same] at h'
      rw [h1]
      exact h'
    · rw [upd_ne e] at h'
      exact ok.sub b u h'
  st := ok.st.hd h3 h2
  slots := fun i e he => by
    obtain ⟨v, g1, g2⟩ := ok.slots i e he
    cases e with
    | val d => exact ⟨v, g1, Rep.mono (le_upd h2) g2⟩
    | own es =>
      refine ⟨v, g1, g2.up (le_upd h2) rfl fun q us e1 a1 a2 _ => ⟨a1, ?_⟩⟩
      show upd ω.hd p (.lst vs) q = none
      rw [upd_ne (fun z => hs i es he (by rw [g1, e1, z]))]
      exact a2
  dist := ok.dist
  new := fun b h => by
    by_cases e : b = p
    · subst e
      exact .inr h4.1
    · have h' : upd ω.hd p (.lst vs) b ≠ none := h
      rw [upd_ne e] at h'
      exact ok.new b h'
  ng := ok.ng
  fr := ok.fr
  le0 := ok.le0.trans (le_upd h2)
  pr := fun b h => by
    obtain ⟨a1, a2, a3⟩ := ok.pr b h
    have hb : b ≠ p := fun e => h4.2 (e ▸ h)
    exact ⟨a1, by show upd ω.hd p (.lst vs) b = none; rw [upd_ne hb]; exact a2, a3⟩
theorem Stp.freeze {vs : List V} (h2 : ω.hd p = none) : Stp ω H ⟨ω.g, upd ω.hd p (.lst vs)⟩ H := ⟨le_upd h2, fun _ _ h _ => h, fun _ h => .inl h⟩
theorem Ok.reenv (ok : Ok c ω H σ env tk) {env' : En} (hl : env'.length = env.length) (h : ∀ (i : Nat) (e : EV), env'[i]? = some (some e) → env[i]? = some (some e) ∨ ∃ d v, e = .val d ∧ σ[i]? = some (some v) ∧ Rep c.K ω d v) : Ok c ω H σ env' tk where
  len := ok.len.trans hl.symm
  sub := ok.sub
  st := ok.st
  slots := fun i e he => by
    rcases h i e he with q | ⟨d, v, rfl, h1, h2⟩
    · exact ok.slots i e q
    · exact ⟨v, h1, h2⟩
  dist := fun i j q ds es a b x y => by
    rcases h i _ a with a | ⟨d, v, e, _⟩
    · rcases h j _ b with b | ⟨d, v, e, _⟩
      · exact ok.dist i j q ds es a b x y
      · cases e
    · cases e
  new := ok.new
  ng := ok.ng
  fr := ok.fr
  le0 := ok.le0
  pr := ok.pr
/-- any value given away: its data -/
theorem give (ok : Ok c ω H σ env tk) {ev : EV} {v : V} (r : RepE c ω H σ env ev v) : ∃ ω', Ok c ω' H σ env tk ∧ Stp ω H ω' H ∧ Rep c.K ω' ev.d v := by
  cases ev with
  | val d => exact ⟨ω, ok, .refl _ _, r⟩
  | own ds =>
    obtain ⟨p, rfl, ⟨vs, h1, h2, h3, h4, h5⟩, hs⟩ := r
    refine ⟨_, ok.freeze h1 h2 h3 h4 hs, .freeze h2, Rep.lst_iff.mpr ⟨p, vs, rfl, .of ?_, h5.mono (le_upd h2)⟩⟩
    show upd ω.hd p (.lst vs) p = _
    exact upd_same
end

/-! ### readings over data -/
abbrev W (α : Type) := En → Tk → (α → En → Tk → Prop) → Prop
abbrev WE := W EV
abbrev WD := W D
abbrev WT := W Bool
abbrev WA := W (List D)
def Mon {α : Type} (w : W α) : Prop := ∀ env tk Q Q', (∀ a e t, Q a e t → Q' a e t) → w env tk Q → w env tk Q'
def lift {α β : Type} (c : C) (R : Wd → Hp → L2.St → En → α → β → Prop) (w : W α) : L2.St → Hp → (β → Hp → Prop) → Prop :=
  fun σ H Q => ∃ ω env tk, Ok c ω H σ env tk ∧ w env tk fun a env' tk' => ∀ v ω' H', Stp ω H ω' H' → Ok c ω' H' σ env' tk' → R ω' H' σ env' a v → Q v H'
abbrev liftE (c : C) (w : WE) : TE := lift c (RepE c) w
abbrev liftD (c : C) (w : WD) : TE := lift c (fun ω _ _ _ d v => Rep c.K ω d v) w
abbrev liftP (c : C) (w : WD) : TE := lift c (fun ω H _ _ d v => RepP c ω H d v) w
abbrev liftT (c : C) (w : WT) : TT := lift c (fun _ _ _ _ b b' => b' = b) w
abbrev liftA (c : C) (w : WA) : TA := lift c (fun ω _ _ _ ds vs => Reps c.K ω ds vs) w

structure SE (X : Cx) (c : C) (e : Expr) (w : WE) : Prop where
  mon : Mon w
  run : PE X e (liftE c w)
structure SD (X : Cx) (c : C) (e : Expr) (w : WD) : Prop where
  mon : Mon w
  run : PE X e (liftD c w)
structure SP (X : Cx) (c : C) (e : Expr) (w : WD) : Prop where
  mon : Mon w
  run : PE X e (liftP c w)
structure ST (X : Cx) (c : C) (e : Expr) (w : WT) : Prop where
  mon : Mon w
  run : PT X e (liftT c w)
/-- a chain of and, or -/
structure SW (X : Cx) (c : C) (e : Expr) (w : WT) : Prop where
  mon : Mon w
  run : PW X e (liftT c w)
structure SA (X : Cx) (c : C) (es : List Expr) (w : WA) : Prop where
  mon : Mon w
  run : PA X es (liftA c w)
theorem _root_.L2.PE.wk {X : Cx} {e : Expr} {t t' : TE} (h : PE X e t) (k : ∀ σ H Q, t' σ H Q → t σ H Q) : PE X e t' := ⟨fun pins s σ H Q I q => h.run pins s σ H Q I (k _ _ _ q)⟩
theorem _root_.L2.PT.wk {X : Cx} {e : Expr} {t t' : TT} (h : PT X e t) (k : ∀ σ H Q, t' σ H Q → t σ H Q) : PT X e t' := ⟨fun pins s σ H Q I q => h.run pins s σ H Q I (k _ _ _ q)⟩
theorem _root_.L2.PW.wk {X : Cx} {e : Expr} {t t' : TT} (h : PW X e t) (k : ∀ σ H Q, t' σ H Q → t σ H Q) : PW X e t' := ⟨fun wh pins s σ H Q I q => h.run wh pins s σ H Q I (k _ _ _ q)⟩
theorem _root_.L2.PA.wk {X : Cx} {e : List Expr} {t t' : TA} (h : PA X e t) (k : ∀ σ H Q, t' σ H Q → t σ H Q) : PA X e t' := ⟨fun pos pins s σ H Q I q => h.run pos pins s σ H Q I (k _ _ _ q)⟩

/-- given away -/
def fz (w : WE) : WD := fun env tk Q => w env tk fun ev e t => Q ev.d e t
theorem Mon.fz {w : WE} (m : Mon w) : Mon (DL.fz w) := fun env tk Q Q' h q => m env tk _ _ (fun a e t => h a.d e t) q
theorem SE.fz {X : Cx} {c : C} {e : Expr} {w : WE} (h : SE X c e w) : SD X c e (DL.fz w) := ⟨h.mon.fz, h.run.wk fun σ H Q ⟨ω, env, tk, ok, q⟩ => ⟨ω, env, tk, ok, h.mon _ _ _ _ (fun ev e t k v ω' H' st ok' r => by
  obtain ⟨ω2, ok2, s2, r2⟩ := give ok' r
  exact k v ω2 H' (st.trans s2) ok2 r2) q⟩⟩
theorem SD.pk {X : Cx} {c : C} {e : Expr} {w : WD} (h : SD X c e w) : SP X c e w := ⟨h.mon, h.run.wk fun σ H Q ⟨ω, env, tk, ok, q⟩ => ⟨ω, env, tk, ok, h.mon _ _ _ _ (fun ev e t k v ω' H' st ok' r => k v ω' H' st ok' (.inl r)) q⟩⟩
theorem SE.pk {X : Cx} {c : C} {e : Expr} {w : WE} (h : SE X c e w) : SP X c e (DL.fz w) := h.fz.pk

/-! ### names -/
def wPk (i : Nat) : WD := fun env tk Q => match env[i]? with
  | some (some ev) => Q ev.d env tk
  | _ => False
def wV (i : Nat) : WE := fun env tk Q => match env[i]? with
  | some (some (.val d)) => Q (.val d) env tk
  | some (some (.own ds)) => Q (.val (.lst ds)) (env.set i (some (.val (.lst ds)))) tk
  | _ => False
section
variable {X : Cx} {c : C}
theorem sp_v (i : Nat) {x : Str} {pos : Pos} (h : PE X (.Name x pos) (tVar i)) : SP X c (.Name x pos) (wPk i) := by
  refine ⟨fun env tk Q Q' h q => ?_, h.wk fun σ H Q ⟨ω, env, tk, ok, q⟩ => ?_⟩
  · unfold wPk at q ⊢
    split at q
    · exact h _ _ _ q
    · exact q
  · unfold wPk at q
    split at q
    · rename_i ev he
      obtain ⟨v, h1, h2⟩ := ok.slots i ev he
      refine ⟨v, h1, q v ω H (.refl _ _) ok ?_⟩
      cases ev with
      | val d => exact .inl h2
      | own ds =>
        obtain ⟨p, rfl, vs, a1, a2, a3, a4, a5⟩ := h2
        exact .inr ⟨ds, p, vs, rfl, rfl, a1, a3, a5⟩
    · exact q.elim
theorem se_v (i : Nat) {x : Str} {pos : Pos} (h : PE X (.Name x pos) (tVar i)) : SE X c (.Name x pos) (wV i) := by
  refine ⟨fun env tk Q Q' h q => ?_, h.wk fun σ H Q ⟨ω, env, tk, ok, q⟩ => ?_⟩
  · unfold wV at q ⊢
    split at q
    · exact h _ _ _ q
    · exact h _ _ _ q
    · exact q
  · unfold wV at q
    split at q
    · rename_i d he
      obtain ⟨v, h1, h2⟩ := ok.slots i _ he
      exact ⟨v, h1, q v ω H (.refl _ _) ok h2⟩
    · rename_i ds he
      obtain ⟨v, h1, p, rfl, vs, a1, a2, a3, a4, a5⟩ := ok.slots i _ he
      have hlt : i < env.length := (List.getElem?_eq_some_iff.mp he).1
      have ok1 : Ok c ω H σ (env.set i none) tk := ok.reenv (by rw [List.length_set]) fun j e hj => by
        by_cases hij : i = j
        · subst hij
          rw [List.getElem?_set_self hlt] at hj
          cases hj
        · rw [List.getElem?_set_ne hij] at hj
          exact .inl hj
      have ok2 := ok1.freeze a1 a2 a3 a4 fun j es hj hp => by
        by_cases hij : i = j
        · subst hij
          rw [List.getElem?_set_self hlt] at hj
          cases hj
        · rw [List.getElem?_set_ne hij] at hj
          exact hij (ok.dist i j p _ _ he hj h1 hp)
      have r : Rep c.K ⟨ω.g, upd ω.hd p (.lst vs)⟩ (.lst ds) (.ref p) := Rep.lst_iff.mpr ⟨p, vs, rfl, .of (show upd ω.hd p (.lst vs) p = _ from upd_same), a5.mono (le_upd a2)⟩
      refine ⟨_, h1, q _ _ H (.freeze a2) (ok2.reenv (by rw [List.length_set, List.length_set]) fun j e hj => ?_) r⟩
      by_cases hij : i = j
      · subst hij
        rw [List.getElem?_set_self hlt] at hj
        cases hj
        exact .inr ⟨_, _, rfl, h1, r⟩
      · rw [List.getElem?_set_ne hij] at hj
        left
        rw [List.getElem?_set_ne hij]
        exact hj
    · exact q.elim
/-! ### constants -/
def wC (d : D) : WE := fun env tk Q => Q (.val d) env tk
theorem Mon.con {d : D} : Mon (wC d) := fun _ _ _ _ h q => h _ _ _ q
theorem se_c {e : Expr} {d : D} {v : V} (h : PE X e (tC v)) (r : ∀ ω, Rep c.K ω d v) : SE X c e (wC d) := ⟨.con, h.wk fun σ H Q ⟨ω, env, tk, ok, q⟩ => q v ω H (.refl _ _) ok (r ω)⟩
theorem se_int {i j pos} : SE X c (.Constant (.int i) j pos) (wC (.int i)) := se_c pe_int fun _ => Rep.int_iff.mpr rfl
theorem se_bl {i j pos} : SE X c (.Constant (.bool i) j pos) (wC (.bl i)) := se_c pe_bl fun _ => Rep.bl_iff.mpr rfl
theorem se_non {j pos} : SE X c (.Constant .none j pos) (wC .non) := se_c pe_non fun _ => Rep.non_iff.mpr rfl
theorem se_str {i j pos} : SE X c (.Constant (.str i) j pos) (wC (.str i)) := se_c pe_str fun _ => Rep.str_iff.mpr rfl
end
end DL

namespace DL
open PySem PySem.Spec PyProof.Rows L2

/-! ### operators over data -/
abbrev FOp := D → D → (EV → Prop) → Prop
def MonF (f : FOp) : Prop := ∀ x y q q', (∀ ev, q ev → q' ev) → f x y q → f x y q'
/-- what an operator's rule is to give -/
def Res (c : C) (ω : Wd) (H : Hp) (σ : L2.St) (env : En) (tk : Tk) (q : EV → Prop) (Q : VK) : Prop :=
  ∀ ev v' ω' H', q ev → Stp ω H ω' H' → Ok c ω' H' σ env tk → RepE c ω' H' σ env ev v' → Q v' H'
section
variable {c : C} {ω : Wd} {H : Hp} {σ : L2.St} {env : En} {tk : Tk} {q : EV → Prop} {Q : VK}
theorem Res.int (hr : Res c ω H σ env tk q Q) (ok : Ok c ω H σ env tk) {i : Int} (h : q (.val (.int i))) : Q (.int i) H := hr _ _ ω H h (.refl _ _) ok (show Rep c.K ω (.int i) (.int i) from Rep.int_iff.mpr rfl)
theorem Res.bl (hr : Res c ω H σ env tk q Q) (ok : Ok c ω H σ env tk) {i : Bool} (h : q (.val (.bl i))) : Q (.bl i) H := hr _ _ ω H h (.refl _ _) ok (show Rep c.K ω (.bl i) (.bl i) from Rep.bl_iff.mpr rfl)
theorem Res.str (hr : Res c ω H σ env tk q Q) (ok : Ok c ω H σ env tk) {i : Str} (h : q (.val (.str i))) : Q (.str i) H := hr _ _ ω H h (.refl _ _) ok (show Rep c.K ω (.str i) (.str i) from Rep.str_iff.mpr rfl)
theorem Res.non (hr : Res c ω H σ env tk q Q) (ok : Ok c ω H σ env tk) (h : q (.val .non)) : Q .non H := hr _ _ ω H h (.refl _ _) ok (show Rep c.K ω .non .non from Rep.non_iff.mpr rfl)
theorem Res.val (hr : Res c ω H σ env tk q Q) (ok : Ok c ω H σ env tk) {d : D} {v : V} (h : q (.val d)) (r : Rep c.K ω d v) : Q v H := hr _ _ ω H h (.refl _ _) ok r
theorem Res.tup (hr : Res c ω H σ env tk q Q) (ok : Ok c ω H σ env tk) {ds : List D} {vs : List V} (h : q (.val (.tup ds))) (r : Reps c.K ω ds vs) {p : Addr} (n : H p = none) : Q (.ref p) (upd H p (.tup vs)) :=
  hr _ _ _ _ h (.alloc n (ok.nohd n) _) (ok.alloc n _) (show Rep c.K ⟨ω.g, upd ω.hd p (.tup vs)⟩ (.tup ds) (.ref p) from Rep.tup_iff.mpr ⟨p, vs, rfl, .of (show upd ω.hd p _ p = _ from upd_same), r.mono (le_upd (ok.nohd n))⟩)
theorem Res.lst (hr : Res c ω H σ env tk q Q) (ok : Ok c ω H σ env tk) {ds : List D} {vs : List V} (h : q (.own ds)) (r : Reps c.K ω ds vs) {p : Addr} (n : H p = none) : Q (.ref p) (upd H p (.lst vs)) :=
  hr _ _ _ _ h (.newL n _) (ok.newL n _) (ok.own n r)
end
def OpD (c : C) (r : R2) (f : FOp) : Prop :=
  ∀ (ω : Wd) (H : Hp) (σ : L2.St) (env : En) (tk : Tk) (x y : D) (v u : V) (q : EV → Prop) (Q : VK), Ok c ω H σ env tk → RepP c ω H x v → RepP c ω H y u → f x y q → Res c ω H σ env tk q Q → r v u H Q
def wOp (f : FOp) (a b : WD) : WE := fun env tk Q => a env tk fun x e1 t1 => b e1 t1 fun y e2 t2 => f x y fun ev => Q ev e2 t2
theorem Mon.op {f : FOp} {a b : WD} (mf : MonF f) (ma : Mon a) (mb : Mon b) : Mon (wOp f a b) := fun env tk Q Q' h q =>
  ma _ _ _ _ (fun x e1 t1 h1 => mb _ _ _ _ (fun y e2 t2 h2 => mf _ _ _ _ (fun ev => h ev e2 t2) h2) h1) q
section
variable {X : Cx} {c : C} {a b : Expr} {wa wb : WD} {pos : Pos}
theorem run_op {r : R2} {f : FOp} (mf : MonF f) (od : OpD c r f) (ha : SP X c a wa) (hb : SP X c b wb) {σ : L2.St} {H : Hp} {Q : VK} (h : liftE c (wOp f wa wb) σ H Q) : tOp r (liftP c wa) (liftP c wb) σ H Q := by
  obtain ⟨ω, env, tk, ok, h⟩ := h
  refine ⟨ω, env, tk, ok, ha.mon _ _ _ _ (fun x e1 t1 h1 v ω1 H1 s1 ok1 r1 => ?_) h⟩
  refine ⟨ω1, e1, t1, ok1, hb.mon _ _ _ _ (fun y e2 t2 h2 u ω2 H2 s2 ok2 r2 => ?_) h1⟩
  exact od ω2 H2 σ e2 t2 x y v u _ Q ok2 (r1.step s2) r2 h2 fun ev v' ω' H' q st ok' r' => q v' ω' H' ((s1.trans s2).trans st) ok' r'
theorem se_op {op : Operator} {r : R2} {f : FOp} (ho : OpR X (binaryOp op) r) (mf : MonF f) (od : OpD c r f) (ha : SP X c a wa) (hb : SP X c b wb) : SE X c (.BinOp a op b pos) (wOp f wa wb) :=
  ⟨.op mf ha.mon hb.mon, (pe_op ho ha.run hb.run).wk fun _ _ _ h => run_op mf od ha hb h⟩
theorem se_cmp {op : CmpOp} {r : R2} {f : FOp} (ho : OpR X (compareOp op) r) (mf : MonF f) (od : OpD c r f) (ha : SP X c a wa) (hb : SP X c b wb) (hm : behindInMarks op b = false) : SE X c (.Compare a [op] [b] pos) (wOp f wa wb) :=
  ⟨.op mf ha.mon hb.mon, (pe_cmpR ho ha.run hb.run hm).wk fun _ _ _ h => run_op mf od ha hb h⟩
end
theorem OpD.or {c : C} {r r' : R2} {f f' g : FOp} (h : OpD c r f) (h' : OpD c r' f') (k : ∀ x y q, g x y q → f x y q ∨ f' x y q) : OpD c (fun x y H Q => r x y H Q ∨ r' x y H Q) g := fun ω H σ env tk x y v u q Q ok rx ry hg hr =>
  (k x y q hg).elim (fun z => .inl (h ω H σ env tk x y v u q Q ok rx ry z hr)) fun z => .inr (h' ω H σ env tk x y v u q Q ok rx ry z hr)

/-! #### two ints -/
def fI (C : Int → Int → Prop) (g : Int → Int → D) : FOp
  | .int i, .int j, q => C i j ∧ q (.val (g i j))
  | _, _, _ => False
theorem MonF.i {C : Int → Int → Prop} {g : Int → Int → D} : MonF (fI C g) := fun x y q q' h z => by
  unfold fI at z ⊢
  split at z
  · exact ⟨z.1, h _ z.2⟩
  · exact z.elim
theorem od_i {c : C} {P : Int → Int → Prop} {g : Int → Int → Int} : OpD c (rI P fun i j => .int (g i j)) (fI P fun i j => .int (g i j)) := fun ω H σ env tk x y v u q Q ok rx ry h hr => by
  cases x <;> first | exact (show False from h).elim | (cases y <;> first | exact (show False from h).elim | skip)
  exact ⟨_, _, rx.int, ry.int, h.1, hr.int ok h.2⟩
def fJ (g : Int → Int → D) : FOp
  | .int i, .int j, q => q (.val (g i j))
  | _, _, _ => False
theorem MonF.j {g : Int → Int → D} : MonF (fJ g) := fun x y q q' h z => by
  unfold fJ at z ⊢
  split at z
  · exact h _ z
  · exact z.elim
theorem od_i0 {c : C} {g : Int → Int → Int} : OpD c (rI0 fun i j => .int (g i j)) (fJ fun i j => .int (g i j)) := fun ω H σ env tk x y v u q Q ok rx ry h hr => by
  cases x <;> first | exact (show False from h).elim | (cases y <;> first | exact (show False from h).elim | skip)
  exact ⟨_, _, rx.int, ry.int, hr.int ok h⟩
theorem od_b0 {c : C} {g : Int → Int → Bool} : OpD c (rI0 fun i j => .bl (g i j)) (fJ fun i j => .bl (g i j)) := fun ω H σ env tk x y v u q Q ok rx ry h hr => by
  cases x <;> first | exact (show False from h).elim | (cases y <;> first | exact (show False from h).elim | skip)
  exact ⟨_, _, rx.int, ry.int, hr.bl ok h⟩

/-! #### + -/
def fAdd : FOp
  | .int i, .int j, q => q (.val (.int (i + j)))
  | .lst xs, .lst ys, q => xs.length + ys.length ≤ sizeLine ∧ q (.own (xs ++ ys))
  | .tup xs, .tup ys, q => xs ≠ [] ∧ ys ≠ [] ∧ xs.length + ys.length ≤ sizeLine ∧ q (.val (.tup (xs ++ ys)))
  | .str x, .str y, q => x.length + y.length ≤ sizeLine ∧ q (.val (.str (x ++ y)))
  | _, _, _ => False
theorem MonF.add : MonF fAdd := fun x y q q' h z => by
  unfold fAdd at z ⊢
  split at z
  · exact h _ z
  · exact ⟨z.1, h _ z.2⟩
  · exact ⟨z.1, z.2.1, z.2.2.1, h _ z.2.2.2⟩
  · exact ⟨z.1, h _ z.2⟩
  · exact z.elim
section
variable {X : Cx} {c : C}
/-- list + list, whatever they are -/
def rCatA (K : PySem.W.Frag) : R2 := fun x y H Q => ∃ l b xs zs, x = .ref l ∧ y = .ref b ∧ SqL K H l xs ∧ SqL K H b zs ∧ xs.length + zs.length ≤ sizeLine ∧ ∀ p, H p = none → Q (.ref p) (upd H p (.lst (xs ++ zs)))
theorem plain_isL {h : Heap} {a : Addr} {its : Array Value} (p : PlainL h a its) : ∃ n sl, h.get? a = some { cls := .type "list", dict := none, data := .seq its n, slots := sl } := by
  obtain ⟨o, n, h1, h2, h3, h4⟩ := p
  cases o
  simp only at h2 h3 h4
  subst h2 h3 h4
  exact ⟨n, _, h1⟩
theorem op_catA : OpR X (binaryOp .Add) (rCatA X.K) := by
  intro pins s σ H x y v u Q I rx ry h
  obtain ⟨l, b, xs, zs, rfl, rfl, hH, hB, hz, q⟩ := h
  cases rx
  cases ry
  obtain ⟨its, r, p, _⟩ := I.list hH
  obtain ⟨its2, r2, p2, _⟩ := I.list hB
  obtain ⟨n, sl, e⟩ := plain_isL p
  obtain ⟨n2, sl2, e2⟩ := plain_isL p2
  have l1 := r.length
  have l2 := r2.length
  refine concat_meets ⟨_, e, rfl⟩ ⟨_, e2, rfl⟩ noFill_list_add seq_list_add PySem.F.slot_list_add PySem.F.entry_list_add (PySem.F.args_list_add_2 _ _) (list_addW _ _ its.toArray its2.toArray n n2 none none sl sl2 (by simp only [List.size_toArray]; omega)) ⟨e, e2, ?_⟩
  have ea : its.toArray ++ its2.toArray = (its ++ its2).toArray := by simp
  rw [ea]
  exact ⟨.ref _, _, I.lnew (t' := s.toks) (r.append r2) (by rw [List.length_append]; omega), rfl, q _ I.fresh⟩
theorem op_addA : OpR X (binaryOp .Add) (fun x y H Q => (rI0 (fun i j => .int (i + j)) x y H Q ∨ rCatA X.K x y H Q) ∨ (rCatT X.K x y H Q ∨ ∃ i j, x = .str i ∧ y = .str j ∧ i.length + j.length ≤ sizeLine ∧ Q (.str (i ++ j)) H)) :=
  (op_add.or op_catA).or (op_catT.or op_add_str)
theorem od_add (hK : c.K = X.K) : OpD c (fun x y H Q => (rI0 (fun i j => .int (i + j)) x y H Q ∨ rCatA X.K x y H Q) ∨ (rCatT X.K x y H Q ∨ ∃ i j, x = .str i ∧ y = .str j ∧ i.length + j.length ≤ sizeLine ∧ Q (.str (i ++ j)) H)) fAdd := fun ω H σ env tk x y v u q Q ok rx ry h hr => by
  cases x <;> first | exact (show False from h).elim | (cases y <;> first | exact (show False from h).elim | skip)
  · exact .inl (.inl ⟨_, _, rx.int, ry.int, hr.int ok h⟩)
  · exact .inr (.inr ⟨_, _, rx.str, ry.str, h.1, hr.str ok h.2⟩)
  · obtain ⟨h1, h2, h3, h4⟩ := h
    obtain ⟨p, vs, rfl, sx, qx⟩ := rx.tup ok.sub
    obtain ⟨p', us, rfl, sy, qy⟩ := ry.tup ok.sub
    rw [hK] at sx sy
    have l1 := qx.length
    have l2 := qy.length
    refine .inr (.inl ⟨p, p', vs, us, rfl, rfl, sx, sy, fun e => h1 ?_, by omega, fun e => absurd ?_ h2, fun _ t ht => hr.tup ok h4 (qx.append qy) ht⟩)
    · subst e; exact List.eq_nil_of_length_eq_zero l1.symm
    · subst e; exact List.eq_nil_of_length_eq_zero l2.symm
  · obtain ⟨h1, h2⟩ := h
    obtain ⟨p, vs, rfl, sx, qx⟩ := rx.lst ok.sub
    obtain ⟨p', us, rfl, sy, qy⟩ := ry.lst ok.sub
    rw [hK] at sx sy
    have l1 := qx.length
    have l2 := qy.length
    exact .inl (.inr ⟨p, p', vs, us, rfl, rfl, sx, sy, by omega, fun t ht => hr.lst ok h2 (qx.append qy) ht⟩)
end
end DL

namespace DL
open PySem PySem.Spec PyProof.Rows L2

/-! ### data compared -/
mutual
def D.p : D → PyData
  | .non => .none
  | .bl b => .bool b
  | .int i => .int i
  | .str s => .str s
  | .st => .dict []
  | .tup xs => .tuple (D.ps xs)
  | .lst xs => .list (D.ps xs)
def D.ps : List D → List PyData
  | [] => []
  | d :: ds => d.p :: D.ps ds
end
mutual
def okN : Nat → D → Bool
  | _, .non => true
  | _, .bl _ => true
  | _, .int _ => true
  | _, .str s => PyData.canLay0 (.str s)
  | _, .st => false
  | 0, .tup _ => false
  | 0, .lst _ => false
  | n + 1, .tup xs => okNs n xs
  | n + 1, .lst xs => okNs n xs
def okNs : Nat → List D → Bool
  | _, [] => true
  | n, d :: ds => okN n d && okNs n ds
end
def D.ok (d : D) : Bool := okN 60 d
def D.eqv (x y : D) : Bool := PyData.eqv x.p y.p
mutual
theorem okN_lay : ∀ (d : D) (n : Nat), okN n d = true → d.p.canLay0 = true ∧ d.p.depth ≤ n
  | .non, n, h => by unfold D.p; exact ⟨rfl, Nat.zero_le _⟩
  | .bl b, n, h => by unfold D.p; exact ⟨rfl, Nat.zero_le _⟩
  | .int i, n, h => by unfold D.p; exact ⟨rfl, Nat.zero_le _⟩
  | .str s, n, h => by unfold okN at h; unfold D.p; exact ⟨h, Nat.zero_le _⟩
  | .st, n, h => by unfold okN at h; cases h
  | .tup xs, 0, h => by unfold okN at h; cases h
  | .lst xs, 0, h => by unfold okN at h; cases h
  | .tup xs, n + 1, h => by
    unfold okN at h
    unfold D.p
    obtain ⟨h1, h2⟩ := okNs_lay xs n h
    exact ⟨h1, Nat.succ_le_succ h2⟩
  | .lst xs, n + 1, h => by
    unfold okN at h
    unfold D.p
    obtain ⟨h1, h2⟩ := okNs_lay xs n h
    exact ⟨h1, Nat.succ_le_succ h2⟩
theorem okNs_lay : ∀ (ds : List D) (n : Nat), okNs n ds = true → PyData.canLayAll0 (D.ps ds) = true ∧ PyData.depthAll (D.ps ds) ≤ n
  | [], n, h => by unfold D.ps; exact ⟨rfl, Nat.zero_le _⟩
  | d :: ds, n, h => by
    unfold okNs at h
    rw [Bool.and_eq_true] at h
    obtain ⟨a1, a2⟩ := okN_lay d n h.1
    obtain ⟨b1, b2⟩ := okNs_lay ds n h.2
    unfold D.ps
    refine ⟨?_, ?_⟩
    · show (d.p.canLay0 && PyData.canLayAll0 (D.ps ds)) = true
      rw [a1, b1]; rfl
    · show max d.p.depth (PyData.depthAll (D.ps ds)) ≤ n
      omega
end
theorem D.ok.shaped {d : D} (h : d.ok = true) : SeqAt.shaped d.p = true := by
  obtain ⟨h1, h2⟩ := okN_lay d 60 h
  unfold SeqAt.shaped
  rw [h1, Bool.true_and]
  exact decide_eq_true (by omega)
theorem okN_mono_st : ∀ {n : Nat} {xs : List D}, okN (n + 1) (.lst xs) = okNs n xs := by intros; conv => lhs; unfold okN

mutual
theorem Rep.dp {K : PySem.W.Frag} {ω : Wd} {H : Hp} (sub : ∀ b o, ω.hd b = some o → H b = some o) : ∀ (d : D) (n : Nat) (v : V), okN n d = true → Rep K ω d v → Dp K H v d.p
  | .non, _, _, _, h => by rw [Rep.non_iff] at h; subst h; unfold D.p; exact .non
  | .bl b, _, _, _, h => by rw [Rep.bl_iff] at h; subst h; unfold D.p; exact .bl b
  | .int b, _, _, _, h => by rw [Rep.int_iff] at h; subst h; unfold D.p; exact .int b
  | .str b, _, _, _, h => by rw [Rep.str_iff] at h; subst h; unfold D.p; exact .str b
  | .st, _, _, z, _ => by unfold okN at z; cases z
  | .tup xs, 0, _, z, _ => by unfold okN at z; cases z
  | .lst xs, 0, _, z, _ => by unfold okN at z; cases z
  | .tup xs, n + 1, _, z, h => by
    obtain ⟨a, vs, rfl, h1, h2⟩ := Rep.tup_iff.mp h
    unfold okN at z
    unfold D.p
    exact .tup (sqT_mono sub h1) (Reps.dp sub xs n vs z h2)
  | .lst xs, n + 1, _, z, h => by
    obtain ⟨a, vs, rfl, h1, h2⟩ := Rep.lst_iff.mp h
    unfold okN at z
    unfold D.p
    exact .lst (sqL_mono sub h1) (Reps.dp sub xs n vs z h2)
theorem Reps.dp {K : PySem.W.Frag} {ω : Wd} {H : Hp} (sub : ∀ b o, ω.hd b = some o → H b = some o) : ∀ (ds : List D) (n : Nat) (vs : List V), okNs n ds = true → Reps K ω ds vs → DpAll K H vs (D.ps ds)
  | [], _, _, _, h => by rw [Reps.nil_iff] at h; subst h; unfold D.ps; exact .nil
  | d :: ds, n, _, z, h => by
    obtain ⟨v, r, rfl, h1, h2⟩ := Reps.cons_iff.mp h
    unfold okNs at z
    rw [Bool.and_eq_true] at z
    unfold D.ps
    exact .cons (Rep.dp sub d n v z.1 h1) (Reps.dp sub ds n r z.2 h2)
end
theorem RepP.dp {c : C} {ω : Wd} {H : Hp} (sub : ∀ b o, ω.hd b = some o → H b = some o) {d : D} {v : V} (z : d.ok = true) (h : RepP c ω H d v) : Dp c.K H v d.p := by
  rcases h with h | ⟨ds, p, vs, rfl, rfl, h1, h2, h3⟩
  · exact Rep.dp sub d 60 v z h
  · have z' : okN 60 (.lst ds) = true := z
    unfold okN at z'
    unfold D.p
    exact .lst (.of h1) (Reps.dp sub ds 59 vs z' h3)

/-! #### == and != -/
def fEq : FOp
  | .int i, .int j, q => q (.val (.bl (decide (i = j))))
  | x, y, q => x.ok = true ∧ y.ok = true ∧ q (.val (.bl (x.eqv y)))
def fNe : FOp
  | .int i, .int j, q => q (.val (.bl (!decide (i = j))))
  | x, y, q => x.ok = true ∧ y.ok = true ∧ q (.val (.bl (!x.eqv y)))
theorem ok_int {i : Int} : D.ok (.int i) = true := by unfold D.ok okN; rfl
theorem eqv_int {i j : Int} : D.eqv (.int i) (.int j) = decide (i = j) := by
  show (i == j) = _
  exact Bool.beq_eq_decide_eq i j
theorem fEq_gen {x y : D} {q : EV → Prop} (h : fEq x y q) : x.ok = true ∧ y.ok = true ∧ q (.val (.bl (x.eqv y))) := by
  unfold fEq at h
  split at h
  · rw [eqv_int]; exact ⟨ok_int, ok_int, h⟩
  · exact h
theorem fNe_gen {x y : D} {q : EV → Prop} (h : fNe x y q) : x.ok = true ∧ y.ok = true ∧ q (.val (.bl (!x.eqv y))) := by
  unfold fNe at h
  split at h
  · rw [eqv_int]; exact ⟨ok_int, ok_int, h⟩
  · exact h
theorem MonF.eq : MonF fEq := fun x y q q' h z => by
  unfold fEq at z ⊢
  split at z
  · exact h _ z
  · exact ⟨z.1, z.2.1, h _ z.2.2⟩
theorem MonF.ne : MonF fNe := fun x y q q' h z => by
  unfold fNe at z ⊢
  split at z
  · exact h _ z
  · exact ⟨z.1, z.2.1, h _ z.2.2⟩
theorem od_eq {c : C} : OpD c (rEqD c.K) fEq := fun ω H σ env tk x y v u q Q ok rx ry h hr => by
  have h := fEq_gen h
  exact ⟨x.p, y.p, rx.dp ok.sub h.1, ry.dp ok.sub h.2.1, D.ok.shaped h.1, D.ok.shaped h.2.1, hr.bl ok h.2.2⟩
theorem od_ne {c : C} : OpD c (rNeD c.K) fNe := fun ω H σ env tk x y v u q Q ok rx ry h hr => by
  have h := fNe_gen h
  exact ⟨x.p, y.p, rx.dp ok.sub h.1, ry.dp ok.sub h.2.1, D.ok.shaped h.1, D.ok.shaped h.2.1, hr.bl ok h.2.2⟩
/-! #### in -/
def fIn : FOp := fun x y q => match y with
  | .lst ds => x.ok = true ∧ D.ok (.lst ds) = true ∧ q (.val (.bl (ds.any fun z => z.eqv x)))
  | _ => False
def fNotIn : FOp := fun x y q => match y with
  | .lst ds => x.ok = true ∧ D.ok (.lst ds) = true ∧ q (.val (.bl (!ds.any fun z => z.eqv x)))
  | _ => False
theorem MonF.in : MonF fIn := fun x y _ _ h z => by cases y <;> first | exact (show False from z).elim | exact ⟨z.1, z.2.1, h _ z.2.2⟩
theorem MonF.notIn : MonF fNotIn := fun x y _ _ h z => by cases y <;> first | exact (show False from z).elim | exact ⟨z.1, z.2.1, h _ z.2.2⟩
theorem ps_any (x : D) : ∀ ds : List D, (D.ps ds).any (fun z => PyData.eqv z x.p) = ds.any fun z => z.eqv x
  | [] => by unfold D.ps; rfl
  | d :: ds => by unfold D.ps; rw [List.any_cons, List.any_cons, ps_any x ds]; rfl
theorem od_in {c : C} : OpD c (rInD c.K) fIn := fun ω H σ env tk x y v u q Q ok rx ry h hr => by
  cases y <;> first | exact (show False from h).elim | skip
  rename_i ds
  obtain ⟨h1, h2, h3⟩ := h
  have z1 := ry.dp ok.sub h2
  have z2 := D.ok.shaped h2
  unfold D.p at z1 z2
  refine ⟨x.p, D.ps ds, rx.dp ok.sub h1, z1, D.ok.shaped h1, z2, ?_⟩
  rw [ps_any]
  exact hr.bl ok h3
theorem od_notIn {c : C} : OpD c (rNotInD c.K) fNotIn := fun ω H σ env tk x y v u q Q ok rx ry h hr => by
  cases y <;> first | exact (show False from h).elim | skip
  rename_i ds
  obtain ⟨h1, h2, h3⟩ := h
  have z1 := ry.dp ok.sub h2
  have z2 := D.ok.shaped h2
  unfold D.p at z1 z2
  refine ⟨x.p, D.ps ds, rx.dp ok.sub h1, z1, D.ok.shaped h1, z2, ?_⟩
  rw [ps_any]
  exact hr.bl ok h3
/-! #### is None, is True -/
def isNon : D → Bool
  | .non => true
  | _ => false
def fIsN : FOp := fun x y q => match y with
  | .non => q (.val (.bl (isNon x)))
  | _ => False
def fNotN : FOp := fun x y q => match y with
  | .non => q (.val (.bl (!isNon x)))
  | _ => False
theorem MonF.isN : MonF fIsN := fun x y _ _ h z => by cases y <;> first | exact (show False from z).elim | exact h _ z
theorem MonF.notN : MonF fNotN := fun x y _ _ h z => by cases y <;> first | exact (show False from z).elim | exact h _ z
theorem RepP.non {c : C} {ω : Wd} {H : Hp} {v : V} (h : RepP c ω H .non v) : v = .non := by
  rcases h with h | ⟨ds, p, vs, e, _⟩
  · exact Rep.non_iff.mp h
  · cases e
theorem RepP.isNon {c : C} {ω : Wd} {H : Hp} {d : D} {v : V} (h : RepP c ω H d v) : decide (v = .non) = isNon d := by
  rcases h with h | ⟨ds, p, vs, rfl, rfl, _⟩
  · cases d with
    | non => rw [Rep.non_iff.mp h]; rfl
    | bl b => rw [Rep.bl_iff.mp h]; rfl
    | int b => rw [Rep.int_iff.mp h]; rfl
    | str b => rw [Rep.str_iff.mp h]; rfl
    | st => obtain ⟨a, _, rfl⟩ := Rep.st_iff.mp h; rfl
    | tup xs => obtain ⟨a, _, rfl, _⟩ := Rep.tup_iff.mp h; rfl
    | lst xs => obtain ⟨a, _, rfl, _⟩ := Rep.lst_iff.mp h; rfl
  · rfl
theorem od_isN {c : C} : OpD c (fun x y H Q => y = .non ∧ Q (.bl (decide (x = .non))) H) fIsN := fun ω H σ env tk x y v u q Q ok rx ry h hr => by
  cases y <;> first | exact (show False from h).elim | skip
  refine ⟨ry.non, ?_⟩
  rw [rx.isNon]
  exact hr.bl ok h
theorem od_notN {c : C} : OpD c (fun x y H Q => y = .non ∧ Q (.bl (!decide (x = .non))) H) fNotN := fun ω H σ env tk x y v u q Q ok rx ry h hr => by
  cases y <;> first | exact (show False from h).elim | skip
  refine ⟨ry.non, ?_⟩
  rw [rx.isNon]
  exact hr.bl ok h
def fIsB : FOp := fun x y q => match x, y with
  | .bl a, .bl b => q (.val (.bl (decide (a = b))))
  | _, _ => False
def fNotB : FOp := fun x y q => match x, y with
  | .bl a, .bl b => q (.val (.bl (!decide (a = b))))
  | _, _ => False
theorem MonF.isB : MonF fIsB := fun x y _ _ h z => by cases x <;> cases y <;> first | exact (show False from z).elim | exact h _ z
theorem MonF.notB : MonF fNotB := fun x y _ _ h z => by cases x <;> cases y <;> first | exact (show False from z).elim | exact h _ z
theorem od_isB {c : C} : OpD c (fun x y H Q => ∃ a b, x = .bl a ∧ y = .bl b ∧ Q (.bl (decide (a = b))) H) fIsB := fun ω H σ env tk x y v u q Q ok rx ry h hr => by
  cases x <;> cases y <;> first | exact (show False from h).elim | exact ⟨_, _, rx.bl, ry.bl, hr.bl ok h⟩
theorem od_notB {c : C} : OpD c (fun x y H Q => ∃ a b, x = .bl a ∧ y = .bl b ∧ Q (.bl (!decide (a = b))) H) fNotB := fun ω H σ env tk x y v u q Q ok rx ry h hr => by
  cases x <;> cases y <;> first | exact (show False from h).elim | exact ⟨_, _, rx.bl, ry.bl, hr.bl ok h⟩

/-! ### the numbers' operators -/
def DivOk (_ j : Int) : Prop := j ≠ 0 ∧ j.natAbs.log2 < 9000
section
variable {X : Cx} {c : C} {a b : Expr} {wa wb : WD} {pos : Pos}
theorem op_fdivZ : OpR X (binaryOp .FloorDiv) (rI DivOk fun i j => .int (i.fdiv j)) := opI fun _ _ _ _ _ _ _ hc q => floordiv_int hc.1 q (.inl (PyProof.noPylong_of_log2 hc.2))
abbrev fSub : FOp := fJ fun i j => .int (i - j)
def MulOk (i j : Int) : Prop := CMulW i j ∨ CMul i j
theorem op_mulA : OpR X (binaryOp .Mult) (rI MulOk fun i j => .int (i * j)) := opI fun _ _ _ _ _ _ _ hc q => mul_int q (hc.elim (fun z => z.ok) fun z => z.ok)
abbrev fMul : FOp := fI MulOk fun i j => .int (i * j)
abbrev fDiv : FOp := fI DivOk fun i j => .int (i.fdiv j)
abbrev fMod : FOp := fI (fun _ j => j ≠ 0) fun i j => .int (i.fmod j)
abbrev fPow : FOp := fI CPow fun i j => .int (i ^ j.toNat)
abbrev fLt : FOp := fJ fun i j => .bl (decide (i < j))
abbrev fLe : FOp := fJ fun i j => .bl (decide (i ≤ j))
abbrev fGt : FOp := fJ fun i j => .bl (decide (j < i))
abbrev fGe : FOp := fJ fun i j => .bl (decide (j ≤ i))
theorem se_add (hK : c.K = X.K) (ha : SP X c a wa) (hb : SP X c b wb) : SE X c (.BinOp a .Add b pos) (wOp fAdd wa wb) := se_op op_addA .add (od_add hK) ha hb
theorem se_sub (ha : SP X c a wa) (hb : SP X c b wb) : SE X c (.BinOp a .Sub b pos) (wOp fSub wa wb) := se_op op_sub .j od_i0 ha hb
theorem se_mul (ha : SP X c a wa) (hb : SP X c b wb) : SE X c (.BinOp a .Mult b pos) (wOp fMul wa wb) := se_op op_mulA .i od_i ha hb
theorem se_div (ha : SP X c a wa) (hb : SP X c b wb) : SE X c (.BinOp a .FloorDiv b pos) (wOp fDiv wa wb) := se_op op_fdivZ .i od_i ha hb
theorem se_mod (ha : SP X c a wa) (hb : SP X c b wb) : SE X c (.BinOp a .Mod b pos) (wOp fMod wa wb) := se_op op_modN .i od_i ha hb
theorem se_pow (ha : SP X c a wa) (hb : SP X c b wb) : SE X c (.BinOp a .Pow b pos) (wOp fPow wa wb) := se_op op_pow .i od_i ha hb
theorem se_lt (ha : SP X c a wa) (hb : SP X c b wb) : SE X c (.Compare a [.Lt] [b] pos) (wOp fLt wa wb) := se_cmp op_lt .j od_b0 ha hb (nomark _)
theorem se_le (ha : SP X c a wa) (hb : SP X c b wb) : SE X c (.Compare a [.LtE] [b] pos) (wOp fLe wa wb) := se_cmp op_le .j od_b0 ha hb (nomark _)
theorem se_gt (ha : SP X c a wa) (hb : SP X c b wb) : SE X c (.Compare a [.Gt] [b] pos) (wOp fGt wa wb) := se_cmp op_gt .j od_b0 ha hb (nomark _)
theorem se_ge (ha : SP X c a wa) (hb : SP X c b wb) : SE X c (.Compare a [.GtE] [b] pos) (wOp fGe wa wb) := se_cmp op_ge .j od_b0 ha hb (nomark _)
theorem se_eq (hK : c.K = X.K) (hu : X.A.units + 100 < cLine) (ha : SP X c a wa) (hb : SP X c b wb) : SE X c (.Compare a [.Eq] [b] pos) (wOp fEq wa wb) := se_cmp (op_eqD (by omega)) .eq (by rw [← hK]; exact od_eq) ha hb (nomark _)
theorem se_ne (hK : c.K = X.K) (hu : X.A.units + 100 < cLine) (ha : SP X c a wa) (hb : SP X c b wb) : SE X c (.Compare a [.NotEq] [b] pos) (wOp fNe wa wb) := se_cmp (op_neD (by omega)) .ne (by rw [← hK]; exact od_ne) ha hb (nomark _)
theorem se_in (hK : c.K = X.K) (hu : X.A.units + 100 < cLine) (ha : SP X c a wa) (hb : SP X c b wb) (hm : behindInMarks .In b = false) : SE X c (.Compare a [.In] [b] pos) (wOp fIn wa wb) := se_cmp (op_inD (by omega)) .in (by rw [← hK]; exact od_in) ha hb hm
theorem se_notIn (hK : c.K = X.K) (hu : X.A.units + 100 < cLine) (ha : SP X c a wa) (hb : SP X c b wb) (hm : behindInMarks .NotIn b = false) : SE X c (.Compare a [.NotIn] [b] pos) (wOp fNotIn wa wb) := se_cmp (op_notInD (by omega)) .notIn (by rw [← hK]; exact od_notIn) ha hb hm
theorem se_isN (ha : SP X c a wa) (hb : SP X c b wb) : SE X c (.Compare a [.Is] [b] pos) (wOp fIsN wa wb) := se_cmp op_isN .isN od_isN ha hb (nomark _)
theorem se_notN (ha : SP X c a wa) (hb : SP X c b wb) : SE X c (.Compare a [.IsNot] [b] pos) (wOp fNotN wa wb) := se_cmp op_notN .notN od_notN ha hb (nomark _)
theorem se_isB (ha : SP X c a wa) (hb : SP X c b wb) : SE X c (.Compare a [.Is] [b] pos) (wOp fIsB wa wb) := se_cmp op_is_bl .isB od_isB ha hb (nomark _)
theorem se_notB (ha : SP X c a wa) (hb : SP X c b wb) : SE X c (.Compare a [.IsNot] [b] pos) (wOp fNotB wa wb) := se_cmp op_isnot_bl .notB od_notB ha hb (nomark _)

/-! #### one operand -/
abbrev F1 := D → (EV → Prop) → Prop
def MonF1 (f : F1) : Prop := ∀ x q q', (∀ ev, q ev → q' ev) → f x q → f x q'
def w1 (f : F1) (a : WD) : WE := fun env tk Q => a env tk fun x e1 t1 => f x fun ev => Q ev e1 t1
theorem Mon.w1 {f : F1} {a : WD} (mf : MonF1 f) (ma : Mon a) : Mon (DL.w1 f a) := fun env tk Q Q' h q => ma _ _ _ _ (fun x e1 t1 h1 => mf _ _ _ (fun ev => h ev e1 t1) h1) q
def UnD (c : C) (r : V → Hp → VK → Prop) (f : F1) : Prop :=
  ∀ (ω : Wd) (H : Hp) (σ : L2.St) (env : En) (tk : Tk) (x : D) (v : V) (q : EV → Prop) (Q : VK), Ok c ω H σ env tk → RepP c ω H x v → f x q → Res c ω H σ env tk q Q → r v H Q
theorem run_1 {r : V → Hp → VK → Prop} {f : F1} (mf : MonF1 f) (od : UnD c r f) (ha : SP X c a wa) {σ : L2.St} {H : Hp} {Q : VK} (h : liftE c (w1 f wa) σ H Q) : liftP c wa σ H fun x H1 => r x H1 Q := by
  obtain ⟨ω, env, tk, ok, h⟩ := h
  refine ⟨ω, env, tk, ok, ha.mon _ _ _ _ (fun x e1 t1 h1 v ω1 H1 s1 ok1 r1 => ?_) h⟩
  exact od ω1 H1 σ e1 t1 x v _ Q ok1 r1 h1 fun ev v' ω' H' q st ok' r' => q v' ω' H' (s1.trans st) ok' r'
def fNeg : F1
  | .int i, q => q (.val (.int (-i)))
  | _, _ => False
theorem MonF1.neg : MonF1 fNeg := fun x _ _ h z => by cases x <;> first | exact (show False from z).elim | exact h _ z
theorem se_neg (ha : SP X c a wa) : SE X c (.UnaryOp .USub a pos) (w1 fNeg wa) := ⟨.w1 .neg ha.mon, (pe_un un_neg ha.run).wk fun _ _ _ h => run_1 .neg (fun ω H σ env tk x v q Q ok rx h hr => by
  cases x <;> first | exact (show False from h).elim | exact ⟨_, rx.int, hr.int ok h⟩) ha h⟩
end
end DL

namespace DL
open PySem PySem.Spec PyProof.Rows L2

/-! ### tests -/
theorem RepE.bl {c : C} {ω : Wd} {H : Hp} {σ : L2.St} {env : En} {b : Bool} {v : V} (h : RepE c ω H σ env (.val (.bl b)) v) : v = .bl b := Rep.bl_iff.mp (show Rep c.K ω (.bl b) v from h)
theorem RepE.mkbl {c : C} {ω : Wd} {H : Hp} {σ : L2.St} {env : En} {b : Bool} : RepE c ω H σ env (.val (.bl b)) (.bl b) := show Rep c.K ω (.bl b) (.bl b) from Rep.bl_iff.mpr rfl
def wT (w : WE) : WT := fun env tk Q => w env tk fun ev e t => match ev with
  | .val (.bl b) => Q b e t
  | _ => False
theorem Mon.t {w : WE} (m : Mon w) : Mon (wT w) := fun env tk Q Q' h q => m _ _ _ _ (fun ev e t z => by
  cases ev with
  | own ds => exact z
  | val d => cases d <;> first | exact (show False from z).elim | exact h _ _ _ z) q
def wNot (w : WT) : WT := fun env tk Q => w env tk fun b e t => Q (!b) e t
def wAnd (a b : WT) : WT := fun env tk Q => a env tk fun x e t => if x = true then b e t Q else Q false e t
def wOr (a b : WT) : WT := fun env tk Q => a env tk fun x e t => if x = true then Q true e t else b e t Q
theorem Mon.not {w : WT} (m : Mon w) : Mon (wNot w) := fun env tk Q Q' h q => m _ _ _ _ (fun b e t z => h _ e t z) q
theorem Mon.and {a b : WT} (m : Mon a) (n : Mon b) : Mon (wAnd a b) := fun env tk Q Q' h q => m _ _ _ _ (fun x e t z => by
  cases x with
  | true => exact (if_pos rfl).mpr (n _ _ _ _ h ((if_pos rfl).mp z))
  | false => exact (if_neg Bool.false_ne_true).mpr (h _ _ _ ((if_neg Bool.false_ne_true).mp z))) q
theorem Mon.or {a b : WT} (m : Mon a) (n : Mon b) : Mon (wOr a b) := fun env tk Q Q' h q => m _ _ _ _ (fun x e t z => by
  cases x with
  | true => exact (if_pos rfl).mpr (h _ _ _ ((if_pos rfl).mp z))
  | false => exact (if_neg Bool.false_ne_true).mpr (n _ _ _ _ h ((if_neg Bool.false_ne_true).mp z))) q
/-- a test as a value -/
def wB (w : WT) : WE := fun env tk Q => w env tk fun b e t => Q (.val (.bl b)) e t
theorem Mon.b {w : WT} (m : Mon w) : Mon (wB w) := fun env tk Q Q' h q => m _ _ _ _ (fun b e t z => h _ e t z) q
def wIf {α : Type} (c : WT) (a b : W α) : W α := fun env tk Q => c env tk fun x e t => if x = true then a e t Q else b e t Q
theorem Mon.if {α : Type} {c : WT} {a b : W α} (mc : Mon c) (ma : Mon a) (mb : Mon b) : Mon (wIf c a b) := fun env tk Q Q' h q => mc _ _ _ _ (fun x e t z => by
  cases x with
  | true => exact (if_pos rfl).mpr (ma _ _ _ _ h ((if_pos rfl).mp z))
  | false => exact (if_neg Bool.false_ne_true).mpr (mb _ _ _ _ h ((if_neg Bool.false_ne_true).mp z))) q
section
variable {X : Cx} {c : C} {a b e : Expr} {pos : Pos}
theorem liftE_bl {w : WE} (m : Mon w) {σ : L2.St} {H : Hp} {Q : Bool → Hp → Prop} (h : liftT c (wT w) σ H Q) : liftE c w σ H fun x H' => ∃ k, x = .bl k ∧ Q k H' := by
  obtain ⟨ω, env, tk, ok, h⟩ := h
  refine ⟨ω, env, tk, ok, m _ _ _ _ (fun ev e1 t1 h1 v ω' H' st ok' r => ?_) h⟩
  cases ev with
  | own ds => exact (show False from h1).elim
  | val d => cases d <;> first | exact (show False from h1).elim | (have r' := r.bl; subst r'; exact ⟨_, rfl, h1 _ ω' H' st ok' rfl⟩)
theorem st_v {w : WE} (h : SE X c e w) (he : ∀ whole, isTrue e X.env whole = (do let v ← whole; standAt e.pos; holding [v] (truthy v)) := by intro _; rfl) : ST X c e (wT w) :=
  ⟨h.mon.t, (pt_val h.run he).wk fun _ _ _ q => liftE_bl h.mon q⟩
theorem run_cmp {op : CmpOp} {r : R2} {f : FOp} {wa wb : WD} (ho : OpR X (compareOp op) r) (mf : MonF f) (od : OpD c r f) (ha : SP X c a wa) (hb : SP X c b wb) (hm : behindInMarks op b = false) : ST X c (.Compare a [op] [b] pos) (wT (wOp f wa wb)) := by
  refine ⟨(Mon.op mf ha.mon hb.mon).t, (pt_cmpR ho ha.run hb.run hm).wk fun σ H Q h => ?_⟩
  exact run_op mf od ha hb (liftE_bl (.op mf ha.mon hb.mon) h)
variable {wa wb : WD}
theorem st_lt (ha : SP X c a wa) (hb : SP X c b wb) : ST X c (.Compare a [.Lt] [b] pos) (wT (wOp fLt wa wb)) := run_cmp op_lt .j od_b0 ha hb (nomark _)
theorem st_le (ha : SP X c a wa) (hb : SP X c b wb) : ST X c (.Compare a [.LtE] [b] pos) (wT (wOp fLe wa wb)) := run_cmp op_le .j od_b0 ha hb (nomark _)
theorem st_gt (ha : SP X c a wa) (hb : SP X c b wb) : ST X c (.Compare a [.Gt] [b] pos) (wT (wOp fGt wa wb)) := run_cmp op_gt .j od_b0 ha hb (nomark _)
theorem st_ge (ha : SP X c a wa) (hb : SP X c b wb) : ST X c (.Compare a [.GtE] [b] pos) (wT (wOp fGe wa wb)) := run_cmp op_ge .j od_b0 ha hb (nomark _)
theorem st_eq (hK : c.K = X.K) (hu : X.A.units + 100 < cLine) (ha : SP X c a wa) (hb : SP X c b wb) : ST X c (.Compare a [.Eq] [b] pos) (wT (wOp fEq wa wb)) := run_cmp (op_eqD (by omega)) .eq (by rw [← hK]; exact od_eq) ha hb (nomark _)
theorem st_ne (hK : c.K = X.K) (hu : X.A.units + 100 < cLine) (ha : SP X c a wa) (hb : SP X c b wb) : ST X c (.Compare a [.NotEq] [b] pos) (wT (wOp fNe wa wb)) := run_cmp (op_neD (by omega)) .ne (by rw [← hK]; exact od_ne) ha hb (nomark _)
theorem st_in (hK : c.K = X.K) (hu : X.A.units + 100 < cLine) (ha : SP X c a wa) (hb : SP X c b wb) (hm : behindInMarks .In b = false) : ST X c (.Compare a [.In] [b] pos) (wT (wOp fIn wa wb)) := run_cmp (op_inD (by omega)) .in (by rw [← hK]; exact od_in) ha hb hm
theorem st_notIn (hK : c.K = X.K) (hu : X.A.units + 100 < cLine) (ha : SP X c a wa) (hb : SP X c b wb) (hm : behindInMarks .NotIn b = false) : ST X c (.Compare a [.NotIn] [b] pos) (wT (wOp fNotIn wa wb)) := run_cmp (op_notInD (by omega)) .notIn (by rw [← hK]; exact od_notIn) ha hb hm
theorem st_isN (ha : SP X c a wa) (hb : SP X c b wb) : ST X c (.Compare a [.Is] [b] pos) (wT (wOp fIsN wa wb)) := run_cmp op_isN .isN od_isN ha hb (nomark _)
theorem st_notN (ha : SP X c a wa) (hb : SP X c b wb) : ST X c (.Compare a [.IsNot] [b] pos) (wT (wOp fNotN wa wb)) := run_cmp op_notN .notN od_notN ha hb (nomark _)
theorem st_isB (ha : SP X c a wa) (hb : SP X c b wb) : ST X c (.Compare a [.Is] [b] pos) (wT (wOp fIsB wa wb)) := run_cmp op_is_bl .isB od_isB ha hb (nomark _)
theorem st_notB (ha : SP X c a wa) (hb : SP X c b wb) : ST X c (.Compare a [.IsNot] [b] pos) (wT (wOp fNotB wa wb)) := run_cmp op_isnot_bl .notB od_notB ha hb (nomark _)
/-! #### chains a < b < c -/
def wChain (f g : FOp) (a b d : WD) : WE := fun env tk Q => a env tk fun x e1 t1 => b e1 t1 fun y e2 t2 => f x y fun ev => match ev with
  | .val (.bl k) => if k = true then d e2 t2 fun z e3 t3 => g y z fun ev => Q ev e3 t3 else Q (.val (.bl false)) e2 t2
  | _ => False
theorem Mon.chain {f g : FOp} {a b d : WD} (mf : MonF f) (mg : MonF g) (ma : Mon a) (mb : Mon b) (md : Mon d) : Mon (wChain f g a b d) := fun env tk Q Q' h q =>
  ma _ _ _ _ (fun x e1 t1 h1 => mb _ _ _ _ (fun y e2 t2 h2 => mf _ _ _ _ (fun ev z => by
    cases ev with
    | own ds => exact z
    | val v => cases v <;> first | exact (show False from z).elim | (rename_i k; cases k with
      | true => exact (if_pos rfl).mpr (md _ _ _ _ (fun w e3 t3 h3 => mg _ _ _ _ (fun ev => h ev e3 t3) h3) ((if_pos rfl).mp z))
      | false => exact (if_neg Bool.false_ne_true).mpr (h _ _ _ ((if_neg Bool.false_ne_true).mp z)))) h2) h1) q
theorem run_chain {r r' : R2} {f g : FOp} {d : Expr} {wd : WD} (mf : MonF f) (mg : MonF g) (od : OpD c r f) (od' : OpD c r' g) (ha : SP X c a wa) (hb : SP X c b wb) (hd : SP X c d wd) {σ : L2.St} {H : Hp} {Q : VK} (h : liftE c (wChain f g wa wb wd) σ H Q) :
    tChain r r' (liftP c wa) (liftP c wb) (liftP c wd) σ H Q := by
  obtain ⟨ω, env, tk, ok, h⟩ := h
  refine ⟨ω, env, tk, ok, ha.mon _ _ _ _ (fun x e1 t1 h1 v ω1 H1 s1 ok1 r1 => ?_) h⟩
  refine ⟨ω1, e1, t1, ok1, hb.mon _ _ _ _ (fun y e2 t2 h2 u ω2 H2 s2 ok2 r2 => ?_) h1⟩
  refine od ω2 H2 σ e2 t2 x y v u _ _ ok2 (r1.step s2) r2 h2 fun ev v' ω' H' q st ok' r' => ?_
  cases ev with
  | own ds => exact (show False from q).elim
  | val d => cases d <;> first
      | exact (show False from q).elim
      | (have r'' := r'.bl
         subst r''
         rename_i k
         refine ⟨k, rfl, ?_⟩
         cases k with
         | false => exact (if_neg Bool.false_ne_true).mpr (((if_neg Bool.false_ne_true).mp q) _ ω' H' ((s1.trans s2).trans st) ok' RepE.mkbl)
         | true =>
           refine (if_pos rfl).mpr ⟨ω', e2, t2, ok', hd.mon _ _ _ _ (fun z e3 t3 h3 w ω3 H3 s3 ok3 r3 => ?_) ((if_pos rfl).mp q)⟩
           exact od' ω3 H3 σ e3 t3 y z u w _ Q ok3 ((r2.step st).step s3) r3 h3 fun ev v' ω' H' q st' ok' r' => q v' ω' H' ((((s1.trans s2).trans st).trans s3).trans st') ok' r')
theorem se_chain {op op' : CmpOp} {r r' : R2} {f g : FOp} {d : Expr} {wd : WD} (ho : OpR X (compareOp op) r) (ho' : OpR X (compareOp op') r') (mf : MonF f) (mg : MonF g) (od : OpD c r f) (od' : OpD c r' g) (ha : SP X c a wa) (hb : SP X c b wb) (hd : SP X c d wd)
    (hm : lastMarks [op, op'] [b, d] = false := by with_unfolding_all rfl) : SE X c (.Compare a [op, op'] [b, d] pos) (wChain f g wa wb wd) :=
  ⟨.chain mf mg ha.mon hb.mon hd.mon, (pe_chain ho ho' ha.run hb.run hd.run hm).wk fun _ _ _ h => run_chain mf mg od od' ha hb hd h⟩
theorem st_chain {op op' : CmpOp} {r r' : R2} {f g : FOp} {d : Expr} {wd : WD} (ho : OpR X (compareOp op) r) (ho' : OpR X (compareOp op') r') (mf : MonF f) (mg : MonF g) (od : OpD c r f) (od' : OpD c r' g) (ha : SP X c a wa) (hb : SP X c b wb) (hd : SP X c d wd)
    (hm : lastMarks [op, op'] [b, d] = false := by with_unfolding_all rfl) : ST X c (.Compare a [op, op'] [b, d] pos) (wT (wChain f g wa wb wd)) :=
  ⟨(Mon.chain mf mg ha.mon hb.mon hd.mon).t, (pt_chain ho ho' ha.run hb.run hd.run hm).wk fun _ _ _ h => run_chain mf mg od od' ha hb hd (liftE_bl (.chain mf mg ha.mon hb.mon hd.mon) h)⟩

/-! #### and, or, not -/
variable {ta tb : WT} {rest : List Expr}
theorem st_not (ha : ST X c a ta) : ST X c (.UnaryOp .Not a pos) (wNot ta) := ⟨ha.mon.not, (pt_not ha.run).wk fun σ H Q ⟨ω, env, tk, ok, h⟩ => ⟨ω, env, tk, ok, ha.mon _ _ _ _ (fun b e t q v ω' H' st ok' r => by subst r; exact q _ ω' H' st ok' rfl) h⟩⟩
theorem sw_and1 (ha : ST X c a ta) : SW X c (.BoolOp .And [a] pos) ta := ⟨ha.mon, pw_and1 ha.run⟩
theorem sw_or1 (ha : ST X c a ta) : SW X c (.BoolOp .Or [a] pos) ta := ⟨ha.mon, pw_or1 ha.run⟩
theorem run_and (ma : Mon ta) (mb : Mon tb) {σ : L2.St} {H : Hp} {Q : Bool → Hp → Prop} (h : liftT c (wAnd ta tb) σ H Q) : tAnd (liftT c ta) (liftT c tb) σ H Q := by
  obtain ⟨ω, env, tk, ok, h⟩ := h
  refine ⟨ω, env, tk, ok, ma _ _ _ _ (fun x e1 t1 h1 v ω1 H1 s1 ok1 r1 => ?_) h⟩
  subst r1
  cases v with
  | true => exact (if_pos rfl).mpr ⟨ω1, e1, t1, ok1, mb _ _ _ _ (fun y e2 t2 h2 u ω2 H2 s2 ok2 r2 => h2 u ω2 H2 (s1.trans s2) ok2 r2) ((if_pos rfl).mp h1)⟩
  | false => exact (if_neg Bool.false_ne_true).mpr (((if_neg Bool.false_ne_true).mp h1) _ ω1 H1 s1 ok1 rfl)
theorem run_or (ma : Mon ta) (mb : Mon tb) {σ : L2.St} {H : Hp} {Q : Bool → Hp → Prop} (h : liftT c (wOr ta tb) σ H Q) : tOr (liftT c ta) (liftT c tb) σ H Q := by
  obtain ⟨ω, env, tk, ok, h⟩ := h
  refine ⟨ω, env, tk, ok, ma _ _ _ _ (fun x e1 t1 h1 v ω1 H1 s1 ok1 r1 => ?_) h⟩
  subst r1
  cases v with
  | false => exact (if_neg Bool.false_ne_true).mpr ⟨ω1, e1, t1, ok1, mb _ _ _ _ (fun y e2 t2 h2 u ω2 H2 s2 ok2 r2 => h2 u ω2 H2 (s1.trans s2) ok2 r2) ((if_neg Bool.false_ne_true).mp h1)⟩
  | true => exact (if_pos rfl).mpr (((if_pos rfl).mp h1) _ ω1 H1 s1 ok1 rfl)
theorem sw_and (ha : ST X c a ta) (hb : SW X c (.BoolOp .And (b :: rest) pos) tb) : SW X c (.BoolOp .And (a :: b :: rest) pos) (wAnd ta tb) := ⟨ha.mon.and hb.mon, (pw_and ha.run hb.run).wk fun _ _ _ h => run_and ha.mon hb.mon h⟩
theorem sw_or (ha : ST X c a ta) (hb : SW X c (.BoolOp .Or (b :: rest) pos) tb) : SW X c (.BoolOp .Or (a :: b :: rest) pos) (wOr ta tb) := ⟨ha.mon.or hb.mon, (pw_or ha.run hb.run).wk fun _ _ _ h => run_or ha.mon hb.mon h⟩
theorem st_w (h : SW X c e ta) : ST X c e ta := ⟨h.mon, h.run.pt⟩
/-- as values -/
theorem run_b {t : WT} {w : WE} (mt : Mon t) (e : t = wT w) : True := trivial
theorem liftE_wB {t : WT} (m : Mon t) {σ : L2.St} {H : Hp} {Q : VK} (h : liftE c (wB t) σ H Q) : liftT c t σ H fun b H' => Q (.bl b) H' := by
  obtain ⟨ω, env, tk, ok, h⟩ := h
  exact ⟨ω, env, tk, ok, m _ _ _ _ (fun b e1 t1 h1 v ω' H' st ok' r => by subst r; exact h1 _ ω' H' st ok' RepE.mkbl) h⟩
variable {va vb : WE}
structure SV (X : Cx) (c : C) (e : Expr) (t : WT) : Prop where
  mon : Mon t
  run : PE X e (liftE c (wB t))
theorem se_sv {t : WT} (h : SV X c e t) : SE X c e (wB t) := ⟨h.mon.b, h.run⟩
theorem sv_one {op} (h : SE X c a va) : SV X c (.BoolOp op [a] pos) (wT va) := ⟨h.mon.t, (pe_one h.run).wk fun σ H Q q => by
  obtain ⟨ω, env, tk, ok, z⟩ := liftE_bl h.mon (liftE_wB h.mon.t q)
  exact ⟨ω, env, tk, ok, h.mon _ _ _ _ (fun ev e1 t1 h1 v ω' H' st ok' r => by obtain ⟨k, rfl, q⟩ := h1 v ω' H' st ok' r; exact q) z⟩⟩
theorem sv_and (ha : SE X c a va) (hb : SV X c (.BoolOp .And (b :: rest) pos) tb) : SV X c (.BoolOp .And (a :: b :: rest) pos) (wAnd (wT va) tb) := ⟨ha.mon.t.and hb.mon, (pe_and ha.run hb.run).wk fun σ H Q q => by
  have z := liftE_bl ha.mon (run_and ha.mon.t hb.mon (liftE_wB (ha.mon.t.and hb.mon) q))
  obtain ⟨ω, env, tk, ok, z⟩ := z
  refine ⟨ω, env, tk, ok, ha.mon _ _ _ _ (fun ev e1 t1 h1 v ω' H' st ok' r => ?_) z⟩
  obtain ⟨k, e, q⟩ := h1 v ω' H' st ok' r
  refine ⟨k, e, ?_⟩
  cases k with
  | false => exact (if_neg Bool.false_ne_true).mpr ((if_neg Bool.false_ne_true).mp q)
  | true =>
    refine (if_pos rfl).mpr ?_
    obtain ⟨ω, env, tk, ok, z⟩ := (if_pos rfl).mp q
    exact ⟨ω, env, tk, ok, hb.mon _ _ _ _ (fun b e2 t2 h2 v ω2 H2 s2 ok2 r2 => by have r2' := r2.bl; subst r2'; exact h2 _ ω2 H2 s2 ok2 rfl) z⟩⟩
theorem sv_or (ha : SE X c a va) (hb : SV X c (.BoolOp .Or (b :: rest) pos) tb) : SV X c (.BoolOp .Or (a :: b :: rest) pos) (wOr (wT va) tb) := ⟨ha.mon.t.or hb.mon, (pe_or ha.run hb.run).wk fun σ H Q q => by
  have z := liftE_bl ha.mon (run_or ha.mon.t hb.mon (liftE_wB (ha.mon.t.or hb.mon) q))
  obtain ⟨ω, env, tk, ok, z⟩ := z
  refine ⟨ω, env, tk, ok, ha.mon _ _ _ _ (fun ev e1 t1 h1 v ω' H' st ok' r => ?_) z⟩
  obtain ⟨k, e, q⟩ := h1 v ω' H' st ok' r
  refine ⟨k, e, ?_⟩
  cases k with
  | true => exact (if_pos rfl).mpr ((if_pos rfl).mp q)
  | false =>
    refine (if_neg Bool.false_ne_true).mpr ?_
    obtain ⟨ω, env, tk, ok, z⟩ := (if_neg Bool.false_ne_true).mp q
    exact ⟨ω, env, tk, ok, hb.mon _ _ _ _ (fun b e2 t2 h2 v ω2 H2 s2 ok2 r2 => by have r2' := r2.bl; subst r2'; exact h2 _ ω2 H2 s2 ok2 rfl) z⟩⟩
theorem se_not (ha : SE X c a va) : SE X c (.UnaryOp .Not a pos) (wB (wNot (wT va))) := ⟨ha.mon.t.not.b, (pe_not ha.run).wk fun σ H Q q => by
  obtain ⟨ω, env, tk, ok, z⟩ := liftE_wB ha.mon.t.not q
  have z' : liftT c (wT va) σ H fun b H' => Q (.bl (!b)) H' := ⟨ω, env, tk, ok, ha.mon.t _ _ _ _ (fun b e t q v ω' H' st ok' r => by subst r; exact q _ ω' H' st ok' rfl) z⟩
  exact liftE_bl ha.mon z'⟩
theorem se_if {t : Expr} {tt : WT} (hc : ST X c t tt) (ha : SE X c a va) (hb : SE X c b vb) : SE X c (.IfExp t a b pos) (wIf tt va vb) := ⟨hc.mon.if ha.mon hb.mon, (pe_ifExp hc.run ha.run hb.run).wk fun σ H Q h => by
  obtain ⟨ω, env, tk, ok, h⟩ := h
  refine ⟨ω, env, tk, ok, hc.mon _ _ _ _ (fun x e1 t1 h1 v ω1 H1 s1 ok1 r1 => ?_) h⟩
  subst r1
  cases v with
  | true => exact (if_pos rfl).mpr ⟨ω1, e1, t1, ok1, ha.mon _ _ _ _ (fun y e2 t2 h2 u ω2 H2 s2 ok2 r2 => h2 u ω2 H2 (s1.trans s2) ok2 r2) ((if_pos rfl).mp h1)⟩
  | false => exact (if_neg Bool.false_ne_true).mpr ⟨ω1, e1, t1, ok1, hb.mon _ _ _ _ (fun y e2 t2 h2 u ω2 H2 s2 ok2 r2 => h2 u ω2 H2 (s1.trans s2) ok2 r2) ((if_neg Bool.false_ne_true).mp h1)⟩⟩

/-! ### displays, arguments -/
def wNil : WA := fun env tk Q => Q [] env tk
def wCons (a : WD) (r : WA) : WA := fun env tk Q => a env tk fun x e1 t1 => r e1 t1 fun xs e2 t2 => Q (x :: xs) e2 t2
theorem Mon.nil : Mon wNil := fun _ _ _ _ h q => h _ _ _ q
theorem Mon.cons {a : WD} {r : WA} (ma : Mon a) (mr : Mon r) : Mon (wCons a r) := fun env tk Q Q' h q => ma _ _ _ _ (fun x e1 t1 h1 => mr _ _ _ _ (fun xs e2 t2 h2 => h _ e2 t2 h2) h1) q
theorem sa_nil : SA X c [] wNil := ⟨.nil, pa_nil.wk fun σ H Q ⟨ω, env, tk, ok, h⟩ => h _ ω H (.refl _ _) ok Reps.nil⟩
theorem sa_cons {es : List Expr} {w : WD} {r : WA} (ha : SD X c e w) (hr : SA X c es r) (hs : starEach (e :: es) X.env = (false, eval e X.env) :: starEach es X.env := by rfl) : SA X c (e :: es) (wCons w r) := ⟨.cons ha.mon hr.mon, (pa_cons ha.run hr.run hs).wk fun σ H Q ⟨ω, env, tk, ok, h⟩ => by
  refine ⟨ω, env, tk, ok, ha.mon _ _ _ _ (fun x e1 t1 h1 v ω1 H1 s1 ok1 r1 => ?_) h⟩
  refine ⟨ω1, e1, t1, ok1, hr.mon _ _ _ _ (fun xs e2 t2 h2 us ω2 H2 s2 ok2 r2 => ?_) h1⟩
  exact h2 _ ω2 H2 (s1.trans s2) ok2 (Reps.cons (r1.mono s2.le) r2)⟩
def wTup (r : WA) : WE := fun env tk Q => r env tk fun ds e t => Nat.ble ds.length 1000 = true ∧ Q (.val (.tup ds)) e t
def wLst (r : WA) : WE := fun env tk Q => r env tk fun ds e t => Nat.ble ds.length 1000 = true ∧ Q (.own ds) e t
theorem Mon.tup {r : WA} (m : Mon r) : Mon (wTup r) := fun env tk Q Q' h q => m _ _ _ _ (fun ds e t z => ⟨z.1, h _ _ _ z.2⟩) q
theorem Mon.lst {r : WA} (m : Mon r) : Mon (wLst r) := fun env tk Q Q' h q => m _ _ _ _ (fun ds e t z => ⟨z.1, h _ _ _ z.2⟩) q
theorem small_le {n : Nat} (h : n ≤ 1000) : n ≤ sizeLine := Nat.le_of_lt (small1000 h)
theorem se_tup {es : List Expr} {r : WA} {x1} (h : SA X c es r) : SE X c (.Tuple es x1 pos) (wTup r) := ⟨h.mon.tup, (pe_tup h.run).wk fun σ H Q ⟨ω, env, tk, ok, q⟩ => ⟨ω, env, tk, ok, h.mon _ _ _ _ (fun ds e t z vs ω' H' st ok' r => by
  refine ⟨by rw [r.length]; exact small_le (Nat.le_of_ble_eq_true z.1), fun p n => ?_⟩
  exact z.2 _ _ _ (st.trans (.alloc n (ok'.nohd n) _)) (ok'.alloc n _) (show Rep c.K ⟨ω'.g, upd ω'.hd p (.tup vs)⟩ (.tup ds) (.ref p) from Rep.tup_iff.mpr ⟨p, vs, rfl, .of (show upd ω'.hd p _ p = _ from upd_same), r.mono (le_upd (ok'.nohd n))⟩)) q⟩⟩
theorem se_lst {es : List Expr} {r : WA} (h : SA X c es r) : SE X c (.List es pos) (wLst r) := ⟨h.mon.lst, (pe_lst h.run).wk fun σ H Q ⟨ω, env, tk, ok, q⟩ => ⟨ω, env, tk, ok, h.mon _ _ _ _ (fun ds e t z vs ω' H' st ok' r => by
  refine ⟨by rw [r.length]; exact small_le (Nat.le_of_ble_eq_true z.1), fun p n => ?_⟩
  exact z.2 _ _ _ (st.trans (.newL n _)) (ok'.newL n _) (ok'.own n r)) q⟩⟩
end
end DL

namespace DL
open PySem PySem.Spec PyProof.Rows L2

/-! ### items, slices -/
def fIdx : FOp
  | .lst ds, .int i, q => match atI ds i with
    | some d => q (.val d)
    | none => False
  | .tup ds, .int i, q => match atI ds i with
    | some d => q (.val d)
    | none => False
  | .str s, .int i, q => s.length ≤ sizeLine ∧ match atI s.cps.toList i with
    | some ch => q (.val (.str ⟨#[ch]⟩))
    | none => False
  | _, _, _ => False
theorem MonF.idx : MonF fIdx := fun x y q q' h z => by
  cases x <;> first | exact (show False from z).elim | (cases y <;> first | exact (show False from z).elim | skip)
  · obtain ⟨z1, z⟩ := z
    refine ⟨z1, ?_⟩
    split at z <;> first | exact h _ z | exact z.elim
  · unfold fIdx at z ⊢
    simp only at z ⊢
    split at z <;> first | exact h _ z | exact z.elim
  · unfold fIdx at z ⊢
    simp only at z ⊢
    split at z <;> first | exact h _ z | exact z.elim
theorem Reps.atI {K : PySem.W.Frag} {ω : Wd} {ds : List D} {vs : List V} {i : Int} {d : D} (h : Reps K ω ds vs) (e : L2.atI ds i = some d) : ∃ v, L2.atI vs i = some v ∧ Rep K ω d v := by
  unfold L2.atI at e ⊢
  rw [h.length]
  cases z : ixN ds.length i with
  | none => rw [z] at e; cases e
  | some j =>
    rw [z] at e
    obtain ⟨v, h1, h2⟩ := h.get (i := j) (d := d) e
    exact ⟨v, h1, h2⟩
section
variable {X : Cx} {c : C} {a b e : Expr} {wa wb : WD} {pos p2 : Pos}
theorem od_idx : OpD c (rIx c.K) fIdx := fun ω H σ env tk x y v u q Q ok rx ry h hr => by
  cases x <;> first | exact (show False from h).elim | (cases y <;> first | exact (show False from h).elim | skip)
  · obtain ⟨h1, h⟩ := h
    split at h
    · rename_i ch e
      exact .inr (.inr ⟨_, _, ch, rx.str, ry.int, h1, e, hr.str ok h⟩)
    · exact h.elim
  · unfold fIdx at h
    simp only at h
    split at h
    · rename_i d e
      obtain ⟨p, vs, rfl, sx, qx⟩ := rx.tup ok.sub
      obtain ⟨w, h1, h2⟩ := qx.atI e
      exact .inr (.inl ⟨p, vs, _, w, rfl, ry.int, sx, h1, hr.val ok h h2⟩)
    · exact h.elim
  · unfold fIdx at h
    simp only at h
    split at h
    · rename_i d e
      obtain ⟨p, vs, rfl, sx, qx⟩ := rx.lst ok.sub
      obtain ⟨w, h1, h2⟩ := qx.atI e
      exact .inl ⟨p, vs, _, w, rfl, ry.int, sx, h1, hr.val ok h h2⟩
    · exact h.elim
theorem se_ix (hK : c.K = X.K) (ha : SP X c a wa) (hb : SP X c b wb) (hs : PlainIx b) : SE X c (.Subscript a b pos) (wOp fIdx wa wb) :=
  ⟨.op .idx ha.mon hb.mon, (pe_ix ix_seq ha.run hb.run hs).wk fun _ _ _ h => by rw [← hK]; exact run_op .idx od_idx ha hb h⟩

abbrev WO := W (Option Int)
def liftO (c : C) (w : WO) : TO := lift c (fun _ _ _ _ b b' => b' = b) w
structure SO (X : Cx) (c : C) (e : Option Expr) (w : WO) : Prop where
  mon : Mon w
  run : PO X e (liftO c w)
def wNo : WO := fun env tk Q => Q none env tk
def wSo (w : WD) : WO := fun env tk Q => w env tk fun d e t => match d with
  | .int i => Q (some i) e t
  | _ => False
theorem so_none : SO X c none wNo := ⟨fun _ _ _ _ h q => h _ _ _ q, ⟨fun pins s σ H Q I h => po_none.run pins s σ H Q I (by
  obtain ⟨ω, env, tk, ok, h⟩ := h
  exact h _ ω H (.refl _ _) ok rfl)⟩⟩
theorem so_some {w : WD} (h : SP X c e w) : SO X c (some e) (wSo w) := ⟨fun env tk Q Q' k q => h.mon _ _ _ _ (fun d e t z => by cases d <;> first | exact (show False from z).elim | exact k _ _ _ z) q,
  ⟨fun pins s σ H Q I hw => (po_some h.run).run pins s σ H Q I (by
    obtain ⟨ω, env, tk, ok, q⟩ := hw
    refine ⟨ω, env, tk, ok, h.mon _ _ _ _ (fun d e1 t1 z v ω' H' st ok' r => ?_) q⟩
    cases d <;> first | exact (show False from z).elim | exact ⟨_, r.int, z _ ω' H' st ok' rfl⟩)⟩⟩
def cutG {α : Type} (xs : List α) (lo hi : Option Int) : List α := (xs.drop (HT.sIx xs.length 0 lo)).take (HT.sIx xs.length xs.length hi - HT.sIx xs.length 0 lo)
def fSl : D → Option Int → Option Int → (EV → Prop) → Prop
  | .lst ds, lo, hi, q => q (.own (cutG ds lo hi))
  | .tup ds, lo, hi, q => ¬ (HT.sIx ds.length 0 lo = 0 ∧ HT.sIx ds.length ds.length hi = ds.length) ∧ q (.val (.tup (cutG ds lo hi)))
  | _, _, _, _ => False
def wSl (a : WD) (lo hi : WO) : WE := fun env tk Q => a env tk fun x e1 t1 => lo e1 t1 fun l e2 t2 => hi e2 t2 fun u e3 t3 => fSl x l u fun ev => Q ev e3 t3
theorem Reps.cut {K : PySem.W.Frag} {ω : Wd} {ds : List D} {vs : List V} (h : Reps K ω ds vs) (lo hi : Option Int) : Reps K ω (cutG ds lo hi) (cutV vs lo hi) := by
  unfold cutG cutV
  rw [h.length]
  exact (h.drop _).take _
theorem se_sl (hK : c.K = X.K) {lo hi : Option Expr} {wl wh : WO} (ha : SP X c a wa) (hl : SO X c lo wl) (hh : SO X c hi wh) : SE X c (.Subscript a (.Slice lo hi none p2) pos) (wSl wa wl wh) := by
  refine ⟨fun env tk Q Q' k q => ha.mon _ _ _ _ (fun x e1 t1 h1 => hl.mon _ _ _ _ (fun l e2 t2 h2 => hh.mon _ _ _ _ (fun u e3 t3 h3 => ?_) h2) h1) q, (pe_slice (sl_list.or sl_tup) ha.run hl.run hh.run).wk fun σ H Q h => ?_⟩
  · cases x <;> first | exact (show False from h3).elim | exact k _ _ _ h3 | exact ⟨h3.1, k _ _ _ h3.2⟩
  · obtain ⟨ω, env, tk, ok, h⟩ := h
    refine ⟨ω, env, tk, ok, ha.mon _ _ _ _ (fun x e1 t1 h1 v ω1 H1 s1 ok1 r1 => ?_) h⟩
    refine ⟨ω1, e1, t1, ok1, hl.mon _ _ _ _ (fun l e2 t2 h2 v2 ω2 H2 s2 ok2 r2 => ?_) h1⟩
    refine ⟨ω2, e2, t2, ok2, hh.mon _ _ _ _ (fun u e3 t3 h3 v3 ω3 H3 s3 ok3 r3 => ?_) h2⟩
    subst r2 r3
    have r4 := (r1.step s2).step s3
    have hr : Res c ω3 H3 σ e3 t3 (fun ev => ∀ v ω' H', Stp ω H ω' H' → Ok c ω' H' σ e3 t3 → RepE c ω' H' σ e3 ev v → Q v H') Q := fun ev v' ω' H' q st' ok' r' => q v' ω' H' (((s1.trans s2).trans s3).trans st') ok' r'
    cases x <;> first | exact (show False from h3).elim | skip
    · obtain ⟨p, vs, rfl, sx, qx⟩ := r4.tup ok3.sub
      rw [hK] at sx
      refine .inr ⟨p, vs, rfl, sx, by rw [qx.length]; exact h3.1, fun t n => hr.tup ok3 h3.2 (qx.cut _ _) n⟩
    · obtain ⟨p, vs, rfl, sx, qx⟩ := r4.lst ok3.sub
      rw [hK] at sx
      exact .inl ⟨p, vs, rfl, sx, fun t n => hr.lst ok3 h3 (qx.cut _ _) n⟩

/-! ### built-in functions -/
def CallD1 (c : C) (r : List V → Hp → VK → Prop) (f : F1) : Prop := UnD c (fun v H Q => r [v] H Q) f
abbrev F2 := FOp
def CallD2 (c : C) (r : List V → Hp → VK → Prop) (f : FOp) : Prop := OpD c (fun v u H Q => r [v, u] H Q) f
theorem run_c1 {r : List V → Hp → VK → Prop} {f : F1} (mf : MonF1 f) (od : CallD1 c r f) (ha : SP X c a wa) {σ : L2.St} {H : Hp} {Q : VK} (h : liftE c (w1 f wa) σ H Q) : tCB r (tCons (liftP c wa) tNil) σ H Q :=
  run_1 mf od ha h
theorem run_c2 {r : List V → Hp → VK → Prop} {f : FOp} (mf : MonF f) (od : CallD2 c r f) (ha : SP X c a wa) (hb : SP X c b wb) {σ : L2.St} {H : Hp} {Q : VK} (h : liftE c (wOp f wa wb) σ H Q) : tCB r (tCons (liftP c wa) (tCons (liftP c wb) tNil)) σ H Q :=
  run_op mf od ha hb h
variable {id T : String} {x : Str} {p : Pos}
theorem se_b1 {r : List V → Hp → VK → Prop} {f : F1} (hc : CallR X (.builtin id) r) (hg : Gl X x) (hm : X.mg x = none) (hv : bootBuiltins x = some (.builtin id)) (mf : MonF1 f) (od : CallD1 c r f) (ha : SP X c a wa) (hn : x ≠ "__name__" := by decide) (hdb : (x == ("__debug__" : Str)) = false := by decide)
    (he : starEach [a] X.env = [(false, eval a X.env)] := by rfl) : SE X c (.Call (.Name x p) [a] [] pos) (w1 f wa) :=
  ⟨.w1 mf ha.mon, (pe_callB hc hg hm hv (pa_cons ha.run pa_nil he) hn hdb he).wk fun _ _ _ h => run_c1 mf od ha h⟩
theorem se_t1 {r : List V → Hp → VK → Prop} {f : F1} (hc : CallR X (.type T) r) (hg : Gl X x) (hm : X.mg x = none) (hv : bootBuiltins x = some (.type T)) (mf : MonF1 f) (od : CallD1 c r f) (ha : SP X c a wa) (hn : x ≠ "__name__" := by decide) (hdb : (x == ("__debug__" : Str)) = false := by decide)
    (he : starEach [a] X.env = [(false, eval a X.env)] := by rfl) : SE X c (.Call (.Name x p) [a] [] pos) (w1 f wa) :=
  ⟨.w1 mf ha.mon, (pe_callTy hc hg hm hv (pa_cons ha.run pa_nil he) hn hdb he).wk fun _ _ _ h => run_c1 mf od ha h⟩
theorem se_b2 {r : List V → Hp → VK → Prop} {f : FOp} (hc : CallR X (.builtin id) r) (hg : Gl X x) (hm : X.mg x = none) (hv : bootBuiltins x = some (.builtin id)) (mf : MonF f) (od : CallD2 c r f) (ha : SP X c a wa) (hb : SP X c b wb) (hn : x ≠ "__name__" := by decide) (hdb : (x == ("__debug__" : Str)) = false := by decide)
    (he : starEach [a, b] X.env = [(false, eval a X.env), (false, eval b X.env)] := by rfl) (he2 : starEach [b] X.env = [(false, eval b X.env)] := by rfl) : SE X c (.Call (.Name x p) [a, b] [] pos) (wOp f wa wb) :=
  ⟨.op mf ha.mon hb.mon, (pe_callB hc hg hm hv (pa_cons ha.run (pa_cons hb.run pa_nil he2) (by rw [he, he2])) hn hdb (by rw [he, he2]) (by rw [he2]; rfl)).wk fun _ _ _ h => run_c2 mf od ha hb h⟩
/-- len -/
def fLen : F1
  | .lst ds, q => q (.val (.int (ds.length : Int)))
  | .tup ds, q => q (.val (.int (ds.length : Int)))
  | .str s, q => s.length ≤ sizeLine ∧ q (.val (.int (s.length : Int)))
  | _, _ => False
theorem MonF1.len : MonF1 fLen := fun x _ _ h z => by cases x <;> first | exact (show False from z).elim | exact h _ z | exact ⟨z.1, h _ z.2⟩
theorem cd_len : CallD1 c (fun xs H Q => (∃ p ys, xs = [.ref p] ∧ (SqL c.K H p ys ∨ SqT c.K H p ys) ∧ Q (.int ys.length) H) ∨ (∃ z, xs = [.str z] ∧ z.length ≤ sizeLine ∧ Q (.int z.length) H)) fLen := fun ω H σ env tk x v q Q ok rx h hr => by
  cases x <;> first | exact (show False from h).elim | skip
  · rw [rx.str]
    exact .inr ⟨_, rfl, h.1, hr.int ok h.2⟩
  · obtain ⟨p, vs, rfl, sx, qx⟩ := rx.tup ok.sub
    exact .inl ⟨p, vs, rfl, .inr sx, by rw [qx.length]; exact hr.int ok h⟩
  · obtain ⟨p, vs, rfl, sx, qx⟩ := rx.lst ok.sub
    exact .inl ⟨p, vs, rfl, .inl sx, by rw [qx.length]; exact hr.int ok h⟩
theorem se_len (hK : c.K = X.K) (hg : Gl X "len") (hm : X.mg "len" = none) (ha : SP X c a wa) (he : starEach [a] X.env = [(false, eval a X.env)] := by rfl) : SE X c (.Call (.Name "len" p) [a] [] pos) (w1 fLen wa) :=
  se_b1 (call_len_seq.or call_len_str) hg hm PySem.boot_len .len (by rw [← hK]; exact cd_len) ha (he := he)
/-- abs -/
def fAbs : F1
  | .int i, q => q (.val (.int (if i < 0 then -i else i)))
  | _, _ => False
theorem MonF1.abs : MonF1 fAbs := fun x _ _ h z => by cases x <;> first | exact (show False from z).elim | exact h _ z
theorem se_abs (hg : Gl X "abs") (hm : X.mg "abs" = none) (ha : SP X c a wa) (he : starEach [a] X.env = [(false, eval a X.env)] := by rfl) : SE X c (.Call (.Name "abs" p) [a] [] pos) (w1 fAbs wa) :=
  se_b1 call_abs hg hm (by decide +kernel) .abs (fun ω H σ env tk x v q Q ok rx h hr => by
    cases x <;> first | exact (show False from h).elim | skip
    rw [rx.int]
    exact ⟨_, rfl, hr.int ok h⟩) ha (he := he)
/-- int -/
def fInt : F1
  | .int i, q => q (.val (.int i))
  | .bl b, q => q (.val (.int (if b then 1 else 0)))
  | _, _ => False
theorem MonF1.toInt : MonF1 fInt := fun x _ _ h z => by cases x <;> first | exact (show False from z).elim | exact h _ z
theorem se_toInt (hg : Gl X "int") (hm : X.mg "int" = none) (ha : SP X c a wa) (he : starEach [a] X.env = [(false, eval a X.env)] := by rfl) : SE X c (.Call (.Name "int" p) [a] [] pos) (w1 fInt wa) :=
  se_t1 call_int1 hg hm (by decide +kernel) .toInt (fun ω H σ env tk x v q Q ok rx h hr => by
    cases x <;> first | exact (show False from h).elim | skip
    · rw [rx.bl]
      exact .inr ⟨_, rfl, hr.int ok h⟩
    · rw [rx.int]
      exact .inl ⟨_, rfl, hr.int ok h⟩) ha (he := he)
/-- max, min of two ints -/
def fMax : FOp
  | .int i, .int j, q => q (.val (.int (if j > i then j else i)))
  | _, _, _ => False
def fMin : FOp
  | .int i, .int j, q => q (.val (.int (if j < i then j else i)))
  | _, _, _ => False
theorem MonF.max : MonF fMax := fun x y _ _ h z => by cases x <;> first | exact (show False from z).elim | (cases y <;> first | exact (show False from z).elim | exact h _ z)
theorem MonF.min : MonF fMin := fun x y _ _ h z => by cases x <;> first | exact (show False from z).elim | (cases y <;> first | exact (show False from z).elim | exact h _ z)
theorem se_max (hc : X.calm = true) (hg : Gl X "max") (hm : X.mg "max" = none) (ha : SP X c a wa) (hb : SP X c b wb) (he : starEach [a, b] X.env = [(false, eval a X.env), (false, eval b X.env)] := by rfl) (he2 : starEach [b] X.env = [(false, eval b X.env)] := by rfl) : SE X c (.Call (.Name "max" p) [a, b] [] pos) (wOp fMax wa wb) :=
  se_b2 (call_max2 hc) hg hm (by decide +kernel) .max (fun ω H σ env tk x y v u q Q ok rx ry h hr => by
    cases x <;> first | exact (show False from h).elim | (cases y <;> first | exact (show False from h).elim | skip)
    rw [rx.int, ry.int]
    exact ⟨_, _, rfl, hr.int ok h⟩) ha hb (he := he) (he2 := he2)
theorem se_min (hc : X.calm = true) (hg : Gl X "min") (hm : X.mg "min" = none) (ha : SP X c a wa) (hb : SP X c b wb) (he : starEach [a, b] X.env = [(false, eval a X.env), (false, eval b X.env)] := by rfl) (he2 : starEach [b] X.env = [(false, eval b X.env)] := by rfl) : SE X c (.Call (.Name "min" p) [a, b] [] pos) (wOp fMin wa wb) :=
  se_b2 (call_min2 hc) hg hm (by decide +kernel) .min (fun ω H σ env tk x y v u q Q ok rx ry h hr => by
    cases x <;> first | exact (show False from h).elim | (cases y <;> first | exact (show False from h).elim | skip)
    rw [rx.int, ry.int]
    exact ⟨_, _, rfl, hr.int ok h⟩) ha hb (he := he) (he2 := he2)
/-- list, tuple -/
def fList : F1
  | .lst ds, q => q (.own ds)
  | .tup ds, q => q (.own ds)
  | _, _ => False
def fTuple : F1
  | .lst ds, q => q (.val (.tup ds))
  | .tup ds, q => q (.val (.tup ds))
  | _, _ => False
theorem MonF1.list : MonF1 fList := fun x _ _ h z => by cases x <;> first | exact (show False from z).elim | exact h _ z
theorem MonF1.tuple : MonF1 fTuple := fun x _ _ h z => by cases x <;> first | exact (show False from z).elim | exact h _ z
theorem cd_list : CallD1 c (fun xs H Q => ∃ p ys, xs = [.ref p] ∧ (SqL c.K H p ys ∨ SqT c.K H p ys) ∧ ∀ l, H l = none → Q (.ref l) (upd H l (.lst ys))) fList := fun ω H σ env tk x v q Q ok rx h hr => by
  cases x <;> first | exact (show False from h).elim | skip
  · obtain ⟨p, vs, rfl, sx, qx⟩ := rx.tup ok.sub
    exact ⟨p, vs, rfl, .inr sx, fun l n => hr.lst ok h qx n⟩
  · obtain ⟨p, vs, rfl, sx, qx⟩ := rx.lst ok.sub
    exact ⟨p, vs, rfl, .inl sx, fun l n => hr.lst ok h qx n⟩
theorem se_list (hK : c.K = X.K) (hg : Gl X "list") (hm : X.mg "list" = none) (ha : SP X c a wa) (he : starEach [a] X.env = [(false, eval a X.env)] := by rfl) : SE X c (.Call (.Name "list" p) [a] [] pos) (w1 fList wa) :=
  se_t1 call_list_of hg hm (by decide +kernel) .list (by rw [← hK]; exact cd_list) ha (he := he)
theorem RepP.tupRep {ω : Wd} {H : Hp} {ds : List D} {v : V} (h : RepP c ω H (.tup ds) v) : Rep c.K ω (.tup ds) v := by
  rcases h with h | ⟨ds, p, vs, e, _⟩
  · exact h
  · cases e
theorem cd_tuple : CallD1 c (fun xs H Q => ∃ p ys, xs = [.ref p] ∧ ((SqL c.K H p ys ∧ ∀ l, H l = none → Q (.ref l) (upd H l (.tup ys))) ∨ (SqT c.K H p ys ∧ Q (.ref p) H))) fTuple := fun ω H σ env tk x v q Q ok rx h hr => by
  cases x <;> first | exact (show False from h).elim | skip
  · have r := rx.tupRep
    obtain ⟨p, vs, rfl, sx, qx⟩ := rx.tup ok.sub
    exact ⟨p, vs, rfl, .inr ⟨sx, hr.val ok h r⟩⟩
  · obtain ⟨p, vs, rfl, sx, qx⟩ := rx.lst ok.sub
    exact ⟨p, vs, rfl, .inl ⟨sx, fun l n => hr.tup ok h qx n⟩⟩
theorem se_tuple (hK : c.K = X.K) (hg : Gl X "tuple") (hm : X.mg "tuple" = none) (ha : SP X c a wa) (he : starEach [a] X.env = [(false, eval a X.env)] := by rfl) : SE X c (.Call (.Name "tuple" p) [a] [] pos) (w1 fTuple wa) :=
  se_t1 call_tuple_of hg hm (by decide +kernel) .tuple (by rw [← hK]; exact cd_tuple) ha (he := he)
/-- sorted of ints -/
def asInts : List D → Option (List Int)
  | [] => some []
  | .int i :: ds => (asInts ds).map (i :: ·)
  | _ :: _ => none
def fSortI : F1
  | .lst ds, q => ∃ ns, asInts ds = some ns ∧ ∀ ns', List.Perm ns' ns → ns'.Pairwise (· ≤ ·) → q (.own (ns'.map D.int))
  | _, _ => False
theorem MonF1.sortI : MonF1 fSortI := fun x _ _ h z => by
  cases x <;> first | exact (show False from z).elim | skip
  obtain ⟨ns, e, z⟩ := z
  exact ⟨ns, e, fun ns' a b => h _ (z ns' a b)⟩
theorem asInts_reps {K : PySem.W.Frag} {ω : Wd} : ∀ {ds : List D} {ns : List Int} {vs : List V}, asInts ds = some ns → Reps K ω ds vs → vs = ns.map V.int
  | [], ns, vs, e, h => by cases e; rw [Reps.nil_iff] at h; rw [h]; rfl
  | d :: ds, ns, vs, e, h => by
    cases d <;> first | cases e | skip
    rename_i i
    obtain ⟨v, r, rfl, h1, h2⟩ := Reps.cons_iff.mp h
    unfold asInts at e
    cases z : asInts ds with
    | none => rw [z] at e; cases e
    | some ms =>
      rw [z] at e
      cases e
      rw [Rep.int_iff.mp h1, asInts_reps z h2]
      rfl
theorem reps_ints {K : PySem.W.Frag} {ω : Wd} : ∀ ns : List Int, Reps K ω (ns.map D.int) (ns.map V.int)
  | [] => .nil
  | n :: ns => Reps.cons (Rep.int_iff.mpr rfl) (reps_ints ns)
theorem asInts_map : ∀ ns : List Int, asInts (ns.map D.int) = some ns
  | [] => rfl
  | n :: ns => by
    show (asInts (ns.map D.int)).map (n :: ·) = _
    rw [asInts_map ns]
    rfl
theorem se_sortI (hK : c.K = X.K) (hg : Gl X "sorted") (hm : X.mg "sorted" = none) (ha : SP X c a wa) (he : starEach [a] X.env = [(false, eval a X.env)] := by rfl) : SE X c (.Call (.Name "sorted" p) [a] [] pos) (w1 fSortI wa) :=
  se_b1 cr_sortedI hg hm (by decide +kernel) .sortI (by
    rw [← hK]
    exact fun ω H σ env tk x v q Q ok rx h hr => by
      cases x <;> first | exact (show False from h).elim | skip
      obtain ⟨ns, e, h⟩ := h
      obtain ⟨p, vs, rfl, sx, qx⟩ := rx.lst ok.sub
      rw [asInts_reps e qx] at sx
      exact ⟨p, ns, rfl, sx, fun ns' l h1 h2 n => hr.lst ok (h ns' h1 h2) (reps_ints ns') n⟩) ha (he := he)
/-- isqrt, by the module's name -/
def fSqrt : F1
  | .int i, q => 0 ≤ i ∧ i.toNat.log2 < 13400 ∧ q (.val (.int ((Float64.isqrt i.toNat : Nat) : Int)))
  | _, _ => False
theorem MonF1.sqrt : MonF1 fSqrt := fun x _ _ h z => by cases x <;> first | exact (show False from z).elim | exact ⟨z.1, z.2.1, h _ z.2.2⟩
theorem call_isqrt : CallR X (.builtin "math.isqrt") (fun xs H Q => ∃ i, xs = [.int i] ∧ 0 ≤ i ∧ i.toNat.log2 < 13400 ∧ Q (.int ((Float64.isqrt i.toNat : Nat) : Int)) H) := by
  intro pins s σ H xs us Q I r h
  obtain ⟨i, rfl, h0, h1, q⟩ := h
  obtain ⟨u, rfl, t, rfl⟩ := vals1 r
  exact call_function_meets PySem.W.MGF.kind_isqrt PySem.W.MGF.plain_isqrt PySem.W.MGF.entry_isqrt (PySem.W.MGF.args_isqrt _) (PySem.W.mg_run_isqrt i t (by omega) (by omega) (by omega)).meets ⟨.int _, H, I.tok _, ⟨_, rfl⟩, q⟩
theorem se_g1 {r : List V → Hp → VK → Prop} {f : F1} (hc : CallR X (.builtin id) r) (hg : Gl X x) (hm : X.mg x = some (.builtin id)) (mf : MonF1 f) (od : CallD1 c r f) (ha : SP X c a wa) (hdb : (x == ("__debug__" : Str)) = false := by decide)
    (he : starEach [a] X.env = [(false, eval a X.env)] := by rfl) : SE X c (.Call (.Name x p) [a] [] pos) (w1 f wa) := by
  refine ⟨.w1 mf ha.mon, ⟨fun pins s σ H Q I h => ?_⟩⟩
  have h' := run_c1 mf od ha h
  refine wpAny_Call_Name_kw (ld_glob I hg hm ?_ hdb)
  exact PyProof.Rows.callWith_builtin1 (thn ((pa_cons ha.run pa_nil he).run pos pins s σ H _ I h') fun us s1 ⟨vs, H1, I1, r1, q1⟩ => hc pins s1 σ H1 vs us Q I1 r1 q1) he rfl
theorem se_sqrt (hg : Gl X "isqrt") (hm : X.mg "isqrt" = some (.builtin "math.isqrt")) (ha : SP X c a wa) (he : starEach [a] X.env = [(false, eval a X.env)] := by rfl) : SE X c (.Call (.Name "isqrt" p) [a] [] pos) (w1 fSqrt wa) :=
  se_g1 call_isqrt hg hm .sqrt (fun ω H σ env tk x v q Q ok rx h hr => by
    cases x <;> first | exact (show False from h).elim | skip
    rw [rx.int]
    exact ⟨_, rfl, h.1, h.2.1, hr.int ok h.2.2⟩) ha (he := he)
end
end DL

namespace DL
open PySem PySem.Spec PyProof.Rows L2

/-! ### defs -/
abbrev FSpec := List D → Tk → (EV → Tk → Prop) → Prop
def RetV (c : C) (ω : Wd) (H : Hp) : EV → V → Prop
  | .val d, v => Rep c.K ω d v
  | .own ds, v => ∃ p, v = .ref p ∧ OwnAt c ω H p ds
structure Ret (c : C) (ω : Wd) (H : Hp) (tk : Tk) (ev : EV) (v : V) : Prop where
  sub : ∀ b o, ω.hd b = some o → H b = some o
  st : StOk c.K ω H tk
  new : ∀ b, ω.hd b ≠ none → c.w0.hd b ≠ none ∨ c.H0 b = none
  ng : ∀ a, ω.g = some a → c.w0.g = some a ∨ c.H0 a = none
  fr : ∀ b o, c.H0 b = some o → c.w0.g ≠ some b → H b = some o
  le0 : c.w0.le ω
  v : RetV c ω H ev v
theorem Ok.ret {c : C} {ω : Wd} {H : Hp} {σ : L2.St} {env : En} {tk : Tk} (ok : Ok c ω H σ env tk) {ev : EV} {v : V} (r : RepE c ω H σ env ev v) : Ret c ω H tk ev v := ⟨ok.sub, ok.st, ok.new, ok.ng, ok.fr, ok.le0, by
  cases ev with
  | val d => exact r
  | own ds => obtain ⟨p, e, h, _⟩ := r; exact ⟨p, e, h⟩⟩
def spD (K : PySem.W.Frag) (S : FSpec) : Sp := fun vs H Q _ => ∃ ω ds tk, (∀ b o, ω.hd b = some o → H b = some o) ∧ StOk K ω H tk ∧ Reps K ω ds vs ∧ S ds tk fun ev tk' => ∀ v ω' H', Ret ⟨K, ω, H, fun _ => False⟩ ω' H' tk' ev v → Q v H'
def MonFS (S : FSpec) : Prop := ∀ ds tk Q Q', (∀ ev t, Q ev t → Q' ev t) → S ds tk Q → S ds tk Q'
structure FnIn (P : Program) (w : World) (K : PySem.W.Frag) (mg : Str → Option Value) (base : Heap) (k : Nat) (x : Str) (S : FSpec) : Prop where
  ex : ∃ f fd ps, FnOk P w K mg base CX0 k f fd ps (spD K S) ∧ mg x = some (.ref f) ∧ PySem.W.keepIn K (.ref f) = true ∧ Binds K fd ps []
theorem FnIn.mono {P : Program} {w : World} {K : PySem.W.Frag} {mg : Str → Option Value} {base : Heap} {j k : Nat} {x : Str} {S : FSpec} (G : FnIn P w K mg base j x S) (h : j ≤ k) : FnIn P w K mg base k x S := by
  obtain ⟨f, fd, ps, F, a, b, d⟩ := G.ex
  exact ⟨f, fd, ps, F.mono h, a, b, d⟩
def wCall (S : FSpec) (r : WA) : WE := fun env tk Q => r env tk fun ds e1 t1 => S ds t1 fun ev t2 => Q ev e1 t2
theorem Mon.call {S : FSpec} {r : WA} (ms : MonFS S) (mr : Mon r) : Mon (wCall S r) := fun env tk Q Q' h q => mr _ _ _ _ (fun ds e t z => ms _ _ _ _ (fun ev t => h ev _ t) z) q
/-- what a call leaves of the caller's state -/
theorem Ok.after {c : C} {ω ω' : Wd} {H H' : Hp} {σ : L2.St} {env : En} {tk tk' : Tk} {ev : EV} {v : V} (ok : Ok c ω H σ env tk) (r : Ret ⟨c.K, ω, H, fun _ => False⟩ ω' H' tk' ev v) : Ok c ω' H' σ env tk' ∧ Stp ω H ω' H' ∧ RepE c ω' H' σ env ev v := by
  have hs : Stp ω H ω' H' := ⟨r.le0, r.fr, r.ng⟩
  have ok' : Ok c ω' H' σ env tk' := {
    len := ok.len
    sub := r.sub
    st := r.st
    slots := fun i e he => by
      obtain ⟨u, h1, h2⟩ := ok.slots i e he
      refine ⟨u, h1, ?_⟩
      cases e with
      | val d => exact Rep.mono r.le0 h2
      | own ds =>
        obtain ⟨p, rfl, vs, a1, a2, a3, a4, a5⟩ := h2
        refine ⟨p, rfl, vs, r.fr p _ a1 a3, ?_, fun e => ?_, a4, a5.mono r.le0⟩
        · cases z : ω'.hd p with
          | none => rfl
          | some o =>
            rcases r.new p (by rw [z]; exact fun q => nomatch q) with q | q
            · exact absurd a2 q
            · rw [show H p = none from q] at a1; cases a1
        · rcases r.ng p e with q | q
          · exact a3 q
          · rw [show H p = none from q] at a1; cases a1
    dist := ok.dist
    new := fun b h => by
      rcases r.new b h with q | q
      · exact ok.new b q
      · exact .inr (ok.noH0 q)
    ng := fun a h => by
      rcases r.ng a h with q | q
      · exact ok.ng a q
      · exact .inr (ok.noH0 q)
    fr := fun b o h n => r.fr b o (ok.fr b o h n) fun e => by
      rcases ok.ng b e with q | q
      · exact n q
      · rw [h] at q; cases q
    le0 := ok.le0.trans r.le0
    pr := fun b h => by
      obtain ⟨a1, a2, a3⟩ := ok.pr b h
      refine ⟨?_, ?_, fun e => ?_⟩
      · cases z : H b with
        | none => exact absurd z a1
        | some o => rw [r.fr b o z a3]; exact fun q => nomatch q
      · cases z : ω'.hd b with
        | none => rfl
        | some o =>
          rcases r.new b (by rw [z]; exact fun q => nomatch q) with q | q
          · exact absurd a2 q
          · exact absurd q a1
      · rcases r.ng b e with q | q
        · exact a3 q
        · exact a1 q }
  refine ⟨ok', hs, ?_⟩
  have hv := r.v
  cases ev with
  | val d => exact hv
  | own ds =>
    obtain ⟨p, e, vs, a1, a2, a3, a4, a5⟩ := hv
    exact ⟨p, e, ⟨vs, a1, a2, a3, ⟨ok.noH0 a4.1, ok.nopr a4.1⟩, a5⟩, ok.noslot (.inl a4.1)⟩
section
variable {X : Cx} {c : C} {e : Expr} {es : List Expr} {r : WA} {x : Str} {p pos : Pos} {k : Nat} {S : FSpec}
theorem se_call (hK : c.K = X.K) (G : FnIn X.prog X.w X.K X.mg X.base k x S) (ms : MonFS S) (hr : Room k X.A) (hg : Gl X x) (ha : SA X c (e :: es) r) (hdb : (x == ("__debug__" : Str)) = false := by decide)
    (he : starEach (e :: es) X.env = (false, eval e X.env) :: starEach es X.env := by rfl) (hpl : (backTo pos (starEach es X.env)).any (·.1) = false := by rfl) : SE X c (.Call (.Name x p) (e :: es) [] pos) (wCall S r) := by
  obtain ⟨f, fd, ps, F, hm, hk, hb⟩ := G.ex
  refine ⟨.call ms ha.mon, (pe_call F hr hg hm hk hb .nil pass0 ha.run hdb he hpl).wk fun σ H Q h => ?_⟩
  obtain ⟨ω, env, tk, ok, h⟩ := h
  refine ⟨ω, env, tk, ok, ha.mon _ _ _ _ (fun ds e1 t1 h1 vs ω1 H1 s1 ok1 r1 => ?_) h⟩
  show spD X.K S (vs ++ []) H1 Q E0
  rw [List.append_nil, ← hK]
  refine ⟨ω1, ds, t1, ok1.sub, ok1.st, r1, ms _ _ _ _ (fun ev t2 h2 v ω' H' ret => ?_) h1⟩
  obtain ⟨a1, a2, a3⟩ := ok1.after ret
  exact h2 v ω' H' (s1.trans a2) a1 a3
end

/-! ### statements -/
structure Post where
  nx : En → Tk → Prop
  rt : EV → Tk → Prop
  bk : En → Tk → Prop := fun _ _ => False
  ct : En → Tk → Prop := fun _ _ => False
structure Post.le (P P' : Post) : Prop where
  nx : ∀ e t, P.nx e t → P'.nx e t
  rt : ∀ v t, P.rt v t → P'.rt v t
  bk : ∀ e t, P.bk e t → P'.bk e t
  ct : ∀ e t, P.ct e t → P'.ct e t
abbrev WS := Post → En → Tk → Prop
def MonS (w : WS) : Prop := ∀ P P' env tk, P.le P' → w P env tk → w P' env tk
def liftN (c : C) (ω : Wd) (k : L2.St → Hp → Prop) : En → Tk → Prop := fun e t => ∀ σ' ω' H', ω.le ω' → Ok c ω' H' σ' e t → k σ' H'
def postOf (c : C) (ω : Wd) (D : Ends) : Post := { nx := liftN c ω D.nx, rt := fun ev t => ∀ v ω' H', Ret c ω' H' t ev v → D.rt v H', bk := liftN c ω D.bk, ct := liftN c ω D.ct }
def liftS (c : C) (w : WS) : TS := fun D σ H => ∃ ω env tk, Ok c ω H σ env tk ∧ w (postOf c ω D) env tk
structure SS (X : Cx) (c : C) (st : Stmt) (w : WS) : Prop where
  mon : MonS w
  run : PS X st (liftS c w)
structure SSs (X : Cx) (c : C) (st : List Stmt) (w : WS) : Prop where
  mon : MonS w
  run : PSs X st (liftS c w)
theorem _root_.L2.PS.wk {X : Cx} {e : Stmt} {t t' : TS} (h : PS X e t) (k : ∀ D σ H, t' D σ H → t D σ H) : PS X e t' := ⟨fun pins s σ H D I q => h.run pins s σ H D I (k _ _ _ q)⟩
theorem _root_.L2.PSs.wk {X : Cx} {e : List Stmt} {t t' : TS} (h : PSs X e t) (k : ∀ D σ H, t' D σ H → t D σ H) : PSs X e t' := ⟨fun pins s σ H D I q => h.run pins s σ H D I (k _ _ _ q)⟩
theorem liftN_up {c : C} {ω ω' : Wd} (l : ω.le ω') {k : L2.St → Hp → Prop} {e : En} {t : Tk} (h : liftN c ω k e t) : liftN c ω' k e t := fun σ' ω'' H' l' ok => h σ' ω'' H' (l.trans l') ok
theorem postOf_up {c : C} {ω ω' : Wd} (l : ω.le ω') (D : Ends) : (postOf c ω D).le (postOf c ω' D) := ⟨fun _ _ h => liftN_up l h, fun _ _ h => h, fun _ _ h => liftN_up l h, fun _ _ h => liftN_up l h⟩
theorem Post.le.refl (P : Post) : P.le P := ⟨fun _ _ h => h, fun _ _ h => h, fun _ _ h => h, fun _ _ h => h⟩

def wSeq (a b : WS) : WS := fun P env tk => a { P with nx := fun e t => b P e t } env tk
def wNext : WS := fun P env tk => P.nx env tk
theorem MonS.seq {a b : WS} (ma : MonS a) (mb : MonS b) : MonS (wSeq a b) := fun P P' env tk l h => ma _ _ _ _ (by exact ⟨fun e t z => mb _ _ _ _ l z, l.rt, l.bk, l.ct⟩) h
section
variable {X : Cx} {c : C} {st : Stmt} {rest : List Stmt} {a b : WS} {e : Expr} {pos : Pos}
theorem ss_nil : SSs X c [] wNext := ⟨fun P P' env tk l h => l.nx _ _ h, pss_nil.wk fun D σ H ⟨ω, env, tk, ok, h⟩ => h σ ω H (.refl _) ok⟩
theorem ss_cons (ha : SS X c st a) (hb : SSs X c rest b) : SSs X c (st :: rest) (wSeq a b) := ⟨.seq ha.mon hb.mon, (pss_cons ha.run hb.run).wk fun D σ H ⟨ω, env, tk, ok, h⟩ => by
  refine ⟨ω, env, tk, ok, ha.mon { postOf c ω D with nx := fun e t => b (postOf c ω D) e t } _ _ _ ⟨fun e t z σ' ω' H' l ok' => ?_, fun _ _ z => z, fun _ _ z => z, fun _ _ z => z⟩ h⟩
  exact ⟨ω', e, t, ok', hb.mon _ _ _ _ (postOf_up l D) z⟩⟩
theorem ss_one (ha : SS X c st a) : SSs X c [st] a := ⟨ha.mon, pss_one ha.run⟩
def wBrk : WS := fun P env tk => P.bk env tk
def wCnt : WS := fun P env tk => P.ct env tk
theorem ss_pass : SS X c (.Pass pos) wNext := ⟨fun P P' env tk l h => l.nx _ _ h, ps_pass.wk fun D σ H ⟨ω, env, tk, ok, h⟩ => h σ ω H (.refl _) ok⟩
theorem ss_brk : SS X c (.Break pos) wBrk := ⟨fun P P' env tk l h => l.bk _ _ h, ps_break.wk fun D σ H ⟨ω, env, tk, ok, h⟩ => h σ ω H (.refl _) ok⟩
theorem ss_cnt : SS X c (.Continue pos) wCnt := ⟨fun P P' env tk l h => l.ct _ _ h, ps_continue.wk fun D σ H ⟨ω, env, tk, ok, h⟩ => h σ ω H (.refl _) ok⟩
/-- a value dropped -/
def wDrop (w : WE) : WS := fun P env tk => w env tk fun _ e t => P.nx e t
theorem ss_drop {w : WE} (h : SE X c e w) (hs : swapsWith e none pos.line X.env = pure false := by rfl) : SS X c (.Expr e pos) (wDrop w) := ⟨fun P P' env tk l q => h.mon _ _ _ _ (fun _ e t z => l.nx _ _ z) q, (ps_expr h.run hs).wk fun D σ H ⟨ω, env, tk, ok, q⟩ =>
  ⟨ω, env, tk, ok, h.mon _ _ _ _ (fun ev e t z v ω' H' st ok' r => z σ ω' H' st.le ok') q⟩⟩
/-- return -/
def wRet (w : WE) : WS := fun P env tk => w env tk fun ev _ t => P.rt ev t
def wRetV (i : Nat) : WS := fun P env tk => match env[i]? with
  | some (some ev) => P.rt ev tk
  | _ => False
theorem ss_ret {w : WE} (h : SE X c e w) : SS X c (.Return (some e) pos) (wRet w) := ⟨fun P P' env tk l q => h.mon _ _ _ _ (fun _ e t z => l.rt _ _ z) q, (ps_ret h.run).wk fun D σ H ⟨ω, env, tk, ok, q⟩ =>
  ⟨ω, env, tk, ok, h.mon _ _ _ _ (fun ev e t z v ω' H' st ok' r => z v ω' H' (ok'.ret r)) q⟩⟩
theorem ss_retV (i : Nat) {x : Str} {pos' : Pos} (h : PE X (.Name x pos') (tVar i)) : SS X c (.Return (some (.Name x pos')) pos) (wRetV i) := ⟨fun P P' env tk l q => by
  unfold wRetV at q ⊢
  split at q
  · exact l.rt _ _ q
  · exact q, (ps_ret h).wk fun D σ H ⟨ω, env, tk, ok, q⟩ => by
  unfold wRetV at q
  split at q
  · rename_i ev he
    obtain ⟨v, h1, h2⟩ := ok.slots i ev he
    exact ⟨v, h1, q v ω H ⟨ok.sub, ok.st, ok.new, ok.ng, ok.fr, ok.le0, by cases ev <;> exact h2⟩⟩
  · exact q.elim⟩
def wRetN : WS := fun P _ tk => P.rt (.val .non) tk
theorem ss_retN : SS X c (.Return none pos) wRetN := ⟨fun P P' env tk l q => l.rt _ _ q, ps_retN.wk fun D σ H ⟨ω, env, tk, ok, q⟩ => q .non ω H (ok.ret (env := env) (ev := .val .non) (show Rep c.K ω .non .non from Rep.non_iff.mpr rfl))⟩
/-- if -/
def wIfS (t : WT) (a b : WS) : WS := fun P env tk => t env tk fun x e1 t1 => if x = true then a P e1 t1 else b P e1 t1
theorem MonS.if {t : WT} {a b : WS} (mt : Mon t) (ma : MonS a) (mb : MonS b) : MonS (wIfS t a b) := fun P P' env tk l h => mt _ _ _ _ (fun x e t z => by
  cases x with
  | true => exact (if_pos rfl).mpr (ma _ _ _ _ l ((if_pos rfl).mp z))
  | false => exact (if_neg Bool.false_ne_true).mpr (mb _ _ _ _ l ((if_neg Bool.false_ne_true).mp z))) h
theorem ss_if {t : WT} {sa sb : List Stmt} (ht : ST X c e t) (ha : SSs X c sa a) (hb : SSs X c sb b) : SS X c (.If e sa sb pos) (wIfS t a b) := ⟨.if ht.mon ha.mon hb.mon, (ps_if ht.run ha.run hb.run).wk fun D σ H ⟨ω, env, tk, ok, q⟩ =>
  ⟨ω, env, tk, ok, ht.mon _ _ _ _ (fun x e1 t1 z v ω' H' st ok' r => by
    subst r
    cases v with
    | true => exact (if_pos rfl).mpr ⟨ω', e1, t1, ok', ha.mon _ _ _ _ (postOf_up st.le D) ((if_pos rfl).mp z)⟩
    | false => exact (if_neg Bool.false_ne_true).mpr ⟨ω', e1, t1, ok', hb.mon _ _ _ _ (postOf_up st.le D) ((if_neg Bool.false_ne_true).mp z)⟩) q⟩⟩
/-- code that is never reached -/
def wNever : WS := fun _ _ _ => False
theorem ss_never : SS X c st wNever := ⟨fun _ _ _ _ _ h => h, ps_never.wk fun D σ H ⟨_, _, _, _, h⟩ => h.elim⟩

/-! #### stores -/
theorem Ok.set {ω : Wd} {H : Hp} {σ : L2.St} {env : En} {tk : Tk} (ok : Ok c ω H σ env tk) (i : Nat) {ev : EV} {v : V} (r : RepE c ω H σ env ev v) : Ok c ω H (σ.set i (some v)) (env.set i (some ev)) tk where
  len := by rw [List.length_set, List.length_set]; exact ok.len
  sub := ok.sub
  st := ok.st
  slots := fun j e he => by
    by_cases hij : i = j
    · subst hij
      by_cases hl : i < env.length
      · rw [List.getElem?_set_self hl] at he
        cases he
        refine ⟨v, by rw [List.getElem?_set_self (by rw [ok.len]; exact hl)], ?_⟩
        cases ev with
        | val d => exact r
        | own ds => obtain ⟨p, a, b, _⟩ := r; exact ⟨p, a, b⟩
      · rw [List.getElem?_eq_none (by rw [List.length_set]; omega)] at he
        cases he
    · rw [List.getElem?_set_ne hij] at he
      rw [List.getElem?_set_ne hij]
      exact ok.slots j e he
  dist := fun j k p ds es hj hk pj pk => by
    by_cases hij : i = j
    · by_cases hik : i = k
      · omega
      · subst hij
        rw [List.getElem?_set_ne hik] at hk pk
        by_cases hl : i < env.length
        · rw [List.getElem?_set_self hl] at hj
          rw [List.getElem?_set_self (by rw [ok.len]; exact hl)] at pj
          cases hj
          cases pj
          obtain ⟨q, e, _, n⟩ := r
          cases e
          exact absurd pk (n k es hk)
        · rw [List.getElem?_eq_none (by rw [List.length_set]; omega)] at hj
          cases hj
    · rw [List.getElem?_set_ne hij] at hj pj
      by_cases hik : i = k
      · subst hik
        by_cases hl : i < env.length
        · rw [List.getElem?_set_self hl] at hk
          rw [List.getElem?_set_self (by rw [ok.len]; exact hl)] at pk
          cases hk
          cases pk
          obtain ⟨q, e, _, n⟩ := r
          cases e
          exact absurd pj (n j ds hj)
        · rw [List.getElem?_eq_none (by rw [List.length_set]; omega)] at hk
          cases hk
      · rw [List.getElem?_set_ne hik] at hk pk
        exact ok.dist j k p ds es hj hk pj pk
  new := ok.new
  ng := ok.ng
  fr := ok.fr
  le0 := ok.le0
  pr := ok.pr
def wSet (i : Nat) (w : WE) : WS := fun P env tk => w env tk fun ev e t => P.nx (e.set i (some ev)) t
theorem MonS.set {i : Nat} {w : WE} (m : Mon w) : MonS (wSet i w) := fun P P' env tk l q => m _ _ _ _ (fun _ e t z => l.nx _ _ z) q
theorem run_set {i : Nat} {w : WE} (m : Mon w) {D : Ends} {σ : L2.St} {H : Hp} (h : liftS c (wSet i w) D σ H) : tAsg (liftE c w) (gName i) D σ H := by
  obtain ⟨ω, env, tk, ok, q⟩ := h
  exact ⟨ω, env, tk, ok, m _ _ _ _ (fun ev e t z v ω' H' st ok' r => z _ ω' H' st.le (ok'.set i r)) q⟩
theorem ss_set {i : Nat} {x : Str} {w : WE} {pos' : Pos} (hN : X.N.Nodup) (hi : X.N[i]? = some x) (hx : Loc X.env.scope x) (h : SE X c e w) (hs : swapsWith e (some (.Name x pos')) pos.line X.env = pure false := by rfl) (hf : X.fn x = true ∨ X.env.scope.names.lookup x = some .local := by first | exact .inl rfl | exact .inr rfl | assumption) :
    SS X c (.Assign [.Name x pos'] e pos) (wSet i w) := ⟨.set h.mon, (ps_set hN hi hx h.run hs hf).wk fun _ _ _ q => run_set h.mon q⟩

/-! #### targets -/
abbrev WG := D → En → (En → Prop) → Prop
abbrev WGs := List D → En → (En → Prop) → Prop
def Off (vs : List Nat) (σ σ' : L2.St) : Prop := σ'.length = σ.length ∧ ∀ j, j ∉ vs → σ'[j]? = σ[j]?
theorem Off.set (i : Nat) (v : Option V) (σ : L2.St) : Off [i] σ (σ.set i v) := ⟨List.length_set, fun j h => List.getElem?_set_ne fun e => h (by rw [e]; exact List.mem_singleton.mpr rfl)⟩
theorem Off.refl (vs : List Nat) (σ : L2.St) : Off vs σ σ := ⟨rfl, fun _ _ => rfl⟩
theorem Off.app {vs us : List Nat} {σ σ1 σ2 : L2.St} (a : Off vs σ σ1) (b : Off us σ1 σ2) : Off (vs ++ us) σ σ2 := ⟨b.1.trans a.1, fun j h => (b.2 j fun e => h (List.mem_append_right _ e)).trans (a.2 j fun e => h (List.mem_append_left _ e))⟩
abbrev Offl (vs : List Nat) (e e' : En) : Prop := e'.length = e.length ∧ ∀ j, j ∉ vs → e'[j]? = e[j]?
structure SG (X : Cx) (c : C) (tg : Expr) (t : TG) (g : WG) (vs : List Nat) : Prop where
  mon : ∀ d env Q Q', (∀ e, Q e → Q' e) → g d env Q → g d env Q'
  loc : ∀ d env Q, g d env Q → g d env fun e => Offl vs env e ∧ Q e
  pg : PG X tg t
  run : ∀ (σ : L2.St) (H : Hp) (v : V) (Q : L2.St → Hp → Prop) (ω : Wd) (env : En) (tk : Tk) (d : D), Ok c ω H σ env tk → Rep c.K ω d v → g d env (fun env' => ∀ σ', Off vs σ σ' → Ok c ω H σ' env' tk → Q σ' H) → t v σ H Q
structure SGs (X : Cx) (c : C) (tg : List Expr) (t : TGs) (g : WGs) (vs : List Nat) : Prop where
  mon : ∀ d env Q Q', (∀ e, Q e → Q' e) → g d env Q → g d env Q'
  loc : ∀ d env Q, g d env Q → g d env fun e => Offl vs env e ∧ Q e
  pg : PGs X tg t
  run : ∀ (σ : L2.St) (H : Hp) (v : List V) (Q : L2.St → Hp → Prop) (ω : Wd) (env : En) (tk : Tk) (d : List D), Ok c ω H σ env tk → Reps c.K ω d v → g d env (fun env' => ∀ σ', Off vs σ σ' → Ok c ω H σ' env' tk → Q σ' H) → t v σ H Q
def gN (i : Nat) : WG := fun d env Q => Q (env.set i (some (.val d)))
def gNl : WGs := fun ds env Q => match ds with
  | [] => Q env
  | _ => False
def gCs (g : WG) (h : WGs) : WGs := fun ds env Q => match ds with
  | d :: r => g d env fun e => h r e Q
  | [] => False
def gT (n : Nat) (g : WGs) : WG := fun d env Q => match d with
  | .tup ds => ds.length = n ∧ g ds env Q
  | _ => False
theorem sg_n {i : Nat} {x : Str} (hN : X.N.Nodup) (hi : X.N[i]? = some x) (hx : Loc X.env.scope x) (hf : X.fn x = true ∨ X.env.scope.names.lookup x = some .local := by first | exact .inl rfl | exact .inr rfl | assumption) : SG X c (.Name x pos) (gName i) (gN i) [i] where
  mon := fun d env Q Q' h q => h _ q
  loc := fun d env Q q => ⟨⟨List.length_set, fun j h => List.getElem?_set_ne fun e => h (by rw [e]; exact List.mem_singleton.mpr rfl)⟩, q⟩
  pg := pg_name hN hi hx hf
  run := fun σ H v Q ω env tk d ok r h => h _ (.set i _ σ) (ok.set i (ev := .val d) r)
theorem sg_nil : SGs X c [] gNil gNl [] where
  mon := fun d env Q Q' h q => by cases d <;> first | exact h _ q | exact (show False from q).elim
  loc := fun d env Q q => by cases d <;> first | exact (show False from q).elim | exact ⟨⟨rfl, fun _ _ => rfl⟩, q⟩
  pg := pgs_nil
  run := fun σ H v Q ω env tk d ok r h => by
    cases d with
    | nil => exact ⟨Reps.nil_iff.mp r, h _ (.refl _ _) ok⟩
    | cons d ds => exact (show False from h).elim
theorem sg_cons {tg : Expr} {ts : List Expr} {t : TG} {u : TGs} {g : WG} {h : WGs} {vs us : List Nat} (hg : SG X c tg t g vs) (hh : SGs X c ts u h us) (hs : (assignEach (tg :: ts) X.env).map (·.2) = assign tg X.env :: (assignEach ts X.env).map (·.2) := by rfl) : SGs X c (tg :: ts) (gCons t u) (gCs g h) (vs ++ us) where
  mon := fun d env Q Q' k q => by
    cases d with
    | nil => exact (show False from q).elim
    | cons d ds => exact hg.mon _ _ _ _ (fun e z => hh.mon _ _ _ _ k z) q
  loc := fun d env Q q => by
    cases d with
    | nil => exact (show False from q).elim
    | cons d ds => exact hg.mon _ _ _ _ (fun e z => hh.mon _ _ _ _ (fun e2 z2 => ⟨⟨z2.1.1.trans z.1.1, fun j hj => (z2.1.2 j fun m => hj (List.mem_append_right _ m)).trans (z.1.2 j fun m => hj (List.mem_append_left _ m))⟩, z2.2⟩) (hh.loc _ _ _ z.2)) (hg.loc _ _ _ q)
  pg := pgs_cons hg.pg hh.pg hs
  run := fun σ H v Q ω env tk d ok r q => by
    cases d with
    | nil => exact (show False from q).elim
    | cons d ds =>
      obtain ⟨v0, vr, rfl, a1, a2⟩ := Reps.cons_iff.mp r
      exact ⟨v0, vr, rfl, hg.run σ H v0 _ ω env tk d ok a1 (hg.mon _ _ _ _ (fun e z σ' f1 ok' => hh.run σ' H vr Q ω e tk ds ok' a2 (hh.mon _ _ _ _ (fun e2 z2 σ2 f2 ok2 => z2 σ2 (f1.app f2) ok2) z)) q)⟩
theorem sg_tup {es : List Expr} {k n : Nat} {t : TGs} {g : WGs} {vs : List Nat} (hK : c.K = X.K) (hc : X.calm = true) (hg : SGs X c es t g vs) (hn : (assignEach es X.env).length = n := by rfl) (hst : (assignEach es X.env).findIdx? (·.1) = none := by rfl) : SG X c (.Tuple es k pos) (gTup X.K n t) (gT n g) vs where
  mon := fun d env Q Q' k q => by cases d <;> first | exact (show False from q).elim | exact ⟨q.1, hg.mon _ _ _ _ k q.2⟩
  loc := fun d env Q q => by cases d <;> first | exact (show False from q).elim | exact ⟨q.1, hg.loc _ _ _ q.2⟩
  pg := pg_tup hc hg.pg hn hst
  run := fun σ H v Q ω env tk d ok r q => by
    cases d <;> first | exact (show False from q).elim | skip
    obtain ⟨a, vs, rfl, h1, h2⟩ := Rep.tup_iff.mp r
    rw [hK] at h1
    exact ⟨a, vs, rfl, sqT_mono ok.sub h1, by rw [h2.length]; exact q.1, hg.run σ H vs Q ω env tk _ ok h2 q.2⟩
def wAsg (w : WD) (g : WG) : WS := fun P env tk => w env tk fun d e t => g d e fun e' => P.nx e' t
theorem ss_asg {tg : Expr} {w : WD} {t : TG} {g : WG} {vs : List Nat} (h : SD X c e w) (hg : SG X c tg t g vs) (hs : swapsWithSole [tg] e pos.line X.env = pure false := by rfl) (hw : swappedStores [tg] e X.env = pure none := by rfl)
    (h1 : (assignEach [tg] X.env).map (·.2) = [assign tg X.env] := by rfl) : SS X c (.Assign [tg] e pos) (wAsg w g) := by
  refine ⟨fun P P' env tk l q => h.mon _ _ _ _ (fun d e t z => hg.mon _ _ _ _ (fun e' z => l.nx _ _ z) z) q, (ps_asg h.run hg.pg hs hw h1).wk fun D σ H ⟨ω, env, tk, ok, q⟩ => ?_⟩
  refine ⟨ω, env, tk, ok, h.mon _ _ _ _ (fun d e1 t1 z v ω' H' st ok' r => ?_) q⟩
  exact hg.run σ H' v _ ω' e1 t1 d ok' r (hg.mon _ _ _ _ (fun e' z σ' _ ok'' => z σ' ω' H' st.le ok'') z)
/-- a, b = x, y -/
def wPar (i j : Nat) (r : WA) : WS := fun P env tk => r env tk fun ds e t => match ds with
  | [x, y] => P.nx ((e.set i (some (.val x))).set j (some (.val y))) t
  | _ => False
def wPar3 (i j l : Nat) (r : WA) : WS := fun P env tk => r env tk fun ds e t => match ds with
  | [x, y, z] => P.nx (((e.set i (some (.val x))).set j (some (.val y))).set l (some (.val z))) t
  | _ => False
theorem MonS.par {i j : Nat} {r : WA} (m : Mon r) : MonS (wPar i j r) := fun P P' env tk l q => m _ _ _ _ (fun ds e t z => by
  match ds, z with
  | [x, y], z => exact l.nx _ _ z) q
theorem MonS.par3 {i j k : Nat} {r : WA} (m : Mon r) : MonS (wPar3 i j k r) := fun P P' env tk l q => m _ _ _ _ (fun ds e t z => by
  match ds, z with
  | [x, y, w], z => exact l.nx _ _ z) q
theorem run_par {i j : Nat} {r : WA} (m : Mon r) {D : Ends} {σ : L2.St} {H : Hp} (h : liftS c (wPar i j r) D σ H) : tPar i j (liftA c r) D σ H := by
  obtain ⟨ω, env, tk, ok, q⟩ := h
  refine ⟨ω, env, tk, ok, m _ _ _ _ (fun ds e t z vs ω' H' st ok' rr => ?_) q⟩
  match ds, z with
  | [x, y], z =>
    obtain ⟨v0, vr, rfl, a1, a2⟩ := Reps.cons_iff.mp rr
    obtain ⟨v1, vr, rfl, a3, a4⟩ := Reps.cons_iff.mp a2
    rw [Reps.nil_iff] at a4
    subst a4
    exact ⟨v0, v1, rfl, z _ ω' H' st.le ((ok'.set i (ev := .val x) a1).set j (ev := .val y) a3)⟩
theorem run_par3 {i j k : Nat} {r : WA} (m : Mon r) {D : Ends} {σ : L2.St} {H : Hp} (h : liftS c (wPar3 i j k r) D σ H) : tPar3 i j k (liftA c r) D σ H := by
  obtain ⟨ω, env, tk, ok, q⟩ := h
  refine ⟨ω, env, tk, ok, m _ _ _ _ (fun ds e t z vs ω' H' st ok' rr => ?_) q⟩
  match ds, z with
  | [x, y, w], z =>
    obtain ⟨v0, vr, rfl, a1, a2⟩ := Reps.cons_iff.mp rr
    obtain ⟨v1, vr, rfl, a3, a4⟩ := Reps.cons_iff.mp a2
    obtain ⟨v2, vr, rfl, a5, a6⟩ := Reps.cons_iff.mp a4
    rw [Reps.nil_iff] at a6
    subst a6
    exact ⟨v0, v1, v2, rfl, z _ ω' H' st.le (((ok'.set i (ev := .val x) a1).set j (ev := .val y) a3).set k (ev := .val w) a5)⟩
end
end DL

namespace DL
open PySem PySem.Spec PyProof.Rows L2

section
variable {X : Cx} {c : C} {st : Stmt} {rest : List Stmt} {a b : WS} {e : Expr} {pos apos p p2 : Pos} {x : Str}
/-! ### append, extend -/
theorem Ok.mut {ω : Wd} {H : Hp} {σ : L2.St} {env : En} {tk : Tk} (ok : Ok c ω H σ env tk) {i : Nat} {ds es : List D} {q : Addr} {us : List V} (he : env[i]? = some (some (.own ds))) (hp : σ[i]? = some (some (.ref q))) (r : Reps c.K ω es us) :
    Ok c ω (upd H q (.lst us)) σ (env.set i (some (.own es))) tk := by
  obtain ⟨v, hv, q', e, vs, a1, a2, a3, a4, a5⟩ := ok.slots i _ he
  rw [hp] at hv
  cases hv
  cases e
  have hl : i < env.length := (List.getElem?_eq_some_iff.mp he).1
  exact {
    len := by rw [List.length_set]; exact ok.len
    sub := fun b o h => by
      rw [upd_ne (fun e => by rw [e, a2] at h; cases h)]
      exact ok.sub b o h
    st := by
      rcases ok.st with z | ⟨a', k, e, e1, e0, nn, ns, e2, r1, r2⟩
      · exact .inl z
      · exact .inr ⟨a', k, e, e1, e0, nn, ns, by rw [upd_ne (fun z => a3 (by rw [e, z]))]; exact e2, r1, r2⟩
    slots := fun j ev hj => by
      by_cases hij : i = j
      · subst hij
        rw [List.getElem?_set_self hl] at hj
        cases hj
        exact ⟨_, hp, q, rfl, us, upd_same, a2, a3, a4, r⟩
      · rw [List.getElem?_set_ne hij] at hj
        obtain ⟨v, h1, h2⟩ := ok.slots j ev hj
        refine ⟨v, h1, ?_⟩
        cases ev with
        | val d => exact h2
        | own ls =>
          obtain ⟨t, rfl, ws, b1, b2⟩ := h2
          exact ⟨t, rfl, ws, by rw [upd_ne (fun z => hij (ok.dist i j q _ _ he hj hp (by rw [h1, z])))]; exact b1, b2⟩
    dist := fun j k t ls ms hj hk pj pk => by
      have g : ∀ (j : Nat) (ls : List D), (env.set i (some (.own es)))[j]? = some (some (.own ls)) → ∃ ls', env[j]? = some (some (.own ls')) := fun j ls h => by
        by_cases hij : i = j
        · subst hij
          exact ⟨ds, he⟩
        · rw [List.getElem?_set_ne hij] at h
          exact ⟨ls, h⟩
      obtain ⟨l1, g1⟩ := g j ls hj
      obtain ⟨l2, g2⟩ := g k ms hk
      exact ok.dist j k t l1 l2 g1 g2 pj pk
    new := ok.new
    ng := ok.ng
    fr := fun b o h n => by
      rw [upd_ne (ne_of_none h a4.1)]
      exact ok.fr b o h n
    le0 := ok.le0
    pr := fun b h => by
      obtain ⟨h1, h2, h3⟩ := ok.pr b h
      have hq : b ≠ q := fun z => a4.2 (by rw [← z]; exact h)
      exact ⟨by rw [upd_ne hq]; exact h1, h2, h3⟩ }
def wApp (i : Nat) (w : WD) : WS := fun P env tk => match env[i]? with
  | some (some (.own _)) => w env tk fun d e t => match e[i]? with
    | some (some (.own ds)) => ds.length < sizeLine ∧ P.nx (e.set i (some (.own (ds ++ [d])))) t
    | _ => False
  | _ => False
theorem MonS.app {i : Nat} {w : WD} (m : Mon w) : MonS (wApp i w) := fun P P' env tk l q => by
  unfold wApp at q ⊢
  split at q
  · refine m _ _ _ _ (fun d e t z => ?_) q
    split at z
    · exact ⟨z.1, l.nx _ _ z.2⟩
    · exact z
  · exact q
theorem ss_app (i : Nat) {w : WD} (h : PE X (.Name x p) (tVar i)) (hw : SD X c e w) (hline : (apos.endLine == pos.line) = true := by rfl) (hs : starEach [e] X.env = [(false, eval e X.env)] := by rfl)
    (hsw : swapsWith (.Call (.Attribute (.Name x p) "append" apos) [e] [] pos) none p2.line X.env = pure false := by rfl) (hbase : attributeBase (.Name x p) "append" X.env (eval (.Name x p) X.env) = eval (.Name x p) X.env := by rfl)
    (hfew : ((backTo pos (starEach [e] X.env)).all (fun x => !x.1) && (backToKw pos (keywordEach [] X.env)).all (fun x => x.1.isSome)
      && decide (([e] : List Expr).length + ([] : List Keyword).length + (if ([] : List Keyword).isEmpty then 0 else 1) < 30)) = true := by rfl) : SS X c (.Expr (.Call (.Attribute (.Name x p) "append" apos) [e] [] pos) p2) (wApp i w) := by
  refine ⟨.app hw.mon, (ps_expr (pe_bm PySem.F.plainAttrs_list PySem.F.slot_list_append PySem.F.type_list_append mt_append h (pa_cons hw.run pa_nil hs) hbase hfew hline hs rfl) hsw).wk fun D σ H ⟨ω, env, tk, ok, q⟩ => ?_⟩
  unfold wApp at q
  split at q
  · rename_i ds0 he0
    obtain ⟨v, hv, q0, rfl, vs0, a1, a2, a3, a4, a5⟩ := ok.slots i _ he0
    refine ⟨_, hv, .inl ⟨rfl, _, .of a1⟩, ω, env, tk, ok, hw.mon _ _ _ _ (fun d e1 t1 z v ω' H' st ok' r => ?_) q⟩
    split at z
    · rename_i ds he
      obtain ⟨z1, z2⟩ := z
      obtain ⟨v', hv', q1, rfl, vs, b1, b2, b3, b4, b5⟩ := ok'.slots i _ he
      rw [hv] at hv'
      cases hv'
      refine ⟨_, vs, v, rfl, rfl, b1, by rw [b5.length]; exact z1, z2 σ ω' _ st.le (ok'.mut he hv (b5.append (Reps.cons r Reps.nil)))⟩
    · exact z.elim
  · exact q.elim
def wExt (i : Nat) (w : WE) : WS := fun P env tk => match env[i]? with
  | some (some (.own _)) => w env tk fun ev e t => match e[i]?, ev with
    | some (some (.own ds)), .own es => ds.length + es.length ≤ sizeLine ∧ P.nx (e.set i (some (.own (ds ++ es)))) t
    | _, _ => False
  | _ => False
theorem MonS.ext {i : Nat} {w : WE} (m : Mon w) : MonS (wExt i w) := fun P P' env tk l q => by
  unfold wExt at q ⊢
  split at q
  · refine m _ _ _ _ (fun d e t z => ?_) q
    split at z
    · exact ⟨z.1, l.nx _ _ z.2⟩
    · exact z
  · exact q
theorem ss_ext (i : Nat) {w : WE} (h : PE X (.Name x p) (tVar i)) (hw : SE X c e w) (hline : (apos.endLine == pos.line) = true := by rfl) (hs : starEach [e] X.env = [(false, eval e X.env)] := by rfl)
    (hsw : swapsWith (.Call (.Attribute (.Name x p) "extend" apos) [e] [] pos) none p2.line X.env = pure false := by rfl) (hbase : attributeBase (.Name x p) "extend" X.env (eval (.Name x p) X.env) = eval (.Name x p) X.env := by rfl)
    (hfew : ((backTo pos (starEach [e] X.env)).all (fun x => !x.1) && (backToKw pos (keywordEach [] X.env)).all (fun x => x.1.isSome)
      && decide (([e] : List Expr).length + ([] : List Keyword).length + (if ([] : List Keyword).isEmpty then 0 else 1) < 30)) = true := by rfl) : SS X c (.Expr (.Call (.Attribute (.Name x p) "extend" apos) [e] [] pos) p2) (wExt i w) := by
  refine ⟨.ext hw.mon, (ps_expr (pe_bm PySem.F.plainAttrs_list PySem.F.slot_list_extend PySem.F.type_list_extend mt_extend h (pa_cons hw.run pa_nil hs) hbase hfew hline hs rfl) hsw).wk fun D σ H ⟨ω, env, tk, ok, q⟩ => ?_⟩
  unfold wExt at q
  split at q
  · rename_i ds0 he0
    obtain ⟨v, hv, q0, rfl, vs0, a1, a2, a3, a4, a5⟩ := ok.slots i _ he0
    refine ⟨_, hv, .inl ⟨rfl, _, .of a1⟩, ω, env, tk, ok, hw.mon _ _ _ _ (fun d e1 t1 z v ω' H' st ok' r => ?_) q⟩
    split at z
    · rename_i ds es he
      obtain ⟨z1, z2⟩ := z
      obtain ⟨v', hv', q1, rfl, vs, b1, b2, b3, b4, b5⟩ := ok'.slots i _ he
      rw [hv] at hv'
      cases hv'
      obtain ⟨q2, rfl, ⟨us, d1, d2, d3, d4, d5⟩, _⟩ := r
      refine ⟨_, q2, vs, us, rfl, rfl, b1, d1, by rw [b5.length, d5.length]; exact z1, z2 σ ω' _ st.le (ok'.mut he hv (b5.append d5))⟩
    · exact z.elim
  · exact q.elim
/-- a list just made, appended to and dropped -/
def wAppT (w : WE) : WS := fun P env tk => w env tk fun ev e t => match ev with
  | .own ds => ds.length < sizeLine ∧ P.nx e t
  | _ => False
theorem ss_appT {a : Expr} {w : WE} {v : V} (hw : SE X c e w) (hv : PE X a (tC v)) (hline : (apos.endLine == pos.line) = true := by rfl) (hs : starEach [a] X.env = [(false, eval a X.env)] := by rfl)
    (hsw : swapsWith (.Call (.Attribute e "append" apos) [a] [] pos) none p2.line X.env = pure false := by rfl) (hbase : attributeBase e "append" X.env (eval e X.env) = eval e X.env := by rfl)
    (hfew : ((backTo pos (starEach [a] X.env)).all (fun x => !x.1) && (backToKw pos (keywordEach [] X.env)).all (fun x => x.1.isSome)
      && decide (([a] : List Expr).length + ([] : List Keyword).length + (if ([] : List Keyword).isEmpty then 0 else 1) < 30)) = true := by rfl) : SS X c (.Expr (.Call (.Attribute e "append" apos) [a] [] pos) p2) (wAppT w) := by
  refine ⟨fun P P' env tk l q => hw.mon _ _ _ _ (fun ev e t z => by cases ev <;> first | exact (show False from z).elim | exact ⟨z.1, l.nx _ _ z.2⟩) q, (ps_expr (pe_bm PySem.F.plainAttrs_list PySem.F.slot_list_append PySem.F.type_list_append mt_append hw.run (pa_cons hv pa_nil hs) hbase hfew hline hs rfl) hsw).wk fun D σ H ⟨ω, env, tk, ok, q⟩ => ?_⟩
  refine ⟨ω, env, tk, ok, hw.mon _ _ _ _ (fun ev e1 t1 z u ω' H' st ok' r => ?_) q⟩
  cases ev with
  | val d => exact (show False from z).elim
  | own ds =>
    obtain ⟨q1, rfl, ⟨vs, b1, b2, b3, b4, b5⟩, hn⟩ := r
    obtain ⟨z1, z2⟩ := z
    refine ⟨.inl ⟨rfl, _, .of b1⟩, q1, vs, v, rfl, rfl, b1, by rw [b5.length]; exact z1, z2 σ ω' _ st.le ?_⟩
    exact {
      len := ok'.len
      sub := fun b o h => by
        rw [upd_ne (fun e => by rw [e, b2] at h; cases h)]
        exact ok'.sub b o h
      st := by
        rcases ok'.st with z | ⟨a', k, e, e1, e0, nn, ns, e2, r1, r2⟩
        · exact .inl z
        · exact .inr ⟨a', k, e, e1, e0, nn, ns, by rw [upd_ne (fun z => b3 (by rw [e, z]))]; exact e2, r1, r2⟩
      slots := fun j ev hj => by
        obtain ⟨v, h1, h2⟩ := ok'.slots j ev hj
        refine ⟨v, h1, ?_⟩
        cases ev with
        | val d => exact h2
        | own ls =>
          obtain ⟨t, rfl, ws, c1, c2⟩ := h2
          exact ⟨t, rfl, ws, by rw [upd_ne (fun z => hn j ls hj (by rw [h1, z]))]; exact c1, c2⟩
      dist := ok'.dist
      new := ok'.new
      ng := ok'.ng
      fr := fun b o h n => by
        rw [upd_ne (ne_of_none h b4.1)]
        exact ok'.fr b o h n
      le0 := ok'.le0
      pr := fun b h => by
        obtain ⟨h1, h2, h3⟩ := ok'.pr b h
        have hq : b ≠ q1 := fun z => b4.2 (by rw [← z]; exact h)
        exact ⟨by rw [upd_ne hq]; exact h1, h2, h3⟩ }

/-! ### while -/
def wWhile (t : WT) (b : WS) : WS := fun P env tk => ∃ I : Nat → En → Tk → Prop, (∃ m, I m env tk) ∧ ∀ m e k, I m e k →
  t e k fun x e1 k1 => if x = true then b { P with nx := fun e2 k2 => ∃ m', m' < m ∧ I m' e2 k2, ct := fun e2 k2 => ∃ m', m' < m ∧ I m' e2 k2, bk := P.nx } e1 k1 else P.nx e1 k1
theorem MonS.while {t : WT} {b : WS} (mt : Mon t) (mb : MonS b) : MonS (wWhile t b) := fun P P' env tk l ⟨I, h0, h⟩ => ⟨I, h0, fun m e k hi => mt _ _ _ _ (fun x e1 k1 z => by
  cases x with
  | true => exact (if_pos rfl).mpr (mb _ _ _ _ (by exact ⟨fun _ _ z => z, l.rt, l.nx, fun _ _ z => z⟩) ((if_pos rfl).mp z))
  | false => exact (if_neg Bool.false_ne_true).mpr (l.nx _ _ ((if_neg Bool.false_ne_true).mp z))) (h m e k hi)⟩
theorem ss_while {t : WT} {body : List Stmt} (hp : PassesOwn (model X.prog X.w) X.A X.env X.xe) (ht : ST X c e t) (hb : SSs X c body b) : SS X c (.While e body [] pos) (wWhile t b) := by
  refine ⟨.while ht.mon hb.mon, (ps_while hp ht.run hb.run).wk fun D σ H ⟨ω, env, tk, ok, I, ⟨m0, h0⟩, h⟩ => ?_⟩
  refine ⟨fun m σ H => ∃ ω' e k, ω.le ω' ∧ Ok c ω' H σ e k ∧ I m e k, ⟨m0, ω, env, tk, .refl _, ok, h0⟩, fun m σ H ⟨ω1, e1, k1, l1, ok1, i1⟩ => ?_⟩
  refine ⟨ω1, e1, k1, ok1, ht.mon _ _ _ _ (fun x e2 k2 z v ω2 H2 st ok2 r => ?_) (h m e1 k1 i1)⟩
  subst r
  cases v with
  | true =>
    refine (if_pos rfl).mpr ⟨fun σ' H' => ∃ m', m' < m ∧ ∃ ω' e k, ω.le ω' ∧ Ok c ω' H' σ' e k ∧ I m' e k, fun _ _ z => z, ω2, e2, k2, ok2, hb.mon _ _ _ _ ?_ ((if_pos rfl).mp z)⟩
    have l2 : ω.le ω2 := l1.trans st.le
    exact ⟨fun e t ⟨m', hm, hi⟩ σ' ω' H' l' ok' => ⟨m', hm, ω', e, t, l2.trans l', ok', hi⟩, fun _ _ z => z, fun e t z => liftN_up l2 z, fun e t ⟨m', hm, hi⟩ σ' ω' H' l' ok' => ⟨m', hm, ω', e, t, l2.trans l', ok', hi⟩⟩
  | false => exact (if_neg Bool.false_ne_true).mpr (((if_neg Bool.false_ne_true).mp z) σ ω2 H2 (l1.trans st.le) ok2)

/-! ### what is walked -/
def Src (K : PySem.W.Frag) (ω : Wd) (J : It) (ds : List D) : Prop := ∀ (i : Nat) (ω' : Wd) (H : Hp), ω.le ω' → (∀ b o, ω'.hd b = some o → H b = some o) → (i < ds.length → J.go i H) ∧ (ds.length ≤ i → J.stop i H) ∧ ∀ x H', J.yld i H x H' → H' = H ∧ ∀ d, ds[i]? = some d → Rep K ω' d x
structure SI (X : Cx) (c : C) (tg it : Expr) (wi : TI) (w : WA) : Prop where
  mon : Mon w
  pi : PI X tg it wi
  run : ∀ (σ : L2.St) (H : Hp) (R : It → Hp → Prop), lift c (fun ω _ _ _ ds J => Src c.K ω J ds) w σ H R → wi σ H R
def iSeq (K : PySem.W.Frag) (tl : TE) : TI := fun σ H R => tl σ H fun x H1 => (∃ a, x = .ref a ∧ (∃ xs, SqL K H1 a xs) ∧ R (Itl K a) H1) ∨ (∃ a, x = .ref a ∧ (∃ xs, SqT K H1 a xs) ∧ R (Itt K a) H1)
theorem pi_seq {tg l : Expr} {tl : TE} (hl : PE X l tl) : PI X tg l (iSeq X.K tl) := by
  refine ⟨fun pins s σ H R I h => ?_⟩
  refine thn (hl.run pins s σ H _ I h) fun v s1 ⟨x, H1, I1, r1, q1⟩ => ?_
  rcases q1 with q1 | q1
  · exact (show wpAny _ _ (pyIter v) (PIE X pins σ tg R) X.xe s1 from by
      obtain ⟨a, e, ⟨xs, hq⟩, q⟩ := q1
      subst e
      cases r1
      obtain ⟨its, rv, p, hz⟩ := I1.list hq
      refine wpAny_pyIter_list p.isList ?_
      refine ⟨s1.heap.objs.size, [s1.heap.objs.size], _, _, H1, rfl, I1.kept (t' := s1.toks) fun b o e => Heap.get?_push_of_some _ e, turn_list a _, ⟨_, Heap.get?_push_size _ rfl, rfl, rfl⟩, fun b hb => ?_, q⟩
      have e : b = s1.heap.objs.size := by simpa using hb
      subst e
      exact I1.fpOk (Nat.le_refl _) (I1.hok.fresh (Nat.le_refl _)))
  · obtain ⟨a, e, ⟨xs, hq⟩, q⟩ := q1
    subst e
    cases r1
    obtain ⟨its, rv, p, hz⟩ := I1.tuple hq
    refine wpAny_pyIter_tuple (show s1.heap.IsTuple a its.toArray from p) ?_
    refine ⟨s1.heap.objs.size, [s1.heap.objs.size], _, _, H1, rfl, I1.kept (t' := s1.toks) fun b o e => Heap.get?_push_of_some _ e, turn_tuple a _, ⟨_, Heap.get?_push_size _ rfl, rfl, rfl⟩, fun b hb => ?_, q⟩
    have e : b = s1.heap.objs.size := by simpa using hb
    subst e
    exact I1.fpOk (Nat.le_refl _) (I1.hok.fresh (Nat.le_refl _))
def wSrc (w : WD) : WA := fun env tk Q => w env tk fun d e t => match d with
  | .lst ds => Q ds e t
  | .tup ds => Q ds e t
  | _ => False
theorem Mon.src {w : WD} (m : Mon w) : Mon (wSrc w) := fun env tk Q Q' h q => m _ _ _ _ (fun d e t z => by cases d <;> first | exact (show False from z).elim | exact h _ _ _ z) q
/-- the content is told by the place alone -/
def OneL (K : PySem.W.Frag) (H : Hp) (a : Addr) : Prop := ∀ xs ys, SqL K H a xs → SqL K H a ys → xs = ys
theorem si_seq {tg : Expr} {w : WD} (hK : c.K = X.K) (h : SD X c e w) : SI X c tg e (iSeq X.K (liftD c w)) (wSrc w) := by
  refine ⟨.src h.mon, pi_seq h.run, fun σ H R ⟨ω, env, tk, ok, q⟩ => ?_⟩
  refine ⟨ω, env, tk, ok, h.mon _ _ _ _ (fun d e1 t1 z v ω' H' st ok' r => ?_) q⟩
  cases d <;> first | exact (show False from z).elim | skip
  · obtain ⟨a, vs, rfl, h1, h2⟩ := Rep.tup_iff.mp r
    refine .inr ⟨a, rfl, ⟨vs, by rw [← hK]; exact sqT_mono ok'.sub h1⟩, z _ ω' H' st ok' fun i ω2 H2 l sub => ?_⟩
    have h3 : SqT X.K H2 a vs := by rw [← hK]; exact sqT_mono (fun b o h => sub b o (l.hd b o h)) h1
    refine ⟨fun hi => ?_, fun hi => ⟨vs, h3, by rw [h2.length]; exact hi⟩, fun x H3 y => ⟨y.1, fun d hd => ?_⟩⟩
    · have hi' : i < vs.length := by rw [h2.length]; exact hi
      exact ⟨vs, vs[i], h3, List.getElem?_eq_getElem hi'⟩
    · obtain ⟨u, hu, ru⟩ := h2.get hd
      have := y.2 vs h3
      rw [hu] at this
      cases this
      exact ru.mono l
  · obtain ⟨a, vs, rfl, h1, h2⟩ := Rep.lst_iff.mp r
    refine .inl ⟨a, rfl, ⟨vs, by rw [← hK]; exact sqL_mono ok'.sub h1⟩, z _ ω' H' st ok' fun i ω2 H2 l sub => ?_⟩
    have h3 : SqL X.K H2 a vs := by rw [← hK]; exact sqL_mono (fun b o h => sub b o (l.hd b o h)) h1
    refine ⟨fun hi => ?_, fun hi => ⟨vs, h3, by rw [h2.length]; exact hi⟩, fun x H3 y => ⟨y.1, fun d hd => ?_⟩⟩
    · have hi' : i < vs.length := by rw [h2.length]; exact hi
      exact ⟨vs, vs[i], h3, List.getElem?_eq_getElem hi'⟩
    · obtain ⟨u, hu, ru⟩ := h2.get hd
      have := y.2 vs h3
      rw [hu] at this
      cases this
      exact ru.mono l
def rngD (lo : Int) (n : Nat) : List D := (List.range n).map fun (i : Nat) => D.int (lo + (i : Int))
theorem src_rng {K : PySem.W.Frag} {ω : Wd} {lo : Int} {n : Nat} : Src K ω (Itr lo n) (rngD lo n) := fun i ω' H l sub => by
  have hl : (rngD lo n).length = n := by unfold rngD; rw [List.length_map, List.length_range]
  rw [hl]
  refine ⟨fun h => h, fun h => h, fun x H' y => ⟨y.1, fun d hd => ?_⟩⟩
  have hi : i < n := by rw [← hl]; exact (List.getElem?_eq_some_iff.mp hd).1
  unfold rngD at hd
  rw [List.getElem?_map, List.getElem?_range hi] at hd
  cases hd
  rw [y.2]
  exact Rep.int_iff.mpr rfl
def wR1 (a : WD) : WA := fun env tk Q => a env tk fun x e t => match x with
  | .int j => -(2 ^ 62) ≤ j ∧ j < 2 ^ 62 ∧ Q (rngD 0 j.toNat) e t
  | _ => False
def wR2 (a b : WD) : WA := fun env tk Q => a env tk fun x e1 t1 => b e1 t1 fun y e2 t2 => match x, y with
  | .int i, .int j => (-(2 ^ 62) ≤ i ∧ i < 2 ^ 62 ∧ -(2 ^ 62) ≤ j ∧ j < 2 ^ 62) ∧ Q (rngD i (j - i).toNat) e2 t2
  | _, _ => False
theorem si_r1 {tg a : Expr} {w : WD} (hg : Gl X "range") (hm : X.mg "range" = none) (h : SP X c a w) (hs : starEach [a] X.env = [(false, eval a X.env)] := by rfl) : SI X c tg (.Call (.Name "range" p) [a] [] pos) (iRng1 (tCons (liftP c w) tNil)) (wR1 w) := by
  refine ⟨fun env tk Q Q' k q => h.mon _ _ _ _ (fun x e t z => by cases x <;> first | exact (show False from z).elim | exact ⟨z.1, z.2.1, k _ _ _ z.2.2⟩) q, pi_range1 hg hm (pa_cons h.run pa_nil hs) hs, fun σ H R ⟨ω, env, tk, ok, q⟩ => ?_⟩
  refine ⟨ω, env, tk, ok, h.mon _ _ _ _ (fun d e1 t1 z v ω' H' st ok' r => ?_) q⟩
  cases d <;> first | exact (show False from z).elim | skip
  exact ⟨_, by rw [r.int], z.1, z.2.1, z.2.2 _ ω' H' st ok' src_rng⟩
theorem si_r2 {tg a b : Expr} {wa wb : WD} (hg : Gl X "range") (hm : X.mg "range" = none) (ha : SP X c a wa) (hb : SP X c b wb) (hs : starEach [a, b] X.env = [(false, eval a X.env), (false, eval b X.env)] := by rfl) (hs2 : starEach [b] X.env = [(false, eval b X.env)] := by rfl) :
    SI X c tg (.Call (.Name "range" p) [a, b] [] pos) (iRng2 (tCons (liftP c wa) (tCons (liftP c wb) tNil))) (wR2 wa wb) := by
  refine ⟨fun env tk Q Q' k q => ha.mon _ _ _ _ (fun x e t z => hb.mon _ _ _ _ (fun y e2 t2 z => by cases x <;> first | exact (show False from z).elim | (cases y <;> first | exact (show False from z).elim | exact ⟨z.1, k _ _ _ z.2⟩)) z) q, pi_range2 hg hm (pa_cons ha.run (pa_cons hb.run pa_nil hs2) (by rw [hs, hs2])) hs hs2, fun σ H R ⟨ω, env, tk, ok, q⟩ => ?_⟩
  refine ⟨ω, env, tk, ok, ha.mon _ _ _ _ (fun d e1 t1 z v ω1 H1 s1 ok1 r1 => ?_) q⟩
  refine ⟨ω1, e1, t1, ok1, hb.mon _ _ _ _ (fun d2 e2 t2 z u ω2 H2 s2 ok2 r2 => ?_) z⟩
  cases d <;> first | exact (show False from z).elim | (cases d2 <;> first | exact (show False from z).elim | skip)
  exact ⟨_, _, by rw [r1.int, r2.int], z.1, z.2 _ ω2 H2 (s1.trans s2) ok2 src_rng⟩

/-! ### for -/
def forGo (g : WG) (b : WS) (P : Post) : List D → En → Tk → Prop
  | [], e, t => P.nx e t
  | d :: ds, e, t => g d e fun e' => b { P with nx := fun e2 t2 => forGo g b P ds e2 t2, ct := fun e2 t2 => forGo g b P ds e2 t2, bk := P.nx } e' t
def wFor (src : WA) (g : WG) (b : WS) : WS := fun P env tk => src env tk fun ds e t => forGo g b P ds e t
theorem forGo_mono {g : WG} {b : WS} (mg : ∀ d env Q Q', (∀ e, Q e → Q' e) → g d env Q → g d env Q') (mb : MonS b) {P P' : Post} (l : P.le P') : ∀ (ds : List D) (e : En) (t : Tk), forGo g b P ds e t → forGo g b P' ds e t
  | [], e, t, h => l.nx _ _ h
  | d :: ds, e, t, h => mg _ _ _ _ (fun e' z => mb { P with nx := fun e2 t2 => forGo g b P ds e2 t2, ct := fun e2 t2 => forGo g b P ds e2 t2, bk := P.nx } _ _ _ ⟨fun e2 t2 z => forGo_mono mg mb l ds e2 t2 z, l.rt, l.nx, fun e2 t2 z => forGo_mono mg mb l ds e2 t2 z⟩ z) h
theorem ss_for {tg it : Expr} {wi : TI} {src : WA} {t : TG} {g : WG} {vs : List Nat} {body : List Stmt} (hp : PassesOwn (model X.prog X.w) X.A X.env X.xe) (hc : X.calm = true) (hi : SI X c tg it wi src) (hg : SG X c tg t g vs) (hb : SSs X c body b)
    (hs : ∀ x, foldedSetIterable it X.env x = pure x := by intro _; rfl) : SS X c (.For tg it body [] pos) (wFor src g b) := by
  refine ⟨fun P P' env tk l q => hi.mon _ _ _ _ (fun ds e t z => forGo_mono hg.mon hb.mon l ds e t z) q, (ps_for hp hc hi.pi hg.pg hb.run hs).wk fun D σ H ⟨ω, env, tk, ok, q⟩ => ?_⟩
  refine hi.run σ H _ ⟨ω, env, tk, ok, hi.mon _ _ _ _ (fun ds e1 t1 z J ω1 H1 st ok1 src => ?_) q⟩
  refine ⟨fun i m σ H => m = ds.length - i ∧ ∃ ω' e t, ω1.le ω' ∧ Ok c ω' H σ e t ∧ forGo g b (postOf c ω D) (ds.drop i) e t, ⟨ds.length, rfl, ω1, e1, t1, .refl _, ok1, z⟩, fun i m σ H ⟨hm, ω2, e2, t2, l2, ok2, z2⟩ => ?_⟩
  obtain ⟨s1, s2, s3⟩ := src i ω2 H l2 ok2.sub
  have l3 : ω.le ω2 := st.le.trans l2
  by_cases hi : i < ds.length
  · refine .inr ⟨s1 hi, fun σ' H' => m = ds.length - i ∧ ∃ ω' e t, ω1.le ω' ∧ Ok c ω' H' σ' e t ∧ forGo g b (postOf c ω D) (ds.drop (i + 1)) e t, fun σ' H' ⟨h1, h2⟩ => ⟨ds.length - (i + 1), by omega, rfl, h2⟩, fun x H' y => ?_⟩
    obtain ⟨rfl, hx⟩ := s3 x H' y
    have hd : ds.drop i = ds[i] :: ds.drop (i + 1) := List.drop_eq_getElem_cons hi
    rw [hd] at z2
    refine hg.run σ H' x _ ω2 e2 t2 ds[i] ok2 (hx _ (List.getElem?_eq_getElem hi)) (hg.mon _ _ _ _ (fun e' z σ' _ ok' => ?_) z2)
    refine ⟨ω2, e', t2, ok', hb.mon { postOf c ω D with nx := fun e2 t2 => forGo g b (postOf c ω D) (ds.drop (i + 1)) e2 t2, ct := fun e2 t2 => forGo g b (postOf c ω D) (ds.drop (i + 1)) e2 t2, bk := (postOf c ω D).nx } _ _ _ ?_ z⟩
    exact ⟨fun e t z σ' ω' H' l ok' => ⟨hm, ω', e, t, l2.trans l, ok', z⟩, fun _ _ z => z, fun e t z => liftN_up l3 z, fun e t z σ' ω' H' l ok' => ⟨hm, ω', e, t, l2.trans l, ok', z⟩⟩
  · refine .inl ⟨s2 (by omega), ?_⟩
    rw [List.drop_eq_nil_of_le (by omega)] at z2
    exact z2 σ ω2 H l3 ok2
end
end DL

namespace DL
open PySem PySem.Spec PyProof.Rows L2

/-! ### a comprehension's block -/
def wipeE (e : En) : List Nat → En
  | [] => e
  | v :: vs => (wipeE e vs).set v none
theorem wipeE_len (e : En) : ∀ vs : List Nat, (wipeE e vs).length = e.length
  | [] => rfl
  | v :: vs => by unfold wipeE; rw [List.length_set, wipeE_len e vs]
theorem wipeE_out {e : En} {i : Nat} : ∀ {vs : List Nat}, i ∉ vs → (wipeE e vs)[i]? = e[i]?
  | [], _ => rfl
  | v :: vs, h => by
    unfold wipeE
    rw [List.getElem?_set_ne (fun q => h (by rw [q]; exact List.mem_cons_self)), wipeE_out fun q => h (List.mem_cons_of_mem _ q)]
theorem wipeE_in {e : En} {i : Nat} : ∀ {vs : List Nat}, i ∈ vs → ∀ x, (wipeE e vs)[i]? ≠ some (some x)
  | v :: vs, h, x, q => by
    unfold wipeE at q
    by_cases hv : v = i
    · subst hv
      by_cases hl : v < (wipeE e vs).length
      · rw [List.getElem?_set_self hl] at q; cases q
      · rw [List.getElem?_eq_none (by rw [List.length_set]; omega)] at q; cases q
    · rw [List.getElem?_set_ne hv] at q
      exact wipeE_in (by rcases List.mem_cons.mp h with z | z; exact absurd z.symm hv; exact z) x q
theorem wipe_in {σ : L2.St} {i : Nat} : ∀ {vs : List Nat}, i ∈ vs → (wipe σ vs)[i]? = if i < σ.length then some none else none
  | v :: vs, h => by
    unfold wipe
    by_cases hv : v = i
    · subst hv
      by_cases hl : v < σ.length
      · rw [List.getElem?_set_self (by rw [wipe_length]; exact hl), if_pos hl]
      · rw [List.getElem?_eq_none (by rw [List.length_set, wipe_length]; omega), if_neg hl]
    · rw [List.getElem?_set_ne hv]
      exact wipe_in (by rcases List.mem_cons.mp h with z | z; exact absurd z.symm hv; exact z)
theorem wipe_off {σ : L2.St} {i : Nat} : ∀ {vs : List Nat}, i ∉ vs → (wipe σ vs)[i]? = σ[i]?
  | [], _ => rfl
  | v :: vs, h => by
    unfold wipe
    rw [List.getElem?_set_ne (fun q => h (by rw [q]; exact List.mem_cons_self)), wipe_off fun q => h (List.mem_cons_of_mem _ q)]
theorem wipe_same {σ σ2 : L2.St} {us vs : List Nat} (h : Off us (wipe σ vs) σ2) (hs : ∀ i ∈ us, i ∈ vs) : wipe σ2 vs = wipe σ vs := by
  refine List.ext_getElem? fun i => ?_
  have hl : σ2.length = σ.length := h.1.trans (wipe_length σ vs)
  by_cases hi : i ∈ vs
  · rw [wipe_in hi, wipe_in hi, hl]
  · rw [wipe_off hi, h.2 i (fun q => hi (hs i q))]
theorem Ok.wipe {c : C} {ω : Wd} {H : Hp} {σ : L2.St} {env : En} {tk : Tk} (ok : Ok c ω H σ env tk) (vs : List Nat) : Ok c ω H (L2.wipe σ vs) (wipeE env vs) tk where
  len := by rw [wipe_length, wipeE_len]; exact ok.len
  sub := ok.sub
  st := ok.st
  slots := fun i e he => by
    by_cases hi : i ∈ vs
    · exact absurd he (wipeE_in hi e)
    · rw [wipeE_out hi] at he
      rw [wipe_off hi]
      exact ok.slots i e he
  dist := fun i j p ds es a b x y => by
    by_cases hi : i ∈ vs
    · exact absurd a (wipeE_in hi _)
    · by_cases hj : j ∈ vs
      · exact absurd b (wipeE_in hj _)
      · rw [wipeE_out hi] at a
        rw [wipeE_out hj] at b
        rw [wipe_off hi] at x
        rw [wipe_off hj] at y
        exact ok.dist i j p ds es a b x y
  new := ok.new
  ng := ok.ng
  fr := ok.fr
  le0 := ok.le0
  pr := ok.pr
/-- back from a block -/
theorem Ok.back {c : C} {ω ω' : Wd} {H H' : Hp} {σ σ2 : L2.St} {env e2 : En} {tk tk' : Tk} (ok : Ok c ω H σ env tk) (ok2 : Ok c ω' H' σ2 e2 tk') (l : ω.le ω') {vs : List Nat} (h1 : ∀ j, j ∉ vs → e2[j]? = env[j]?) (h2 : ∀ j, j ∉ vs → σ2[j]? = σ[j]?)
    (ho : ∀ j ∈ vs, ∀ ds, env[j]? ≠ some (some (.own ds))) : Ok c ω' H' σ env tk' where
  len := ok.len
  sub := ok2.sub
  st := ok2.st
  slots := fun i e he => by
    cases e with
    | val d =>
      obtain ⟨v, g1, g2⟩ := ok.slots i _ he
      exact ⟨v, g1, Rep.mono l g2⟩
    | own ds =>
      have hi : i ∉ vs := fun q => ho i q ds he
      obtain ⟨v, g1, g2⟩ := ok2.slots i (.own ds) (by rw [h1 i hi]; exact he)
      exact ⟨v, by rw [← h2 i hi]; exact g1, g2⟩
  dist := ok.dist
  new := ok2.new
  ng := ok2.ng
  fr := ok2.fr
  le0 := ok2.le0
  pr := ok2.pr
/-- one place is held: it is not given away -/
abbrev C.hold (c : C) (D : Addr) : C := { c with pr := fun b => c.pr b ∨ b = D }
theorem Ok.hold {c : C} {ω : Wd} {H : Hp} {σ : L2.St} {env : En} {tk : Tk} {D : Addr} (ok : Ok c ω H σ env tk) (n : H D = none) (o : HO) : Ok (c.hold D) ω (upd H D o) σ env tk := by
  have ok' := ok.newL n o
  exact {
    len := ok'.len
    sub := ok'.sub
    st := ok'.st
    slots := fun i e he => by
      obtain ⟨v, g1, g2⟩ := ok'.slots i e he
      refine ⟨v, g1, ?_⟩
      cases e with
      | val d => exact g2
      | own ds =>
        obtain ⟨p, rfl, us, a1, a2, a3, a4, a5⟩ := g2
        refine ⟨p, rfl, us, a1, a2, a3, ⟨a4.1, fun q => ?_⟩, a5⟩
        rcases q with q | q
        · exact a4.2 q
        · subst q
          exact ok.noslot (.inl n) i ds he g1
    dist := ok'.dist
    new := ok'.new
    ng := ok'.ng
    fr := ok'.fr
    le0 := ok'.le0
    pr := fun b q => by
      rcases q with q | q
      · exact ok'.pr b q
      · subst q
        exact ⟨by rw [upd_same]; exact fun z => (nomatch z), ok.nohd n, ok.nog n⟩ }
theorem Ok.unhold {c : C} {ω : Wd} {H : Hp} {σ : L2.St} {env : En} {tk : Tk} {D : Addr} (ok : Ok (c.hold D) ω H σ env tk) : Ok c ω H σ env tk where
  len := ok.len
  sub := ok.sub
  st := ok.st
  slots := fun i e he => by
    obtain ⟨v, g1, g2⟩ := ok.slots i e he
    refine ⟨v, g1, ?_⟩
    cases e with
    | val d => exact g2
    | own ds =>
      obtain ⟨p, rfl, us, a1, a2, a3, a4, a5⟩ := g2
      exact ⟨p, rfl, us, a1, a2, a3, ⟨a4.1, fun q => a4.2 (.inl q)⟩, a5⟩
  dist := ok.dist
  new := ok.new
  ng := ok.ng
  fr := ok.fr
  le0 := ok.le0
  pr := fun b q => ok.pr b (.inl q)
/-- the held place may turn -/
theorem Ok.turnP {c : C} {ω : Wd} {H : Hp} {σ : L2.St} {env : En} {tk : Tk} {D : Addr} (ok : Ok (c.hold D) ω H σ env tk) (n0 : c.H0 D = none) (o : HO) : Ok (c.hold D) ω (upd H D o) σ env tk := by
  obtain ⟨p1, p2, p3⟩ := ok.pr D (.inr rfl)
  exact {
    len := ok.len
    sub := fun b u h => by
      rw [upd_ne (fun e => by rw [e, p2] at h; cases h)]
      exact ok.sub b u h
    st := by
      rcases ok.st with z | ⟨a', k, e, e1, e0, nn, ns, e2, r1, r2⟩
      · exact .inl z
      · exact .inr ⟨a', k, e, e1, e0, nn, ns, by rw [upd_ne (fun z => p3 (by rw [e, z]))]; exact e2, r1, r2⟩
    slots := fun i e he => by
      obtain ⟨v, g1, g2⟩ := ok.slots i e he
      refine ⟨v, g1, ?_⟩
      cases e with
      | val d => exact g2
      | own ds =>
        obtain ⟨p, rfl, us, a1, a2, a3, a4, a5⟩ := g2
        exact ⟨p, rfl, us, by rw [upd_ne (fun z => a4.2 (.inr z))]; exact a1, a2, a3, a4, a5⟩
    dist := ok.dist
    new := ok.new
    ng := ok.ng
    fr := fun b u h n => by
      rw [upd_ne (ne_of_none h n0)]
      exact ok.fr b u h n
    le0 := ok.le0
    pr := fun b q => by
      obtain ⟨a1, a2, a3⟩ := ok.pr b q
      refine ⟨?_, a2, a3⟩
      by_cases hb : b = D
      · subst hb
        rw [upd_same]
        exact fun z => nomatch z
      · rw [upd_ne hb]; exact a1 }

/-! ### [elt for tg in it if ..] -/
structure STs (X : Cx) (c : C) (ifs : List Expr) (w : WT) : Prop where
  mon : Mon w
  run : PTs X ifs (liftT c w)
def wYes : WT := fun env tk Q => Q true env tk
theorem _root_.L2.PTs.wk {X : Cx} {e : List Expr} {t t' : TT} (h : PTs X e t) (k : ∀ σ H Q, t' σ H Q → t σ H Q) : PTs X e t' := ⟨fun pins s σ H Q I q => h.run pins s σ H Q I (k _ _ _ q)⟩
theorem sts_nil {X : Cx} {c : C} : STs X c [] wYes := ⟨fun _ _ _ _ h q => h _ _ _ q, pts_nil.wk fun σ H Q ⟨ω, env, tk, ok, h⟩ => h _ ω H (.refl _ _) ok rfl⟩
theorem sts_one {X : Cx} {c : C} {e : Expr} {w : WT} (h : ST X c e w) : STs X c [e] w := ⟨h.mon, pts_one h.run⟩
def lcGo (g : WG) (cond : WT) (elt : WE) (vs : List Nat) (env : En) : List D → List D → Tk → (List D → Tk → Prop) → Prop
  | [], acc, tk, K => K acc tk
  | d :: ds, acc, tk, K => g d (wipeE env vs) fun e1 => cond e1 tk fun b e2 t2 => e2 = e1 ∧
      if b = true then elt e1 t2 fun ev e3 t3 => e3 = e1 ∧ acc.length < sizeLine ∧ lcGo g cond elt vs env ds (acc ++ [ev.d]) t3 K else lcGo g cond elt vs env ds acc t2 K
def noOwn (env : En) (vs : List Nat) : Bool := vs.all fun v => match env[v]? with
  | some (some (.own _)) => false
  | _ => true
theorem noOwn_at {env : En} {vs : List Nat} (h : noOwn env vs = true) : ∀ j ∈ vs, ∀ ds, env[j]? ≠ some (some (.own ds)) := fun j hj ds e => by
  have q := List.all_eq_true.mp h j hj
  rw [e] at q
  cases q
def wLc (src : WA) (g : WG) (cond : WT) (elt : WE) (vs : List Nat) : WE := fun env tk Q => src env tk fun ds e t => noOwn e vs = true ∧ lcGo g cond elt vs e ds [] t fun acc t' => Q (.own acc) e t'
theorem lcGo_mono {g : WG} {cond : WT} {elt : WE} {vs : List Nat} {env : En} (mg : ∀ d env Q Q', (∀ e, Q e → Q' e) → g d env Q → g d env Q') (mc : Mon cond) (me : Mon elt) {K K' : List D → Tk → Prop} (h : ∀ a t, K a t → K' a t) :
    ∀ (ds acc : List D) (tk : Tk), lcGo g cond elt vs env ds acc tk K → lcGo g cond elt vs env ds acc tk K'
  | [], acc, tk, z => h _ _ z
  | d :: ds, acc, tk, z => mg _ _ _ _ (fun e1 z => mc _ _ _ _ (fun b e2 t2 z => ⟨z.1, by
    cases b with
    | true => exact (if_pos rfl).mpr (me _ _ _ _ (fun ev e3 t3 z => ⟨z.1, z.2.1, lcGo_mono mg mc me h ds _ t3 z.2.2⟩) ((if_pos rfl).mp z.2))
    | false => exact (if_neg Bool.false_ne_true).mpr (lcGo_mono mg mc me h ds acc t2 ((if_neg Bool.false_ne_true).mp z.2))⟩) z) z
/-- a reading that may choose -/
theorem pe_ex {X : Cx} {e : Expr} {α : Type} {t : α → TE} (h : ∀ a, PE X e (t a)) : PE X e fun σ H Q => ∃ a, t a σ H Q := ⟨fun pins s σ H Q I ⟨a, q⟩ => (h a).run pins s σ H Q I q⟩
theorem pts_ex {X : Cx} {e : List Expr} {α : Type} {t : α → TT} (h : ∀ a, PTs X e (t a)) : PTs X e fun σ H Q => ∃ a, t a σ H Q := ⟨fun pins s σ H Q I ⟨a, q⟩ => (h a).run pins s σ H Q I q⟩
section
variable {X : Cx} {c : C}
abbrev cxb (X : Cx) (scope : Scope) (s : Shared) (H : Hp) (C : Addr) (cl : List (Str × Addr)) (fp : List Addr) : Cx := X.blk s H scope (compEnvC scope cl C X.env) fp
/-- the turns of one clause; L: the new list -/
theorem lc_turns {J : It} {t : TG} {g : WG} {cond : WT} {elt : WE} {vs us : List Nat} {σ : L2.St} {Qd : Hp → Prop} {ω1 : Wd} {H1 : Hp} {e1 : En} {t1 : Tk} {L : Addr} {ds : List D}
    (ok1 : Ok c ω1 H1 σ e1 t1) (src : Src c.K ω1 J ds) (hL : H1 L = none) (hus : ∀ i ∈ us, i ∈ vs) (hno : noOwn e1 vs = true)
    (mg : ∀ d env Q Q', (∀ e, Q e → Q' e) → g d env Q → g d env Q') (lg : ∀ d env Q, g d env Q → g d env fun e => Offl us env e ∧ Q e)
    (rg : ∀ c' : C, c'.K = c.K → ∀ (σ : L2.St) (H : Hp) (v : V) (Q : L2.St → Hp → Prop) (ω : Wd) (env : En) (tk : Tk) (d : D), Ok c' ω H σ env tk → Rep c'.K ω d v → g d env (fun env' => ∀ σ', Off us σ σ' → Ok c' ω H σ' env' tk → Q σ' H) → t v σ H Q)
    (mc : Mon cond) (me : Mon elt) {K : List D → Tk → Prop} (z : lcGo g cond elt vs e1 ds [] t1 K) (hK : ∀ acc t' ω' H' (us : List V), K acc t' → Stp ω1 H1 ω' H' → Ok (c.hold L) ω' H' σ e1 t' → H' L = some (.lst us) → Reps c.K ω' acc us → Qd H') :
    ∃ W : Nat → Nat → Hp → Prop, (∃ m, W 0 m (upd H1 L (.lst []))) ∧ ∀ i m H, W i m H →
      (J.stop i H ∧ Qd H) ∨ (J.go i H ∧ ∃ Nx : Hp → Prop, (∀ H', Nx H' → ∃ m', m' < m ∧ W (i + 1) m' H') ∧ ∀ x H', J.yld i H x H' → t x (wipe σ vs) H' fun σ2 H2 => wipe σ2 vs = wipe σ vs ∧ (fun σ H Q => ∃ L, liftT (c.hold L) cond σ H Q) σ2 H2 fun b H3 =>
        if b = true then (fun σ H Q => ∃ L, liftE (c.hold L) elt σ H Q) σ2 H3 fun y H4 => ∃ acc, H4 L = some (.lst acc) ∧ acc.length < sizeLine ∧ Nx (upd H4 L (.lst (acc ++ [y]))) else Nx H3) := by
  have n0 : c.H0 L = none := ok1.noH0 hL
  have hown := noOwn_at hno
  refine ⟨fun i m H => m = ds.length - i ∧ ∃ ω' t' acc us, Stp ω1 H1 ω' H ∧ Ok (c.hold L) ω' H σ e1 t' ∧ H L = some (.lst us) ∧ Reps c.K ω' acc us ∧ lcGo g cond elt vs e1 (ds.drop i) acc t' K, ⟨ds.length, rfl, ω1, t1, [], [], .newL hL _, ok1.hold hL _, upd_same, .nil, z⟩, fun i m H ⟨hm, ω2, t2, acc, us2, s2, ok2, hl2, r2, z2⟩ => ?_⟩
  obtain ⟨j1, j2, j3⟩ := src i ω2 H s2.le ok2.sub
  by_cases hi : i < ds.length
  · refine .inr ⟨j1 hi, fun H => m = ds.length - i ∧ ∃ ω' t' acc us, Stp ω1 H1 ω' H ∧ Ok (c.hold L) ω' H σ e1 t' ∧ H L = some (.lst us) ∧ Reps c.K ω' acc us ∧ lcGo g cond elt vs e1 (ds.drop (i + 1)) acc t' K, fun H' ⟨_, h⟩ => ⟨ds.length - (i + 1), by omega, rfl, h⟩, fun x H' y => ?_⟩
    obtain ⟨rfl, hx⟩ := j3 x H' y
    have hd : ds.drop i = ds[i] :: ds.drop (i + 1) := List.drop_eq_getElem_cons hi
    rw [hd] at z2
    refine rg (c.hold L) rfl (wipe σ vs) H' x _ ω2 (wipeE e1 vs) t2 ds[i] (ok2.wipe vs) (hx _ (List.getElem?_eq_getElem hi)) (mg _ _ _ _ (fun e3 ⟨ofl, z3⟩ σ3 off ok3 => ?_) (lg _ _ _ z2))
    have c1 : ∀ j, j ∉ vs → e3[j]? = e1[j]? := fun j h => (ofl.2 j fun q => h (hus j q)).trans (wipeE_out h)
    have c2 : ∀ j, j ∉ vs → σ3[j]? = σ[j]? := fun j h => (off.2 j fun q => h (hus j q)).trans (wipe_off h)
    refine ⟨wipe_same off hus, L, ω2, e3, t2, ok3, mc _ _ _ _ (fun b e4 t4 z4 b' ω4 H4 s4 ok4 hb => ?_) z3⟩
    subst hb
    obtain ⟨rfl, z4⟩ := z4
    have hg2 : ω2.g ≠ some L := (ok2.pr L (.inr rfl)).2.2
    have hl4 : H4 L = some (.lst us2) := s4.fr L _ hl2 hg2
    cases b' with
    | false =>
      refine (if_neg Bool.false_ne_true).mpr ⟨hm, ω4, t4, acc, us2, s2.trans s4, ok2.back ok4 s4.le c1 c2 hown, hl4, r2.mono s4.le, (if_neg Bool.false_ne_true).mp z4⟩
    | true =>
      refine (if_pos rfl).mpr ⟨L, ω4, e4, t4, ok4, me _ _ _ _ (fun ev e5 t5 z5 y ω5 H5 s5 ok5 r5 => ?_) ((if_pos rfl).mp z4)⟩
      obtain ⟨rfl, zl, z5⟩ := z5
      obtain ⟨ω6, ok6, s6, r6⟩ := give ok5 r5
      have hg4 : ω4.g ≠ some L := (ok4.pr L (.inr rfl)).2.2
      have hl5 : H5 L = some (.lst us2) := s5.fr L _ hl4 hg4
      have s26 : Stp ω2 H' ω6 H5 := (s4.trans s5).trans s6
      have ok7 : Ok (c.hold L) ω6 H5 σ e1 t5 := ok2.back ok6 s26.le c1 c2 hown
      refine ⟨us2, hl5, by rw [r2.length]; exact zl, hm, ω6, t5, acc ++ [ev.d], us2 ++ [y], ⟨(s2.trans s26).le, fun b o h n => ?_, (s2.trans s26).ng⟩, ok7.turnP n0 _, upd_same, (r2.mono s26.le).append (Reps.cons r6 Reps.nil), z5⟩
      rw [upd_ne (ne_of_none h hL)]
      exact (s2.trans s26).fr b o h n
  · refine .inl ⟨j2 (by omega), ?_⟩
    rw [List.drop_eq_nil_of_le (by omega)] at z2
    exact hK acc t2 ω2 H us2 z2 s2 ok2 hl2 r2
theorem run_lc {tg it : Expr} {wi : TI} {src : WA} {t : TG} {g : WG} {cond : WT} {elt : WE} {vs us : List Nat} (hi : SI X c tg it wi src) (hus : ∀ i ∈ us, i ∈ vs)
    (mg : ∀ d env Q Q', (∀ e, Q e → Q' e) → g d env Q → g d env Q') (lg : ∀ d env Q, g d env Q → g d env fun e => Offl us env e ∧ Q e)
    (rg : ∀ c' : C, c'.K = c.K → ∀ (σ : L2.St) (H : Hp) (v : V) (Q : L2.St → Hp → Prop) (ω : Wd) (env : En) (tk : Tk) (d : D), Ok c' ω H σ env tk → Rep c'.K ω d v → g d env (fun env' => ∀ σ', Off us σ σ' → Ok c' ω H σ' env' tk → Q σ' H) → t v σ H Q)
    (mc : Mon cond) (me : Mon elt) {σ : L2.St} {H : Hp} {Q : VK} (h : liftE c (wLc src g cond elt vs) σ H Q) : tLc wi t (fun σ H Q => ∃ L, liftT (c.hold L) cond σ H Q) (fun σ H Q => ∃ L, liftE (c.hold L) elt σ H Q) vs σ H Q := by
  obtain ⟨ω, env, tk, ok, q⟩ := h
  refine hi.run σ H _ ⟨ω, env, tk, ok, hi.mon _ _ _ _ (fun ds e1 t1 z J ω1 H1 st ok1 src L hL => ?_) q⟩
  refine lc_turns ok1 src hL hus z.1 mg lg rg mc me z.2 fun acc t' ω' H' us' k s ok' hl r => ?_
  obtain ⟨p1, p2, p3⟩ := ok'.pr L (.inr rfl)
  exact k _ ω' H' (st.trans s) ok'.unhold ⟨L, rfl, ⟨us', hl, p2, p3, ⟨ok1.noH0 hL, ok1.nopr hL⟩, r⟩, fun i es he hp => by
    obtain ⟨v, g1, q, rfl, vs, a1, a2, a3, a4, a5⟩ := ok'.slots i _ he
    rw [hp] at g1
    cases g1
    exact a4.2 (.inr rfl)⟩
structure SLc (X : Cx) (c : C) (scope : Scope) (own : List (Str × Nat)) (tg : Expr) (t : TG) (g : WG) (us : List Nat) (ifs : List Expr) (cond : WT) (elt : Expr) (w : WE) : Prop where
  ok : BlkOk X.N X.env.scope scope own
  tgt : ∀ (c' : C) (hK : c'.K = c.K) (s : Shared) (H : Hp) (C : Addr) (cl : List (Str × Addr)) (fp : List Addr), SG (cxb X scope s H C cl fp) c' tg t g us
  ifs : ∀ (c' : C) (hK : c'.K = c.K) (s : Shared) (H : Hp) (C : Addr) (cl : List (Str × Addr)) (fp : List Addr), STs (cxb X scope s H C cl fp) c' ifs cond
  elt : ∀ (c' : C) (hK : c'.K = c.K) (s : Shared) (H : Hp) (C : Addr) (cl : List (Str × Addr)) (fp : List Addr), SE (cxb X scope s H C cl fp) c' elt w
  sub : ∀ i ∈ us, i ∈ own.map (·.2)
theorem Mon.lc {src : WA} {g : WG} {cond : WT} {elt : WE} {vs : List Nat} (ms : Mon src) (mg : ∀ d env Q Q', (∀ e, Q e → Q' e) → g d env Q → g d env Q') (mc : Mon cond) (me : Mon elt) : Mon (wLc src g cond elt vs) := fun env tk Q Q' h q =>
  ms _ _ _ _ (fun ds e t z => ⟨z.1, lcGo_mono mg mc me (fun a t' z => h _ _ _ z) ds [] t z.2⟩) q
variable {tg it elt : Expr} {ifs : List Expr} {scope : Scope} {own : List (Str × Nat)} {pos : Pos} {wi : TI} {src : WA} {t : TG} {g : WG} {cond : WT} {w : WE} {us : List Nat}
theorem se_lc (s0 : Shared) (hc : X.calm = true) (hN : X.N.Nodup) (hi : SI X c tg it wi src) (h : SLc X c scope own tg t g us ifs cond elt w) (hs : ∀ x, foldedSetIterable it X.env x = pure x := by intro _; rfl) :
    SE X c (.ListComp elt [⟨tg, it, ifs, 0⟩] scope pos) (wLc src g cond w (own.map (·.2))) := by
  have g0 := h.tgt c rfl s0 (fun _ => none) 0 [] []
  have c0 := h.ifs c rfl s0 (fun _ => none) 0 [] []
  have e0 := h.elt c rfl s0 (fun _ => none) 0 [] []
  refine ⟨.lc hi.mon g0.mon c0.mon e0.mon, (pe_lc hc hN hi.pi h.ok (fun s H C cl fp => (h.tgt c rfl s H C cl fp).pg) (fun s H C cl fp => pts_ex fun L => (h.ifs (c.hold L) rfl s H C cl fp).run) (fun s H C cl fp => pe_ex fun L => (h.elt (c.hold L) rfl s H C cl fp).run) hs).wk fun σ H Q q => ?_⟩
  exact run_lc hi h.sub g0.mon g0.loc (fun c' hK => (h.tgt c' hK s0 (fun _ => none) 0 [] []).run) c0.mon e0.mon q
theorem ss_setLc {i : Nat} {y : Str} {py spos : Pos} (s0 : Shared) (hc : X.calm = true) (hN : X.N.Nodup) (hy : X.N[i]? = some y) (hyl : X.env.scope.names.lookup y = some .local)
    (hsw : swapsWith (.ListComp elt [⟨tg, it, ifs, 0⟩] scope pos) (some (.Name y py)) spos.line X.env = pure true) (hi : SI X c tg it wi src) (h : SLc X c scope own tg t g us ifs cond elt w) (hs : ∀ x, foldedSetIterable it X.env x = pure x := by intro _; rfl) :
    SS X c (.Assign [.Name y py] (.ListComp elt [⟨tg, it, ifs, 0⟩] scope pos) spos) (wSet i (wLc src g cond w (own.map (·.2)))) := by
  have g0 := h.tgt c rfl s0 (fun _ => none) 0 [] []
  have c0 := h.ifs c rfl s0 (fun _ => none) 0 [] []
  have e0 := h.elt c rfl s0 (fun _ => none) 0 [] []
  have m : Mon (wLc src g cond w (own.map (·.2))) := .lc hi.mon g0.mon c0.mon e0.mon
  refine ⟨.set m, (ps_setLc hc hN hy hyl hsw hi.pi h.ok (fun s H C cl fp => (h.tgt c rfl s H C cl fp).pg) (fun s H C cl fp => pts_ex fun L => (h.ifs (c.hold L) rfl s H C cl fp).run) (fun s H C cl fp => pe_ex fun L => (h.elt (c.hold L) rfl s H C cl fp).run) hs).wk fun D σ H q => ?_⟩
  exact run_lc hi h.sub g0.mon g0.loc (fun c' hK => (h.tgt c' hK s0 (fun _ => none) 0 [] []).run) c0.mon e0.mon (run_set m q)
end

/-! ### a def -/
def start (n : Nat) (ds : List D) : En := ds.map (fun d => some (.val d)) ++ List.replicate (n - ds.length) none
theorem slots_start {c : C} {ω : Wd} {H : Hp} : ∀ {ds : List D} {vs : List V} {n i : Nat} {e : EV}, Reps c.K ω ds vs → (ds.map (fun d => some (EV.val d)) ++ List.replicate n none)[i]? = some (some e) → ∃ v, (vs.map some ++ List.replicate n none)[i]? = some (some v) ∧ SlotV c ω H e v
  | [], _, n, i, e, r, h => by
    rw [List.map_nil, List.nil_append, List.getElem?_replicate] at h
    split at h <;> cases h
  | d :: ds, _, n, 0, e, r, h => by
    obtain ⟨v, us, rfl, h1, h2⟩ := Reps.cons_iff.mp r
    cases h
    exact ⟨v, rfl, h1⟩
  | d :: ds, _, n, i + 1, e, r, h => by
    obtain ⟨v, us, rfl, h1, h2⟩ := Reps.cons_iff.mp r
    exact slots_start (i := i) h2 h
section
variable {P : Program} {w : World} {K : PySem.W.Frag} {mg : Str → Option Value} {base : Heap} {x qual : Str} {st : Stmt} {f : Addr} {fd : FuncData} {N ps : List Str} {k : Nat} {S : FSpec} {b : WS}
theorem fn_ok (F : Fun K x qual st f fd) (Sc : FnScope N ps (defScope st)) (len : ∀ ds tk Q, S ds tk Q → ds.length = ps.length)
    (hb : ∀ (cdv : Value) (A : Around) (outer : List Env) (s : Shared) (H : Hp) (E : XK) (c : C), c.K = K → Room k (A.deeper (envOfC qual (defScope st) s.heap.objs.size f cdv)) → SSs (cxOf CX0 P w K mg base N qual (defScope st) f cdv A outer s H E).nox c (defBody st) b)
    (hw : ∀ ds tk Q, S ds tk Q → b { nx := fun _ t => Q (.val .non) t, rt := Q } (start N.length ds) tk) : FnOk P w K mg base CX0 (k + 1) f fd ps (spD K S) := by
  refine F.ok Sc (fun vs H Q E h => ?_) (fun cdv A outer s H vs Q E hr h => ?_)
  · obtain ⟨ω, ds, tk, _, _, r, h⟩ := h
    rw [r.length]
    exact len ds tk _ h
  · obtain ⟨ω, ds, tk, sub, st', r, h⟩ := h
    have B := hb cdv A outer s H E ⟨K, ω, H, fun _ => False⟩ rfl hr
    have hNl : ps.length ≤ N.length := by
      have := congrArg List.length Sc.pre
      rw [List.length_take] at this
      omega
    refine ⟨_, B.run, ω, start N.length ds, tk, ?_, B.mon _ _ _ _ ?_ (hw ds tk _ h)⟩
    · have hl : vs.length = ds.length := r.length
      exact {
        len := by unfold L2.start start; simp only [List.length_append, List.length_map, List.length_replicate]; omega
        sub := sub
        st := st'
        slots := fun i e he => by
          unfold L2.start
          unfold start at he
          rw [hl]
          exact slots_start r he
        dist := fun i j p ds' es a b _ _ => by
          obtain ⟨v, h1, h2⟩ := slots_start (c := ⟨K, ω, H, fun _ => False⟩) (H := H) r (show (ds.map (fun d => some (EV.val d)) ++ List.replicate (N.length - ds.length) none)[i]? = some (some (.own ds')) from a)
          obtain ⟨q, rfl, vs', a1, a2, a3, a4, _⟩ := h2
          have a4' : H q = none := a4.1
          rw [a1] at a4'
          cases a4'
        new := fun b h => .inl h
        ng := fun a h => .inl h
        fr := fun b o h _ => h
        le0 := .refl _
        pr := fun b h => h.elim }
    · exact ⟨fun e t z σ' ω' H' l ok => z .non ω' H' (ok.ret (ev := .val .non) (show Rep K ω' .non .non from Rep.non_iff.mpr rfl)), fun ev t z => z, fun _ _ z => z.elim, fun _ _ z => z.elim⟩
theorem fn_in (F : Fun K x qual st f fd) (ok : FnOk P w K mg base CX0 k f fd ps (spD K S)) {y : Str} (hm : mg y = some (.ref f)) (hb : Binds K fd ps []) : FnIn P w K mg base k y S := ⟨f, fd, ps, ok, hm, F.kp, hb⟩
end
theorem hu_room {A : Around} {k : Nat} (hr : Room k A) : A.units + 100 < cLine := by have := hr.un; omega
end DL

namespace DL
open PySem PySem.Spec PyProof.Rows L2

/-! ### the words of the walk over data -/
theorem fAdd_int {i j : Int} {q : EV → Prop} : fAdd (.int i) (.int j) q = q (.val (.int (i + j))) := rfl
theorem fAdd_lst {i j : List D} {q : EV → Prop} : fAdd (.lst i) (.lst j) q = (i.length + j.length ≤ sizeLine ∧ q (.own (i ++ j))) := rfl
theorem fI_int {C : Int → Int → Prop} {g : Int → Int → D} {i j : Int} {q : EV → Prop} : fI C g (.int i) (.int j) q = (C i j ∧ q (.val (g i j))) := rfl
theorem fJ_int {g : Int → Int → D} {i j : Int} {q : EV → Prop} : fJ g (.int i) (.int j) q = q (.val (g i j)) := rfl
theorem fEq_int {i j : Int} {q : EV → Prop} : fEq (.int i) (.int j) q = q (.val (.bl (decide (i = j)))) := rfl
theorem fNe_int {i j : Int} {q : EV → Prop} : fNe (.int i) (.int j) q = q (.val (.bl (!decide (i = j)))) := rfl
theorem wT_bl {w : WE} {env : En} {tk : Tk} {Q : Bool → En → Tk → Prop} : wT w env tk Q = w env tk fun ev e t => match ev with
  | .val (.bl b) => Q b e t
  | _ => False := rfl
theorem start_def {n : Nat} {ds : List D} : start n ds = ds.map (fun d => some (EV.val d)) ++ List.replicate (n - ds.length) none := rfl
theorem fIdx_lst {ds : List D} {i : Int} {q : EV → Prop} : fIdx (.lst ds) (.int i) q = (match atI ds i with | some d => q (.val d) | none => False) := rfl
theorem fIdx_tup {ds : List D} {i : Int} {q : EV → Prop} : fIdx (.tup ds) (.int i) q = (match atI ds i with | some d => q (.val d) | none => False) := rfl
theorem atI_lit {ds : List D} {i : Nat} : atI ds (i : Int) = ds[i]? := by
  unfold atI ixN
  by_cases h : i < ds.length
  · rw [if_pos (Int.natCast_nonneg i), if_pos (by omega)]
    rfl
  · rw [if_pos (Int.natCast_nonneg i), if_neg (by omega), List.getElem?_eq_none (by omega)]
    rfl
theorem atI_some {ds : List D} {i : Int} (h : 0 ≤ i) (h2 : i < ds.length) : ∃ d, atI ds i = some d ∧ ds[i.toNat]? = some d := by
  have e : atI ds i = ds[i.toNat]? := by
    have : i = ((i.toNat : Nat) : Int) := by omega
    conv => lhs; rw [this]
    exact atI_lit
  rw [e, List.getElem?_eq_getElem (by omega)]
  exact ⟨_, rfl, rfl⟩
end DL
local macro_rules | `(tactic| walk_at "dl") => `(tactic| simp (config := { failIfUnchanged := false }) only [↓DL.wSeq, ↓DL.wSet, ↓DL.wIfS, ↓DL.wRet, ↓DL.wRetV, ↓DL.wRetN, ↓DL.wNext, ↓DL.wPk, ↓DL.wV, ↓DL.wC, ↓DL.fz, ↓DL.wOp, ↓DL.w1, ↓DL.EV.d, ↓DL.wT_bl, ↓DL.wAnd, ↓DL.wOr, ↓DL.wNot, ↓DL.wB, ↓DL.wIf, ↓DL.wCons, ↓DL.wNil, ↓DL.wTup, ↓DL.wLst, ↓DL.wPar, ↓DL.wPar3, ↓DL.wAsg, ↓DL.wCall, ↓DL.wDrop, ↓DL.gN, ↓DL.gT, ↓DL.gCs, ↓DL.gNl, ↓DL.wR1, ↓DL.wR2, ↓DL.wSrc, ↓DL.wBrk, ↓DL.wCnt, ↓DL.wApp, ↓DL.wFor, ↓DL.fAdd_int, ↓DL.fI_int, ↓DL.fJ_int, ↓DL.fEq_int, ↓DL.fNe_int, ↓DL.fIdx_lst, ↓DL.fIdx_tup, ↓DL.fNeg, ↓DL.fAbs, ↓DL.fInt, ↓DL.fLen, ↓DL.start_def, List.getElem?_cons_zero, List.getElem?_cons_succ, List.set_cons_zero, List.set_cons_succ, List.map_cons, List.map_nil, List.length_cons, List.length_nil, List.replicate_succ, List.replicate_zero, List.cons_append, List.nil_append, Nat.reduceAdd, Nat.reduceSub, Nat.zero_add, decide_eq_true_eq, true_and, and_true])
namespace DL
open PySem PySem.Spec PyProof.Rows L2
def sp_Lcell : FSpec := fun ds tk Q => ∃ (ns : List Int) (k : Int), ds = [.lst (ns.map D.int), .int k] ∧ 0 ≤ k ∧ ∀ v : Int, Q (.val (.int v)) tk
theorem mon_Lcell : MonFS sp_Lcell := fun ds tk Q Q' h ⟨ns, k, e, h0, q⟩ => ⟨ns, k, e, h0, fun v => h _ _ (q v)⟩
theorem len_Lcell : ∀ ds tk Q, sp_Lcell ds tk Q → ds.length = 2 := fun ds tk Q ⟨ns, k, e, _⟩ => by rw [e]; rfl
abbrev N_Lcell : List Str := ["_law_script", "_law_k"]
def c_Lcell : WS :=
  (wSeq (wIfS (wT (wOp fLt (wPk 1) (fz (w1 fLen (wPk 0))))) (wRet (wOp fIdx (wPk 0) (wPk 1))) wNext)
  (wRet (wC (.int 0))))
theorem map_at {ns : List Int} {k : Int} (h : 0 ≤ k) (h2 : k < (ns.length : Int)) : ∃ v : Int, atI (ns.map D.int) k = some (.int v) ∧ v ∈ ns := by
  obtain ⟨d, h1, h3⟩ := atI_some (ds := ns.map D.int) h (by rw [List.length_map]; exact h2)
  rw [List.getElem?_map] at h3
  cases z : ns[k.toNat]? with
  | none => rw [z] at h3; cases h3
  | some v =>
    rw [z] at h3
    cases h3
    exact ⟨v, h1, List.mem_of_getElem? z⟩
theorem hw_Lcell : ∀ ds tk Q, sp_Lcell ds tk Q → c_Lcell { nx := fun _ t => Q (.val .non) t, rt := Q } (start N_Lcell.length ds) tk := by
  rintro ds tk Q ⟨ns, k, rfl, h0, q⟩
  unfold c_Lcell
  walk_at "dl"
  split
  · rename_i h
    rw [List.length_map] at h
    obtain ⟨v, e, _⟩ := map_at h0 h
    rw [e]
    exact q v
  · exact q 0

def Small (ns : List Int) : Prop := ∀ x ∈ ns, (0 : Int) ≤ x ∧ x < 1000
def sp_Lnumbers : FSpec := fun ds tk Q => ∃ (n m : Int), ds = [.int n, .int m] ∧ 0 ≤ m ∧ m ≤ 1000 ∧ ∀ ns : List Int, ns.length = m.toNat → Small ns → Q (.own (ns.map D.int)) tk
theorem mon_Lnumbers : MonFS sp_Lnumbers := fun ds tk Q Q' h ⟨n, m, e, h0, h1, q⟩ => ⟨n, m, e, h0, h1, fun v a b => h _ _ (q v a b)⟩
theorem len_Lnumbers : ∀ ds tk Q, sp_Lnumbers ds tk Q → ds.length = 2 := fun ds tk Q ⟨n, m, e, _⟩ => by rw [e]; rfl
abbrev N_Lnumbers : List Str := ["_law_cell_here", "_law_many", "_law_rest", "_law_span", "_law_numbers_here", "_law_k", "_law_mixed"]
def c_Lnumbers : WS :=
  (wSeq (wSet 2 (w1 fAbs (wPk 0)))
  (wSeq (wSet 3 (wV 2))
  (wSeq (wSet 4 (wLst wNil))
  (wSeq (wFor (wR1 (wPk 1)) (gN 5) (wIfS (wAnd (wT (wOp fGe (wPk 3) (fz (wOp fPow (fz (wC (.int 10))) (fz (wC (.int 18))))))) (wT (wOp fGt (wPk 2) (fz (wC (.int 0)))))) (wSeq (wApp 4 (fz (wOp fMod (fz (w1 fInt (wPk 2))) (fz (wC (.int 1000))))))
  (wSet 2 (wOp fDiv (wPk 2) (fz (wC (.int 1000)))))) (wSeq (wSet 6 (wOp fMod (fz (w1 fInt (fz (wOp fAdd (fz (wOp fAdd (fz (wOp fMul (wPk 3) (fz (wC (.int 48271))))) (fz (wOp fMul (wPk 5) (fz (wC (.int 69621))))))) (fz (wC (.int 11))))))) (fz (wC (.int 2147483647)))))
  (wSeq (wSet 6 (wOp fMod (fz (w1 fInt (fz (wOp fAdd (fz (wOp fAdd (fz (wOp fMul (wPk 6) (wPk 6))) (fz (wOp fMul (fz (wC (.int 40692))) (wPk 5))))) (fz (wC (.int 3))))))) (fz (wC (.int 2147483629)))))
  (wApp 4 (fz (wOp fMod (fz (w1 fInt (fz (wOp fDiv (wPk 6) (fz (wC (.int 7))))))) (fz (wC (.int 1000))))))))))
  (wRetV 4)))))
theorem fmod_pos {a b : Int} (h : 0 < b) : 0 ≤ a.fmod b ∧ a.fmod b < b := ⟨Int.fmod_nonneg_of_pos a h, Int.fmod_lt_of_pos a h⟩
theorem divOk_lit {i j : Int} (h : j ≠ 0) (h2 : j.natAbs < 1073741824) : DivOk i j := ⟨h, by
  have := (Nat.log2_lt (k := 30) (n := j.natAbs) (by omega)).mpr (by omega)
  omega⟩
theorem mulOk_r {i j : Int} (h : -(2 ^ 64) < j ∧ j < 2 ^ 64) : MulOk i j := .inr (.inr h)
theorem mulOk_l {i j : Int} (h : -(2 ^ 64) < i ∧ i < 2 ^ 64) : MulOk i j := .inr (.inl h)
/-- for over any list, by an invariant -/
theorem forGo_inv {g : WG} {b : WS} {P : Post} (I : Nat → En → Tk → Prop) : ∀ {ds : List D} (hs : ∀ i d e t (R : En → Tk → Prop), ds[i]? = some d → I i e t → (∀ e t, I (i + 1) e t → R e t) → g d e fun e' => b { P with nx := R, ct := R, bk := P.nx } e' t)
    (hd : ∀ e t, I ds.length e t → P.nx e t) {e : En} {t : Tk} (h0 : I 0 e t), forGo g b P ds e t := by
  intro ds
  induction ds generalizing I with
  | nil => intro hs hd e t h0; exact hd e t h0
  | cons d ds ih =>
    intro hs hd e t h0
    exact hs 0 d e t _ rfl h0 fun e2 t2 h2 => ih (fun i => I (i + 1)) (fun i d' e t R hd' hi hR => hs (i + 1) d' e t R hd' hi hR) (fun e t h => hd e t h) h2
/-- for over a range -/
theorem forGo_rng {g : WG} {b : WS} {P : Post} {lo : Int} {n : Nat} (I : Nat → En → Tk → Prop) (hs : ∀ (i : Nat) e t (R : En → Tk → Prop), i < n → I i e t → (∀ e t, I (i + 1) e t → R e t) → g (.int (lo + (i : Int))) e fun e' => b { P with nx := R, ct := R, bk := P.nx } e' t)
    (hd : ∀ e t, I n e t → P.nx e t) {e : En} {t : Tk} (h0 : I 0 e t) : forGo g b P (rngD lo n) e t := by
  have hl : (rngD lo n).length = n := by unfold rngD; rw [List.length_map, List.length_range]
  refine forGo_inv I (fun i d e t R hd' hi hR => ?_) (fun e t h => hd e t (by rw [hl] at h; exact h)) h0
  have hi' : i < n := by rw [← hl]; exact (List.getElem?_eq_some_iff.mp hd').1
  unfold rngD at hd'
  rw [List.getElem?_map, List.getElem?_range hi'] at hd'
  cases hd'
  exact hs i e t R hi' hi hR
theorem sz1000 {n : Nat} (h : n ≤ 1000) : n < sizeLine := small1000 h
theorem hw_Lnumbers : ∀ ds tk Q, sp_Lnumbers ds tk Q → c_Lnumbers { nx := fun _ t => Q (.val .non) t, rt := Q } (start N_Lnumbers.length ds) tk := by
  rintro ds tk Q ⟨n, m, rfl, h0, h1, q⟩
  unfold c_Lnumbers
  walk_at "dl"
  refine ⟨rfl, by omega, by omega, ?_⟩
  refine forGo_rng (fun i e t => t = tk ∧ ∃ (r sp : Int) (ns : List Int) (x5 x6 : Option EV), ns.length = i ∧ Small ns ∧ e = [some (.val (.int n)), some (.val (.int m)), some (.val (.int r)), some (.val (.int sp)), some (.own (ns.map D.int)), x5, x6]) (fun i e t R hi hI hR => ?_) (fun e t hI => ?_) ⟨rfl, _, _, [], none, none, rfl, (fun x h => nomatch h), rfl⟩
  · obtain ⟨rfl, r, sp, ns, x5, x6, hl, hs, rfl⟩ := hI
    have hl' : (ns.map D.int).length < sizeLine := by rw [List.length_map]; exact sz1000 (by omega)
    have push : ∀ (v r' : Int) (y6 : Option EV), 0 ≤ v → v < 1000 → R [some (.val (.int n)), some (.val (.int m)), some (.val (.int r')), some (.val (.int sp)), some (.own (ns.map D.int ++ [.int v])), some (.val (.int (0 + (i : Int)))), y6] t := fun v r' y6 h1 h2 =>
      hR _ _ ⟨rfl, r', sp, ns ++ [v], _, y6, by rw [List.length_append, hl]; rfl, fun x hx => by
        rcases List.mem_append.mp hx with z | z
        · exact hs x z
        · rw [List.mem_singleton] at z; subst z; exact ⟨h1, h2⟩, by rw [List.map_append]; rfl⟩
    have mix : ∀ a : Int, MulOk (a.fmod 2147483647) (a.fmod 2147483647) := fun a => mulOk_r (by have := fmod_pos (a := a) (b := 2147483647) (by decide); omega)
    have mi : MulOk (0 + (i : Int)) 69621 := mulOk_r (by omega)
    have mi2 : MulOk 40692 (0 + (i : Int)) := mulOk_l (by omega)
    have ms : MulOk sp 48271 := mulOk_r (by omega)
    have p : ∀ a : Int, 0 ≤ a.fmod 1000 ∧ a.fmod 1000 < 1000 := fun a => fmod_pos (by decide)
    have slow : ∀ a b d : Int, 1000 ≠ (0 : Int) := fun _ _ _ => by decide
    walk_at "dl"
    refine ⟨⟨by decide, by decide, by decide⟩, ?_⟩
    split
    · split
      · exact ⟨by decide, hl', divOk_lit (by decide) (by decide), push _ _ _ (p _).1 (p _).2⟩
      · exact ⟨ms, mi, by decide, mix _, mi2, by decide, divOk_lit (by decide) (by decide), by decide, hl', push _ _ _ (p _).1 (p _).2⟩
    · split
      · rename_i h; exact absurd h (by decide)
      · exact ⟨ms, mi, by decide, mix _, mi2, by decide, divOk_lit (by decide) (by decide), by decide, hl', push _ _ _ (p _).1 (p _).2⟩
  · obtain ⟨rfl, r, sp, ns, x5, x6, hl, hs, rfl⟩ := hI
    walk_at "dl"
    exact q ns hl hs

/-! ### the law's state -/
def sp_Lstate0 : FSpec := fun ds tk Q => ∃ xs : List Int, ds = [.lst (xs.map D.int)] ∧ ∀ ns : List Int, ns.length = 120 → Small ns → Q (.own [.lst (ns.map D.int), .int 0]) tk
def sp_Lstate : FSpec := fun ds tk Q => ∃ xs : List Int, ds = [.lst (xs.map D.int)] ∧ tk = none ∧ Q (.val .st) (some 0)
theorem mon_Lstate : MonFS sp_Lstate := fun ds tk Q Q' h ⟨xs, e, e2, q⟩ => ⟨xs, e, e2, h _ _ q⟩
theorem len_Lstate0 : ∀ ds tk Q, sp_Lstate0 ds tk Q → ds.length = 1 := fun ds tk Q ⟨n, e, _⟩ => by rw [e]; rfl
abbrev N_Lstate : List Str := ["_law_script", "_law_numbers_here", "_law_k"]
def c_Lstate : WS :=
  (wSeq (wSet 1 (wLst wNil))
  (wSeq (wFor (wR1 (fz (wC (.int 3)))) (gN 2) (wSet 1 (wOp fAdd (wPk 1) (fz (wCall sp_Lnumbers (wCons (fz (wOp fAdd (fz (w1 fAbs (fz (wCall sp_Lcell (wCons (fz (wV 0)) (wCons (fz (wV 2)) wNil)))))) (fz (wOp fMul (fz (wC (.int 7919))) (wPk 2))))) (wCons (fz (wC (.int 40))) wNil)))))))
  (wRet (wLst (wCons (fz (wV 1)) (wCons (fz (wC (.int 0))) wNil))))))
theorem hw_Lstate0 : ∀ ds tk Q, sp_Lstate0 ds tk Q → c_Lstate { nx := fun _ t => Q (.val .non) t, rt := Q } (start N_Lstate.length ds) tk := by
  rintro ds tk Q ⟨xs, rfl, q⟩
  unfold c_Lstate
  walk_at "dl"
  refine ⟨rfl, by decide, by decide, ?_⟩
  refine forGo_rng (fun i e t => t = tk ∧ ∃ (ns : List Int) (x2 : Option EV), ns.length = 40 * i ∧ Small ns ∧ e = [some (.val (.lst (xs.map D.int))), some (.own (ns.map D.int)), x2]) (fun i e t R hi hI hR => ?_) (fun e t hI => ?_) ⟨rfl, [], none, rfl, (fun x h => nomatch h), rfl⟩
  · obtain ⟨rfl, ns, x2, hl, hs, rfl⟩ := hI
    walk_at "dl"
    refine ⟨xs, _, rfl, by omega, fun v => ?_⟩
    walk_at "dl"
    have hi' : i < 3 := hi
    refine ⟨mulOk_l (by decide), _, _, rfl, by decide, by decide, fun ms h1 h2 => ?_⟩
    walk_at "dl"
    simp only [fAdd_lst]
    have h1' : ms.length = 40 := h1
    refine ⟨Nat.le_of_lt (sz1000 (by rw [List.length_map, List.length_map]; omega)), hR _ _ ⟨rfl, ns ++ ms, _, by rw [List.length_append]; omega, fun x hx => ?_, by rw [List.map_append]⟩⟩
    rcases List.mem_append.mp hx with z | z
    · exact hs x z
    · exact h2 x z
  · obtain ⟨rfl, ns, x2, hl, hs, rfl⟩ := hI
    walk_at "dl"
    exact ⟨rfl, q ns hl hs⟩
theorem imp_Lstate {K : PySem.W.Frag} : ∀ vs H Q E, spD K sp_Lstate vs H Q E → spD K sp_Lstate0 vs H Q E := by
  rintro vs H Q E ⟨ω, ds, tk, sub, st, r, xs, rfl, rfl, q⟩
  refine ⟨ω, _, none, sub, st, r, xs, rfl, fun ns hl hs v ω' H' ret => ?_⟩
  obtain ⟨p, rfl, us, a1, a2, a3, a4, a5⟩ := ret.v
  obtain ⟨v0, vr, rfl, b1, b2⟩ := Reps.cons_iff.mp a5
  obtain ⟨v1, vr, rfl, b3, b4⟩ := Reps.cons_iff.mp b2
  rw [Reps.nil_iff] at b4
  subst b4
  rw [Rep.int_iff] at b3
  subst b3
  obtain ⟨n, ws, rfl, c1, c2⟩ := Rep.lst_iff.mp b1
  have e := asInts_reps (asInts_map ns) c2
  subst e
  have hg : ω'.g = none := by
    rcases ret.st with ⟨z, _⟩ | ⟨_, _, _, z, _⟩
    · exact z
    · cases z
  have h0 : H p = none := a4.1
  refine q (.ref p) ⟨some p, ω'.hd⟩ H' ⟨ret.sub, .inr ⟨p, 0, rfl, rfl, a2, n, ns, a1, c1, hl, hs⟩, ret.new, fun a h => ?_, ret.fr, ⟨fun a h => ?_, ret.le0.hd⟩, ?_⟩
  · cases h
    exact .inr h0
  · have := ret.le0.g a h
    rw [hg] at this
    cases this
  · exact (show Rep K ⟨some p, ω'.hd⟩ .st (.ref p) from Rep.st_iff.mpr ⟨p, rfl, rfl⟩)

def sp_Lnext : FSpec := fun ds tk Q => ∃ (m : Int) (c : Nat), ds = [.st, .int m] ∧ tk = some c ∧ 0 < m ∧ c < 2 ^ 50 ∧ ∀ v : Int, 0 ≤ v → v < m → Q (.val (.int v)) (some (c + 1))
theorem mon_Lnext : MonFS sp_Lnext := fun ds tk Q Q' h ⟨m, c, e, e2, h0, h1, q⟩ => ⟨m, c, e, e2, h0, h1, fun v a b => h _ _ (q v a b)⟩
abbrev N_Lnext : List Str := ["_law_state_here", "_law_many", "_law_number"]
theorem ret_Lnext {K : PySem.W.Frag} {ω : Wd} {H : Hp} {a n : Addr} {c : Nat} {ns : List Int} {v : Int} (sub : ∀ b o, ω.hd b = some o → H b = some o) (hg : ω.g = some a) (ha : ω.hd a = none) (e : H a = some (.lst [.ref n, .int (c : Int)])) (hn : SqL K ω.hd n (ns.map V.int)) (hl : ns.length = 120) (hs : ∀ x ∈ ns, (0 : Int) ≤ x ∧ x < 1000) :
    Ret ⟨K, ω, H, fun _ => False⟩ ω (upd H a (.lst [.ref n, .int ((c : Int) + 1)])) (some (c + 1)) (.val (.int v)) (.int v) where
  sub := fun b o h => by
    rw [upd_ne (fun z => by rw [z, ha] at h; cases h)]
    exact sub b o h
  st := .inr ⟨a, c + 1, hg, rfl, ha, n, ns, upd_same, hn, hl, hs⟩
  new := fun b h => .inl h
  ng := fun b h => .inl h
  fr := fun b o h q => by
    rw [upd_ne (fun z => q (by rw [z]; exact hg))]
    exact h
  le0 := .refl _
  v := show Rep K ω (.int v) (.int v) from Rep.int_iff.mpr rfl
def sp_Lwide : FSpec := fun ds tk Q => ∃ (m : Int) (c : Nat), ds = [.st, .int m] ∧ tk = some c ∧ 0 < m ∧ c + 6 < 2 ^ 50 ∧ ∀ v : Int, 0 ≤ v → v < m → Q (.val (.int v)) (some (c + 6))
theorem mon_Lwide : MonFS sp_Lwide := fun ds tk Q Q' h ⟨m, c, e, e2, h0, h1, q⟩ => ⟨m, c, e, e2, h0, h1, fun v a b => h _ _ (q v a b)⟩
theorem len_Lwide : ∀ ds tk Q, sp_Lwide ds tk Q → ds.length = 2 := fun ds tk Q ⟨n, c, e, _⟩ => by rw [e]; rfl
abbrev N_Lwide : List Str := ["_law_state_here", "_law_many", "_law_total", "_law_k"]
def c_Lwide : WS :=
  (wSeq (wSet 2 (wC (.int 0)))
  (wSeq (wFor (wR1 (fz (wC (.int 6)))) (gN 3) (wSet 2 (wOp fAdd (fz (wOp fMul (wPk 2) (fz (wC (.int 1000))))) (fz (wCall sp_Lnext (wCons (fz (wV 0)) (wCons (fz (wC (.int 1000))) wNil)))))))
  (wRet (wOp fMod (wPk 2) (wPk 1)))))
theorem hw_Lwide : ∀ ds tk Q, sp_Lwide ds tk Q → c_Lwide { nx := fun _ t => Q (.val .non) t, rt := Q } (start N_Lwide.length ds) tk := by
  rintro ds tk Q ⟨m, c, rfl, rfl, h0, h1, q⟩
  unfold c_Lwide
  walk_at "dl"
  refine ⟨by decide, by decide, ?_⟩
  refine forGo_rng (fun i e t => t = some (c + i) ∧ ∃ (x : Int) (x3 : Option EV), e = [some (.val .st), some (.val (.int m)), some (.val (.int x)), x3]) (fun i e t R hi hI hR => ?_) (fun e t hI => ?_) ⟨rfl, 0, none, rfl⟩
  · obtain ⟨rfl, x, x3, rfl⟩ := hI
    have hi' : i < 6 := hi
    walk_at "dl"
    refine ⟨mulOk_r (by decide), 1000, c + i, rfl, rfl, by decide, by omega, fun v _ _ => ?_⟩
    walk_at "dl"
    exact hR _ _ ⟨rfl, _, _, rfl⟩
  · obtain ⟨rfl, x, x3, rfl⟩ := hI
    walk_at "dl"
    exact ⟨by omega, q _ (fmod_pos h0).1 (fmod_pos h0).2⟩
end DL

namespace DL
open PySem PySem.Spec PyProof.Rows L2

/-! ### isinstance of a built-in class -/
def tyS : D → Option String
  | .non => some "NoneType"
  | .bl _ => some "bool"
  | .int _ => some "int"
  | .str _ => some "str"
  | .st => none
  | .tup _ => some "tuple"
  | .lst _ => some "list"
theorem RepP.tyX {c : C} {ω : Wd} {H : Hp} {d : D} {v : V} {t : String} (sub : ∀ b o, ω.hd b = some o → H b = some o) (h : RepP c ω H d v) (e : tyS d = some t) : TyX c.K H v (.type t) := by
  cases d with
  | non => cases e; rw [h.non]; exact .base .non
  | bl b => cases e; rw [h.bl]; exact .base (.bl b)
  | int b => cases e; rw [h.int]; exact .base (.int b)
  | str b => cases e; rw [h.str]; exact .base (.str b)
  | st => cases e
  | tup xs =>
    cases e
    obtain ⟨p, vs, rfl, sx, _⟩ := h.tup sub
    rcases sx with (sx | ⟨o, sx⟩) | ⟨o, its, n, sx, sc, _⟩
    · exact .base (.tup sx)
    · exact .fTuple sx
    · exact .kTuple sx sc
  | lst xs =>
    cases e
    obtain ⟨p, vs, rfl, sx, _⟩ := h.lst sub
    rcases sx with (sx | ⟨o, sx⟩) | ⟨o, its, n, sx, sc, _⟩
    · exact .base (.lst sx)
    · exact .base (.frz sx)
    · exact .kList sx sc
def isiB (T : String) (d : D) : Option Bool := (tyS d).bind fun t => if t = T then some true else if T = "int" && t = "bool" then some true else some false
def fIsi (T : String) : F1 := fun d q => match isiB T d with
  | some b => q (.val (.bl b))
  | none => False
theorem MonF1.isi {T : String} : MonF1 (fIsi T) := fun x _ _ h z => by
  unfold fIsi at z ⊢
  split at z
  · exact h _ z
  · exact z.elim
abbrev fIsi_bool := fIsi "bool"
abbrev fIsi_tuple := fIsi "tuple"
abbrev fIsi_list := fIsi "list"
abbrev fIsi_int := fIsi "int"
abbrev fIsi_str := fIsi "str"
/-- the classes that are asked -/
def KitOk (T : String) : Prop := ∀ t ∈ ["NoneType", "bool", "int", "str", "tuple", "list"], kitB t T = some (if t = T then true else if T = "int" && t = "bool" then true else false)
theorem kit_bool : KitOk "bool" := by unfold KitOk; decide +kernel
theorem kit_tuple : KitOk "tuple" := by unfold KitOk; decide +kernel
theorem kit_list : KitOk "list" := by unfold KitOk; decide +kernel
theorem kit_int : KitOk "int" := by unfold KitOk; decide +kernel
theorem kit_str : KitOk "str" := by unfold KitOk; decide +kernel
theorem tyS_mem {d : D} {t : String} (h : tyS d = some t) : t ∈ ["NoneType", "bool", "int", "str", "tuple", "list"] := by
  cases d <;> cases h <;> decide
section
variable {X : Cx} {c : C} {a : Expr} {wa : WD} {pos p p2 : Pos} {x y : Str}
theorem se_isi {T : String} (kt : KitOk T) (hK : c.K = X.K) (hg : Gl X "isinstance") (hm : X.mg "isinstance" = none) (hg2 : Gl X y) (hm2 : X.mg y = none) (hv : bootBuiltins y = some (.type T)) (ha : SP X c a wa) (hn : y ≠ "__name__" := by decide) (hdb : (y == ("__debug__" : Str)) = false := by decide)
    (he : starEach [a, .Name y p2] X.env = [(false, eval a X.env), (false, eval (.Name y p2) X.env)] := by rfl) : SE X c (.Call (.Name "isinstance" p) [a, .Name y p2] [] pos) (w1 (fIsi T) wa) := by
  have hb : PE X (.Name y p2) (tC (.ty T)) := pe_bltn hg2 hm2 hv (show RelV (.ty T) (.type T) from rfl) hn hdb
  have he2 : starEach [(.Name y p2 : Expr)] X.env = [(false, eval (.Name y p2) X.env)] := rfl
  refine ⟨.w1 .isi ha.mon, (pe_callB call_isi hg hm (by decide +kernel) (pa_cons ha.run (pa_cons hb pa_nil he2) (by rw [he, he2])) (by decide) (by decide) (by rw [he, he2]) (by rw [he2]; rfl)).wk fun σ H Q h => ?_⟩
  refine run_1 (r := fun v H Q => rIsi X.K [v, .ty T] H Q) .isi (fun ω H σ env tk x v q Q ok rx h hr => ?_) ha h
  unfold fIsi isiB at h
  cases z : tyS x with
  | none => rw [z] at h; exact h.elim
  | some t =>
    rw [z] at h
    have k := kt t (tyS_mem z)
    have ty := rx.tyX ok.sub z
    rw [hK] at ty
    refine ⟨v, .ty T, .type t, .type T, _, rfl, .ty T, ty, kit_ty k, ?_⟩
    simp only [Option.bind_some] at h
    by_cases e1 : t = T
    · rw [if_pos e1] at h ⊢
      exact hr.bl ok h
    · rw [if_neg e1] at h ⊢
      by_cases e2 : (decide (T = "int") && decide (t = "bool")) = true
      · rw [if_pos e2] at h ⊢
        exact hr.bl ok h
      · rw [if_neg e2] at h ⊢
        exact hr.bl ok h
theorem se_isi_bool (hK : c.K = X.K) (hg : Gl X "isinstance") (hm : X.mg "isinstance" = none) (hg2 : Gl X "bool") (hm2 : X.mg "bool" = none) (ha : SP X c a wa)
    (he : starEach [a, .Name "bool" p2] X.env = [(false, eval a X.env), (false, eval (.Name "bool" p2) X.env)] := by rfl) : SE X c (.Call (.Name "isinstance" p) [a, .Name "bool" p2] [] pos) (w1 fIsi_bool wa) := se_isi kit_bool hK hg hm hg2 hm2 (by decide +kernel) ha (he := he)
theorem se_isi_tuple (hK : c.K = X.K) (hg : Gl X "isinstance") (hm : X.mg "isinstance" = none) (hg2 : Gl X "tuple") (hm2 : X.mg "tuple" = none) (ha : SP X c a wa)
    (he : starEach [a, .Name "tuple" p2] X.env = [(false, eval a X.env), (false, eval (.Name "tuple" p2) X.env)] := by rfl) : SE X c (.Call (.Name "isinstance" p) [a, .Name "tuple" p2] [] pos) (w1 fIsi_tuple wa) := se_isi kit_tuple hK hg hm hg2 hm2 (by decide +kernel) ha (he := he)
theorem se_isi_list (hK : c.K = X.K) (hg : Gl X "isinstance") (hm : X.mg "isinstance" = none) (hg2 : Gl X "list") (hm2 : X.mg "list" = none) (ha : SP X c a wa)
    (he : starEach [a, .Name "list" p2] X.env = [(false, eval a X.env), (false, eval (.Name "list" p2) X.env)] := by rfl) : SE X c (.Call (.Name "isinstance" p) [a, .Name "list" p2] [] pos) (w1 fIsi_list wa) := se_isi kit_list hK hg hm hg2 hm2 (by decide +kernel) ha (he := he)
/-- a constant of the module -/
structure Kon (K : PySem.W.Frag) (mg : Str → Option Value) (x : Str) (d : D) : Prop where
  ex : ∃ v u, mg x = some u ∧ RelV v u ∧ ∀ ω, Rep K ω d v
theorem se_k {d : D} (hK : c.K = X.K) (hg : Gl X x) (k : Kon X.K X.mg x d) (hd : (x == ("__debug__" : Str)) = false := by decide) : SE X c (.Name x pos) (wC d) := by
  obtain ⟨v, u, hm, r, h⟩ := k.ex
  exact se_c (pe_glob hg hm r hd) fun ω => by rw [hK]; exact h ω
end
/-! ### the law's own end -/
def sp_law : FSpec := fun ds tk Q => ∃ xs : List Int, ds = [.lst (xs.map D.int)] ∧ xs.length ≤ 63 ∧ tk = none ∧ ∀ t, Q (.val (.bl true)) t
theorem len_law : ∀ ds tk Q, sp_law ds tk Q → ds.length = 1 := fun ds tk Q ⟨n, e, _⟩ => by rw [e]; rfl
theorem law_in {K : PySem.W.Frag} {H : Hp} {a : Addr} {ns : List Int} (hl : ns.length ≤ 63) (hS : SqL K H a (ns.map V.int)) : spD K sp_law [.ref a] H (fun v _ => v = .bl true) fun _ _ _ => False :=
  ⟨⟨none, H⟩, [.lst (ns.map D.int)], none, fun _ _ h => h, .inl ⟨rfl, rfl⟩, Reps.cons (Rep.lst_iff.mpr ⟨a, _, rfl, hS, reps_ints ns⟩) Reps.nil, ns, rfl, hl, rfl, fun t v ω' H' ret => Rep.bl_iff.mp (show Rep K ω' (.bl true) v from ret.v)⟩
end DL
local macro_rules | `(tactic| walk_at "dl") => `(tactic| simp (config := { failIfUnchanged := false }) only [↓DL.wSeq, ↓DL.wSet, ↓DL.wIfS, ↓DL.wRet, ↓DL.wRetV, ↓DL.wRetN, ↓DL.wNext, ↓DL.wPk, ↓DL.wV, ↓DL.wC, ↓DL.fz, ↓DL.wOp, ↓DL.w1, ↓DL.EV.d, ↓DL.wT_bl, ↓DL.wAnd, ↓DL.wOr, ↓DL.wNot, ↓DL.wB, ↓DL.wIf, ↓DL.wCons, ↓DL.wNil, ↓DL.wTup, ↓DL.wLst, ↓DL.wPar, ↓DL.wPar3, ↓DL.wAsg, ↓DL.wCall, ↓DL.wDrop, ↓DL.gN, ↓DL.gT, ↓DL.gCs, ↓DL.gNl, ↓DL.wR1, ↓DL.wR2, ↓DL.wSrc, ↓DL.wBrk, ↓DL.wCnt, ↓DL.wApp, ↓DL.wFor, ↓DL.fAdd_int, ↓DL.fI_int, ↓DL.fJ_int, ↓DL.fEq_int, ↓DL.fNe_int, ↓DL.fIdx_lst, ↓DL.fIdx_tup, ↓DL.fNeg, ↓DL.fAbs, ↓DL.fInt, ↓DL.fLen, ↓DL.start_def, List.getElem?_cons_zero, List.getElem?_cons_succ, List.set_cons_zero, List.set_cons_succ, List.map_cons, List.map_nil, List.length_cons, List.length_nil, List.replicate_succ, List.replicate_zero, List.cons_append, List.nil_append, Nat.reduceAdd, Nat.reduceSub, Nat.zero_add, decide_eq_true_eq, true_and, and_true])
namespace DL
open PySem PySem.Spec PyProof.Rows L2
def sp_floor_root : FSpec := fun ds tk Q => ∃ n : Int, ds = [.int n] ∧ 0 ≤ n ∧ n < 2 ^ 13000 ∧ ∀ r : Int, 0 ≤ r → r * r ≤ n → n < (r + 1) * (r + 1) → Q (.val (.int r)) tk
theorem mon_floor_root : MonFS sp_floor_root := fun ds tk Q Q' h ⟨n, e, h0, h1, q⟩ => ⟨n, e, h0, h1, fun r a b d => h _ _ (q r a b d)⟩
theorem len_floor_root : ∀ ds tk Q, sp_floor_root ds tk Q → ds.length = 1 := fun ds tk Q ⟨n, e, _⟩ => by rw [e]; rfl
abbrev N_floor_root : List Str := ["n"]
def c_floor_root : WS :=
  (wRet (w1 fSqrt (wPk 0)))
theorem isq_spec {n : Int} (h : 0 ≤ n) : (0 : Int) ≤ ((Float64.isqrt n.toNat : Nat) : Int) ∧ ((Float64.isqrt n.toNat : Nat) : Int) * ((Float64.isqrt n.toNat : Nat) : Int) ≤ n ∧ n < (((Float64.isqrt n.toNat : Nat) : Int) + 1) * (((Float64.isqrt n.toNat : Nat) : Int) + 1) := by
  obtain ⟨a, b⟩ := Float64.isqrt_spec n.toNat
  generalize Float64.isqrt n.toNat = r at a b
  have e : ((n.toNat : Nat) : Int) = n := by omega
  refine ⟨Int.natCast_nonneg _, ?_, ?_⟩
  · have := Int.ofNat_le.mpr a
    rw [Int.natCast_mul, e] at this
    exact this
  · have := Int.ofNat_lt.mpr b
    rw [Int.natCast_mul, e] at this
    exact this
theorem log2_lt {n : Int} {k : Nat} (hk : 0 < k) (h0 : 0 ≤ n) (h : n < 2 ^ k) : n.toNat.log2 < k := by
  have h' : n.toNat < 2 ^ k := by
    have : (n.toNat : Int) < ((2 ^ k : Nat) : Int) := by
      rw [Int.natCast_pow, show (n.toNat : Int) = n by omega]
      exact h
    exact Int.ofNat_lt.mp this
  exact PySem.Flt.log2_lt_of hk h'
theorem hw_floor_root : ∀ ds tk Q, sp_floor_root ds tk Q → c_floor_root { nx := fun _ t => Q (.val .non) t, rt := Q } (start N_floor_root.length ds) tk := by
  rintro ds tk Q ⟨n, rfl, h0, h1, q⟩
  unfold c_floor_root
  walk_at "dl"
  obtain ⟨a, b, d⟩ := isq_spec h0
  exact ⟨h0, Nat.lt_of_lt_of_le (log2_lt (by decide) h0 h1) (by decide), q _ a b d⟩
/-- a root's square is the number exactly if it is a square -/
theorem root_sq {n r : Int} (h0 : 0 ≤ r) (h1 : r * r ≤ n) (h2 : n < (r + 1) * (r + 1)) : (r * r = n) ↔ ∃ s : Int, s * s = n := by
  constructor
  · intro h; exact ⟨r, h⟩
  · rintro ⟨s, rfl⟩
    have key : ∀ s : Int, 0 ≤ s → r * r ≤ s * s → s * s < (r + 1) * (r + 1) → r * r = s * s := by
      intro s hs a b
      have l1 : r ≤ s := by
        rcases Int.lt_or_le s r with z | z
        · exfalso
          have := Int.mul_le_mul (show s ≤ r by omega) (show s + 1 ≤ r by omega) (by omega) h0
          have e2 : s * (s + 1) = s * s + s := by rw [Int.mul_add, Int.mul_one]
          have := Int.mul_le_mul (show s + 1 ≤ r by omega) (show s + 1 ≤ r by omega) (by omega) h0
          have e3 : (s + 1) * (s + 1) = s * s + 2 * s + 1 := by rw [Int.add_mul, Int.mul_add, Int.mul_one, Int.one_mul]; omega
          omega
        · exact z
      have l2 : s < r + 1 := by
        rcases Int.lt_or_le s (r + 1) with z | z
        · exact z
        · have := Int.mul_le_mul z z (by omega) (by omega)
          omega
      have : s = r := by omega
      rw [this]
    rcases Int.lt_or_le s 0 with z | z
    · have e : s * s = (-s) * (-s) := by rw [Int.neg_mul_neg]
      rw [e] at h1 h2 ⊢
      exact key (-s) (by omega) h1 h2
    · exact key s z h1 h2
def IsSq (n : Int) : Prop := ∃ s : Int, s * s = n
def isSqB (n : Int) : Bool := decide (0 ≤ n) && decide (((Float64.isqrt n.toNat : Nat) : Int) * ((Float64.isqrt n.toNat : Nat) : Int) = n)
theorem isSqB_iff {n : Int} : isSqB n = true ↔ IsSq n := by
  unfold isSqB
  rw [Bool.and_eq_true, decide_eq_true_eq, decide_eq_true_eq]
  constructor
  · rintro ⟨_, h⟩; exact ⟨_, h⟩
  · intro h
    have h0 : 0 ≤ n := by
      obtain ⟨s, rfl⟩ := h
      rcases Int.le_total 0 s with z | z
      · exact Int.mul_nonneg z z
      · exact Int.mul_nonneg_of_nonpos_of_nonpos z z
    obtain ⟨a, b, d⟩ := isq_spec h0
    exact ⟨h0, (root_sq a b d).mpr h⟩
def sp_is_square : FSpec := fun ds tk Q => ∃ n : Int, ds = [.int n] ∧ n < 2 ^ 13000 ∧ Q (.val (.bl (isSqB n))) tk
theorem mon_is_square : MonFS sp_is_square := fun ds tk Q Q' h ⟨n, e, h1, q⟩ => ⟨n, e, h1, h _ _ q⟩
theorem len_is_square : ∀ ds tk Q, sp_is_square ds tk Q → ds.length = 1 := fun ds tk Q ⟨n, e, _⟩ => by rw [e]; rfl
abbrev N_is_square : List Str := ["n"]
def c_is_square : WS :=
  (wRet (wB (wAnd (wT (wOp fGe (wPk 0) (fz (wC (.int 0))))) (wT (wOp fEq (fz (wOp fMul (fz (w1 fSqrt (wPk 0))) (fz (w1 fSqrt (wPk 0))))) (wPk 0))))))
theorem isSqB_true {n : Int} (h : IsSq n) : isSqB n = true := isSqB_iff.mpr h
theorem isSqB_false {n : Int} (h : ¬ IsSq n) : isSqB n = false := Bool.eq_false_iff.mpr fun e => h (isSqB_iff.mp e)
theorem isSqB_neg {n : Int} (h : n < 0) : isSqB n = false := isSqB_false fun ⟨s, e⟩ => by
  have : 0 ≤ s * s := by
    rcases Int.le_total 0 s with z | z
    · exact Int.mul_nonneg z z
    · exact Int.mul_nonneg_of_nonpos_of_nonpos z z
  omega
theorem hw_is_square : ∀ ds tk Q, sp_is_square ds tk Q → c_is_square { nx := fun _ t => Q (.val .non) t, rt := Q } (start N_is_square.length ds) tk := by
  rintro ds tk Q ⟨n, rfl, h1, q⟩
  unfold c_is_square
  walk_at "dl"
  simp only [fSqrt]
  walk_at "dl"
  have sq : isSqB n = if 0 ≤ n then decide (((Float64.isqrt n.toNat : Nat) : Int) * ((Float64.isqrt n.toNat : Nat) : Int) = n) else false := by
    unfold isSqB
    split
    · rename_i h; rw [decide_eq_true h, Bool.true_and]
    · rename_i h; rw [decide_eq_false h, Bool.false_and]
  rw [sq] at q
  split
  · rename_i h0
    rw [if_pos h0] at q
    have hl : n.toNat.log2 < 13400 := Nat.lt_of_lt_of_le (log2_lt (by decide) h0 h1) (by decide)
    obtain ⟨a, b, d⟩ := isq_spec h0
    refine ⟨h0, hl, h0, hl, .inl ?_, q⟩
    have e : ((Float64.isqrt n.toNat : Nat) : Int).natAbs = Float64.isqrt n.toNat := rfl
    have hb : Float64.isqrt n.toNat ≤ n.toNat := by
      obtain ⟨a, _⟩ := Float64.isqrt_spec n.toNat
      refine Nat.le_trans ?_ a
      rcases Nat.eq_zero_or_pos (Float64.isqrt n.toNat) with z | z
      · rw [z]; exact Nat.le_refl 0
      · exact Nat.le_mul_of_pos_left _ z
    have hlog : (Float64.isqrt n.toNat).log2 ≤ n.toNat.log2 := by
      rcases Nat.eq_zero_or_pos (Float64.isqrt n.toNat) with z | z
      · rw [z, Nat.log2_zero]; exact Nat.zero_le _
      · exact (Nat.le_log2 (by omega)).mpr (Nat.le_trans (Nat.log2_self_le (by omega)) hb)
    unfold CMulW
    rw [e]
    omega
  · rename_i h0
    rw [if_neg h0] at q
    exact q
end DL
local macro_rules | `(tactic| walk_at "dl") => `(tactic| simp (config := { failIfUnchanged := false }) only [↓DL.wSeq, ↓DL.wSet, ↓DL.wIfS, ↓DL.wRet, ↓DL.wRetV, ↓DL.wRetN, ↓DL.wNext, ↓DL.wPk, ↓DL.wV, ↓DL.wC, ↓DL.fz, ↓DL.wOp, ↓DL.w1, ↓DL.EV.d, ↓DL.wT_bl, ↓DL.wAnd, ↓DL.wOr, ↓DL.wNot, ↓DL.wB, ↓DL.wIf, ↓DL.wCons, ↓DL.wNil, ↓DL.wTup, ↓DL.wLst, ↓DL.wPar, ↓DL.wPar3, ↓DL.wAsg, ↓DL.wCall, ↓DL.wDrop, ↓DL.gN, ↓DL.gT, ↓DL.gCs, ↓DL.gNl, ↓DL.wR1, ↓DL.wR2, ↓DL.wSrc, ↓DL.wBrk, ↓DL.wCnt, ↓DL.wApp, ↓DL.wFor, ↓DL.fAdd_int, ↓DL.fI_int, ↓DL.fJ_int, ↓DL.fEq_int, ↓DL.fNe_int, ↓DL.fIdx_lst, ↓DL.fIdx_tup, ↓DL.fNeg, ↓DL.fAbs, ↓DL.fInt, ↓DL.fLen, ↓DL.start_def, List.getElem?_cons_zero, List.getElem?_cons_succ, List.set_cons_zero, List.set_cons_succ, List.map_cons, List.map_nil, List.length_cons, List.length_nil, List.replicate_succ, List.replicate_zero, List.cons_append, List.nil_append, Nat.reduceAdd, Nat.reduceSub, Nat.zero_add, decide_eq_true_eq, true_and, and_true])
namespace DL
open PySem PySem.Spec PyProof.Rows L2
/-! ### rows for the walks of the laws -/
theorem eqv_bl {i j : Bool} : D.eqv (.bl i) (.bl j) = (i == j) := rfl
theorem ok_bl {i : Bool} : D.ok (.bl i) = true := by unfold D.ok okN; rfl
theorem fEq_bl {i j : Bool} {q : EV → Prop} (h : q (.val (.bl (i == j)))) : fEq (.bl i) (.bl j) q := ⟨ok_bl, ok_bl, h⟩
theorem mulOk_big {i j : Int} {a b : Nat} (ha : i.natAbs < 2 ^ a) (hb : j.natAbs < 2 ^ b) (h0 : 0 < a) (h1 : 0 < b) (h : a + b ≤ 1000000) : MulOk i j := .inl (wide_mul ha hb h0 h1 h)
theorem fIdx_of {ds : List D} {i : Int} {q : EV → Prop} (P : D → Prop) (h0 : 0 ≤ i) (h1 : i < (ds.length : Int)) (hp : ∀ d ∈ ds, P d) (k : ∀ d, P d → q (.val d)) : fIdx (.lst ds) (.int i) q := by
  obtain ⟨d, e, e2⟩ := atI_some h0 h1
  show (match atI ds i with | some d => q (.val d) | none => False)
  rw [e]
  exact k d (hp d (List.mem_of_getElem? e2))
theorem all1 {P : D → Prop} {a : D} (h1 : P a) : ∀ d ∈ [a], P d := fun d h => by rw [List.mem_singleton] at h; subst h; exact h1
theorem allc {P : D → Prop} {a : D} {l : List D} (h1 : P a) (h2 : ∀ d ∈ l, P d) : ∀ d ∈ a :: l, P d := fun d h => by
  rcases List.mem_cons.mp h with rfl | h
  · exact h1
  · exact h2 d h
theorem all2 {P : D → Prop} {a b : D} (h1 : P a) (h2 : P b) : ∀ d ∈ [a, b], P d := allc h1 (all1 h2)
theorem all3 {P : D → Prop} {a b e : D} (h1 : P a) (h2 : P b) (h3 : P e) : ∀ d ∈ [a, b, e], P d := allc h1 (all2 h2 h3)
/-- what holds between two statements -/
theorem seq_cut {a b : WS} {P : Post} {env : En} {tk : Tk} (I : En → Tk → Prop) (h1 : ∀ R : En → Tk → Prop, (∀ e t, I e t → R e t) → a { P with nx := R } env tk) (h2 : ∀ e t, I e t → b P e t) : wSeq a b P env tk := h1 _ h2
theorem ifT {c A B : Prop} [Decidable c] (h : c) (k : A) : if decide c = true then A else B := by rw [if_pos (decide_eq_true h)]; exact k
theorem ifF {c A B : Prop} [Decidable c] (h : ¬ c) (k : B) : if decide c = true then A else B := by rw [if_neg (by rw [decide_eq_true_eq]; exact h)]; exact k
theorem if2 {c A B : Prop} [Decidable c] (h : c → A) (k : ¬ c → B) : if decide c = true then A else B := by
  by_cases z : c
  · exact ifT z (h z)
  · exact ifF z (k z)
theorem ifB {b : Bool} {A B : Prop} (h : b = true) (k : A) : if b = true then A else B := by rw [if_pos h]; exact k
theorem ifBF {b : Bool} {A B : Prop} (h : b = false) (k : B) : if b = true then A else B := by rw [h]; exact k
theorem ifN {c A B : Prop} [Decidable c] (h : c) (k : B) : if (!decide c) = true then A else B := by rw [decide_eq_true h]; exact k
theorem ifNT {c A B : Prop} [Decidable c] (h : ¬ c) (k : A) : if (!decide c) = true then A else B := by rw [decide_eq_false h]; exact k
theorem ifN2 {c A B : Prop} [Decidable c] (h : ¬ c → A) (k : c → B) : if (!decide c) = true then A else B := by
  by_cases z : c
  · exact ifN z (k z)
  · exact ifNT z (h z)
/-- a test of != on equal data -/
theorem ifNB {b : Bool} {A B : Prop} (h : b = true) (k : B) : if (!b) = true then A else B := by rw [h]; exact k
theorem natAbs_lt {n : Int} {k : Nat} (h0 : 0 ≤ n) (h : n < 2 ^ k) : n.natAbs < 2 ^ k := by
  have : (n.natAbs : Int) < ((2 ^ k : Nat) : Int) := by
    rw [Int.natCast_pow, show (n.natAbs : Int) = n by omega]
    exact h
  exact Int.ofNat_lt.mp this
theorem int_lt_pow {n m : Nat} (h : n < m) {k : Nat} (hm : m ≤ 2 ^ k) : (n : Int) < 2 ^ k := by
  have : (n : Int) < ((2 ^ k : Nat) : Int) := Int.ofNat_lt.mpr (Nat.lt_of_lt_of_le h hm)
  rw [Int.natCast_pow] at this
  exact this
theorem pow_mono {m j k : Nat} (hm : 0 < m) (h : j ≤ k) : m ^ j ≤ m ^ k := Nat.pow_le_pow_right hm h
theorem ok_tup {xs : List D} (h : okNs 59 xs = true) : D.ok (.tup xs) = true := by unfold D.ok okN; exact h
theorem okNs_int {n : Nat} {i : Int} {l : List D} (h : okNs n l = true) : okNs n (.int i :: l) = true := by unfold okNs okN; exact h
theorem okNs_nil {n : Nat} : okNs n [] = true := by unfold okNs; rfl
theorem ok_t4 {a b c d : Int} : D.ok (.tup [.int a, .int b, .int c, .int d]) = true := ok_tup (okNs_int (okNs_int (okNs_int (okNs_int okNs_nil))))
theorem ok_t3 {a b c : Int} : D.ok (.tup [.int a, .int b, .int c]) = true := ok_tup (okNs_int (okNs_int (okNs_int okNs_nil)))
theorem ok_t2 {a b : Int} : D.ok (.tup [.int a, .int b]) = true := ok_tup (okNs_int (okNs_int okNs_nil))
theorem eqv_self {d : D} (h : d.ok = true) : d.eqv d = true := PySem.SeqAt.eqv_refl _ (okN_lay d 60 h).1
theorem eqv_eq {x y : D} (e : x = y) (h : x.ok = true) : x.eqv y = true := by subst e; exact eqv_self h
/-- equal: == tells True -/
theorem fEq_t {x y : D} {q : EV → Prop} (e : x = y) (h : x.ok = true) (k : q (.val (.bl true))) : fEq x y q := by
  subst e
  cases x <;> first | exact ⟨h, h, by rw [eqv_self h]; exact k⟩ | skip
  next i =>
    have z : decide (i = i) = true := decide_eq_true rfl
    show q (.val (.bl (decide (i = i))))
    rw [z]; exact k
/-- equal: != tells False -/
theorem fNe_f {x y : D} {q : EV → Prop} (e : x = y) (h : x.ok = true) (k : q (.val (.bl false))) : fNe x y q := by
  subst e
  cases x <;> first | exact ⟨h, h, by rw [eqv_self h]; exact k⟩ | skip
  next i =>
    have z : decide (i = i) = true := decide_eq_true rfl
    show q (.val (.bl (!decide (i = i))))
    rw [z]; exact k
theorem kon_t4 {K : PySem.W.Frag} {mg : Str → Option Value} {x : Str} {u : Addr} {a b c d : Int} {od : Option Addr} {t1 t2 t3 t4 : Tok} {n : Nat} {sl : Array (Option Value)} (hm : mg x = some (.ref u)) (l : K.lookup u = some ⟨.type "tuple", od, .seq #[.int a t1, .int b t2, .int c t3, .int d t4] n, sl⟩) : Kon K mg x (.tup [.int a, .int b, .int c, .int d]) :=
  ⟨.ref u, .ref u, hm, rfl, fun ω => Rep.tup_iff.mpr ⟨u, [.int a, .int b, .int c, .int d], rfl, .inr ⟨_, _, n, l, rfl, rfl, (show 4 ≤ sizeLine by decide), .cons ⟨t1, rfl⟩ (.cons ⟨t2, rfl⟩ (.cons ⟨t3, rfl⟩ (.cons ⟨t4, rfl⟩ .nil)))⟩, .cons (Rep.int_iff.mpr rfl) (.cons (Rep.int_iff.mpr rfl) (.cons (Rep.int_iff.mpr rfl) (.cons (Rep.int_iff.mpr rfl) .nil)))⟩⟩
/-! ### sizes -/
/-- a size that every product of a few such numbers still has room for -/
def Sm (k : Nat) (x : Int) : Prop := x.natAbs < 2 ^ k
theorem Sm.mulOk {x y : Int} {k j : Nat} (h : Sm k x) (h' : Sm j y) (hk : k ≤ 400000) (hj : j ≤ 400000) : MulOk x y := by
  refine .inl (wide_mul (a := k + 1) (b := j + 1) (Nat.lt_of_lt_of_le h (Nat.pow_le_pow_right (by decide) (by omega))) (Nat.lt_of_lt_of_le h' (Nat.pow_le_pow_right (by decide) (by omega))) (by omega) (by omega) (by omega))
theorem Sm.mono {x : Int} {k j : Nat} (h : Sm k x) (hk : k ≤ j) : Sm j x := Nat.lt_of_lt_of_le h (Nat.pow_le_pow_right (by decide) hk)
theorem Sm.mul {x y : Int} {k j : Nat} (h : Sm k x) (h' : Sm j y) : Sm (k + j) (x * y) := by
  unfold Sm at *
  rw [Int.natAbs_mul, Nat.pow_add]
  exact Nat.mul_lt_mul'' h h'
theorem Sm.add {x y : Int} {k : Nat} (h : Sm k x) (h' : Sm k y) : Sm (k + 1) (x + y) := by
  unfold Sm at *
  rw [Nat.pow_succ]
  omega
theorem Sm.sub {x y : Int} {k : Nat} (h : Sm k x) (h' : Sm k y) : Sm (k + 1) (x - y) := by
  unfold Sm at *
  rw [Nat.pow_succ]
  omega
theorem Sm.neg {x : Int} {k : Nat} (h : Sm k x) : Sm k (-x) := by unfold Sm at *; rw [Int.natAbs_neg]; exact h
theorem sm_of {x : Int} {k : Nat} (h0 : -(2 ^ k : Nat) < x) (h1 : x < (2 ^ k : Nat)) : Sm k x := by unfold Sm; omega
abbrev BG : Nat := 200000
/-- a small number -/
theorem sm_lit {x : Int} (h : x.natAbs < 2 ^ 64) : Sm BG x := Nat.lt_of_lt_of_le h (Nat.pow_le_pow_right (by decide) (by decide))
/-! ### a, b = x, y -/
section
variable {X : Cx} {c : C}
theorem ss_par {i j : Nat} {x y : Str} {a b : Expr} {r : WA} {px py pt pos : Pos} {kt k2 : Nat} {pt2 : Pos} (hc : X.calm = true) (hN : X.N.Nodup) (hi : X.N[i]? = some x) (hj : X.N[j]? = some y) (hij : i ≠ j)
    (hx : X.env.scope.names.lookup x = some .local) (hy : X.env.scope.names.lookup y = some .local) (ha : SA X c [a, b] r)
    (hw : swappedStores [.Tuple [.Name x px, .Name y py] kt pt] (.Tuple [a, b] k2 pt2) X.env = pure (some [x, y]) := by rfl)
    (hs : swapsWithSole [.Tuple [.Name x px, .Name y py] kt pt] (.Tuple [a, b] k2 pt2) pos.line X.env = pure false := by rfl) :
    SS X c (.Assign [.Tuple [.Name x px, .Name y py] kt pt] (.Tuple [a, b] k2 pt2) pos) (wPar i j r) :=
  ⟨.par ha.mon, (ps_par hc hN hi hj hij hx hy ha.run hw hs).wk fun _ _ _ q => run_par ha.mon q⟩
theorem ss_par3 {i j l : Nat} {x y z : Str} {a b d : Expr} {r : WA} {px py pz pt pos : Pos} {kt k2 : Nat} {pt2 : Pos} (hc : X.calm = true) (hN : X.N.Nodup) (hi : X.N[i]? = some x) (hj : X.N[j]? = some y) (hl : X.N[l]? = some z) (hij : i ≠ j) (hil : i ≠ l) (hjl : j ≠ l)
    (hx : X.env.scope.names.lookup x = some .local) (hy : X.env.scope.names.lookup y = some .local) (hz : X.env.scope.names.lookup z = some .local) (ha : SA X c [a, b, d] r)
    (hw : swappedStores [.Tuple [.Name x px, .Name y py, .Name z pz] kt pt] (.Tuple [a, b, d] k2 pt2) X.env = pure (some [x, y, z]) := by rfl)
    (hs : swapsWithSole [.Tuple [.Name x px, .Name y py, .Name z pz] kt pt] (.Tuple [a, b, d] k2 pt2) pos.line X.env = pure false := by rfl) :
    SS X c (.Assign [.Tuple [.Name x px, .Name y py, .Name z pz] kt pt] (.Tuple [a, b, d] k2 pt2) pos) (wPar3 i j l r) :=
  ⟨.par3 ha.mon, (ps_par3 hc hN hi hj hl hij hil hjl hx hy hz ha.run hw hs).wk fun _ _ _ q => run_par3 ha.mon q⟩
end
/-! ### a, b = [..] -/
def gL (n : Nat) (g : WGs) : WG := fun d env Q => match d with
  | .lst ds => ds.length = n ∧ g ds env Q
  | _ => False
section
variable {X : Cx} {c : C} {pos : Pos}
theorem sg_lst {es : List Expr} {k n : Nat} {t : TGs} {g : WGs} {vs : List Nat} (hK : c.K = X.K) (hc : X.calm = true) (hg : SGs X c es t g vs) (hn : (assignEach es X.env).length = n := by rfl) (hst : (assignEach es X.env).findIdx? (·.1) = none := by rfl) : SG X c (.Tuple es k pos) (gLst X.K n t) (gL n g) vs where
  mon := fun d env Q Q' k q => by cases d <;> first | exact (show False from q).elim | exact ⟨q.1, hg.mon _ _ _ _ k q.2⟩
  loc := fun d env Q q => by cases d <;> first | exact (show False from q).elim | exact ⟨q.1, hg.loc _ _ _ q.2⟩
  pg := pg_lst hc hg.pg hn hst
  run := fun σ H v Q ω env tk d ok r q => by
    cases d <;> first | exact (show False from q).elim | skip
    obtain ⟨a, vs, rfl, h1, h2⟩ := Rep.lst_iff.mp r
    rw [hK] at h1
    exact ⟨a, vs, rfl, sqL_mono ok.sub h1, by rw [h2.length]; exact q.1, hg.run σ H vs Q ω env tk _ ok h2 q.2⟩
end
end DL
local macro_rules | `(tactic| walk_at "dl") => `(tactic| simp (config := { failIfUnchanged := false }) only [↓DL.wSeq, ↓DL.wSet, ↓DL.wIfS, ↓DL.wRet, ↓DL.wRetV, ↓DL.wRetN, ↓DL.wNext, ↓DL.wPk, ↓DL.wV, ↓DL.wC, ↓DL.fz, ↓DL.wOp, ↓DL.w1, ↓DL.EV.d, ↓DL.wT_bl, ↓DL.wAnd, ↓DL.wOr, ↓DL.wNot, ↓DL.wB, ↓DL.wIf, ↓DL.wCons, ↓DL.wNil, ↓DL.wTup, ↓DL.wLst, ↓DL.wPar, ↓DL.wPar3, ↓DL.wAsg, ↓DL.wCall, ↓DL.wDrop, ↓DL.gN, ↓DL.gT, ↓DL.gCs, ↓DL.gNl, ↓DL.wR1, ↓DL.wR2, ↓DL.wSrc, ↓DL.wBrk, ↓DL.wCnt, ↓DL.wApp, ↓DL.wFor, ↓DL.fAdd_int, ↓DL.fI_int, ↓DL.fJ_int, ↓DL.fEq_int, ↓DL.fNe_int, ↓DL.fIdx_lst, ↓DL.fIdx_tup, ↓DL.fNeg, ↓DL.fAbs, ↓DL.fInt, ↓DL.fLen, ↓DL.start_def, List.getElem?_cons_zero, List.getElem?_cons_succ, List.set_cons_zero, List.set_cons_succ, List.map_cons, List.map_nil, List.length_cons, List.length_nil, List.replicate_succ, List.replicate_zero, List.cons_append, List.nil_append, Nat.reduceAdd, Nat.reduceSub, Nat.zero_add, decide_eq_true_eq, true_and, and_true])
namespace DL
open PySem PySem.Spec PyProof.Rows L2
/-! ### matrices, points, forms -/
structure M4 where
  p : Int
  q : Int
  r : Int
  s : Int
  deriving DecidableEq
def M4.D (m : M4) : D := .tup [.int m.p, .int m.q, .int m.r, .int m.s]
structure P2 where
  x : Int
  y : Int
  deriving DecidableEq
def P2.D (m : P2) : D := .tup [.int m.x, .int m.y]
structure F3 where
  a : Int
  b : Int
  c : Int
  deriving DecidableEq
def F3.D (m : F3) : D := .tup [.int m.a, .int m.b, .int m.c]
def M4.Sm (k : Nat) (m : M4) : Prop := DL.Sm k m.p ∧ DL.Sm k m.q ∧ DL.Sm k m.r ∧ DL.Sm k m.s
def M4.mul (m n : M4) : M4 := ⟨m.p * n.p + m.q * n.r, m.p * n.q + m.q * n.s, m.r * n.p + m.s * n.r, m.r * n.q + m.s * n.s⟩
def M4.one : M4 := ⟨1, 0, 0, 1⟩
def M4.det (m : M4) : Int := m.p * m.s - m.q * m.r
def M4.at (m : M4) (v : P2) : P2 := ⟨m.p * v.x + m.q * v.y, m.r * v.x + m.s * v.y⟩
def M4.neg (m : M4) : M4 := ⟨-m.p, -m.q, -m.r, -m.s⟩
def M4.inv (m : M4) : M4 := ⟨m.det * m.s, -m.det * m.q, -m.det * m.r, m.det * m.p⟩
def P2.Sm (k : Nat) (m : P2) : Prop := DL.Sm k m.x ∧ DL.Sm k m.y
def F3.Sm (k : Nat) (m : F3) : Prop := DL.Sm k m.a ∧ DL.Sm k m.b ∧ DL.Sm k m.c

def sp_multiply : FSpec := fun ds tk Q => ∃ m n : M4, ds = [m.D, n.D] ∧ m.Sm BG ∧ n.Sm BG ∧ Q (.val (m.mul n).D) tk
theorem mon_multiply : MonFS sp_multiply := fun ds tk Q Q' h ⟨m, n, e, h0, h1, q⟩ => ⟨m, n, e, h0, h1, h _ _ q⟩
theorem len_multiply : ∀ ds tk Q, sp_multiply ds tk Q → ds.length = 2 := fun ds tk Q ⟨m, n, e, _⟩ => by rw [e]; rfl
abbrev N_multiply : List Str := ["m", "n"]
def c_multiply : WS :=
  (wRet (wTup (wCons (fz (wOp fAdd (fz (wOp fMul (fz (wOp fIdx (wPk 0) (fz (wC (.int 0))))) (fz (wOp fIdx (wPk 1) (fz (wC (.int 0))))))) (fz (wOp fMul (fz (wOp fIdx (wPk 0) (fz (wC (.int 1))))) (fz (wOp fIdx (wPk 1) (fz (wC (.int 2))))))))) (wCons (fz (wOp fAdd (fz (wOp fMul (fz (wOp fIdx (wPk 0) (fz (wC (.int 0))))) (fz (wOp fIdx (wPk 1) (fz (wC (.int 1))))))) (fz (wOp fMul (fz (wOp fIdx (wPk 0) (fz (wC (.int 1))))) (fz (wOp fIdx (wPk 1) (fz (wC (.int 3))))))))) (wCons (fz (wOp fAdd (fz (wOp fMul (fz (wOp fIdx (wPk 0) (fz (wC (.int 2))))) (fz (wOp fIdx (wPk 1) (fz (wC (.int 0))))))) (fz (wOp fMul (fz (wOp fIdx (wPk 0) (fz (wC (.int 3))))) (fz (wOp fIdx (wPk 1) (fz (wC (.int 2))))))))) (wCons (fz (wOp fAdd (fz (wOp fMul (fz (wOp fIdx (wPk 0) (fz (wC (.int 2))))) (fz (wOp fIdx (wPk 1) (fz (wC (.int 1))))))) (fz (wOp fMul (fz (wOp fIdx (wPk 0) (fz (wC (.int 3))))) (fz (wOp fIdx (wPk 1) (fz (wC (.int 3))))))))) wNil))))))
theorem hw_multiply : ∀ ds tk Q, sp_multiply ds tk Q → c_multiply { nx := fun _ t => Q (.val .non) t, rt := Q } (start N_multiply.length ds) tk := by
  rintro ds tk Q ⟨m, n, rfl, ⟨a1, a2, a3, a4⟩, ⟨b1, b2, b3, b4⟩, q⟩
  have k : ∀ {x y : Int}, Sm BG x → Sm BG y → MulOk x y := fun h h' => h.mulOk h' (by decide) (by decide)
  exact ⟨k a1 b1, k a2 b3, k a1 b2, k a2 b4, k a3 b1, k a4 b3, k a3 b2, k a4 b4, rfl, q⟩
def sp_determinant : FSpec := fun ds tk Q => ∃ m : M4, ds = [m.D] ∧ m.Sm BG ∧ Q (.val (.int m.det)) tk
theorem mon_determinant : MonFS sp_determinant := fun ds tk Q Q' h ⟨m, e, h0, q⟩ => ⟨m, e, h0, h _ _ q⟩
theorem len_determinant : ∀ ds tk Q, sp_determinant ds tk Q → ds.length = 1 := fun ds tk Q ⟨m, e, _⟩ => by rw [e]; rfl
abbrev N_determinant : List Str := ["m"]
def c_determinant : WS :=
  (wRet (wOp fSub (fz (wOp fMul (fz (wOp fIdx (wPk 0) (fz (wC (.int 0))))) (fz (wOp fIdx (wPk 0) (fz (wC (.int 3))))))) (fz (wOp fMul (fz (wOp fIdx (wPk 0) (fz (wC (.int 1))))) (fz (wOp fIdx (wPk 0) (fz (wC (.int 2)))))))))
theorem hw_determinant : ∀ ds tk Q, sp_determinant ds tk Q → c_determinant { nx := fun _ t => Q (.val .non) t, rt := Q } (start N_determinant.length ds) tk := by
  rintro ds tk Q ⟨m, rfl, ⟨a1, a2, a3, a4⟩, q⟩
  have k : ∀ {x y : Int}, Sm BG x → Sm BG y → MulOk x y := fun h h' => h.mulOk h' (by decide) (by decide)
  exact ⟨k a1 a4, k a2 a3, q⟩
def sp_inverse : FSpec := fun ds tk Q => ∃ m : M4, ds = [m.D] ∧ m.Sm BG ∧ Sm BG m.det ∧ Q (.val m.inv.D) tk
theorem mon_inverse : MonFS sp_inverse := fun ds tk Q Q' h ⟨m, e, h0, h1, q⟩ => ⟨m, e, h0, h1, h _ _ q⟩
theorem len_inverse : ∀ ds tk Q, sp_inverse ds tk Q → ds.length = 1 := fun ds tk Q ⟨m, e, _⟩ => by rw [e]; rfl
abbrev N_inverse : List Str := ["m", "sign"]
def c_inverse : WS :=
  (wSeq (wSet 1 (wCall sp_determinant (wCons (fz (wV 0)) wNil)))
  (wRet (wTup (wCons (fz (wOp fMul (wPk 1) (fz (wOp fIdx (wPk 0) (fz (wC (.int 3))))))) (wCons (fz (wOp fMul (fz (w1 fNeg (wPk 1))) (fz (wOp fIdx (wPk 0) (fz (wC (.int 1))))))) (wCons (fz (wOp fMul (fz (w1 fNeg (wPk 1))) (fz (wOp fIdx (wPk 0) (fz (wC (.int 2))))))) (wCons (fz (wOp fMul (wPk 1) (fz (wOp fIdx (wPk 0) (fz (wC (.int 0))))))) wNil)))))))
theorem hw_inverse : ∀ ds tk Q, sp_inverse ds tk Q → c_inverse { nx := fun _ t => Q (.val .non) t, rt := Q } (start N_inverse.length ds) tk := by
  rintro ds tk Q ⟨m, rfl, ⟨a1, a2, a3, a4⟩, hd, q⟩
  have k : ∀ {x y : Int}, Sm BG x → Sm BG y → MulOk x y := fun h h' => h.mulOk h' (by decide) (by decide)
  exact ⟨m, rfl, ⟨a1, a2, a3, a4⟩, k hd a4, k hd.neg a2, k hd.neg a3, k hd a1, rfl, q⟩
def sp_apply : FSpec := fun ds tk Q => ∃ (m : M4) (v : P2), ds = [m.D, v.D] ∧ m.Sm BG ∧ v.Sm BG ∧ Q (.val (m.at v).D) tk
theorem mon_apply : MonFS sp_apply := fun ds tk Q Q' h ⟨m, n, e, h0, h1, q⟩ => ⟨m, n, e, h0, h1, h _ _ q⟩
theorem len_apply : ∀ ds tk Q, sp_apply ds tk Q → ds.length = 2 := fun ds tk Q ⟨m, n, e, _⟩ => by rw [e]; rfl
abbrev N_apply : List Str := ["m", "point"]
def c_apply : WS :=
  (wRet (wTup (wCons (fz (wOp fAdd (fz (wOp fMul (fz (wOp fIdx (wPk 0) (fz (wC (.int 0))))) (fz (wOp fIdx (wPk 1) (fz (wC (.int 0))))))) (fz (wOp fMul (fz (wOp fIdx (wPk 0) (fz (wC (.int 1))))) (fz (wOp fIdx (wPk 1) (fz (wC (.int 1))))))))) (wCons (fz (wOp fAdd (fz (wOp fMul (fz (wOp fIdx (wPk 0) (fz (wC (.int 2))))) (fz (wOp fIdx (wPk 1) (fz (wC (.int 0))))))) (fz (wOp fMul (fz (wOp fIdx (wPk 0) (fz (wC (.int 3))))) (fz (wOp fIdx (wPk 1) (fz (wC (.int 1))))))))) wNil))))
theorem hw_apply : ∀ ds tk Q, sp_apply ds tk Q → c_apply { nx := fun _ t => Q (.val .non) t, rt := Q } (start N_apply.length ds) tk := by
  rintro ds tk Q ⟨m, v, rfl, ⟨a1, a2, a3, a4⟩, ⟨b1, b2⟩, q⟩
  have k : ∀ {x y : Int}, Sm BG x → Sm BG y → MulOk x y := fun h h' => h.mulOk h' (by decide) (by decide)
  exact ⟨k a1 b1, k a2 b2, k a3 b1, k a4 b2, rfl, q⟩
def sp_negative : FSpec := fun ds tk Q => ∃ m : M4, ds = [m.D] ∧ Q (.val m.neg.D) tk
theorem mon_negative : MonFS sp_negative := fun ds tk Q Q' h ⟨m, e, q⟩ => ⟨m, e, h _ _ q⟩
theorem len_negative : ∀ ds tk Q, sp_negative ds tk Q → ds.length = 1 := fun ds tk Q ⟨m, e, _⟩ => by rw [e]; rfl
abbrev N_negative : List Str := ["m"]
def c_negative : WS :=
  (wRet (wTup (wCons (fz (w1 fNeg (fz (wOp fIdx (wPk 0) (fz (wC (.int 0))))))) (wCons (fz (w1 fNeg (fz (wOp fIdx (wPk 0) (fz (wC (.int 1))))))) (wCons (fz (w1 fNeg (fz (wOp fIdx (wPk 0) (fz (wC (.int 2))))))) (wCons (fz (w1 fNeg (fz (wOp fIdx (wPk 0) (fz (wC (.int 3))))))) wNil))))))
theorem hw_negative : ∀ ds tk Q, sp_negative ds tk Q → c_negative { nx := fun _ t => Q (.val .non) t, rt := Q } (start N_negative.length ds) tk := by
  rintro ds tk Q ⟨m, rfl, q⟩
  exact ⟨rfl, q⟩
/-! ### the law's own ones -/
def sp_Lmul : FSpec := fun ds tk Q => ∃ m n : M4, ds = [m.D, n.D] ∧ m.Sm BG ∧ n.Sm BG ∧ Q (.val (m.mul n).D) tk
theorem mon_Lmul : MonFS sp_Lmul := mon_multiply
theorem len_Lmul : ∀ ds tk Q, sp_Lmul ds tk Q → ds.length = 2 := len_multiply
abbrev N_Lmul : List Str := ["_law_m", "_law_n", "_law_top"]
def c_Lmul : WS :=
  (wSeq (wSet 2 (wLst (wCons (fz (wOp fAdd (fz (wOp fMul (fz (wOp fIdx (wPk 0) (fz (wC (.int 0))))) (fz (wOp fIdx (wPk 1) (fz (wC (.int 0))))))) (fz (wOp fMul (fz (wOp fIdx (wPk 0) (fz (wC (.int 1))))) (fz (wOp fIdx (wPk 1) (fz (wC (.int 2))))))))) (wCons (fz (wOp fAdd (fz (wOp fMul (fz (wOp fIdx (wPk 0) (fz (wC (.int 0))))) (fz (wOp fIdx (wPk 1) (fz (wC (.int 1))))))) (fz (wOp fMul (fz (wOp fIdx (wPk 0) (fz (wC (.int 1))))) (fz (wOp fIdx (wPk 1) (fz (wC (.int 3))))))))) wNil))))
  (wRet (w1 fTuple (fz (wOp fAdd (wPk 2) (fz (wLst (wCons (fz (wOp fAdd (fz (wOp fMul (fz (wOp fIdx (wPk 0) (fz (wC (.int 2))))) (fz (wOp fIdx (wPk 1) (fz (wC (.int 0))))))) (fz (wOp fMul (fz (wOp fIdx (wPk 0) (fz (wC (.int 3))))) (fz (wOp fIdx (wPk 1) (fz (wC (.int 2))))))))) (wCons (fz (wOp fAdd (fz (wOp fMul (fz (wOp fIdx (wPk 0) (fz (wC (.int 2))))) (fz (wOp fIdx (wPk 1) (fz (wC (.int 1))))))) (fz (wOp fMul (fz (wOp fIdx (wPk 0) (fz (wC (.int 3))))) (fz (wOp fIdx (wPk 1) (fz (wC (.int 3))))))))) wNil)))))))))
theorem hw_Lmul : ∀ ds tk Q, sp_Lmul ds tk Q → c_Lmul { nx := fun _ t => Q (.val .non) t, rt := Q } (start N_Lmul.length ds) tk := by
  rintro ds tk Q ⟨m, n, rfl, ⟨a1, a2, a3, a4⟩, ⟨b1, b2, b3, b4⟩, q⟩
  have k : ∀ {x y : Int}, Sm BG x → Sm BG y → MulOk x y := fun h h' => h.mulOk h' (by decide) (by decide)
  exact ⟨k a1 b1, k a2 b3, k a1 b2, k a2 b4, rfl, k a3 b1, k a4 b3, k a3 b2, k a4 b4, rfl, (show 2 + 2 ≤ sizeLine by decide), q⟩
def sp_Lat : FSpec := fun ds tk Q => ∃ (m : M4) (v : P2), ds = [m.D, .int v.x, .int v.y] ∧ m.Sm BG ∧ v.Sm BG ∧ Q (.val (m.at v).D) tk
theorem mon_Lat : MonFS sp_Lat := fun ds tk Q Q' h ⟨m, n, e, h0, h1, q⟩ => ⟨m, n, e, h0, h1, h _ _ q⟩
theorem len_Lat : ∀ ds tk Q, sp_Lat ds tk Q → ds.length = 3 := fun ds tk Q ⟨m, n, e, _⟩ => by rw [e]; rfl
abbrev N_Lat : List Str := ["_law_m", "_law_x", "_law_y"]
def c_Lat : WS :=
  (wRet (wTup (wCons (fz (wOp fAdd (fz (wOp fMul (fz (wOp fIdx (wPk 0) (fz (wC (.int 0))))) (wPk 1))) (fz (wOp fMul (fz (wOp fIdx (wPk 0) (fz (wC (.int 1))))) (wPk 2))))) (wCons (fz (wOp fAdd (fz (wOp fMul (fz (wOp fIdx (wPk 0) (fz (wC (.int 2))))) (wPk 1))) (fz (wOp fMul (fz (wOp fIdx (wPk 0) (fz (wC (.int 3))))) (wPk 2))))) wNil))))
theorem hw_Lat : ∀ ds tk Q, sp_Lat ds tk Q → c_Lat { nx := fun _ t => Q (.val .non) t, rt := Q } (start N_Lat.length ds) tk := by
  rintro ds tk Q ⟨m, v, rfl, ⟨a1, a2, a3, a4⟩, ⟨b1, b2⟩, q⟩
  have k : ∀ {x y : Int}, Sm BG x → Sm BG y → MulOk x y := fun h h' => h.mulOk h' (by decide) (by decide)
  exact ⟨k a1 b1, k a2 b2, k a3 b1, k a4 b2, rfl, q⟩
/-! ### norms -/
def M4.nrm (m : M4) : Nat := m.p.natAbs + m.q.natAbs + m.r.natAbs + m.s.natAbs
theorem nab (a b c d : Int) : (a * b + c * d).natAbs ≤ a.natAbs * b.natAbs + c.natAbs * d.natAbs := by
  rw [← Int.natAbs_mul, ← Int.natAbs_mul]
  exact Int.natAbs_add_le _ _
theorem M4.nrm_mul (m n : M4) : (m.mul n).nrm ≤ m.nrm * n.nrm := by
  unfold M4.nrm M4.mul
  have h1 := nab m.p n.p m.q n.r
  have h2 := nab m.p n.q m.q n.s
  have h3 := nab m.r n.p m.s n.r
  have h4 := nab m.r n.q m.s n.s
  simp only [Nat.add_mul, Nat.mul_add]
  omega
theorem M4.sm_of_nrm {m : M4} {k : Nat} (h : m.nrm < 2 ^ k) : m.Sm k := by
  unfold M4.nrm at h
  unfold M4.Sm DL.Sm
  omega
theorem M4.nrm_neg (m : M4) : m.neg.nrm = m.nrm := by unfold M4.nrm M4.neg; simp only [Int.natAbs_neg]
def M4.pow (m : M4) : Nat → M4
  | 0 => .one
  | n + 1 => (m.pow n).mul m
theorem M4.ext {m n : M4} (h1 : m.p = n.p) (h2 : m.q = n.q) (h3 : m.r = n.r) (h4 : m.s = n.s) : m = n := by cases m; cases n; simp only at h1 h2 h3 h4; subst h1 h2 h3 h4; rfl
theorem M4.mul_assoc (a b c : M4) : (a.mul b).mul c = a.mul (b.mul c) := by
  apply M4.ext <;> (unfold M4.mul; simp only [Int.add_mul, Int.mul_add, Int.mul_assoc]; omega)
theorem M4.one_mul (a : M4) : M4.one.mul a = a := by apply M4.ext <;> (unfold M4.mul M4.one; simp only [Int.one_mul, Int.zero_mul]; omega)
theorem M4.mul_one (a : M4) : a.mul M4.one = a := by apply M4.ext <;> (unfold M4.mul M4.one; simp only [Int.mul_one, Int.mul_zero]; omega)
theorem M4.det_mul (a b : M4) : (a.mul b).det = a.det * b.det := by
  unfold M4.mul M4.det
  grind
theorem M4.mul_inv {m : M4} (h : m.det = 1 ∨ m.det = -1) : m.mul m.inv = .one ∧ m.inv.mul m = .one := by
  have e : m.det = m.p * m.s - m.q * m.r := rfl
  rcases h with h | h
  · constructor <;> (apply M4.ext <;> (unfold M4.mul M4.inv M4.one; rw [h]; rw [h] at e; dsimp only; grind))
  · constructor <;> (apply M4.ext <;> (unfold M4.mul M4.inv M4.one; rw [h]; rw [h] at e; dsimp only; grind))
theorem M4.nrm_inv {m : M4} (h : m.det = 1 ∨ m.det = -1) : m.inv.nrm = m.nrm := by
  unfold M4.nrm M4.inv
  rcases h with h | h <;> (rw [h]; dsimp only; simp only [Int.one_mul, Int.neg_mul, Int.natAbs_neg, Int.neg_neg]; omega)
theorem M4.det_inv {m : M4} (h : m.det = 1 ∨ m.det = -1) : m.inv.det = m.det := by
  have e : m.det = m.p * m.s - m.q * m.r := rfl
  rcases h with h | h <;> (unfold M4.inv; rw [h]; rw [h] at e; unfold M4.det; dsimp only; grind)
theorem M4.pow_add (m : M4) (i : Nat) : ∀ j, m.pow (i + j) = (m.pow i).mul (m.pow j)
  | 0 => (M4.mul_one _).symm
  | j + 1 => by
    show (m.pow (i + j)).mul m = (m.pow i).mul ((m.pow j).mul m)
    rw [M4.pow_add m i j, M4.mul_assoc]
theorem M4.pow_two_mul (m : M4) (i : Nat) : (m.mul m).pow i = m.pow (2 * i) := by
  induction i with
  | zero => rfl
  | succ i ih =>
    show ((m.mul m).pow i).mul (m.mul m) = m.pow (2 * i + 1 + 1)
    rw [ih]
    show _ = ((m.pow (2 * i)).mul m).mul m
    rw [M4.mul_assoc]
theorem M4.nrm_pow {m : M4} {B : Nat} (h : m.nrm ≤ 2 ^ B) (k : Nat) : (m.pow k).nrm ≤ 2 * 2 ^ (B * k) := by
  induction k with
  | zero => exact Nat.le_refl _
  | succ k ih =>
    refine Nat.le_trans (M4.nrm_mul _ _) (Nat.le_trans (Nat.mul_le_mul ih h) ?_)
    rw [Nat.mul_succ, Nat.pow_add, Nat.mul_assoc]
    exact Nat.le_refl _
theorem M4.pow_one_mul (m : M4) (k : Nat) : m.mul (m.pow k) = (m.pow k).mul m := by
  induction k with
  | zero => show m.mul .one = M4.one.mul m; rw [M4.mul_one, M4.one_mul]
  | succ k ih =>
    show m.mul ((m.pow k).mul m) = ((m.pow k).mul m).mul m
    rw [← M4.mul_assoc, ih]
theorem M4.pow_det (m : M4) (k : Nat) : (m.pow k).det = m.det ^ k := by
  induction k with
  | zero => show M4.one.det = m.det ^ 0; rw [Int.pow_zero]; rfl
  | succ k ih => show ((m.pow k).mul m).det = _; rw [M4.det_mul, ih, Int.pow_succ]
theorem M4.inv_pow {m : M4} (h : m.det = 1 ∨ m.det = -1) (k : Nat) : (m.inv.pow k).mul (m.pow k) = .one := by
  induction k with
  | zero => rfl
  | succ k ih =>
    show ((m.inv.pow k).mul m.inv).mul ((m.pow k).mul m) = .one
    rw [← M4.pow_one_mul m k, M4.mul_assoc, ← M4.mul_assoc m.inv, (M4.mul_inv h).2, M4.one_mul, ih]
/-! ### powers -/
def kUNIT : D := M4.one.D
def wNeverE : WE := fun _ _ _ => False
theorem se_never {X : Cx} {c : C} {e : Expr} : SE X c e wNeverE := ⟨fun _ _ _ _ _ h => h, ⟨fun _ _ _ _ _ _ ⟨_, _, _, _, h⟩ => h.elim⟩⟩
def sp_raised0 : FSpec := fun ds tk Q => ∃ (m : M4) (z : Int) (k B : Nat), ds = [m.D, .int z] ∧ z = (k : Int) ∧ m.nrm ≤ 2 ^ B ∧ B * k + 2 ≤ BG ∧ Q (.val (m.pow k).D) tk
theorem mon_raised0 : MonFS sp_raised0 := fun ds tk Q Q' h ⟨m, z, k, B, e, e2, h0, h1, q⟩ => ⟨m, z, k, B, e, e2, h0, h1, h _ _ q⟩
theorem len_raised0 : ∀ ds tk Q, sp_raised0 ds tk Q → ds.length = 2 := fun ds tk Q ⟨m, z, k, B, e, _⟩ => by rw [e]; rfl
abbrev N_raised0 : List Str := ["m", "many", "found"]
def c_raised0 : WS :=
  (wSeq (wIfS (wT (wOp fLt (wPk 1) (fz (wC (.int 0))))) (wRet wNeverE) wNext)
  (wSeq (wSet 2 (wC kUNIT))
  (wSeq (wWhile (wT (wOp fGt (wPk 1) (fz (wC (.int 0))))) (wSeq (wIfS (wT (wOp fEq (fz (wOp fMod (wPk 1) (fz (wC (.int 2))))) (fz (wC (.int 1))))) (wSet 2 (wCall sp_multiply (wCons (fz (wV 2)) (wCons (fz (wV 0)) wNil)))) wNext)
  (wSeq (wSet 0 (wCall sp_multiply (wCons (fz (wV 0)) (wCons (fz (wV 0)) wNil))))
  (wSet 1 (wOp fDiv (wPk 1) (fz (wC (.int 2))))))))
  (wRetV 2))))
theorem sm_pow {m : M4} {B k : Nat} (h : m.nrm ≤ 2 ^ B) (hk : B * k + 2 ≤ BG) : (m.pow k).Sm BG := by
  refine M4.sm_of_nrm (Nat.lt_of_le_of_lt (M4.nrm_pow h k) ?_)
  rw [show 2 * 2 ^ (B * k) = 2 ^ (B * k + 1) from (by rw [Nat.pow_succ]; omega)]
  exact Nat.pow_lt_pow_right (by decide) (by omega)
/-- from behind the test -/
theorem raised_loop {m : M4} {z : Int} {k B : Nat} {P : Post} {tk : Tk} {Q : EV → Tk → Prop} (hz : z = (k : Int)) (hm : m.nrm ≤ 2 ^ B) (hB : B * k + 2 ≤ BG) (hP : ∀ v t, Q v t → P.rt v t) (q : Q (.val (m.pow k).D) tk) :
  (wSeq (wSet 2 (wC kUNIT))
  (wSeq (wWhile (wT (wOp fGt (wPk 1) (fz (wC (.int 0))))) (wSeq (wIfS (wT (wOp fEq (fz (wOp fMod (wPk 1) (fz (wC (.int 2))))) (fz (wC (.int 1))))) (wSet 2 (wCall sp_multiply (wCons (fz (wV 2)) (wCons (fz (wV 0)) wNil)))) wNext)
  (wSeq (wSet 0 (wCall sp_multiply (wCons (fz (wV 0)) (wCons (fz (wV 0)) wNil))))
  (wSet 1 (wOp fDiv (wPk 1) (fz (wC (.int 2))))))))
  (wRetV 2))) P [some (.val m.D), some (.val (.int z)), none] tk := by
  refine ⟨fun n e t => t = tk ∧ ∃ (i j : Nat) (z : Int), z = (n : Int) ∧ j + 2 ^ i * n = k ∧ e = [some (.val (m.pow (2 ^ i)).D), some (.val (.int z)), some (.val (m.pow j).D)], ⟨k, rfl, 0, 0, z, hz, by omega, by rw [show m.pow (2 ^ 0) = m from M4.one_mul m]; rfl⟩, ?_⟩
  rintro n e t ⟨rfl, i, j, z, hz, hk, rfl⟩
  refine if2 (fun h => ?_) (fun h => ?_)
  · have hp : 0 < n := by omega
    have h2i : 2 ^ i * 1 ≤ 2 ^ i * n := Nat.mul_le_mul_left _ hp
    have hBi : B * 2 ^ i + 2 ≤ BG := by
      have := Nat.mul_le_mul_left B (show 2 ^ i ≤ k by omega)
      omega
    have hBj : B * j + 2 ≤ BG := by
      have := Nat.mul_le_mul_left B (show j ≤ k by omega)
      omega
    have hs := sm_pow hm hBi
    have hd : z.fdiv 2 = ((n / 2 : Nat) : Int) := by rw [Int.fdiv_eq_ediv_of_nonneg _ (by decide), hz]; rfl
    have hmod : z.fmod 2 = ((n % 2 : Nat) : Int) := by rw [Int.fmod_eq_emod_of_nonneg _ (by decide), hz]; rfl
    have hp2 : 2 ^ (i + 1) = 2 * 2 ^ i := by rw [Nat.pow_succ, Nat.mul_comm]
    have hdm : 2 * (n / 2) + n % 2 = n := Nat.div_add_mod n 2
    have fin : ∀ j' : Nat, j' + 2 ^ (i + 1) * (n / 2) = k → ∀ t : Tk, ∃ m', m' < n ∧ t = t ∧ ∃ (i2 j2 : Nat) (z2 : Int), z2 = (m' : Int) ∧ j2 + 2 ^ i2 * m' = k ∧ ([some (.val (M4.D ((m.pow (2 ^ i)).mul (m.pow (2 ^ i))))), some (.val (.int (z.fdiv 2))), some (.val (m.pow j').D)] : En) = [some (.val (m.pow (2 ^ i2)).D), some (.val (.int z2)), some (.val (m.pow j2).D)] := fun j' hj' t => by
      refine ⟨n / 2, by omega, rfl, i + 1, j', z.fdiv 2, hd, hj', ?_⟩
      rw [← M4.pow_add, hp2, Nat.two_mul]
    refine ⟨(show (2 : Int) ≠ 0 by decide), ?_⟩
    have hsplit : 2 ^ i * n = 2 * 2 ^ i * (n / 2) + 2 ^ i * (n % 2) := by
      conv => lhs; rw [← hdm]
      rw [Nat.mul_add, ← Nat.mul_assoc, Nat.mul_comm (2 ^ i) 2]
    refine if2 (fun h1 => ?_) (fun h1 => ?_)
    · have hm1 : n % 2 = 1 := by rw [hmod] at h1; omega
      refine ⟨m.pow j, m.pow (2 ^ i), rfl, sm_pow hm hBj, hs, m.pow (2 ^ i), m.pow (2 ^ i), rfl, hs, hs, divOk_lit (by decide) (by decide), ?_⟩
      have := fin (j + 2 ^ i) (by rw [hp2]; rw [hm1, Nat.mul_one] at hsplit; omega) t
      rw [M4.pow_add m j (2 ^ i)] at this
      exact this
    · have hm0 : n % 2 = 0 := by rw [hmod] at h1; omega
      refine ⟨m.pow (2 ^ i), m.pow (2 ^ i), rfl, hs, hs, divOk_lit (by decide) (by decide), ?_⟩
      exact fin j (by rw [hp2]; rw [hm0, Nat.mul_zero] at hsplit; omega) t
  · have : n = 0 := by omega
    subst this
    have : j = k := by omega
    subst this
    exact hP _ _ q
theorem hw_raised0 : ∀ ds tk Q, sp_raised0 ds tk Q → c_raised0 { nx := fun _ t => Q (.val .non) t, rt := Q } (start N_raised0.length ds) tk := by
  rintro ds tk Q ⟨m, z, k, B, rfl, hz, hm, hB, q⟩
  refine ifF (show ¬ (z < 0) by omega) ?_
  exact raised_loop (Q := Q) hz hm hB (fun _ _ h => h) q
def sp_raised : FSpec := fun ds tk Q => ∃ (m : M4) (k : Int) (B : Nat), ds = [m.D, .int k] ∧ m.nrm ≤ 2 ^ B ∧ B * k.natAbs + 2 ≤ BG ∧ B + 2 ≤ BG ∧ (m.det = 1 ∨ m.det = -1) ∧ Q (.val (if k < 0 then m.inv.pow k.natAbs else m.pow k.natAbs).D) tk
theorem mon_raised : MonFS sp_raised := fun ds tk Q Q' h ⟨m, k, B, e, h0, h1, h2, h3, q⟩ => ⟨m, k, B, e, h0, h1, h2, h3, h _ _ q⟩
theorem len_raised : ∀ ds tk Q, sp_raised ds tk Q → ds.length = 2 := fun ds tk Q ⟨m, k, B, e, _⟩ => by rw [e]; rfl
abbrev N_raised : List Str := ["m", "many", "found"]
def c_raised : WS :=
  (wSeq (wIfS (wT (wOp fLt (wPk 1) (fz (wC (.int 0))))) (wRet (wCall sp_raised0 (wCons (fz (wCall sp_inverse (wCons (fz (wV 0)) wNil))) (wCons (fz (w1 fNeg (wPk 1))) wNil)))) wNext)
  (wSeq (wSet 2 (wC kUNIT))
  (wSeq (wWhile (wT (wOp fGt (wPk 1) (fz (wC (.int 0))))) (wSeq (wIfS (wT (wOp fEq (fz (wOp fMod (wPk 1) (fz (wC (.int 2))))) (fz (wC (.int 1))))) (wSet 2 (wCall sp_multiply (wCons (fz (wV 2)) (wCons (fz (wV 0)) wNil)))) wNext)
  (wSeq (wSet 0 (wCall sp_multiply (wCons (fz (wV 0)) (wCons (fz (wV 0)) wNil))))
  (wSet 1 (wOp fDiv (wPk 1) (fz (wC (.int 2))))))))
  (wRetV 2))))
theorem hw_raised : ∀ ds tk Q, sp_raised ds tk Q → c_raised { nx := fun _ t => Q (.val .non) t, rt := Q } (start N_raised.length ds) tk := by
  rintro ds tk Q ⟨m, k, B, rfl, hm, hB, hB1, hdet, q⟩
  have hsm : m.Sm BG := M4.sm_of_nrm (Nat.lt_of_le_of_lt hm (Nat.pow_lt_pow_right (by decide) (by omega)))
  refine if2 (fun h => ?_) (fun h => ?_)
  · rw [if_pos h] at q
    refine ⟨m, rfl, hsm, ?_, m.inv, -k, k.natAbs, B, rfl, by omega, by rw [M4.nrm_inv hdet]; exact hm, hB, q⟩
    rcases hdet with z | z <;> (rw [z]; exact sm_lit (by decide))
  · rw [if_neg h] at q
    exact raised_loop (Q := Q) (show k = ((k.natAbs : Nat) : Int) by omega) hm hB (fun _ _ h => h) q
end DL
local macro_rules | `(tactic| walk_at "dl") => `(tactic| simp (config := { failIfUnchanged := false }) only [↓DL.wSeq, ↓DL.wSet, ↓DL.wIfS, ↓DL.wRet, ↓DL.wRetV, ↓DL.wRetN, ↓DL.wNext, ↓DL.wPk, ↓DL.wV, ↓DL.wC, ↓DL.fz, ↓DL.wOp, ↓DL.w1, ↓DL.EV.d, ↓DL.wT_bl, ↓DL.wAnd, ↓DL.wOr, ↓DL.wNot, ↓DL.wB, ↓DL.wIf, ↓DL.wCons, ↓DL.wNil, ↓DL.wTup, ↓DL.wLst, ↓DL.wPar, ↓DL.wPar3, ↓DL.wAsg, ↓DL.wCall, ↓DL.wDrop, ↓DL.gN, ↓DL.gT, ↓DL.gCs, ↓DL.gNl, ↓DL.wR1, ↓DL.wR2, ↓DL.wSrc, ↓DL.wBrk, ↓DL.wCnt, ↓DL.wApp, ↓DL.wFor, ↓DL.fAdd_int, ↓DL.fI_int, ↓DL.fJ_int, ↓DL.fEq_int, ↓DL.fNe_int, ↓DL.fIdx_lst, ↓DL.fIdx_tup, ↓DL.fNeg, ↓DL.fAbs, ↓DL.fInt, ↓DL.fLen, ↓DL.start_def, List.getElem?_cons_zero, List.getElem?_cons_succ, List.set_cons_zero, List.set_cons_succ, List.map_cons, List.map_nil, List.length_cons, List.length_nil, List.replicate_succ, List.replicate_zero, List.cons_append, List.nil_append, Nat.reduceAdd, Nat.reduceSub, Nat.zero_add, decide_eq_true_eq, true_and, and_true])
namespace DL
open PySem PySem.Spec PyProof.Rows L2
/-! ### a drawn change of determinant 1 -/
def sp_Lchange : FSpec := fun ds tk Q => ∃ (m : Int) (c : Nat), ds = [.st, .int m] ∧ tk = some c ∧ 0 ≤ m ∧ m < 1000 ∧ c + 10000 < 2 ^ 50 ∧ ∀ (a : M4) (c' : Nat), a.det = 1 → a.nrm ≤ 2 ^ (2 * m.toNat + 1) → c' ≤ c + 1 + 2 * m.toNat → Q (.val a.D) (some c')
theorem mon_Lchange : MonFS sp_Lchange := fun ds tk Q Q' h ⟨m, c, e, e2, h0, h1, h2, q⟩ => ⟨m, c, e, e2, h0, h1, h2, fun a c' x y z => h _ _ (q a c' x y z)⟩
theorem len_Lchange : ∀ ds tk Q, sp_Lchange ds tk Q → ds.length = 2 := fun ds tk Q ⟨m, c, e, _⟩ => by rw [e]; rfl
abbrev N_Lchange : List Str := ["_law_state_here", "_law_many", "_law_m", "_law_k", "_law_t"]
def c_Lchange : WS :=
  (wSeq (wSet 2 (wTup (wCons (fz (wC (.int 1))) (wCons (fz (wC (.int 0))) (wCons (fz (wC (.int 0))) (wCons (fz (wC (.int 1))) wNil))))))
  (wSeq (wFor (wR1 (fz (wCall sp_Lnext (wCons (fz (wV 0)) (wCons (fz (wOp fAdd (wPk 1) (fz (wC (.int 1))))) wNil))))) (gN 3) (wSeq (wSet 4 (wOp fSub (fz (wCall sp_Lnext (wCons (fz (wV 0)) (wCons (fz (wC (.int 5))) wNil)))) (fz (wC (.int 2)))))
  (wSet 2 (wCall sp_Lmul (wCons (fz (wV 2)) (wCons (fz (wOp fIdx (fz (wLst (wCons (fz (wTup (wCons (fz (wC (.int 1))) (wCons (fz (wV 4)) (wCons (fz (wC (.int 0))) (wCons (fz (wC (.int 1))) wNil)))))) (wCons (fz (wTup (wCons (fz (wC (.int 1))) (wCons (fz (wC (.int 0))) (wCons (fz (wV 4)) (wCons (fz (wC (.int 1))) wNil)))))) (wCons (fz (wTup (wCons (fz (wC (.int 0))) (wCons (fz (w1 fNeg (fz (wC (.int 1))))) (wCons (fz (wC (.int 1))) (wCons (fz (wC (.int 0))) wNil)))))) wNil))))) (fz (wCall sp_Lnext (wCons (fz (wV 0)) (wCons (fz (wC (.int 3))) wNil)))))) wNil))))))
  (wRetV 2)))
theorem hw_Lchange : ∀ ds tk Q, sp_Lchange ds tk Q → c_Lchange { nx := fun _ t => Q (.val .non) t, rt := Q } (start N_Lchange.length ds) tk := by
  rintro ds tk Q ⟨m, c, rfl, rfl, h0, h1, h2, q⟩
  refine ⟨rfl, ?_⟩
  refine ⟨_, _, rfl, rfl, by omega, by omega, fun v0 v0_0 v0_1 => ?_⟩
  refine ⟨by omega, by omega, ?_⟩
  refine forGo_rng (fun i e t => ∃ (a : M4) (x3 x4 : Option EV), a.det = 1 ∧ a.nrm ≤ 2 ^ (2 * i + 1) ∧ t = some (c + 1 + 2 * i) ∧ e = [some (.val .st), some (.val (.int m)), some (.val a.D), x3, x4]) (fun i e t R hi hI hR => ?_) (fun e t hI => ?_) ⟨M4.one, none, none, rfl, Nat.le_refl _, rfl, rfl⟩
  · obtain ⟨a, x3, x4, hd, hn, rfl, rfl⟩ := hI
    have hi' : i < 1000 := by omega
    refine ⟨_, _, rfl, rfl, by first | decide | omega, by first | decide | omega, fun v1 v1_0 v1_1 => ?_⟩
    refine ⟨rfl, rfl, rfl, rfl, ?_⟩
    refine ⟨_, _, rfl, rfl, by first | decide | omega, by first | decide | omega, fun v2 v2_0 v2_1 => ?_⟩
    refine fIdx_of (fun d => ∃ b : M4, d = b.D ∧ b.det = 1 ∧ b.nrm ≤ 4) v2_0 v2_1 (all3 ⟨⟨1, v1 - 2, 0, 1⟩, rfl, ?_, ?_⟩ ⟨⟨1, 0, v1 - 2, 1⟩, rfl, ?_, ?_⟩ ⟨⟨0, -1, 1, 0⟩, rfl, by decide, by decide⟩) ?_
    · unfold M4.det; dsimp only; omega
    · unfold M4.nrm; dsimp only; omega
    · unfold M4.det; dsimp only; omega
    · unfold M4.nrm; dsimp only; omega
    rintro _ ⟨b, rfl, hbd, hbn⟩
    have hab : (a.mul b).nrm ≤ 2 ^ (2 * (i + 1) + 1) := by
      refine Nat.le_trans (M4.nrm_mul _ _) (Nat.le_trans (Nat.mul_le_mul hn hbn) ?_)
      rw [show 2 * (i + 1) + 1 = (2 * i + 1) + 2 by omega, Nat.pow_add _ (2 * i + 1) 2]
      exact Nat.le_refl _
    refine ⟨a, b, rfl, M4.sm_of_nrm (Nat.lt_of_le_of_lt hn (Nat.pow_lt_pow_right (by decide) (show 2 * i + 1 < 200000 by omega))), M4.sm_of_nrm (Nat.lt_of_le_of_lt hbn (by exact Nat.lt_of_lt_of_le (show 4 < 2 ^ 3 by decide) (Nat.pow_le_pow_right (by decide) (by decide)))), ?_⟩
    exact hR _ _ ⟨a.mul b, _, _, by rw [M4.det_mul, hd, hbd]; rfl, hab, rfl, rfl⟩
  · obtain ⟨a, x3, x4, hd, hn, rfl, rfl⟩ := hI
    refine q a _ hd (Nat.le_trans hn (Nat.pow_le_pow_right (by decide) ?_)) ?_
    · omega
    · omega
end DL
set_option pp.maxSteps 1200
local macro_rules | `(tactic| walk_at "dl") => `(tactic| simp (config := { failIfUnchanged := false }) only [↓DL.wSeq, ↓DL.wSet, ↓DL.wIfS, ↓DL.wRet, ↓DL.wRetV, ↓DL.wRetN, ↓DL.wNext, ↓DL.wPk, ↓DL.wV, ↓DL.wC, ↓DL.fz, ↓DL.wOp, ↓DL.w1, ↓DL.EV.d, ↓DL.wT_bl, ↓DL.wAnd, ↓DL.wOr, ↓DL.wNot, ↓DL.wB, ↓DL.wIf, ↓DL.wCons, ↓DL.wNil, ↓DL.wTup, ↓DL.wLst, ↓DL.wPar, ↓DL.wPar3, ↓DL.wAsg, ↓DL.wCall, ↓DL.wDrop, ↓DL.gN, ↓DL.gT, ↓DL.gCs, ↓DL.gNl, ↓DL.wR1, ↓DL.wR2, ↓DL.wSrc, ↓DL.wBrk, ↓DL.wCnt, ↓DL.wApp, ↓DL.wFor, ↓DL.fAdd_int, ↓DL.fI_int, ↓DL.fJ_int, ↓DL.fEq_int, ↓DL.fNe_int, ↓DL.fIdx_lst, ↓DL.fIdx_tup, ↓DL.fNeg, ↓DL.fAbs, ↓DL.fInt, ↓DL.fLen, ↓DL.start_def, List.getElem?_cons_zero, List.getElem?_cons_succ, List.set_cons_zero, List.set_cons_succ, List.map_cons, List.map_nil, List.length_cons, List.length_nil, List.replicate_succ, List.replicate_zero, List.cons_append, List.nil_append, Nat.reduceAdd, Nat.reduceSub, Nat.zero_add, decide_eq_true_eq, true_and, and_true])
namespace DL
open PySem PySem.Spec PyProof.Rows L2
/-! ### the common measure by steps -/
/-- what floor division leaves -/
theorem fdiv_rest {l h : Int} (h0 : h ≠ 0) : (l - l.fdiv h * h).natAbs < h.natAbs ∧ ((0 < h ∧ 0 ≤ l - l.fdiv h * h) ∨ (h < 0 ∧ l - l.fdiv h * h ≤ 0)) := by
  have e : l - l.fdiv h * h = l.fmod h := by rw [Int.fmod_def, Int.mul_comm]
  rw [e]
  rcases Int.lt_or_gt_of_ne h0 with z | z
  · have h1 := Int.fmod_nonneg_of_pos (-l) (show 0 < -h by omega)
    have h2 := Int.fmod_lt_of_pos (-l) (show 0 < -h by omega)
    have e2 : (-l).fmod (-h) = -(l.fmod h) := by rw [Int.fmod_def, Int.fmod_def, Int.neg_fdiv_neg]; grind
    rw [e2] at h1 h2
    exact ⟨by omega, .inr ⟨z, by omega⟩⟩
  · have h1 := Int.fmod_nonneg_of_pos l z
    have h2 := Int.fmod_lt_of_pos l z
    exact ⟨by omega, .inl ⟨z, h1⟩⟩
/-- later states -/
def Later (B C : Nat) (l h lu hu lv hv : Int) : Prop := ((0 < l ∧ 0 ≤ h) ∨ (l < 0 ∧ h ≤ 0)) ∧ h.natAbs < l.natAbs ∧ l.natAbs < B ∧
  ∃ M : Nat, lu.natAbs ≤ M ∧ hu.natAbs ≤ M ∧ lv.natAbs ≤ M ∧ hv.natAbs ≤ M ∧ M ≤ C ∧ (h ≠ 0 → M * l.natAbs * (l.natAbs * h.natAbs) ≤ C)
theorem abs_sub_mul (x q y : Int) {M : Nat} (hx : x.natAbs ≤ M) (hy : y.natAbs ≤ M) : (x - q * y).natAbs ≤ (q.natAbs + 1) * M := by
  have h1 : (x - q * y).natAbs ≤ x.natAbs + (q * y).natAbs := by omega
  rw [Int.natAbs_mul] at h1
  have h2 := Nat.mul_le_mul_left q.natAbs hy
  rw [Nat.add_mul, Nat.one_mul]
  omega
theorem later_step {B C : Nat} {l h lu hu lv hv : Int} (I : Later B C l h lu hu lv hv) (h0 : h ≠ 0) : (l.fdiv h).natAbs < B ∧ Later B C h (l - l.fdiv h * h) hu (lu - l.fdiv h * hu) hv (lv - l.fdiv h * hv) := by
  obtain ⟨hs, hlt, hb, M, m1, m2, m3, m4, mc, mm⟩ := I
  have mm := mm h0
  obtain ⟨r1, r2⟩ := fdiv_rest (l := l) h0
  have e : l.fdiv h * h = l - (l - l.fdiv h * h) := by omega
  generalize hr : l - l.fdiv h * h = r at *
  generalize l.fdiv h = q at *
  -- |q| |h| + |r| = |l|
  have hq : q.natAbs * h.natAbs + r.natAbs = l.natAbs := by
    rw [← Int.natAbs_mul, e]
    omega
  generalize hL : l.natAbs = L at *
  generalize hH : h.natAbs = H at *
  generalize hR : r.natAbs = R at *
  generalize hQ : q.natAbs = Q at *
  have H0 : 0 < H := by omega
  have Q0 : 0 < Q := by
    rcases Nat.eq_zero_or_pos Q with z | z
    · rw [z, Nat.zero_mul] at hq; omega
    · exact z
  have QH : Q ≤ Q * H := Nat.le_mul_of_pos_right _ H0
  have HQ : H ≤ Q * H := Nat.le_mul_of_pos_left _ Q0
  have k1 : (Q + 1) * M ≤ 2 * (Q * M) := by
    have := Nat.mul_le_mul_right M Q0
    rw [Nat.add_mul, Nat.one_mul] at *
    omega
  have k2 : Q * M * H ≤ L * M := by
    have := Nat.mul_le_mul_right M (show Q * H ≤ L by omega)
    rw [Nat.mul_right_comm]
    exact this
  have L2 : 2 ≤ L := by omega
  refine ⟨by omega, ?_, by rw [hR, hH]; exact r1, by omega, (Q + 1) * M, ?_, ?_, ?_, ?_, ?_, fun hr0 => ?_⟩
  · rcases r2 with ⟨z, w⟩ | ⟨z, w⟩
    · exact .inl ⟨z, w⟩
    · exact .inr ⟨z, w⟩
  · exact Nat.le_trans m2 (Nat.le_mul_of_pos_left _ (by omega))
  · rw [← hQ]; exact abs_sub_mul _ _ _ m1 m2
  · exact Nat.le_trans m4 (Nat.le_mul_of_pos_left _ (by omega))
  · rw [← hQ]; exact abs_sub_mul _ _ _ m3 m4
  · refine Nat.le_trans k1 (Nat.le_trans ?_ mm)
    have a1 : 2 * (Q * M) ≤ L * (Q * M) := Nat.mul_le_mul_right _ L2
    have a2 : L * (Q * M) ≤ L * (L * M) := Nat.mul_le_mul_left _ (Nat.mul_le_mul_right _ (by omega))
    have a3 : M * L * (L * 1) ≤ M * L * (L * H) := Nat.mul_le_mul_left _ (Nat.mul_le_mul_left _ H0)
    have a4 : M * L * (L * 1) = L * (L * M) := by rw [Nat.mul_one, Nat.mul_comm M L, Nat.mul_comm]
    omega
  · rw [hH, hR]
    refine Nat.le_trans ?_ mm
    have b1 : (Q + 1) * M * H ≤ 2 * (L * M) := by
      have := Nat.mul_le_mul_right H k1
      rw [Nat.mul_assoc 2] at this
      omega
    have b2 : 2 * R ≤ L := by omega
    have b3 : (Q + 1) * M * H * (H * R) ≤ 2 * (L * M) * (H * R) := Nat.mul_le_mul_right _ b1
    have b4 : 2 * (L * M) * (H * R) = M * L * (H * (2 * R)) := by grind
    have b5 : M * L * (H * (2 * R)) ≤ M * L * (H * L) := Nat.mul_le_mul_left _ (Nat.mul_le_mul_left _ b2)
    rw [Nat.mul_comm L H]
    exact Nat.le_trans b3 (Nat.le_trans (Nat.le_of_eq b4) b5)
theorem first_step {B C : Nat} {a b : Int} (ha : a.natAbs < B) (hb : b.natAbs < B) (hC : (B + 2) * B * (B * B) ≤ C) (h0 : b ≠ 0) : (a.fdiv b).natAbs < B + 2 ∧ Later B C b (a - a.fdiv b * b) 0 (1 - a.fdiv b * 0) 1 (0 - a.fdiv b * 1) := by
  obtain ⟨r1, r2⟩ := fdiv_rest (l := a) h0
  have e : a.fdiv b * b = a - (a - a.fdiv b * b) := by omega
  generalize hr : a - a.fdiv b * b = r at *
  generalize a.fdiv b = q at *
  have hq : q.natAbs * b.natAbs ≤ (a.natAbs + 1) * b.natAbs := by
    rw [← Int.natAbs_mul, e, Nat.add_mul, Nat.one_mul]
    have : a.natAbs * 1 ≤ a.natAbs * b.natAbs := Nat.mul_le_mul_left _ (by omega)
    omega
  have hq2 : q.natAbs ≤ a.natAbs + 1 := Nat.le_of_mul_le_mul_right hq (by omega)
  have B0 : 0 < B := by omega
  refine ⟨by omega, ?_, r1, hb, B + 2, by omega, by omega, by omega, by omega, ?_, fun hr0 => ?_⟩
  · rcases r2 with ⟨z, w⟩ | ⟨z, w⟩
    · exact .inl ⟨z, w⟩
    · exact .inr ⟨z, w⟩
  · refine Nat.le_trans ?_ hC
    rw [Nat.mul_assoc]
    exact Nat.le_mul_of_pos_right _ (Nat.mul_pos B0 (Nat.mul_pos B0 B0))
  · refine Nat.le_trans ?_ hC
    exact Nat.mul_le_mul (Nat.mul_le_mul_left _ (by omega)) (Nat.mul_le_mul (by omega) (by omega))
abbrev KB : Nat := 8998
theorem sm_le {x : Int} {k j : Nat} (h : x.natAbs ≤ 2 ^ k) (hk : k < j) : Sm j x := Nat.lt_of_le_of_lt h (Nat.pow_lt_pow_right (by decide) hk)
theorem divOk_sm {l h : Int} (h0 : h ≠ 0) (hb : Sm KB h) : DivOk l h := ⟨h0, by
  have := (Nat.log2_lt (k := KB) (n := h.natAbs) (by omega)).mpr hb
  exact Nat.lt_trans this (by decide)⟩
def sp_bezout : FSpec := fun ds tk Q => ∃ a b : Int, ds = [.int a, .int b] ∧ Sm KB a ∧ Sm KB b ∧ ∀ u v : Int, u * a + v * b = (Int.gcd a b : Int) → Sm 60000 u → Sm 60000 v → Q (.val (.tup [.int (Int.gcd a b : Int), .int u, .int v])) tk
theorem mon_bezout : MonFS sp_bezout := fun ds tk Q Q' h ⟨m, n, e, h0, h1, q⟩ => ⟨m, n, e, h0, h1, fun u v z x y => h _ _ (q u v z x y)⟩
theorem len_bezout : ∀ ds tk Q, sp_bezout ds tk Q → ds.length = 2 := fun ds tk Q ⟨m, n, e, _⟩ => by rw [e]; rfl
theorem big_room {B : Nat} (hB : B = 2 ^ KB) : (B + 2) * B * (B * B) ≤ 2 ^ 50000 := by
  have h2 : 2 ≤ B := by rw [hB]; exact Nat.le_trans (show 2 ≤ 2 ^ 1 by decide) (Nat.pow_le_pow_right (by decide) (by decide))
  have h1 : B + 2 ≤ 2 ^ (KB + 1) := by rw [Nat.pow_succ, ← hB]; omega
  have h3 : (B + 2) * B * (B * B) ≤ 2 ^ (KB + 1) * 2 ^ KB * (2 ^ KB * 2 ^ KB) := by
    rw [← hB]
    exact Nat.mul_le_mul_right _ (Nat.mul_le_mul_right _ h1)
  refine Nat.le_trans h3 ?_
  rw [← Nat.pow_add, ← Nat.pow_add, ← Nat.pow_add]
  exact Nat.pow_le_pow_right (by decide) (by decide)
abbrev N_bezout : List Str := ["a", "b", "low", "low_u", "low_v", "high", "high_u", "high_v", "part"]
def c_bezout : WS :=
  (wSeq (wPar3 2 3 4 (wCons (fz (wV 0)) (wCons (fz (wC (.int 1))) (wCons (fz (wC (.int 0))) wNil))))
  (wSeq (wPar3 5 6 7 (wCons (fz (wV 1)) (wCons (fz (wC (.int 0))) (wCons (fz (wC (.int 1))) wNil))))
  (wSeq (wWhile (wT (wOp fNe (wPk 5) (fz (wC (.int 0))))) (wSeq (wSet 8 (wOp fDiv (wPk 2) (wPk 5)))
  (wSeq (wPar 2 5 (wCons (fz (wV 5)) (wCons (fz (wOp fSub (wPk 2) (fz (wOp fMul (wPk 8) (wPk 5))))) wNil)))
  (wSeq (wPar 3 6 (wCons (fz (wV 6)) (wCons (fz (wOp fSub (wPk 3) (fz (wOp fMul (wPk 8) (wPk 6))))) wNil)))
  (wPar 4 7 (wCons (fz (wV 7)) (wCons (fz (wOp fSub (wPk 4) (fz (wOp fMul (wPk 8) (wPk 7))))) wNil)))))))
  (wSeq (wIfS (wT (wOp fLt (wPk 2) (fz (wC (.int 0))))) (wRet (wTup (wCons (fz (w1 fNeg (wPk 2))) (wCons (fz (w1 fNeg (wPk 3))) (wCons (fz (w1 fNeg (wPk 4))) wNil))))) wNext)
  (wRet (wTup (wCons (fz (wV 2)) (wCons (fz (wV 3)) (wCons (fz (wV 4)) wNil)))))))))
theorem hw_bezout : ∀ ds tk Q, sp_bezout ds tk Q → c_bezout { nx := fun _ t => Q (.val .non) t, rt := Q } (start N_bezout.length ds) tk := by
  rintro ds tk Q ⟨a, b, rfl, ha, hb, q⟩
  obtain ⟨B, hB⟩ : ∃ B : Nat, B = 2 ^ KB := ⟨_, rfl⟩
  have ha' : a.natAbs < B := by rw [hB]; exact ha
  have hb' : b.natAbs < B := by rw [hB]; exact hb
  have hC := big_room hB
  refine ⟨fun n e t => t = tk ∧ ∃ (l h lu hu lv hv : Int) (x8 : Option EV), n = h.natAbs ∧ l = lu * a + lv * b ∧ h = hu * a + hv * b ∧ Int.gcd l h = Int.gcd a b ∧ ((l = a ∧ h = b ∧ lu = 1 ∧ hu = 0 ∧ lv = 0 ∧ hv = 1) ∨ Later B (2 ^ 50000) l h lu hu lv hv) ∧ e = [some (.val (.int a)), some (.val (.int b)), some (.val (.int l)), some (.val (.int lu)), some (.val (.int lv)), some (.val (.int h)), some (.val (.int hu)), some (.val (.int hv)), x8], ⟨b.natAbs, rfl, a, b, 1, 0, 0, 1, none, rfl, by omega, by omega, rfl, .inl ⟨rfl, rfl, rfl, rfl, rfl, rfl⟩, rfl⟩, ?_⟩
  rintro n e t ⟨rfl, l, h, lu, hu, lv, hv, x8, rfl, el, eh, hg, hs, rfl⟩
  refine ifN2 (fun h0 => ?_) (fun h0 => ?_)
  · have st : (l.fdiv h).natAbs < B + 2 ∧ Later B (2 ^ 50000) h (l - l.fdiv h * h) hu (lu - l.fdiv h * hu) hv (lv - l.fdiv h * hv) := by
      rcases hs with ⟨rfl, rfl, rfl, rfl, rfl, rfl⟩ | hs
      · exact first_step ha' hb' hC h0
      · have := later_step hs h0
        exact ⟨by omega, this.2⟩
    have hh : Sm KB h := by
      have := st.2.2.2.1
      rw [hB] at this; exact this
    obtain ⟨M, m1, m2, m3, m4, mc, _⟩ := st.2.2.2.2
    have hq : Sm BG (l.fdiv h) := by
      refine Nat.lt_of_lt_of_le st.1 ?_
      have : B + 2 ≤ 2 ^ (KB + 1) := by
        have h2 : 2 ≤ B := by rw [hB]; exact Nat.le_trans (show 2 ≤ 2 ^ 1 by decide) (Nat.pow_le_pow_right (by decide) (by decide))
        rw [Nat.pow_succ, ← hB]; omega
      exact Nat.le_trans this (Nat.pow_le_pow_right (by decide) (by decide))
    have kk : ∀ {x y : Int}, Sm BG x → Sm BG y → MulOk x y := fun h h' => h.mulOk h' (by decide) (by decide)
    have hhu : Sm BG hu := sm_le (Nat.le_trans m1 mc) (by decide)
    have hhv : Sm BG hv := sm_le (Nat.le_trans m3 mc) (by decide)
    refine ⟨divOk_sm h0 hh, kk hq (hh.mono (by decide)), kk hq hhu, kk hq hhv, ?_⟩
    refine ⟨_, st.2.2.1, rfl, h, l - l.fdiv h * h, hu, lu - l.fdiv h * hu, hv, lv - l.fdiv h * hv, _, rfl, eh, ?_, ?_, .inr st.2, rfl⟩
    · generalize l.fdiv h = qq
      rw [el, eh]
      grind
    · rw [Int.gcd_sub_mul_right_right, Int.gcd_comm, hg]
  · have h0' : h = 0 := h0
    subst h0'
    rw [Int.gcd_zero_right] at hg
    have sm : Sm 60000 lu ∧ Sm 60000 lv := by
      rcases hs with ⟨rfl, rfl, rfl, rfl, rfl, rfl⟩ | ⟨_, _, _, M, m1, m2, m3, m4, mc, _⟩
      · exact ⟨Nat.lt_of_lt_of_le (show 1 < 2 ^ 1 by decide) (Nat.pow_le_pow_right (by decide) (by decide)), Nat.lt_of_lt_of_le (show 0 < 2 ^ 1 by decide) (Nat.pow_le_pow_right (by decide) (by decide))⟩
      · exact ⟨sm_le (Nat.le_trans m1 mc) (by decide), sm_le (Nat.le_trans m3 mc) (by decide)⟩
    refine if2 (fun hl => ?_) (fun hl => ?_)
    · have e : -l = (Int.gcd a b : Int) := by rw [← hg]; omega
      refine ⟨rfl, ?_⟩
      have := q (-lu) (-lv) (by rw [← e, el, Int.neg_mul, Int.neg_mul]; omega) sm.1.neg sm.2.neg
      rw [← e] at this
      exact this
    · have e : l = (Int.gcd a b : Int) := by rw [← hg]; omega
      refine ⟨rfl, ?_⟩
      have := q lu lv (by rw [← e, el]) sm.1 sm.2
      rw [← e] at this
      exact this
end DL
set_option pp.maxSteps 1200
local macro_rules | `(tactic| walk_at "dl") => `(tactic| simp (config := { failIfUnchanged := false }) only [↓DL.wSeq, ↓DL.wSet, ↓DL.wIfS, ↓DL.wRet, ↓DL.wRetV, ↓DL.wRetN, ↓DL.wNext, ↓DL.wPk, ↓DL.wV, ↓DL.wC, ↓DL.fz, ↓DL.wOp, ↓DL.w1, ↓DL.EV.d, ↓DL.wT_bl, ↓DL.wAnd, ↓DL.wOr, ↓DL.wNot, ↓DL.wB, ↓DL.wIf, ↓DL.wCons, ↓DL.wNil, ↓DL.wTup, ↓DL.wLst, ↓DL.wPar, ↓DL.wPar3, ↓DL.wAsg, ↓DL.wCall, ↓DL.wDrop, ↓DL.gN, ↓DL.gT, ↓DL.gCs, ↓DL.gNl, ↓DL.wR1, ↓DL.wR2, ↓DL.wSrc, ↓DL.wBrk, ↓DL.wCnt, ↓DL.wApp, ↓DL.wFor, ↓DL.fAdd_int, ↓DL.fI_int, ↓DL.fJ_int, ↓DL.fEq_int, ↓DL.fNe_int, ↓DL.fIdx_lst, ↓DL.fIdx_tup, ↓DL.fNeg, ↓DL.fAbs, ↓DL.fInt, ↓DL.fLen, ↓DL.start_def, List.getElem?_cons_zero, List.getElem?_cons_succ, List.set_cons_zero, List.set_cons_succ, List.map_cons, List.map_nil, List.length_cons, List.length_nil, List.replicate_succ, List.replicate_zero, List.cons_append, List.nil_append, Nat.reduceAdd, Nat.reduceSub, Nat.zero_add, decide_eq_true_eq, true_and, and_true])
namespace DL
open PySem PySem.Spec PyProof.Rows L2
/-! ### the law's own measure -/
def sp_Lmeasure : FSpec := fun ds tk Q => ∃ a b : Int, ds = [.int a, .int b] ∧ Sm KB a ∧ Sm KB b ∧ Q (.val (.int (Int.gcd a b : Int))) tk
theorem mon_Lmeasure : MonFS sp_Lmeasure := fun ds tk Q Q' h ⟨m, n, e, h0, h1, q⟩ => ⟨m, n, e, h0, h1, h _ _ q⟩
theorem len_Lmeasure : ∀ ds tk Q, sp_Lmeasure ds tk Q → ds.length = 2 := fun ds tk Q ⟨m, n, e, _⟩ => by rw [e]; rfl
def LmI (B g A0 B0 i : Nat) (x y : Nat) : Prop := Nat.gcd x y = g ∧ ((i = 0 ∧ x = A0 ∧ y = B0) ∨ (y < x ∧ x < B ∧ (y ≠ 0 → x * y * 2 ^ i ≤ 2 * (B * B))))
theorem lmI_step {B g A0 B0 i x y : Nat} (hA : A0 < B) (hB : B0 < B) (h : LmI B g A0 B0 i x y) (y0 : y ≠ 0) : LmI B g A0 B0 (i + 1) y (x % y) := by
  obtain ⟨hg, hs⟩ := h
  have hm : x % y < y := Nat.mod_lt _ (by omega)
  refine ⟨by rw [← hg, Nat.gcd_comm x y, Nat.gcd_rec y x, Nat.gcd_comm], .inr ⟨hm, ?_, fun r0 => ?_⟩⟩
  · rcases hs with ⟨rfl, rfl, rfl⟩ | ⟨h1, h2, h3⟩ <;> omega
  · rcases hs with ⟨rfl, rfl, rfl⟩ | ⟨h1, h2, h3⟩
    · have := Nat.mul_le_mul (show y ≤ B by omega) (show x % y ≤ B by omega)
      rw [show 2 ^ (0 + 1) = 2 from rfl]
      omega
    · refine Nat.le_trans ?_ (h3 y0)
      have h4 : 2 * (x % y) ≤ x := by
        have e := Nat.div_add_mod x y
        have : 1 ≤ x / y := (Nat.le_div_iff_mul_le (by omega)).mpr (by omega)
        have := Nat.mul_le_mul_left y this
        omega
      have h5 := Nat.mul_le_mul_right (2 ^ i) (Nat.mul_le_mul_left y h4)
      rw [Nat.pow_succ]
      have e1 : y * (x % y) * (2 ^ i * 2) = y * (2 * (x % y)) * 2 ^ i := by grind
      rw [e1, Nat.mul_comm x y]
      exact h5
theorem nat_abs_if {a : Int} : (if a < 0 then -a else a) = (a.natAbs : Int) := by split <;> omega
theorem fmod_nat {x y : Nat} : ((x : Int)).fmod (y : Int) = ((x % y : Nat) : Int) := by rw [Int.fmod_eq_emod_of_nonneg _ (Int.natCast_nonneg _)]; rfl
abbrev N_Lmeasure : List Str := ["_law_a", "_law_b", "_law_k"]
def c_Lmeasure : WS :=
  (wSeq (wSet 0 (w1 fAbs (wPk 0)))
  (wSeq (wSet 1 (w1 fAbs (wPk 1)))
  (wSeq (wFor (wR1 (fz (wC (.int 20000)))) (gN 2) (wSeq (wIfS (wT (wOp fEq (wPk 1) (fz (wC (.int 0))))) (wRetV 0) wNext)
  (wPar 0 1 (wCons (fz (wV 1)) (wCons (fz (wOp fMod (wPk 0) (wPk 1))) wNil)))))
  (wRetV 0))))
theorem hw_Lmeasure : ∀ ds tk Q, sp_Lmeasure ds tk Q → c_Lmeasure { nx := fun _ t => Q (.val .non) t, rt := Q } (start N_Lmeasure.length ds) tk := by
  rintro ds tk Q ⟨a, b, rfl, ha, hb, q⟩
  obtain ⟨B, hB⟩ : ∃ B : Nat, B = 2 ^ KB := ⟨_, rfl⟩
  have ha' : a.natAbs < B := by rw [hB]; exact ha
  have hb' : b.natAbs < B := by rw [hB]; exact hb
  refine ⟨by decide, by decide, ?_⟩
  refine forGo_rng (fun i e t => t = tk ∧ ∃ (x y : Nat) (xi yi : Int) (x2 : Option EV), LmI B (Int.gcd a b) a.natAbs b.natAbs i x y ∧ xi = (x : Int) ∧ yi = (y : Int) ∧ e = [some (.val (.int xi)), some (.val (.int yi)), x2]) (fun i e t R hi hI hR => ?_) (fun e t hI => ?_) ⟨rfl, a.natAbs, b.natAbs, _, _, none, ⟨rfl, .inl ⟨rfl, rfl, rfl⟩⟩, nat_abs_if, nat_abs_if, rfl⟩
  · obtain ⟨rfl, x, y, xi, yi, x2, hI, hx, hy, rfl⟩ := hI
    refine if2 (fun h0 => ?_) (fun h0 => ?_)
    · have y0 : y = 0 := by omega
      subst y0
      have e : xi = (Int.gcd a b : Int) := by rw [← hI.1, Nat.gcd_zero_right]; exact hx
      rw [← e] at q
      exact q
    · refine ⟨h0, ?_⟩
      refine hR _ _ ⟨rfl, y, x % y, yi, xi.fmod yi, _, lmI_step ha' hb' hI (by omega), hy, by rw [hx, hy, fmod_nat], rfl⟩
  · obtain ⟨rfl, x, y, xi, yi, x2, ⟨hg, hs⟩, hx, hy, rfl⟩ := hI
    have y0 : y = 0 := by
      rcases hs with ⟨h, _⟩ | ⟨h1, h2, h3⟩
      · exact absurd h (by decide)
      · refine Decidable.byContradiction fun z => ?_
        have h4 := h3 z
        have h5 : 1 * 2 ^ 20000 ≤ x * y * 2 ^ 20000 := Nat.mul_le_mul_right _ (Nat.mul_pos (by omega) (by omega))
        have h6 : 2 * (B * B) = 2 ^ (KB + KB + 1) := by rw [hB, ← Nat.pow_add, Nat.pow_succ, Nat.mul_comm]
        have h7 : 2 ^ (KB + KB + 1) < 2 ^ 20000 := Nat.pow_lt_pow_right (by decide) (by decide)
        have h8 : x * y * 2 ^ 20000 ≤ 2 ^ (KB + KB + 1) := by rw [← h6]; exact h4
        rw [Nat.one_mul] at h5
        exact absurd (Nat.lt_of_le_of_lt (Nat.le_trans h5 h8) h7) (Nat.lt_irrefl _)
    subst y0
    have e : xi = (Int.gcd a b : Int) := by rw [← hg, Nat.gcd_zero_right]; exact hx
    rw [← e] at q
    exact q
/-! ### measure -/
def gcds (xs : List Int) : Int := xs.foldl (fun g x => (Int.gcd g x : Int)) 0
theorem sm_gcd {a b : Int} (ha : Sm KB a) (hb : Sm KB b) : Sm KB (Int.gcd a b : Int) := by
  unfold Sm at *
  rw [Int.natAbs_natCast]
  rcases Nat.eq_zero_or_pos b.natAbs with z | z
  · have : b = 0 := by omega
    subst this
    rw [Int.gcd_zero_right]
    exact ha
  · exact Nat.lt_of_le_of_lt (Nat.gcd_le_right _ z) hb
theorem sm_zero : Sm KB 0 := Nat.lt_of_lt_of_le (show 0 < 2 ^ 1 by decide) (Nat.pow_le_pow_right (by decide) (by decide))
theorem sm_gcds {xs : List Int} (h : ∀ x ∈ xs, Sm KB x) : Sm KB (gcds xs) := by
  have : ∀ (xs : List Int) (g : Int), Sm KB g → (∀ x ∈ xs, Sm KB x) → Sm KB (xs.foldl (fun g x => (Int.gcd g x : Int)) g) := by
    intro xs
    induction xs with
    | nil => intro g hg _; exact hg
    | cons x xs ih => intro g hg h; exact ih _ (sm_gcd hg (h x (List.mem_cons_self ..))) fun y hy => h y (List.mem_cons_of_mem _ hy)
  exact this xs 0 sm_zero h
theorem gcds_take {xs : List Int} {i : Nat} {x : Int} (h : xs[i]? = some x) : (Int.gcd (gcds (xs.take i)) x : Int) = gcds (xs.take (i + 1)) := by
  unfold gcds
  rw [List.take_add_one, h, List.foldl_append]
  rfl
def sp_measure : FSpec := fun ds tk Q => ∃ (xs : List Int) (d : D), ds = [d] ∧ (d = .lst (xs.map D.int) ∨ d = .tup (xs.map D.int)) ∧ (∀ x ∈ xs, Sm KB x) ∧ Q (.val (.int (gcds xs))) tk
theorem mon_measure : MonFS sp_measure := fun ds tk Q Q' h ⟨m, n, e, h0, h1, q⟩ => ⟨m, n, e, h0, h1, h _ _ q⟩
theorem len_measure : ∀ ds tk Q, sp_measure ds tk Q → ds.length = 1 := fun ds tk Q ⟨m, n, e, _⟩ => by rw [e]; rfl
abbrev N_measure : List Str := ["numbers", "found", "number"]
def c_measure : WS :=
  (wSeq (wSet 1 (wC (.int 0)))
  (wSeq (wFor (wSrc (fz (wV 0))) (gN 2) (wSet 1 (wOp fIdx (fz (wCall sp_bezout (wCons (fz (wV 1)) (wCons (fz (wV 2)) wNil)))) (fz (wC (.int 0))))))
  (wRetV 1)))
theorem hw_measure : ∀ ds tk Q, sp_measure ds tk Q → c_measure { nx := fun _ t => Q (.val .non) t, rt := Q } (start N_measure.length ds) tk := by
  rintro ds tk Q ⟨xs, d, rfl, hd, hs, q⟩
  have key : forGo (gN 2) (wSet 1 (wOp fIdx (fz (wCall sp_bezout (wCons (fz (wV 1)) (wCons (fz (wV 2)) wNil)))) (fz (wC (.int 0))))) { nx := fun e t => wRetV 1 { nx := fun _ t => Q (.val .non) t, rt := Q } e t, rt := Q } (xs.map D.int) [some (.val d), some (.val (.int 0)), none] tk := by
    refine forGo_inv (fun i e t => t = tk ∧ ∃ x2 : Option EV, e = [some (.val d), some (.val (.int (gcds (xs.take i)))), x2]) (fun i z e t R hz hI hR => ?_) (fun e t hI => ?_) ⟨rfl, none, rfl⟩
    · obtain ⟨rfl, x2, rfl⟩ := hI
      rw [List.getElem?_map] at hz
      cases hx : xs[i]? with
      | none => rw [hx] at hz; cases hz
      | some x =>
        rw [hx] at hz
        cases hz
        refine ⟨_, x, rfl, sm_gcds fun y hy => hs y (List.mem_of_mem_take hy), hs x (List.mem_of_getElem? hx), fun u v _ _ _ => ?_⟩
        refine hR _ _ ⟨rfl, some (.val (.int x)), ?_⟩
        rw [← gcds_take hx]
        rfl
    · obtain ⟨rfl, x2, rfl⟩ := hI
      rw [List.length_map, List.take_length]
      exact q
  rcases hd with rfl | rfl
  · exact key
  · exact key
end DL
set_option pp.maxSteps 1200
local macro_rules | `(tactic| walk_at "dl") => `(tactic| simp (config := { failIfUnchanged := false }) only [↓DL.wSeq, ↓DL.wSet, ↓DL.wIfS, ↓DL.wRet, ↓DL.wRetV, ↓DL.wRetN, ↓DL.wNext, ↓DL.wPk, ↓DL.wV, ↓DL.wC, ↓DL.fz, ↓DL.wOp, ↓DL.w1, ↓DL.EV.d, ↓DL.wT_bl, ↓DL.wAnd, ↓DL.wOr, ↓DL.wNot, ↓DL.wB, ↓DL.wIf, ↓DL.wCons, ↓DL.wNil, ↓DL.wTup, ↓DL.wLst, ↓DL.wPar, ↓DL.wPar3, ↓DL.wAsg, ↓DL.wCall, ↓DL.wDrop, ↓DL.gN, ↓DL.gT, ↓DL.gCs, ↓DL.gNl, ↓DL.wR1, ↓DL.wR2, ↓DL.wSrc, ↓DL.wBrk, ↓DL.wCnt, ↓DL.wApp, ↓DL.wFor, ↓DL.fAdd_int, ↓DL.fI_int, ↓DL.fJ_int, ↓DL.fEq_int, ↓DL.fNe_int, ↓DL.fIdx_lst, ↓DL.fIdx_tup, ↓DL.fNeg, ↓DL.fAbs, ↓DL.fInt, ↓DL.fLen, ↓DL.start_def, List.getElem?_cons_zero, List.getElem?_cons_succ, List.set_cons_zero, List.set_cons_succ, List.map_cons, List.map_nil, List.length_cons, List.length_nil, List.replicate_succ, List.replicate_zero, List.cons_append, List.nil_append, Nat.reduceAdd, Nat.reduceSub, Nat.zero_add, decide_eq_true_eq, true_and, and_true])
namespace DL
open PySem PySem.Spec PyProof.Rows L2
/-! ### forms and equations -/
structure E6 where
  a : Int
  b : Int
  c : Int
  d : Int
  e : Int
  f : Int
def E6.D (m : E6) : D := .tup [.int m.a, .int m.b, .int m.c, .int m.d, .int m.e, .int m.f]
def E6.Sm (k : Nat) (m : E6) : Prop := DL.Sm k m.a ∧ DL.Sm k m.b ∧ DL.Sm k m.c ∧ DL.Sm k m.d ∧ DL.Sm k m.e ∧ DL.Sm k m.f
def F3.worth (m : F3) (v : P2) : Int := m.a * v.x * v.x + m.b * v.x * v.y + m.c * v.y * v.y
def F3.act (f : F3) (m : M4) : F3 := ⟨f.worth ⟨m.p, m.r⟩, 2 * f.a * m.p * m.q + f.b * (m.p * m.s + m.q * m.r) + 2 * f.c * m.r * m.s, f.worth ⟨m.q, m.s⟩⟩
def F3.disc (f : F3) : Int := f.b * f.b - 4 * f.a * f.c
def E6.at (m : E6) (v : P2) : Int := m.a * v.x * v.x + m.b * v.x * v.y + m.c * v.y * v.y + m.d * v.x + m.e * v.y + m.f
/-- a small number of 64 bits -/
abbrev QB : Nat := 1000
theorem q1 {x y : Int} {k j : Nat} (h : Sm k x) (h' : Sm j y) (hk : k ≤ 100000 := by decide) (hj : j ≤ 100000 := by decide) : MulOk x y := h.mulOk h' (by omega) (by omega)
theorem s2 : Sm 2 2 := show (2 : Int).natAbs < 2 ^ 2 by decide
theorem s4 : Sm 3 4 := show (4 : Int).natAbs < 2 ^ 3 by decide
def sp_discriminant : FSpec := fun ds tk Q => ∃ m : F3, ds = [m.D] ∧ m.Sm QB ∧ Q (.val (.int m.disc)) tk
theorem mon_discriminant : MonFS sp_discriminant := fun ds tk Q Q' h ⟨m, e, h0, q⟩ => ⟨m, e, h0, h _ _ q⟩
theorem len_discriminant : ∀ ds tk Q, sp_discriminant ds tk Q → ds.length = 1 := fun ds tk Q ⟨m, e, _⟩ => by rw [e]; rfl
abbrev N_discriminant : List Str := ["form"]
def c_discriminant : WS :=
  (wRet (wOp fSub (fz (wOp fMul (fz (wOp fIdx (wPk 0) (fz (wC (.int 1))))) (fz (wOp fIdx (wPk 0) (fz (wC (.int 1))))))) (fz (wOp fMul (fz (wOp fMul (fz (wC (.int 4))) (fz (wOp fIdx (wPk 0) (fz (wC (.int 0))))))) (fz (wOp fIdx (wPk 0) (fz (wC (.int 2)))))))))
theorem hw_discriminant : ∀ ds tk Q, sp_discriminant ds tk Q → c_discriminant { nx := fun _ t => Q (.val .non) t, rt := Q } (start N_discriminant.length ds) tk := by
  rintro ds tk Q ⟨m, rfl, ⟨a1, a2, a3⟩, q⟩
  exact ⟨q1 a2 a2, q1 s4 a1, q1 (s4.mul a1) a3, q⟩
def sp_worth : FSpec := fun ds tk Q => ∃ (m : F3) (v : P2), ds = [m.D, v.D] ∧ m.Sm QB ∧ v.Sm QB ∧ Q (.val (.int (m.worth v))) tk
theorem mon_worth : MonFS sp_worth := fun ds tk Q Q' h ⟨m, v, e, h0, h1, q⟩ => ⟨m, v, e, h0, h1, h _ _ q⟩
theorem len_worth : ∀ ds tk Q, sp_worth ds tk Q → ds.length = 2 := fun ds tk Q ⟨m, v, e, _⟩ => by rw [e]; rfl
abbrev N_worth : List Str := ["form", "point", "x", "y"]
def c_worth : WS :=
  (wSeq (wAsg (fz (wV 1)) (gT 2 (gCs (gN 2) (gCs (gN 3) gNl))))
  (wRet (wOp fAdd (fz (wOp fAdd (fz (wOp fMul (fz (wOp fMul (fz (wOp fIdx (wPk 0) (fz (wC (.int 0))))) (wPk 2))) (wPk 2))) (fz (wOp fMul (fz (wOp fMul (fz (wOp fIdx (wPk 0) (fz (wC (.int 1))))) (wPk 2))) (wPk 3))))) (fz (wOp fMul (fz (wOp fMul (fz (wOp fIdx (wPk 0) (fz (wC (.int 2))))) (wPk 3))) (wPk 3))))))
theorem hw_worth : ∀ ds tk Q, sp_worth ds tk Q → c_worth { nx := fun _ t => Q (.val .non) t, rt := Q } (start N_worth.length ds) tk := by
  rintro ds tk Q ⟨m, v, rfl, ⟨a1, a2, a3⟩, ⟨b1, b2⟩, q⟩
  exact ⟨rfl, q1 a1 b1, q1 (a1.mul b1) b1, q1 a2 b1, q1 (a2.mul b1) b2, q1 a3 b2, q1 (a3.mul b2) b2, q⟩
def sp_act : FSpec := fun ds tk Q => ∃ (f : F3) (m : M4), ds = [f.D, m.D] ∧ f.Sm QB ∧ m.Sm QB ∧ Q (.val (f.act m).D) tk
theorem mon_act : MonFS sp_act := fun ds tk Q Q' h ⟨m, v, e, h0, h1, q⟩ => ⟨m, v, e, h0, h1, h _ _ q⟩
theorem len_act : ∀ ds tk Q, sp_act ds tk Q → ds.length = 2 := fun ds tk Q ⟨m, v, e, _⟩ => by rw [e]; rfl
abbrev N_act : List Str := ["form", "m", "p", "q", "r", "s", "middle"]
def c_act : WS :=
  (wSeq (wAsg (fz (wV 1)) (gT 4 (gCs (gN 2) (gCs (gN 3) (gCs (gN 4) (gCs (gN 5) gNl))))))
  (wSeq (wSet 6 (wOp fAdd (fz (wOp fAdd (fz (wOp fMul (fz (wOp fMul (fz (wOp fMul (fz (wC (.int 2))) (fz (wOp fIdx (wPk 0) (fz (wC (.int 0))))))) (wPk 2))) (wPk 3))) (fz (wOp fMul (fz (wOp fIdx (wPk 0) (fz (wC (.int 1))))) (fz (wOp fAdd (fz (wOp fMul (wPk 2) (wPk 5))) (fz (wOp fMul (wPk 3) (wPk 4))))))))) (fz (wOp fMul (fz (wOp fMul (fz (wOp fMul (fz (wC (.int 2))) (fz (wOp fIdx (wPk 0) (fz (wC (.int 2))))))) (wPk 4))) (wPk 5)))))
  (wRet (wTup (wCons (fz (wCall sp_worth (wCons (fz (wV 0)) (wCons (fz (wTup (wCons (fz (wV 2)) (wCons (fz (wV 4)) wNil)))) wNil)))) (wCons (fz (wV 6)) (wCons (fz (wCall sp_worth (wCons (fz (wV 0)) (wCons (fz (wTup (wCons (fz (wV 3)) (wCons (fz (wV 5)) wNil)))) wNil)))) wNil)))))))
theorem hw_act : ∀ ds tk Q, sp_act ds tk Q → c_act { nx := fun _ t => Q (.val .non) t, rt := Q } (start N_act.length ds) tk := by
  rintro ds tk Q ⟨f, m, rfl, ⟨a1, a2, a3⟩, ⟨b1, b2, b3, b4⟩, q⟩
  refine ⟨rfl, q1 s2 a1, q1 (s2.mul a1) b1, q1 ((s2.mul a1).mul b1) b2, q1 b1 b4, q1 b2 b3, q1 a2 ((b1.mul b4).add (b2.mul b3)), q1 s2 a3, q1 (s2.mul a3) b3, q1 ((s2.mul a3).mul b3) b4, rfl, ?_⟩
  exact ⟨f, ⟨m.p, m.r⟩, rfl, ⟨a1, a2, a3⟩, ⟨b1, b3⟩, rfl, f, ⟨m.q, m.s⟩, rfl, ⟨a1, a2, a3⟩, ⟨b2, b4⟩, rfl, q⟩
def E6.form (m : E6) : F3 := ⟨m.a, m.b, m.c⟩
def E6.change (q : E6) (m : M4) (v : P2) : E6 := ⟨(q.form.act m).a, (q.form.act m).b, (q.form.act m).c,
  (2 * q.a * v.x + q.b * v.y + q.d) * m.p + (q.b * v.x + 2 * q.c * v.y + q.e) * m.r, (2 * q.a * v.x + q.b * v.y + q.d) * m.q + (q.b * v.x + 2 * q.c * v.y + q.e) * m.s, q.at v⟩
def sp_change_equation : FSpec := fun ds tk Q => ∃ (f : E6) (m : M4) (v : P2), ds = [f.D, m.D, v.D] ∧ f.Sm QB ∧ m.Sm QB ∧ v.Sm QB ∧ Q (.val (f.change m v).D) tk
theorem mon_change_equation : MonFS sp_change_equation := fun ds tk Q Q' h ⟨m, v, u, e, h0, h1, h2, q⟩ => ⟨m, v, u, e, h0, h1, h2, h _ _ q⟩
theorem len_change_equation : ∀ ds tk Q, sp_change_equation ds tk Q → ds.length = 3 := fun ds tk Q ⟨m, v, u, e, _⟩ => by rw [e]; rfl
abbrev N_change_equation : List Str := ["equation", "m", "shift", "a", "b", "c", "d", "e", "f", "x", "y", "side", "other", "low", "form"]
def c_change_equation : WS :=
  (wSeq (wAsg (fz (wV 0)) (gT 6 (gCs (gN 3) (gCs (gN 4) (gCs (gN 5) (gCs (gN 6) (gCs (gN 7) (gCs (gN 8) gNl))))))))
  (wSeq (wAsg (fz (wV 2)) (gT 2 (gCs (gN 9) (gCs (gN 10) gNl))))
  (wSeq (wSet 11 (wOp fAdd (fz (wOp fAdd (fz (wOp fMul (fz (wOp fMul (fz (wC (.int 2))) (wPk 3))) (wPk 9))) (fz (wOp fMul (wPk 4) (wPk 10))))) (wPk 6)))
  (wSeq (wSet 12 (wOp fAdd (fz (wOp fAdd (fz (wOp fMul (wPk 4) (wPk 9))) (fz (wOp fMul (fz (wOp fMul (fz (wC (.int 2))) (wPk 5))) (wPk 10))))) (wPk 7)))
  (wSeq (wSet 13 (wOp fAdd (fz (wOp fAdd (fz (wOp fAdd (fz (wOp fAdd (fz (wOp fAdd (fz (wOp fMul (fz (wOp fMul (wPk 3) (wPk 9))) (wPk 9))) (fz (wOp fMul (fz (wOp fMul (wPk 4) (wPk 9))) (wPk 10))))) (fz (wOp fMul (fz (wOp fMul (wPk 5) (wPk 10))) (wPk 10))))) (fz (wOp fMul (wPk 6) (wPk 9))))) (fz (wOp fMul (wPk 7) (wPk 10))))) (wPk 8)))
  (wSeq (wSet 14 (wCall sp_act (wCons (fz (wTup (wCons (fz (wV 3)) (wCons (fz (wV 4)) (wCons (fz (wV 5)) wNil))))) (wCons (fz (wV 1)) wNil))))
  (wRet (wTup (wCons (fz (wOp fIdx (wPk 14) (fz (wC (.int 0))))) (wCons (fz (wOp fIdx (wPk 14) (fz (wC (.int 1))))) (wCons (fz (wOp fIdx (wPk 14) (fz (wC (.int 2))))) (wCons (fz (wOp fAdd (fz (wOp fMul (wPk 11) (fz (wOp fIdx (wPk 1) (fz (wC (.int 0))))))) (fz (wOp fMul (wPk 12) (fz (wOp fIdx (wPk 1) (fz (wC (.int 2))))))))) (wCons (fz (wOp fAdd (fz (wOp fMul (wPk 11) (fz (wOp fIdx (wPk 1) (fz (wC (.int 1))))))) (fz (wOp fMul (wPk 12) (fz (wOp fIdx (wPk 1) (fz (wC (.int 3))))))))) (wCons (fz (wV 13)) wNil))))))))))))))
theorem hw_change_equation : ∀ ds tk Q, sp_change_equation ds tk Q → c_change_equation { nx := fun _ t => Q (.val .non) t, rt := Q } (start N_change_equation.length ds) tk := by
  rintro ds tk Q ⟨f, m, v, rfl, ⟨a1, a2, a3, a4, a5, a6⟩, ⟨b1, b2, b3, b4⟩, ⟨c1, c2⟩, q⟩
  have hside := ((((s2.mul a1).mul c1).mono (show _ ≤ 3000 by decide)).add ((a2.mul c2).mono (show _ ≤ 3000 by decide))).add (a4.mono (show QB ≤ 3001 by decide))
  have hoth := (((a2.mul c1).mono (show _ ≤ 3000 by decide)).add (((s2.mul a3).mul c2).mono (show _ ≤ 3000 by decide))).add (a5.mono (show QB ≤ 3001 by decide))
  refine ⟨rfl, rfl, ?_⟩
  simp only [gCs, gN, gNl, start_def, List.map_cons, List.map_nil, List.set_cons_zero, List.set_cons_succ, List.replicate_succ, List.replicate_zero, List.cons_append, List.nil_append, List.length_cons, List.length_nil, Nat.reduceAdd, Nat.reduceSub]
  refine ⟨q1 s2 a1, q1 (s2.mul a1) c1, q1 a2 c2, ?_⟩
  refine ⟨q1 a2 c1, q1 s2 a3, q1 (s2.mul a3) c2, ?_⟩
  refine ⟨q1 a1 c1, q1 (a1.mul c1) c1, q1 a2 c1, q1 (a2.mul c1) c2, q1 a3 c2, q1 (a3.mul c2) c2, q1 a4 c1, q1 a5 c2, ?_⟩
  refine ⟨rfl, f.form, m, rfl, ⟨a1, a2, a3⟩, ⟨b1, b2, b3, b4⟩, ?_⟩
  exact ⟨q1 hside b1, q1 hoth b3, q1 hside b2, q1 hoth b4, rfl, q⟩
def M4.old (m : M4) (s v : P2) : P2 := ⟨(m.at v).x + s.x, (m.at v).y + s.y⟩
def sp_old_point : FSpec := fun ds tk Q => ∃ (m : M4) (s v : P2), ds = [m.D, s.D, v.D] ∧ m.Sm BG ∧ v.Sm BG ∧ Q (.val (m.old s v).D) tk
theorem mon_old_point : MonFS sp_old_point := fun ds tk Q Q' h ⟨m, v, u, e, h0, h1, q⟩ => ⟨m, v, u, e, h0, h1, h _ _ q⟩
theorem len_old_point : ∀ ds tk Q, sp_old_point ds tk Q → ds.length = 3 := fun ds tk Q ⟨m, v, u, e, _⟩ => by rw [e]; rfl
abbrev N_old_point : List Str := ["m", "shift", "point", "x", "y"]
def c_old_point : WS :=
  (wSeq (wAsg (fz (wCall sp_apply (wCons (fz (wV 0)) (wCons (fz (wV 2)) wNil)))) (gT 2 (gCs (gN 3) (gCs (gN 4) gNl))))
  (wRet (wTup (wCons (fz (wOp fAdd (wPk 3) (fz (wOp fIdx (wPk 1) (fz (wC (.int 0))))))) (wCons (fz (wOp fAdd (wPk 4) (fz (wOp fIdx (wPk 1) (fz (wC (.int 1))))))) wNil)))))
theorem hw_old_point : ∀ ds tk Q, sp_old_point ds tk Q → c_old_point { nx := fun _ t => Q (.val .non) t, rt := Q } (start N_old_point.length ds) tk := by
  rintro ds tk Q ⟨m, s, v, rfl, hm, hv, q⟩
  exact ⟨m, v, rfl, hm, hv, rfl, rfl, q⟩
def sp_new_point : FSpec := fun ds tk Q => ∃ (m : M4) (s v : P2), ds = [m.D, s.D, v.D] ∧ m.Sm BG ∧ Sm BG m.det ∧ m.inv.Sm BG ∧ P2.Sm BG ⟨v.x - s.x, v.y - s.y⟩ ∧ Q (.val (m.inv.at ⟨v.x - s.x, v.y - s.y⟩).D) tk
theorem mon_new_point : MonFS sp_new_point := fun ds tk Q Q' h ⟨m, v, u, e, h0, h1, h2, h3, q⟩ => ⟨m, v, u, e, h0, h1, h2, h3, h _ _ q⟩
theorem len_new_point : ∀ ds tk Q, sp_new_point ds tk Q → ds.length = 3 := fun ds tk Q ⟨m, v, u, e, _⟩ => by rw [e]; rfl
abbrev N_new_point : List Str := ["m", "shift", "point"]
def c_new_point : WS :=
  (wRet (wCall sp_apply (wCons (fz (wCall sp_inverse (wCons (fz (wV 0)) wNil))) (wCons (fz (wTup (wCons (fz (wOp fSub (fz (wOp fIdx (wPk 2) (fz (wC (.int 0))))) (fz (wOp fIdx (wPk 1) (fz (wC (.int 0))))))) (wCons (fz (wOp fSub (fz (wOp fIdx (wPk 2) (fz (wC (.int 1))))) (fz (wOp fIdx (wPk 1) (fz (wC (.int 1))))))) wNil)))) wNil))))
theorem hw_new_point : ∀ ds tk Q, sp_new_point ds tk Q → c_new_point { nx := fun _ t => Q (.val .non) t, rt := Q } (start N_new_point.length ds) tk := by
  rintro ds tk Q ⟨m, s, v, rfl, hm, hd, hi, hv, q⟩
  exact ⟨m, rfl, hm, hd, rfl, m.inv, ⟨v.x - s.x, v.y - s.y⟩, rfl, hi, hv, q⟩
def E6.scale (m : E6) (n : Int) : E6 := ⟨m.a * n, m.b * n, m.c * n, m.d * n, m.e * n, m.f * n⟩
def sp_scale_equation : FSpec := fun ds tk Q => ∃ (m : E6) (n : Int), ds = [m.D, .int n] ∧ m.Sm QB ∧ Sm QB n ∧ Q (.val (m.scale n).D) tk
theorem mon_scale_equation : MonFS sp_scale_equation := fun ds tk Q Q' h ⟨m, v, e, h0, h1, q⟩ => ⟨m, v, e, h0, h1, h _ _ q⟩
theorem len_scale_equation : ∀ ds tk Q, sp_scale_equation ds tk Q → ds.length = 2 := fun ds tk Q ⟨m, v, e, _⟩ => by rw [e]; rfl
abbrev N_scale_equation : List Str := ["equation", "number", "part"]
def c_scale_equation : WS :=
  (wRet (w1 fTuple (fz (wLc (wSrc (fz (wV 0))) (gN 2) wYes (wOp fMul (wPk 2) (wPk 1)) [2]))))
theorem hw_scale_equation : ∀ ds tk Q, sp_scale_equation ds tk Q → c_scale_equation { nx := fun _ t => Q (.val .non) t, rt := Q } (start N_scale_equation.length ds) tk := by
  rintro ds tk Q ⟨m, n, rfl, ⟨a1, a2, a3, a4, a5, a6⟩, hn, q⟩
  exact ⟨rfl, rfl, ifB rfl ⟨q1 a1 hn, rfl, (show 0 < sizeLine by decide), rfl, ifB rfl ⟨q1 a2 hn, rfl, (show 1 < sizeLine by decide), rfl, ifB rfl ⟨q1 a3 hn, rfl, (show 2 < sizeLine by decide), rfl, ifB rfl ⟨q1 a4 hn, rfl, (show 3 < sizeLine by decide), rfl, ifB rfl ⟨q1 a5 hn, rfl, (show 4 < sizeLine by decide), rfl, ifB rfl ⟨q1 a6 hn, rfl, (show 5 < sizeLine by decide), q⟩⟩⟩⟩⟩⟩⟩
def E6.turn (m : E6) : E6 := ⟨m.c, m.b, m.a, m.e, m.d, m.f⟩
def sp_turn_over : FSpec := fun ds tk Q => ∃ m : E6, ds = [m.D] ∧ Q (.val m.turn.D) tk
theorem mon_turn_over : MonFS sp_turn_over := fun ds tk Q Q' h ⟨m, e, q⟩ => ⟨m, e, h _ _ q⟩
theorem len_turn_over : ∀ ds tk Q, sp_turn_over ds tk Q → ds.length = 1 := fun ds tk Q ⟨m, e, _⟩ => by rw [e]; rfl
abbrev N_turn_over : List Str := ["equation", "a", "b", "c", "d", "e", "f"]
def c_turn_over : WS :=
  (wSeq (wAsg (fz (wV 0)) (gT 6 (gCs (gN 1) (gCs (gN 2) (gCs (gN 3) (gCs (gN 4) (gCs (gN 5) (gCs (gN 6) gNl))))))))
  (wRet (wTup (wCons (fz (wV 3)) (wCons (fz (wV 2)) (wCons (fz (wV 1)) (wCons (fz (wV 5)) (wCons (fz (wV 4)) (wCons (fz (wV 6)) wNil)))))))))
theorem hw_turn_over : ∀ ds tk Q, sp_turn_over ds tk Q → c_turn_over { nx := fun _ t => Q (.val .non) t, rt := Q } (start N_turn_over.length ds) tk := by
  rintro ds tk Q ⟨m, rfl, q⟩
  exact ⟨rfl, rfl, q⟩
def sp_value : FSpec := fun ds tk Q => ∃ (m : E6) (v : P2), ds = [m.D, v.D] ∧ m.Sm 20000 ∧ v.Sm QB ∧ Q (.val (.int (m.at v))) tk
theorem mon_value : MonFS sp_value := fun ds tk Q Q' h ⟨m, v, e, h0, h1, q⟩ => ⟨m, v, e, h0, h1, h _ _ q⟩
theorem len_value : ∀ ds tk Q, sp_value ds tk Q → ds.length = 2 := fun ds tk Q ⟨m, v, e, _⟩ => by rw [e]; rfl
abbrev N_value : List Str := ["equation", "point", "a", "b", "c", "d", "e", "f", "x", "y"]
def c_value : WS :=
  (wSeq (wAsg (fz (wV 0)) (gT 6 (gCs (gN 2) (gCs (gN 3) (gCs (gN 4) (gCs (gN 5) (gCs (gN 6) (gCs (gN 7) gNl))))))))
  (wSeq (wAsg (fz (wV 1)) (gT 2 (gCs (gN 8) (gCs (gN 9) gNl))))
  (wRet (wOp fAdd (fz (wOp fAdd (fz (wOp fAdd (fz (wOp fAdd (fz (wOp fAdd (fz (wOp fMul (fz (wOp fMul (wPk 2) (wPk 8))) (wPk 8))) (fz (wOp fMul (fz (wOp fMul (wPk 3) (wPk 8))) (wPk 9))))) (fz (wOp fMul (fz (wOp fMul (wPk 4) (wPk 9))) (wPk 9))))) (fz (wOp fMul (wPk 5) (wPk 8))))) (fz (wOp fMul (wPk 6) (wPk 9))))) (wPk 7)))))
theorem hw_value : ∀ ds tk Q, sp_value ds tk Q → c_value { nx := fun _ t => Q (.val .non) t, rt := Q } (start N_value.length ds) tk := by
  rintro ds tk Q ⟨m, v, rfl, ⟨a1, a2, a3, a4, a5, a6⟩, ⟨c1, c2⟩, q⟩
  refine ⟨rfl, rfl, ?_⟩
  simp only [gCs, gN, gNl, start_def, List.map_cons, List.map_nil, List.set_cons_zero, List.set_cons_succ, List.replicate_succ, List.replicate_zero, List.cons_append, List.nil_append, List.length_cons, List.length_nil, Nat.reduceAdd, Nat.reduceSub]
  exact ⟨q1 a1 c1, q1 (a1.mul c1) c1, q1 a2 c1, q1 (a2.mul c1) c2, q1 a3 c2, q1 (a3.mul c2) c2, q1 a4 c1, q1 a5 c2, q⟩
def sp_Lvalue : FSpec := fun ds tk Q => ∃ (m : E6) (v : P2), ds = [m.D, .int v.x, .int v.y] ∧ m.Sm 20000 ∧ v.Sm 5000 ∧ Q (.val (.int (m.at v))) tk
theorem mon_Lvalue : MonFS sp_Lvalue := fun ds tk Q Q' h ⟨m, v, e, h0, h1, q⟩ => ⟨m, v, e, h0, h1, h _ _ q⟩
theorem len_Lvalue : ∀ ds tk Q, sp_Lvalue ds tk Q → ds.length = 3 := fun ds tk Q ⟨m, v, e, _⟩ => by rw [e]; rfl
abbrev N_Lvalue : List Str := ["_law_equation", "_law_x", "_law_y", "_law_a", "_law_b", "_law_c", "_law_d", "_law_e", "_law_f"]
def c_Lvalue : WS :=
  (wSeq (wAsg (fz (wV 0)) (gT 6 (gCs (gN 3) (gCs (gN 4) (gCs (gN 5) (gCs (gN 6) (gCs (gN 7) (gCs (gN 8) gNl))))))))
  (wRet (wOp fAdd (fz (wOp fAdd (fz (wOp fAdd (fz (wOp fAdd (fz (wOp fAdd (fz (wOp fMul (fz (wOp fMul (wPk 3) (wPk 1))) (wPk 1))) (fz (wOp fMul (fz (wOp fMul (wPk 4) (wPk 1))) (wPk 2))))) (fz (wOp fMul (fz (wOp fMul (wPk 5) (wPk 2))) (wPk 2))))) (fz (wOp fMul (wPk 6) (wPk 1))))) (fz (wOp fMul (wPk 7) (wPk 2))))) (wPk 8))))
theorem hw_Lvalue : ∀ ds tk Q, sp_Lvalue ds tk Q → c_Lvalue { nx := fun _ t => Q (.val .non) t, rt := Q } (start N_Lvalue.length ds) tk := by
  rintro ds tk Q ⟨m, v, rfl, ⟨a1, a2, a3, a4, a5, a6⟩, ⟨c1, c2⟩, q⟩
  refine ⟨rfl, ?_⟩
  simp only [gCs, gN, gNl, start_def, List.map_cons, List.map_nil, List.set_cons_zero, List.set_cons_succ, List.replicate_succ, List.replicate_zero, List.cons_append, List.nil_append, List.length_cons, List.length_nil, Nat.reduceAdd, Nat.reduceSub]
  exact ⟨q1 a1 c1, q1 (a1.mul c1) c1, q1 a2 c1, q1 (a2.mul c1) c2, q1 a3 c2, q1 (a3.mul c2) c2, q1 a4 c1, q1 a5 c2, q⟩
def sp_Lworth_v1 : FSpec := fun ds tk Q => ∃ (m : F3) (v : P2), ds = [m.D, .int v.x, .int v.y] ∧ m.Sm QB ∧ v.Sm QB ∧ Q (.val (.int (m.worth v))) tk
theorem mon_Lworth_v1 : MonFS sp_Lworth_v1 := fun ds tk Q Q' h ⟨m, v, e, h0, h1, q⟩ => ⟨m, v, e, h0, h1, h _ _ q⟩
theorem len_Lworth_v1 : ∀ ds tk Q, sp_Lworth_v1 ds tk Q → ds.length = 3 := fun ds tk Q ⟨m, v, e, _⟩ => by rw [e]; rfl
abbrev N_Lworth_v1 : List Str := ["_law_form_here", "_law_x", "_law_y"]
def c_Lworth_v1 : WS :=
  (wRet (wOp fAdd (fz (wOp fAdd (fz (wOp fMul (fz (wOp fMul (fz (wOp fIdx (wPk 0) (fz (wC (.int 0))))) (wPk 1))) (wPk 1))) (fz (wOp fMul (fz (wOp fMul (fz (wOp fIdx (wPk 0) (fz (wC (.int 1))))) (wPk 1))) (wPk 2))))) (fz (wOp fMul (fz (wOp fMul (fz (wOp fIdx (wPk 0) (fz (wC (.int 2))))) (wPk 2))) (wPk 2)))))
theorem hw_Lworth_v1 : ∀ ds tk Q, sp_Lworth_v1 ds tk Q → c_Lworth_v1 { nx := fun _ t => Q (.val .non) t, rt := Q } (start N_Lworth_v1.length ds) tk := by
  rintro ds tk Q ⟨m, v, rfl, ⟨a1, a2, a3⟩, ⟨b1, b2⟩, q⟩
  exact ⟨q1 a1 b1, q1 (a1.mul b1) b1, q1 a2 b1, q1 (a2.mul b1) b2, q1 a3 b2, q1 (a3.mul b2) b2, q⟩
def F3.Lact (f : F3) (m : M4) : F3 := ⟨f.worth ⟨m.p, m.r⟩, f.worth ⟨m.p + m.q, m.r + m.s⟩ - f.worth ⟨m.p, m.r⟩ - f.worth ⟨m.q, m.s⟩, f.worth ⟨m.q, m.s⟩⟩
def sp_Lact_v1 : FSpec := fun ds tk Q => ∃ (f : F3) (m : M4), ds = [f.D, m.D] ∧ f.Sm QB ∧ m.Sm 500 ∧ Q (.val (f.Lact m).D) tk
theorem mon_Lact_v1 : MonFS sp_Lact_v1 := fun ds tk Q Q' h ⟨m, v, e, h0, h1, q⟩ => ⟨m, v, e, h0, h1, h _ _ q⟩
theorem len_Lact_v1 : ∀ ds tk Q, sp_Lact_v1 ds tk Q → ds.length = 2 := fun ds tk Q ⟨m, v, e, _⟩ => by rw [e]; rfl
theorem up5 {x : Int} (h : Sm 500 x) : Sm QB x := h.mono (by decide)
theorem up5s {x y : Int} (h : Sm 500 x) (h' : Sm 500 y) : Sm QB (x + y) := (h.add h').mono (by decide)
abbrev N_Lact_v1 : List Str := ["_law_form_here", "_law_m", "_law_first", "_law_last"]
def c_Lact_v1 : WS :=
  (wSeq (wSet 2 (wCall sp_Lworth_v1 (wCons (fz (wV 0)) (wCons (fz (wOp fIdx (wPk 1) (fz (wC (.int 0))))) (wCons (fz (wOp fIdx (wPk 1) (fz (wC (.int 2))))) wNil)))))
  (wSeq (wSet 3 (wCall sp_Lworth_v1 (wCons (fz (wV 0)) (wCons (fz (wOp fIdx (wPk 1) (fz (wC (.int 1))))) (wCons (fz (wOp fIdx (wPk 1) (fz (wC (.int 3))))) wNil)))))
  (wRet (wTup (wCons (fz (wV 2)) (wCons (fz (wOp fSub (fz (wOp fSub (fz (wCall sp_Lworth_v1 (wCons (fz (wV 0)) (wCons (fz (wOp fAdd (fz (wOp fIdx (wPk 1) (fz (wC (.int 0))))) (fz (wOp fIdx (wPk 1) (fz (wC (.int 1))))))) (wCons (fz (wOp fAdd (fz (wOp fIdx (wPk 1) (fz (wC (.int 2))))) (fz (wOp fIdx (wPk 1) (fz (wC (.int 3))))))) wNil))))) (wPk 2))) (wPk 3))) (wCons (fz (wV 3)) wNil)))))))
theorem hw_Lact_v1 : ∀ ds tk Q, sp_Lact_v1 ds tk Q → c_Lact_v1 { nx := fun _ t => Q (.val .non) t, rt := Q } (start N_Lact_v1.length ds) tk := by
  rintro ds tk Q ⟨f, m, rfl, hf, ⟨b1, b2, b3, b4⟩, q⟩
  exact ⟨f, ⟨m.p, m.r⟩, rfl, hf, ⟨up5 b1, up5 b3⟩, f, ⟨m.q, m.s⟩, rfl, hf, ⟨up5 b2, up5 b4⟩, f, ⟨m.p + m.q, m.r + m.s⟩, rfl, hf, ⟨up5s b1 b2, up5s b3 b4⟩, rfl, q⟩
end DL
set_option maxHeartbeats 1000000
set_option pp.maxSteps 1200
local macro_rules | `(tactic| walk_at "dl") => `(tactic| simp (config := { failIfUnchanged := false }) only [↓DL.wSeq, ↓DL.wSet, ↓DL.wIfS, ↓DL.wRet, ↓DL.wRetV, ↓DL.wRetN, ↓DL.wNext, ↓DL.wPk, ↓DL.wV, ↓DL.wC, ↓DL.fz, ↓DL.wOp, ↓DL.w1, ↓DL.EV.d, ↓DL.wT_bl, ↓DL.wAnd, ↓DL.wOr, ↓DL.wNot, ↓DL.wB, ↓DL.wIf, ↓DL.wCons, ↓DL.wNil, ↓DL.wTup, ↓DL.wLst, ↓DL.wPar, ↓DL.wPar3, ↓DL.wAsg, ↓DL.wCall, ↓DL.wDrop, ↓DL.gN, ↓DL.gT, ↓DL.gCs, ↓DL.gNl, ↓DL.wR1, ↓DL.wR2, ↓DL.wSrc, ↓DL.wBrk, ↓DL.wCnt, ↓DL.wApp, ↓DL.wFor, ↓DL.fAdd_int, ↓DL.fI_int, ↓DL.fJ_int, ↓DL.fEq_int, ↓DL.fNe_int, ↓DL.fIdx_lst, ↓DL.fIdx_tup, ↓DL.fNeg, ↓DL.fAbs, ↓DL.fInt, ↓DL.fLen, ↓DL.start_def, List.getElem?_cons_zero, List.getElem?_cons_succ, List.set_cons_zero, List.set_cons_succ, List.map_cons, List.map_nil, List.length_cons, List.length_nil, List.replicate_succ, List.replicate_zero, List.cons_append, List.nil_append, Nat.reduceAdd, Nat.reduceSub, Nat.zero_add, decide_eq_true_eq, true_and, and_true])
namespace DL
open PySem PySem.Spec PyProof.Rows L2
theorem ifA {b : Bool} {A B : Prop} (h : A) (k : B) : if b = true then A else B := by cases b with | true => exact h | false => exact k
/-! ### the law's own root (only its size is told) -/
def sp_Lroot : FSpec := fun ds tk Q => ∃ n : Int, ds = [.int n] ∧ 0 ≤ n ∧ Sm 900 n ∧ ∀ r : Int, 0 ≤ r → r ≤ n → Q (.val (.int r)) tk
theorem mon_Lroot : MonFS sp_Lroot := fun ds tk Q Q' h ⟨m, e, h0, h1, q⟩ => ⟨m, e, h0, h1, fun r x y => h _ _ (q r x y)⟩
theorem len_Lroot : ∀ ds tk Q, sp_Lroot ds tk Q → ds.length = 1 := fun ds tk Q ⟨m, e, _⟩ => by rw [e]; rfl
theorem sm_between {x n : Int} {k : Nat} (h0 : 0 ≤ x) (h1 : x ≤ n) (h : Sm k n) : Sm k x := by unfold Sm at *; omega
abbrev N_Lroot : List Str := ["_law_n", "_law_low", "_law_high", "_law_k", "_law_middle"]
def c_Lroot : WS :=
  (wSeq (wSet 1 (wC (.int 0)))
  (wSeq (wSet 2 (wOp fAdd (wPk 0) (fz (wC (.int 1)))))
  (wSeq (wFor (wR1 (fz (wC (.int 2000)))) (gN 3) (wSeq (wIfS (wT (wOp fLe (fz (wOp fSub (wPk 2) (wPk 1))) (fz (wC (.int 1))))) (wRetV 1) wNext)
  (wSeq (wSet 4 (wOp fDiv (fz (wOp fAdd (wPk 1) (wPk 2))) (fz (wC (.int 2)))))
  (wIfS (wT (wOp fLe (fz (wOp fMul (wPk 4) (wPk 4))) (wPk 0))) (wSet 1 (wV 4)) (wSet 2 (wV 4))))))
  (wRetV 1))))
theorem hw_Lroot : ∀ ds tk Q, sp_Lroot ds tk Q → c_Lroot { nx := fun _ t => Q (.val .non) t, rt := Q } (start N_Lroot.length ds) tk := by
  rintro ds tk Q ⟨n, rfl, h0, hs, q⟩
  refine ⟨by decide, by decide, ?_⟩
  refine forGo_rng (fun i e t => t = tk ∧ ∃ (l h : Int) (x3 x4 : Option EV), 0 ≤ l ∧ l < h ∧ h ≤ n + 1 ∧ e = [some (.val (.int n)), some (.val (.int l)), some (.val (.int h)), x3, x4]) (fun i e t R hi hI hR => ?_) (fun e t hI => ?_) ⟨rfl, 0, n + 1, none, none, by omega, by omega, by omega, rfl⟩
  · obtain ⟨rfl, l, h, x3, x4, i0, i1, i2, rfl⟩ := hI
    refine if2 (fun z => q l i0 (by omega)) (fun z => ?_)
    have hm : (l + h).fdiv 2 = (l + h) / 2 := Int.fdiv_eq_ediv_of_nonneg _ (by decide)
    obtain ⟨md, hmd⟩ : ∃ md, md = (l + h).fdiv 2 := ⟨_, rfl⟩
    have hk : MulOk ((l + h).fdiv 2) ((l + h).fdiv 2) := q1 (sm_between (n := n) (by omega) (by omega) hs) (sm_between (n := n) (by omega) (by omega) hs)
    refine ⟨divOk_lit (by decide) (by decide), hk, ?_⟩
    refine if2 (fun z2 => ?_) (fun z2 => ?_)
    · exact hR _ _ ⟨rfl, (l + h).fdiv 2, h, _, _, by omega, by omega, i2, rfl⟩
    · exact hR _ _ ⟨rfl, l, (l + h).fdiv 2, _, _, i0, by omega, by omega, rfl⟩
  · obtain ⟨rfl, l, h, x3, x4, i0, i1, i2, rfl⟩ := hI
    exact q l i0 (by omega)
def sp_Lsquare : FSpec := fun ds tk Q => ∃ n : Int, ds = [.int n] ∧ Sm 900 n ∧ ∀ b : Bool, Q (.val (.bl b)) tk
theorem mon_Lsquare : MonFS sp_Lsquare := fun ds tk Q Q' h ⟨m, e, h0, q⟩ => ⟨m, e, h0, fun b => h _ _ (q b)⟩
theorem len_Lsquare : ∀ ds tk Q, sp_Lsquare ds tk Q → ds.length = 1 := fun ds tk Q ⟨m, e, _⟩ => by rw [e]; rfl
abbrev N_Lsquare : List Str := ["_law_n"]
def c_Lsquare : WS :=
  (wRet (wB (wAnd (wT (wOp fGe (wPk 0) (fz (wC (.int 0))))) (wT (wOp fEq (fz (wOp fMul (fz (wCall sp_Lroot (wCons (fz (wV 0)) wNil))) (fz (wCall sp_Lroot (wCons (fz (wV 0)) wNil))))) (wPk 0))))))
theorem hw_Lsquare : ∀ ds tk Q, sp_Lsquare ds tk Q → c_Lsquare { nx := fun _ t => Q (.val .non) t, rt := Q } (start N_Lsquare.length ds) tk := by
  rintro ds tk Q ⟨n, rfl, hs, q⟩
  refine if2 (fun h => ?_) (fun h => q false)
  have h' : 0 ≤ n := h
  refine ⟨n, rfl, h', hs, fun r r0 r1 => ⟨n, rfl, h', hs, fun r' r0' r1' => ?_⟩⟩
  refine ⟨q1 (sm_between r0 r1 hs) (sm_between r0' r1' hs), ?_⟩
  exact q _
def sp_Lkind : FSpec := fun ds tk Q => ∃ m : F3, ds = [m.D] ∧ m.Sm 100 ∧ ∀ s : Str, D.ok (.str s) = true → Q (.val (.str s)) tk
theorem mon_Lkind : MonFS sp_Lkind := fun ds tk Q Q' h ⟨m, e, h0, q⟩ => ⟨m, e, h0, fun b z => h _ _ (q b z)⟩
theorem len_Lkind : ∀ ds tk Q, sp_Lkind ds tk Q → ds.length = 1 := fun ds tk Q ⟨m, e, _⟩ => by rw [e]; rfl
theorem ok_s1 : D.ok (.str "definite") = true := by decide +kernel
theorem ok_s2 : D.ok (.str "flat") = true := by decide +kernel
theorem ok_s3 : D.ok (.str "indefinite") = true := by decide +kernel
theorem ok_s4 : D.ok (.str "split") = true := by decide +kernel
abbrev N_Lkind : List Str := ["_law_form_here", "_law_d"]
def c_Lkind : WS :=
  (wSeq (wSet 1 (wOp fSub (fz (wOp fMul (fz (wOp fIdx (wPk 0) (fz (wC (.int 1))))) (fz (wOp fIdx (wPk 0) (fz (wC (.int 1))))))) (fz (wOp fMul (fz (wOp fMul (fz (wC (.int 4))) (fz (wOp fIdx (wPk 0) (fz (wC (.int 0))))))) (fz (wOp fIdx (wPk 0) (fz (wC (.int 2)))))))))
  (wSeq (wIfS (wT (wOp fLt (wPk 1) (fz (wC (.int 0))))) (wRet (wC (.str "definite"))) wNext)
  (wSeq (wIfS (wT (wOp fEq (wPk 1) (fz (wC (.int 0))))) (wRet (wC (.str "flat"))) wNext)
  (wRet (wOp fIdx (fz (wLst (wCons (fz (wC (.str "indefinite"))) (wCons (fz (wC (.str "split"))) wNil)))) (fz (w1 fInt (fz (wCall sp_Lsquare (wCons (fz (wV 1)) wNil))))))))))
theorem hw_Lkind : ∀ ds tk Q, sp_Lkind ds tk Q → c_Lkind { nx := fun _ t => Q (.val .non) t, rt := Q } (start N_Lkind.length ds) tk := by
  rintro ds tk Q ⟨m, rfl, ⟨a1, a2, a3⟩, q⟩
  refine ⟨q1 a2 a2, q1 s4 a1, q1 (s4.mul a1) a3, ?_⟩
  have hs : Sm 900 (m.b * m.b - 4 * m.a * m.c) := (((a2.mul a2).mono (show _ ≤ 800 by decide)).sub (((s4.mul a1).mul a3).mono (show _ ≤ 800 by decide))).mono (by decide)
  refine if2 (fun h => q _ ok_s1) (fun h => if2 (fun h => q _ ok_s2) (fun h => ?_))
  refine ⟨rfl, _, rfl, hs, fun b => ?_⟩
  cases b with
  | true => exact q _ ok_s4
  | false => exact q _ ok_s3
/-! ### drawn forms -/
def sp_Lsplit : FSpec := fun ds tk Q => ∃ c : Nat, ds = [.st] ∧ tk = some c ∧ c + 100 < 2 ^ 50 ∧ ∀ (f : F3) (c' : Nat), f.Sm 40 → c' ≤ c + 20 → Q (.val f.D) (some c')
theorem mon_Lsplit : MonFS sp_Lsplit := fun ds tk Q Q' h ⟨c, e, e2, h0, q⟩ => ⟨c, e, e2, h0, fun f c' x y => h _ _ (q f c' x y)⟩
theorem len_Lsplit : ∀ ds tk Q, sp_Lsplit ds tk Q → ds.length = 1 := fun ds tk Q ⟨m, e, _⟩ => by rw [e]; rfl
theorem sm4_ {x : Int} (h : x.natAbs < 2 ^ 4) : Sm 4 x := h
abbrev N_Lsplit : List Str := ["_law_state_here", "_law_p", "_law_q", "_law_r", "_law_s", "_law_g", "_law_k"]
def c_Lsplit : WS :=
  (wSeq (wAsg (fz (wLc (wR1 (fz (wC (.int 4)))) (gN 6) wYes (wOp fSub (fz (wCall sp_Lnext (wCons (fz (wV 0)) (wCons (fz (wC (.int 7))) wNil)))) (fz (wC (.int 3)))) [6])) (gL 4 (gCs (gN 1) (gCs (gN 2) (gCs (gN 3) (gCs (gN 4) gNl))))))
  (wSeq (wIfS (wT (wOp fEq (fz (wOp fMul (wPk 1) (wPk 4))) (fz (wOp fMul (wPk 2) (wPk 3))))) (wAsg (fz (wTup (wCons (fz (wC (.int 1))) (wCons (fz (wCall sp_Lnext (wCons (fz (wV 0)) (wCons (fz (wC (.int 3))) wNil)))) (wCons (fz (wC (.int 1))) (wCons (fz (wOp fAdd (fz (wC (.int 3))) (fz (wCall sp_Lnext (wCons (fz (wV 0)) (wCons (fz (wC (.int 3))) wNil)))))) wNil)))))) (gT 4 (gCs (gN 1) (gCs (gN 2) (gCs (gN 3) (gCs (gN 4) gNl)))))) wNext)
  (wSeq (wSet 5 (wOp fAdd (fz (wC (.int 1))) (fz (wOp fDiv (fz (wCall sp_Lnext (wCons (fz (wV 0)) (wCons (fz (wC (.int 4))) wNil)))) (fz (wC (.int 3)))))))
  (wRet (wTup (wCons (fz (wOp fMul (fz (wOp fMul (wPk 5) (wPk 1))) (wPk 3))) (wCons (fz (wOp fMul (wPk 5) (fz (wOp fAdd (fz (wOp fMul (wPk 1) (wPk 4))) (fz (wOp fMul (wPk 2) (wPk 3))))))) (wCons (fz (wOp fMul (fz (wOp fMul (wPk 5) (wPk 2))) (wPk 4))) wNil))))))))
theorem hw_Lsplit : ∀ ds tk Q, sp_Lsplit ds tk Q → c_Lsplit { nx := fun _ t => Q (.val .non) t, rt := Q } (start N_Lsplit.length ds) tk := by
  rintro ds tk Q ⟨c, rfl, rfl, h0, q⟩
  refine ⟨by decide, by decide, rfl, rfl, ifB rfl ?_⟩
  refine ⟨_, _, rfl, rfl, by first | decide | omega, by first | decide | omega, fun b0 b0_0 b0_1 => ?_⟩
  refine ⟨rfl, (show 0 < sizeLine by decide), rfl, ifB rfl ?_⟩
  refine ⟨_, _, rfl, rfl, by first | decide | omega, by first | decide | omega, fun b1 b1_0 b1_1 => ?_⟩
  refine ⟨rfl, (show 1 < sizeLine by decide), rfl, ifB rfl ?_⟩
  refine ⟨_, _, rfl, rfl, by first | decide | omega, by first | decide | omega, fun b2 b2_0 b2_1 => ?_⟩
  refine ⟨rfl, (show 2 < sizeLine by decide), rfl, ifB rfl ?_⟩
  refine ⟨_, _, rfl, rfl, by first | decide | omega, by first | decide | omega, fun b3 b3_0 b3_1 => ?_⟩
  refine ⟨rfl, (show 3 < sizeLine by decide), ?_⟩
  refine ⟨rfl, ?_⟩
  simp only [gCs, gN, gNl, start_def, List.map_cons, List.map_nil, List.set_cons_zero, List.set_cons_succ, List.replicate_succ, List.replicate_zero, List.cons_append, List.nil_append, List.length_cons, List.length_nil, Nat.reduceAdd, Nat.reduceSub]
  have h0_ : Sm 4 (b0 - 3) := show (b0 - 3).natAbs < 2 ^ 4 by omega
  have h1_ : Sm 4 (b1 - 3) := show (b1 - 3).natAbs < 2 ^ 4 by omega
  have h2_ : Sm 4 (b2 - 3) := show (b2 - 3).natAbs < 2 ^ 4 by omega
  have h3_ : Sm 4 (b3 - 3) := show (b3 - 3).natAbs < 2 ^ 4 by omega
  refine seq_cut (a := wIfS _ _ _) (fun e t => ∃ (p q r s : Int) (c' : Nat), Sm 4 p ∧ Sm 4 q ∧ Sm 4 r ∧ Sm 4 s ∧ c' ≤ c + 10 ∧ t = some c' ∧ e = [some (.val .st), some (.val (.int p)), some (.val (.int q)), some (.val (.int r)), some (.val (.int s)), none, none]) (fun R hR => ?_) ?_
  · refine ⟨q1 h0_ h3_, q1 h1_ h2_, ?_⟩
    refine if2 (fun h => ?_) (fun h => ?_)
    · refine ⟨_, _, rfl, rfl, by first | decide | omega, by first | decide | omega, fun d0 d0_0 d0_1 => ?_⟩
      refine ⟨_, _, rfl, rfl, by first | decide | omega, by first | decide | omega, fun d1 d1_0 d1_1 => ?_⟩
      refine ⟨rfl, rfl, ?_⟩
      exact hR _ _ ⟨1, d0, 1, 3 + d1, _, (show (1 : Int).natAbs < 2 ^ 4 by decide), (show d0.natAbs < 2 ^ 4 by omega), (show (1 : Int).natAbs < 2 ^ 4 by decide), (show (3 + d1).natAbs < 2 ^ 4 by omega), (show c + 1 + 1 + 1 + 1 + 1 + 1 ≤ c + 10 by omega), rfl, rfl⟩
    · exact hR _ _ ⟨b0 - 3, b1 - 3, b2 - 3, b3 - 3, _, h0_, h1_, h2_, h3_, (show c + 1 + 1 + 1 + 1 ≤ c + 10 by omega), rfl, rfl⟩
  rintro e t ⟨p, qq, r, s, c', hp, hq, hr, hs, hc, rfl, rfl⟩
  refine ⟨_, _, rfl, rfl, by first | decide | omega, by first | decide | omega, fun g g_0 g_1 => ?_⟩
  refine ⟨divOk_lit (by decide) (by decide), ?_⟩
  have hg : Sm 4 (1 + g.fdiv 3) := by
    rw [Int.fdiv_eq_ediv_of_nonneg _ (by decide)]
    exact (show (1 + g / 3).natAbs < 2 ^ 4 by omega)
  refine ⟨q1 hg hp, q1 (hg.mul hp) hr, q1 hp hs, q1 hq hr, q1 hg ((hp.mul hs).add (hq.mul hr)), q1 hg hq, q1 (hg.mul hq) hs, rfl, ?_⟩
  exact q ⟨_, _, _⟩ _ ⟨((hg.mul hp).mul hr).mono (by decide), (hg.mul ((hp.mul hs).add (hq.mul hr))).mono (by decide), ((hg.mul hq).mul hs).mono (by decide)⟩ (by omega)
def sp_Lflat : FSpec := sp_Lsplit
theorem mon_Lflat : MonFS sp_Lflat := mon_Lsplit
theorem len_Lflat : ∀ ds tk Q, sp_Lflat ds tk Q → ds.length = 1 := len_Lsplit
abbrev N_Lflat : List Str := ["_law_state_here", "_law_p", "_law_q", "_law_g"]
def c_Lflat : WS :=
  (wSeq (wSet 1 (wOp fSub (fz (wCall sp_Lnext (wCons (fz (wV 0)) (wCons (fz (wC (.int 7))) wNil)))) (fz (wC (.int 3)))))
  (wSeq (wSet 2 (wOp fSub (fz (wCall sp_Lnext (wCons (fz (wV 0)) (wCons (fz (wC (.int 7))) wNil)))) (fz (wC (.int 3)))))
  (wSeq (wSet 3 (wOp fIdx (fz (wLst (wCons (fz (wC (.int 1))) (wCons (fz (wC (.int 1))) (wCons (fz (w1 fNeg (fz (wC (.int 1))))) (wCons (fz (wC (.int 2))) (wCons (fz (w1 fNeg (fz (wC (.int 3))))) wNil))))))) (fz (wCall sp_Lnext (wCons (fz (wV 0)) (wCons (fz (wC (.int 5))) wNil))))))
  (wSeq (wIfS (wAnd (wT (wOp fEq (wPk 1) (fz (wC (.int 0))))) (wT (wOp fEq (wPk 2) (fz (wC (.int 0)))))) (wSet 2 (wC (.int 1))) wNext)
  (wRet (wTup (wCons (fz (wOp fMul (fz (wOp fMul (wPk 3) (wPk 1))) (wPk 1))) (wCons (fz (wOp fMul (fz (wOp fMul (fz (wOp fMul (fz (wC (.int 2))) (wPk 3))) (wPk 1))) (wPk 2))) (wCons (fz (wOp fMul (fz (wOp fMul (wPk 3) (wPk 2))) (wPk 2))) wNil)))))))))
theorem hw_Lflat : ∀ ds tk Q, sp_Lflat ds tk Q → c_Lflat { nx := fun _ t => Q (.val .non) t, rt := Q } (start N_Lflat.length ds) tk := by
  rintro ds tk Q ⟨c, rfl, rfl, h0, q⟩
  refine ⟨_, _, rfl, rfl, by first | decide | omega, by first | decide | omega, fun b0 b0_0 b0_1 => ?_⟩
  refine ⟨_, _, rfl, rfl, by first | decide | omega, by first | decide | omega, fun b1 b1_0 b1_1 => ?_⟩
  refine ⟨rfl, ?_⟩
  refine ⟨_, _, rfl, rfl, by first | decide | omega, by first | decide | omega, fun b2 b2_0 b2_1 => ?_⟩
  have hp : Sm 4 (b0 - 3) := show (b0 - 3).natAbs < 2 ^ 4 by omega
  have hq0 : Sm 4 (b1 - 3) := show (b1 - 3).natAbs < 2 ^ 4 by omega
  refine fIdx_of (fun d => ∃ z : Int, d = .int z ∧ Sm 4 z) b2_0 b2_1 (allc ⟨_, rfl, sm4_ (by decide)⟩ (allc ⟨_, rfl, sm4_ (by decide)⟩ (all3 ⟨-1, rfl, sm4_ (by decide)⟩ ⟨_, rfl, sm4_ (by decide)⟩ ⟨-3, rfl, sm4_ (by decide)⟩))) ?_
  rintro _ ⟨g, rfl, hg⟩
  dsimp only
  refine seq_cut (a := wIfS _ _ _) (fun e t => ∃ q : Int, Sm 4 q ∧ t = some (c + 1 + 1 + 1) ∧ e = [some (.val .st), some (.val (.int (b0 - 3))), some (.val (.int q)), some (.val (.int g))]) (fun R hR => ?_) ?_
  · have k : R [some (.val .st), some (.val (.int (b0 - 3))), some (.val (.int (b1 - 3))), some (.val (.int g))] (some (c + 1 + 1 + 1)) := hR _ _ ⟨b1 - 3, hq0, rfl, rfl⟩
    refine if2 (fun h => if2 (fun h => ?_) (fun h => ?_)) (fun h => ?_)
    · exact hR _ _ ⟨1, sm4_ (by decide), rfl, rfl⟩
    · exact k
    · exact k
  rintro e t ⟨qq, hq, rfl, rfl⟩
  refine ⟨q1 hg hp, q1 (hg.mul hp) hp, q1 s2 hg, q1 (s2.mul hg) hp, q1 ((s2.mul hg).mul hp) hq, q1 hg hq, q1 (hg.mul hq) hq, rfl, ?_⟩
  exact q ⟨_, _, _⟩ _ ⟨((hg.mul hp).mul hp).mono (by decide), (((s2.mul hg).mul hp).mul hq).mono (by decide), ((hg.mul hq).mul hq).mono (by decide)⟩ (by omega)
def sp_Lform : FSpec := fun ds tk Q => ∃ (s : Str) (c : Nat), ds = [.st, .str s] ∧ D.ok (.str s) = true ∧ tk = some c ∧ c + 1000 < 2 ^ 50 ∧ ∀ (f : F3) (c' : Nat), f.Sm 40 → c' ≤ c + 200 → Q (.val f.D) (some c')
theorem mon_Lform : MonFS sp_Lform := fun ds tk Q Q' h ⟨s, c, e, e1, e2, h0, q⟩ => ⟨s, c, e, e1, e2, h0, fun f c' x y => h _ _ (q f c' x y)⟩
theorem len_Lform : ∀ ds tk Q, sp_Lform ds tk Q → ds.length = 2 := fun ds tk Q ⟨m, _, e, _⟩ => by rw [e]; rfl
theorem f40 {a b c : Int} (ha : Sm 5 a) (hb : Sm 5 b) (hc : Sm 5 c) : F3.Sm 40 ⟨a, b, c⟩ := ⟨ha.mono (by decide), hb.mono (by decide), hc.mono (by decide)⟩
abbrev N_Lform : List Str := ["_law_state_here", "_law_sort", "_law_k", "_law_a", "_law_c", "_law_form_here"]
def c_Lform : WS :=
  (wSeq (wIfS (wT (wOp fEq (wPk 1) (fz (wC (.str "split"))))) (wRet (wCall sp_Lsplit (wCons (fz (wV 0)) wNil))) wNext)
  (wSeq (wIfS (wT (wOp fEq (wPk 1) (fz (wC (.str "flat"))))) (wRet (wCall sp_Lflat (wCons (fz (wV 0)) wNil))) wNext)
  (wSeq (wFor (wR1 (fz (wC (.int 30)))) (gN 2) (wSeq (wSet 3 (wOp fMul (fz (wOp fAdd (fz (wC (.int 1))) (fz (wCall sp_Lnext (wCons (fz (wV 0)) (wCons (fz (wC (.int 5))) wNil)))))) (fz (wOp fIdx (fz (wLst (wCons (fz (wC (.int 1))) (wCons (fz (w1 fNeg (fz (wC (.int 1))))) wNil)))) (fz (wCall sp_Lnext (wCons (fz (wV 0)) (wCons (fz (wC (.int 2))) wNil))))))))
  (wSeq (wSet 4 (wOp fMul (fz (wOp fAdd (fz (wC (.int 1))) (fz (wCall sp_Lnext (wCons (fz (wV 0)) (wCons (fz (wC (.int 5))) wNil)))))) (fz (wOp fIdx (fz (wLst (wCons (fz (wC (.int 1))) (wCons (fz (w1 fNeg (fz (wC (.int 1))))) wNil)))) (fz (wCall sp_Lnext (wCons (fz (wV 0)) (wCons (fz (wC (.int 2))) wNil))))))))
  (wSeq (wSet 5 (wTup (wCons (fz (wV 3)) (wCons (fz (wOp fSub (fz (wCall sp_Lnext (wCons (fz (wV 0)) (wCons (fz (wC (.int 13))) wNil)))) (fz (wC (.int 6))))) (wCons (fz (wV 4)) wNil)))))
  (wIfS (wT (wOp fEq (fz (wCall sp_Lkind (wCons (fz (wV 5)) wNil))) (wPk 1))) (wRetV 5) wNext)))))
  (wRet (wOp fIdx (fz (wLst (wCons (fz (wTup (wCons (fz (wC (.int 1))) (wCons (fz (wC (.int 1))) (wCons (fz (wC (.int 2))) wNil))))) (wCons (fz (wTup (wCons (fz (wC (.int 1))) (wCons (fz (wC (.int 0))) (wCons (fz (w1 fNeg (fz (wC (.int 2))))) wNil))))) wNil)))) (fz (w1 fInt (fz (wOp fEq (wPk 1) (fz (wC (.str "indefinite"))))))))))))
theorem hw_Lform : ∀ ds tk Q, sp_Lform ds tk Q → c_Lform { nx := fun _ t => Q (.val .non) t, rt := Q } (start N_Lform.length ds) tk := by
  rintro ds tk Q ⟨s, c, rfl, hs, rfl, h0, q⟩
  refine ⟨hs, ok_s4, ifA ?_ ?_⟩
  · exact ⟨c, rfl, rfl, by omega, fun f c' hf hc => q f c' hf (by omega)⟩
  refine ⟨hs, ok_s2, ifA ?_ ?_⟩
  · exact ⟨c, rfl, rfl, by omega, fun f c' hf hc => q f c' hf (by omega)⟩
  refine ⟨by decide, by decide, ?_⟩
  refine forGo_rng (fun i e t => ∃ (x2 x3 x4 x5 : Option EV), t = some (c + 5 * i) ∧ e = [some (.val .st), some (.val (.str s)), x2, x3, x4, x5]) (fun i e t R hi hI hR => ?_) (fun e t hI => ?_) ⟨none, none, none, none, rfl, rfl⟩
  · obtain ⟨x2, x3, x4, x5, rfl, rfl⟩ := hI
    have hi' : i < 30 := hi
    refine ⟨_, _, rfl, rfl, by first | decide | omega, by first | decide | omega, fun a0 a0_0 a0_1 => ?_⟩
    refine ⟨rfl, ?_⟩
    refine ⟨_, _, rfl, rfl, by first | decide | omega, by first | decide | omega, fun a1 a1_0 a1_1 => ?_⟩
    refine fIdx_of (fun d => ∃ z : Int, d = .int z ∧ Sm 1 z) a1_0 a1_1 (all2 ⟨1, rfl, (show (1 : Int).natAbs < 2 ^ 1 by decide)⟩ ⟨-1, rfl, (show (-1 : Int).natAbs < 2 ^ 1 by decide)⟩) ?_
    rintro _ ⟨y0, rfl, hy0⟩
    have hA : Sm 4 (1 + a0) := show (1 + a0).natAbs < 2 ^ 4 by omega
    refine ⟨q1 hA hy0, ?_⟩
    refine ⟨_, _, rfl, rfl, by first | decide | omega, by first | decide | omega, fun a2 a2_0 a2_1 => ?_⟩
    refine ⟨rfl, ?_⟩
    refine ⟨_, _, rfl, rfl, by first | decide | omega, by first | decide | omega, fun a3 a3_0 a3_1 => ?_⟩
    refine fIdx_of (fun d => ∃ z : Int, d = .int z ∧ Sm 1 z) a3_0 a3_1 (all2 ⟨1, rfl, (show (1 : Int).natAbs < 2 ^ 1 by decide)⟩ ⟨-1, rfl, (show (-1 : Int).natAbs < 2 ^ 1 by decide)⟩) ?_
    rintro _ ⟨y1, rfl, hy1⟩
    have hC : Sm 4 (1 + a2) := show (1 + a2).natAbs < 2 ^ 4 by omega
    refine ⟨q1 hC hy1, ?_⟩
    refine ⟨_, _, rfl, rfl, by first | decide | omega, by first | decide | omega, fun a4 a4_0 a4_1 => ?_⟩
    have hB : Sm 5 (a4 - 6) := show (a4 - 6).natAbs < 2 ^ 5 by omega
    have hf : F3.Sm 40 ⟨(1 + a0) * y0, a4 - 6, (1 + a2) * y1⟩ := f40 (hA.mul hy0) hB (hC.mul hy1)
    refine ⟨rfl, ⟨(1 + a0) * y0, a4 - 6, (1 + a2) * y1⟩, rfl, ⟨hf.1.mono (by decide), hf.2.1.mono (by decide), hf.2.2.mono (by decide)⟩, fun s' hs' => ?_⟩
    refine ⟨hs', hs, ifA ?_ ?_⟩
    · exact q ⟨(1 + a0) * y0, a4 - 6, (1 + a2) * y1⟩ _ hf (by omega)
    · exact hR _ _ ⟨_, _, _, _, rfl, rfl⟩
  · obtain ⟨x2, x3, x4, x5, rfl, rfl⟩ := hI
    refine ⟨rfl, rfl, rfl, hs, ok_s3, ?_⟩
    simp only [EV.d]
    generalize D.eqv _ _ = b
    cases b with
    | true => exact q ⟨1, 0, -2⟩ _ (f40 (show (1 : Int).natAbs < 2 ^ 5 by decide) (show (0 : Int).natAbs < 2 ^ 5 by decide) (show (-2 : Int).natAbs < 2 ^ 5 by decide)) (show c + 5 * 30 ≤ c + 200 by omega)
    | false => exact q ⟨1, 1, 2⟩ _ (f40 (show (1 : Int).natAbs < 2 ^ 5 by decide) (show (1 : Int).natAbs < 2 ^ 5 by decide) (show (2 : Int).natAbs < 2 ^ 5 by decide)) (show c + 5 * 30 ≤ c + 200 by omega)
def E6.at_sm {m : E6} {v : P2} (h : m.Sm 100) (h' : v.Sm 10) : DL.Sm 400 (m.at v) := by
  obtain ⟨a1, a2, a3, a4, a5, a6⟩ := h
  obtain ⟨c1, c2⟩ := h'
  have z1 := ((((a1.mul c1).mul c1).mono (show _ ≤ 130 by decide)).add (((a2.mul c1).mul c2).mono (show _ ≤ 130 by decide)))
  have z2 := ((z1.add (((a3.mul c2).mul c2).mono (show _ ≤ 131 by decide))).add ((a4.mul c1).mono (show _ ≤ 132 by decide)))
  exact ((z2.add ((a5.mul c2).mono (show _ ≤ 133 by decide))).add (a6.mono (show _ ≤ 134 by decide))).mono (by decide)
def sp_Lthrough : FSpec := fun ds tk Q => ∃ (f : F3) (c : Nat), ds = [.st, f.D, .int 12] ∧ f.Sm 100 ∧ tk = some c ∧ c + 100 < 2 ^ 50 ∧ ∀ (d e ff : Int) (c' : Nat), E6.Sm 401 ⟨f.a, f.b, f.c, d, e, ff⟩ → c' ≤ c + 10 → Q (.val (E6.D ⟨f.a, f.b, f.c, d, e, ff⟩)) (some c')
theorem mon_Lthrough : MonFS sp_Lthrough := fun ds tk Q Q' h ⟨s, c, e, e1, e2, h0, q⟩ => ⟨s, c, e, e1, e2, h0, fun d e f c' x y => h _ _ (q d e f c' x y)⟩
theorem len_Lthrough : ∀ ds tk Q, sp_Lthrough ds tk Q → ds.length = 3 := fun ds tk Q ⟨m, _, e, _⟩ => by rw [e]; rfl
abbrev N_Lthrough : List Str := ["_law_state_here", "_law_form_here", "_law_reach", "_law_d", "_law_e", "_law_f", "_law_x", "_law_y"]
def c_Lthrough : WS :=
  (wSeq (wSet 3 (wOp fSub (fz (wCall sp_Lnext (wCons (fz (wV 0)) (wCons (fz (wOp fAdd (fz (wOp fMul (fz (wC (.int 2))) (wPk 2))) (fz (wC (.int 1))))) wNil)))) (wPk 2)))
  (wSeq (wSet 4 (wOp fSub (fz (wCall sp_Lnext (wCons (fz (wV 0)) (wCons (fz (wOp fAdd (fz (wOp fMul (fz (wC (.int 2))) (wPk 2))) (fz (wC (.int 1))))) wNil)))) (wPk 2)))
  (wSeq (wSet 5 (wOp fSub (fz (wCall sp_Lnext (wCons (fz (wV 0)) (wCons (fz (wC (.int 61))) wNil)))) (fz (wC (.int 30)))))
  (wSeq (wIfS (wT (wOp fGt (fz (wCall sp_Lnext (wCons (fz (wV 0)) (wCons (fz (wC (.int 4))) wNil)))) (fz (wC (.int 0))))) (wSeq (wSet 6 (wOp fSub (fz (wCall sp_Lnext (wCons (fz (wV 0)) (wCons (fz (wC (.int 13))) wNil)))) (fz (wC (.int 6)))))
  (wSeq (wSet 7 (wOp fSub (fz (wCall sp_Lnext (wCons (fz (wV 0)) (wCons (fz (wC (.int 13))) wNil)))) (fz (wC (.int 6)))))
  (wSet 5 (w1 fNeg (fz (wCall sp_Lvalue (wCons (fz (wTup (wCons (fz (wOp fIdx (wPk 1) (fz (wC (.int 0))))) (wCons (fz (wOp fIdx (wPk 1) (fz (wC (.int 1))))) (wCons (fz (wOp fIdx (wPk 1) (fz (wC (.int 2))))) (wCons (fz (wV 3)) (wCons (fz (wV 4)) (wCons (fz (wC (.int 0))) wNil)))))))) (wCons (fz (wV 6)) (wCons (fz (wV 7)) wNil))))))))) wNext)
  (wRet (wTup (wCons (fz (wOp fIdx (wPk 1) (fz (wC (.int 0))))) (wCons (fz (wOp fIdx (wPk 1) (fz (wC (.int 1))))) (wCons (fz (wOp fIdx (wPk 1) (fz (wC (.int 2))))) (wCons (fz (wV 3)) (wCons (fz (wV 4)) (wCons (fz (wV 5)) wNil))))))))))))
theorem hw_Lthrough : ∀ ds tk Q, sp_Lthrough ds tk Q → c_Lthrough { nx := fun _ t => Q (.val .non) t, rt := Q } (start N_Lthrough.length ds) tk := by
  rintro ds tk Q ⟨f, c, rfl, ⟨a1, a2, a3⟩, rfl, h0, q⟩
  refine ⟨mulOk_l (by decide), ?_⟩
  refine ⟨_, _, rfl, rfl, by first | decide | omega, by first | decide | omega, fun d d_0 d_1 => ?_⟩
  refine ⟨mulOk_l (by decide), ?_⟩
  refine ⟨_, _, rfl, rfl, by first | decide | omega, by first | decide | omega, fun e e_0 e_1 => ?_⟩
  refine ⟨_, _, rfl, rfl, by first | decide | omega, by first | decide | omega, fun g g_0 g_1 => ?_⟩
  have d_2 : d < 25 := d_1
  have e_2 : e < 25 := e_1
  clear d_1 e_1
  have hd : Sm 6 (d - 12) := show (d - 12).natAbs < 2 ^ 6 by omega
  have he : Sm 6 (e - 12) := show (e - 12).natAbs < 2 ^ 6 by omega
  have hg : Sm 6 (g - 30) := show (g - 30).natAbs < 2 ^ 6 by omega
  simp only [fz, wC, EV.d, fJ_int, gCs, gN, gNl, start_def, List.map_cons, List.map_nil, List.set_cons_zero, List.set_cons_succ, List.replicate_succ, List.replicate_zero, List.cons_append, List.nil_append, List.length_cons, List.length_nil, Nat.reduceAdd, Nat.reduceSub]
  refine seq_cut (a := wIfS _ _ _) (fun en t => ∃ (z : Int) (c' : Nat) (x6 x7 : Option EV), Sm 400 z ∧ c' ≤ c + 10 ∧ t = some c' ∧ en = [some (.val .st), some (.val f.D), some (.val (.int 12)), some (.val (.int (d - 12))), some (.val (.int (e - 12))), some (.val (.int z)), x6, x7]) (fun R hR => ?_) ?_
  · refine ⟨_, _, rfl, rfl, by first | decide | omega, by first | decide | omega, fun k k_0 k_1 => ?_⟩
    refine if2 (fun h => ?_) (fun h => ?_)
    · refine ⟨_, _, rfl, rfl, by first | decide | omega, by first | decide | omega, fun x x_0 x_1 => ?_⟩
      refine ⟨_, _, rfl, rfl, by first | decide | omega, by first | decide | omega, fun y y_0 y_1 => ?_⟩
      have hsm : E6.Sm 100 ⟨f.a, f.b, f.c, d - 12, e - 12, 0⟩ := ⟨a1, a2, a3, hd.mono (by decide), he.mono (by decide), Nat.pow_pos (by decide)⟩
      have hv : P2.Sm 10 ⟨x - 6, y - 6⟩ := ⟨show (x - 6).natAbs < 2 ^ 10 by omega, show (y - 6).natAbs < 2 ^ 10 by omega⟩
      refine ⟨rfl, ⟨f.a, f.b, f.c, d - 12, e - 12, 0⟩, ⟨x - 6, y - 6⟩, rfl, ?_, ⟨hv.1.mono (by decide), hv.2.mono (by decide)⟩, ?_⟩
      · exact ⟨a1.mono (by decide), a2.mono (by decide), a3.mono (by decide), hd.mono (by decide), he.mono (by decide), Nat.pow_pos (by decide)⟩
      exact hR _ _ ⟨-(E6.at ⟨f.a, f.b, f.c, d - 12, e - 12, 0⟩ ⟨x - 6, y - 6⟩), _, _, _, (E6.at_sm hsm hv).neg, (show c + 1 + 1 + 1 + 1 + 1 + 1 ≤ c + 10 by omega), rfl, rfl⟩
    · exact hR _ _ ⟨g - 30, _, _, _, hg.mono (by decide), (show c + 1 + 1 + 1 + 1 ≤ c + 10 by omega), rfl, rfl⟩
  rintro en t ⟨z, c', x6, x7, hz, hc, rfl, rfl⟩
  refine ⟨rfl, ?_⟩
  exact q _ _ _ _ ⟨a1.mono (by decide), a2.mono (by decide), a3.mono (by decide), hd.mono (by decide), he.mono (by decide), hz.mono (by decide)⟩ hc
/-! ### the law's own measure, with fewer steps -/
def sp_Lmeasure_v1 : FSpec := fun ds tk Q => ∃ a b : Int, ds = [.int a, .int b] ∧ Sm 2000 a ∧ Sm 2000 b ∧ Q (.val (.int (Int.gcd a b : Int))) tk
theorem mon_Lmeasure_v1 : MonFS sp_Lmeasure_v1 := fun ds tk Q Q' h ⟨m, n, e, h0, h1, q⟩ => ⟨m, n, e, h0, h1, h _ _ q⟩
theorem len_Lmeasure_v1 : ∀ ds tk Q, sp_Lmeasure_v1 ds tk Q → ds.length = 2 := fun ds tk Q ⟨m, n, e, _⟩ => by rw [e]; rfl
abbrev N_Lmeasure_v1 : List Str := ["_law_a", "_law_b", "_law_k"]
def c_Lmeasure_v1 : WS :=
  (wSeq (wSet 0 (w1 fAbs (wPk 0)))
  (wSeq (wSet 1 (w1 fAbs (wPk 1)))
  (wSeq (wFor (wR1 (fz (wC (.int 5000)))) (gN 2) (wSeq (wIfS (wT (wOp fEq (wPk 1) (fz (wC (.int 0))))) (wRetV 0) wNext)
  (wPar 0 1 (wCons (fz (wV 1)) (wCons (fz (wOp fMod (wPk 0) (wPk 1))) wNil)))))
  (wRetV 0))))
theorem hw_Lmeasure_v1 : ∀ ds tk Q, sp_Lmeasure_v1 ds tk Q → c_Lmeasure_v1 { nx := fun _ t => Q (.val .non) t, rt := Q } (start N_Lmeasure_v1.length ds) tk := by
  rintro ds tk Q ⟨a, b, rfl, ha, hb, q⟩
  obtain ⟨B, hB⟩ : ∃ B : Nat, B = 2 ^ 2000 := ⟨_, rfl⟩
  have ha' : a.natAbs < B := by rw [hB]; exact ha
  have hb' : b.natAbs < B := by rw [hB]; exact hb
  refine ⟨by decide, by decide, ?_⟩
  refine forGo_rng (fun i e t => t = tk ∧ ∃ (x y : Nat) (xi yi : Int) (x2 : Option EV), LmI B (Int.gcd a b) a.natAbs b.natAbs i x y ∧ xi = (x : Int) ∧ yi = (y : Int) ∧ e = [some (.val (.int xi)), some (.val (.int yi)), x2]) (fun i e t R hi hI hR => ?_) (fun e t hI => ?_) ⟨rfl, a.natAbs, b.natAbs, _, _, none, ⟨rfl, .inl ⟨rfl, rfl, rfl⟩⟩, nat_abs_if, nat_abs_if, rfl⟩
  · obtain ⟨rfl, x, y, xi, yi, x2, hI, hx, hy, rfl⟩ := hI
    refine if2 (fun h0 => ?_) (fun h0 => ?_)
    · have y0 : y = 0 := by omega
      subst y0
      have e : xi = (Int.gcd a b : Int) := by rw [← hI.1, Nat.gcd_zero_right]; exact hx
      rw [← e] at q
      exact q
    · refine ⟨h0, ?_⟩
      refine hR _ _ ⟨rfl, y, x % y, yi, xi.fmod yi, _, lmI_step ha' hb' hI (by omega), hy, by rw [hx, hy, fmod_nat], rfl⟩
  · obtain ⟨rfl, x, y, xi, yi, x2, ⟨hg, hs⟩, hx, hy, rfl⟩ := hI
    have y0 : y = 0 := by
      rcases hs with ⟨h, _⟩ | ⟨h1, h2, h3⟩
      · exact absurd h (by decide)
      · refine Decidable.byContradiction fun z => ?_
        have h4 := h3 z
        have h5 : 1 * 2 ^ 5000 ≤ x * y * 2 ^ 5000 := Nat.mul_le_mul_right _ (Nat.mul_pos (by omega) (by omega))
        have h6 : 2 * (B * B) = 2 ^ 4001 := by rw [show 4001 = 2000 + 2000 + 1 from rfl, Nat.pow_succ, Nat.pow_add, ← hB, Nat.mul_comm]
        have h7 : 2 ^ 4001 < 2 ^ 5000 := Nat.pow_lt_pow_right (by decide) (by decide)
        have h8 : x * y * 2 ^ 5000 ≤ 2 ^ 4001 := by rw [← h6]; exact h4
        rw [Nat.one_mul] at h5
        exact absurd (Nat.lt_of_le_of_lt (Nat.le_trans h5 h8) h7) (Nat.lt_irrefl _)
    subst y0
    have e : xi = (Int.gcd a b : Int) := by rw [← hg, Nat.gcd_zero_right]; exact hx
    rw [← e] at q
    exact q
end DL
set_option maxHeartbeats 1000000
set_option pp.maxSteps 1200
local macro_rules | `(tactic| walk_at "dl") => `(tactic| simp (config := { failIfUnchanged := false }) only [↓DL.wSeq, ↓DL.wSet, ↓DL.wIfS, ↓DL.wRet, ↓DL.wRetV, ↓DL.wRetN, ↓DL.wNext, ↓DL.wPk, ↓DL.wV, ↓DL.wC, ↓DL.fz, ↓DL.wOp, ↓DL.w1, ↓DL.EV.d, ↓DL.wT_bl, ↓DL.wAnd, ↓DL.wOr, ↓DL.wNot, ↓DL.wB, ↓DL.wIf, ↓DL.wCons, ↓DL.wNil, ↓DL.wTup, ↓DL.wLst, ↓DL.wPar, ↓DL.wPar3, ↓DL.wAsg, ↓DL.wCall, ↓DL.wDrop, ↓DL.gN, ↓DL.gT, ↓DL.gCs, ↓DL.gNl, ↓DL.wR1, ↓DL.wR2, ↓DL.wSrc, ↓DL.wBrk, ↓DL.wCnt, ↓DL.wApp, ↓DL.wFor, ↓DL.fAdd_int, ↓DL.fI_int, ↓DL.fJ_int, ↓DL.fEq_int, ↓DL.fNe_int, ↓DL.fIdx_lst, ↓DL.fIdx_tup, ↓DL.fNeg, ↓DL.fAbs, ↓DL.fInt, ↓DL.fLen, ↓DL.start_def, List.getElem?_cons_zero, List.getElem?_cons_succ, List.set_cons_zero, List.set_cons_succ, List.map_cons, List.map_nil, List.length_cons, List.length_nil, List.replicate_succ, List.replicate_zero, List.cons_append, List.nil_append, Nat.reduceAdd, Nat.reduceSub, Nat.zero_add, decide_eq_true_eq, true_and, and_true])
namespace DL
open PySem PySem.Spec PyProof.Rows L2
theorem centre_law {a b c d e low U V g : Int} (hlow : low = b * b - 4 * a * c) (hU : U = 2 * c * d - b * e) (hV : V = 2 * a * e - b * d) (hg : g.natAbs = Int.gcd (Int.gcd (Int.gcd 0 low : Int) U : Int) V) (sgn : (low < 0 ∧ g < 0) ∨ (0 < low ∧ 0 < g)) :
    0 < low.fdiv g ∧ Int.gcd (Int.gcd (low.fdiv g) (U.fdiv g) : Int) (V.fdiv g) = 1 ∧ 2 * a * (U.fdiv g) + b * (V.fdiv g) + d * (low.fdiv g) = 0 ∧ b * (U.fdiv g) + 2 * c * (V.fdiv g) + e * (low.fdiv g) = 0 ∧ (low.fdiv g).natAbs ≤ low.natAbs ∧ (U.fdiv g).natAbs ≤ U.natAbs ∧ (V.fdiv g).natAbs ≤ V.natAbs := by
  have g0 : g ≠ 0 := by omega
  have hg' : g.natAbs = Nat.gcd (Nat.gcd low.natAbs U.natAbs) V.natAbs := by
    rw [hg]
    unfold Int.gcd
    simp only [Int.natAbs_zero, Nat.gcd_zero_left, Int.natAbs_natCast]
  have d1 : g ∣ low := Int.natAbs_dvd_natAbs.mp (by rw [hg']; exact Nat.dvd_trans (Nat.gcd_dvd_left _ _) (Nat.gcd_dvd_left _ _))
  have d2 : g ∣ U := Int.natAbs_dvd_natAbs.mp (by rw [hg']; exact Nat.dvd_trans (Nat.gcd_dvd_left _ _) (Nat.gcd_dvd_right _ _))
  have d3 : g ∣ V := Int.natAbs_dvd_natAbs.mp (by rw [hg']; exact Nat.gcd_dvd_right _ _)
  have e1 : low.fdiv g * g = low := Int.fdiv_mul_cancel d1
  have e2 : U.fdiv g * g = U := Int.fdiv_mul_cancel d2
  have e3 : V.fdiv g * g = V := Int.fdiv_mul_cancel d3
  generalize low.fdiv g = q at *
  generalize U.fdiv g = u at *
  generalize V.fdiv g = v at *
  have gp : 0 < g.natAbs := by omega
  have n1 : low.natAbs = q.natAbs * g.natAbs := by rw [← e1, Int.natAbs_mul]
  have n2 : U.natAbs = u.natAbs * g.natAbs := by rw [← e2, Int.natAbs_mul]
  have n3 : V.natAbs = v.natAbs * g.natAbs := by rw [← e3, Int.natAbs_mul]
  refine ⟨?_, ?_, ?_, ?_, by rw [n1]; exact Nat.le_mul_of_pos_right _ gp, by rw [n2]; exact Nat.le_mul_of_pos_right _ gp, by rw [n3]; exact Nat.le_mul_of_pos_right _ gp⟩
  · rcases sgn with ⟨h1, h2⟩ | ⟨h1, h2⟩
    · refine Int.not_le.mp fun h => ?_
      have := Int.mul_nonneg_of_nonpos_of_nonpos h (Int.le_of_lt h2)
      omega
    · refine Int.not_le.mp fun h => ?_
      have := Int.mul_nonneg (show 0 ≤ -q by omega) (Int.le_of_lt h2)
      rw [Int.neg_mul] at this
      omega
  · rw [n1, n2, n3, Nat.gcd_mul_right, Nat.gcd_mul_right] at hg'
    unfold Int.gcd
    rw [Int.natAbs_natCast]
    have : 1 * g.natAbs = Nat.gcd (Nat.gcd q.natAbs u.natAbs) v.natAbs * g.natAbs := by rw [Nat.one_mul]; exact hg'
    exact (Nat.eq_of_mul_eq_mul_right gp this).symm
  · have : (2 * a * u + b * v + d * q) * g = 0 := by
      have : (2 * a * u + b * v + d * q) * g = 2 * a * (u * g) + b * (v * g) + d * (q * g) := by grind
      rw [this, e1, e2, e3, hlow, hU, hV]
      grind
    exact (Int.mul_eq_zero.mp this).resolve_right g0
  · have : (b * u + 2 * c * v + e * q) * g = 0 := by
      have : (b * u + 2 * c * v + e * q) * g = b * (u * g) + 2 * c * (v * g) + e * (q * g) := by grind
      rw [this, e1, e2, e3, hlow, hU, hV]
      grind
    exact (Int.mul_eq_zero.mp this).resolve_right g0
def sp_centre : FSpec := fun ds tk Q => ∃ m : E6, ds = [m.D] ∧ m.Sm 401 ∧ m.form.disc ≠ 0 ∧ ∀ q u v : Int, 0 < q → Int.gcd (Int.gcd q u : Int) v = 1 → 2 * m.a * u + m.b * v + m.d * q = 0 → m.b * u + 2 * m.c * v + m.e * q = 0 → Sm 1300 q → Sm 1300 u → Sm 1300 v → Q (.val (.tup [.int q, .int u, .int v])) tk
theorem mon_centre : MonFS sp_centre := fun ds tk Q Q' h ⟨m, e, h0, h1, q⟩ => ⟨m, e, h0, h1, fun a b c x1 x2 x3 x4 x5 x6 x7 => h _ _ (q a b c x1 x2 x3 x4 x5 x6 x7)⟩
theorem len_centre : ∀ ds tk Q, sp_centre ds tk Q → ds.length = 1 := fun ds tk Q ⟨m, e, _⟩ => by rw [e]; rfl
abbrev N_centre : List Str := ["equation", "a", "b", "c", "d", "e", "_", "low", "u", "v", "g"]
def c_centre : WS :=
  (wSeq (wAsg (fz (wV 0)) (gT 6 (gCs (gN 1) (gCs (gN 2) (gCs (gN 3) (gCs (gN 4) (gCs (gN 5) (gCs (gN 6) gNl))))))))
  (wSeq (wSet 7 (wCall sp_discriminant (wCons (fz (wTup (wCons (fz (wV 1)) (wCons (fz (wV 2)) (wCons (fz (wV 3)) wNil))))) wNil)))
  (wSeq (wSet 8 (wOp fSub (fz (wOp fMul (fz (wOp fMul (fz (wC (.int 2))) (wPk 3))) (wPk 4))) (fz (wOp fMul (wPk 2) (wPk 5)))))
  (wSeq (wSet 9 (wOp fSub (fz (wOp fMul (fz (wOp fMul (fz (wC (.int 2))) (wPk 1))) (wPk 5))) (fz (wOp fMul (wPk 2) (wPk 4)))))
  (wSeq (wSet 10 (wCall sp_measure (wCons (fz (wTup (wCons (fz (wV 7)) (wCons (fz (wV 8)) (wCons (fz (wV 9)) wNil))))) wNil)))
  (wSeq (wIfS (wT (wOp fLt (wPk 7) (fz (wC (.int 0))))) (wSet 10 (w1 fNeg (wPk 10))) wNext)
  (wRet (wTup (wCons (fz (wOp fDiv (wPk 7) (wPk 10))) (wCons (fz (wOp fDiv (wPk 8) (wPk 10))) (wCons (fz (wOp fDiv (wPk 9) (wPk 10))) wNil)))))))))))
theorem hw_centre : ∀ ds tk Q, sp_centre ds tk Q → c_centre { nx := fun _ t => Q (.val .non) t, rt := Q } (start N_centre.length ds) tk := by
  rintro ds tk Q ⟨m, rfl, ⟨a1, a2, a3, a4, a5, a6⟩, h0, q⟩
  refine ⟨rfl, ?_⟩
  simp only [gCs, gN, gNl, start_def, List.map_cons, List.map_nil, List.set_cons_zero, List.set_cons_succ, List.replicate_succ, List.replicate_zero, List.cons_append, List.nil_append, List.length_cons, List.length_nil, Nat.reduceAdd, Nat.reduceSub]
  refine ⟨rfl, m.form, rfl, ⟨a1.mono (by decide), a2.mono (by decide), a3.mono (by decide)⟩, ?_⟩
  refine ⟨q1 s2 a3, q1 (s2.mul a3) a4, q1 a2 a5, ?_⟩
  refine ⟨q1 s2 a1, q1 (s2.mul a1) a5, q1 a2 a4, ?_⟩
  have sl : Sm 1200 m.form.disc := (((a2.mul a2).mono (show _ ≤ 900 by decide)).sub (((s4.mul a1).mul a3).mono (show _ ≤ 900 by decide))).mono (by decide)
  have sU : Sm 1200 (2 * m.c * m.d - m.b * m.e) := ((((s2.mul a3).mul a4).mono (show _ ≤ 900 by decide)).sub ((a2.mul a5).mono (show _ ≤ 900 by decide))).mono (by decide)
  have sV : Sm 1200 (2 * m.a * m.e - m.b * m.d) := ((((s2.mul a1).mul a5).mono (show _ ≤ 900 by decide)).sub ((a2.mul a4).mono (show _ ≤ 900 by decide))).mono (by decide)
  have hall : ∀ x ∈ [m.form.disc, 2 * m.c * m.d - m.b * m.e, 2 * m.a * m.e - m.b * m.d], Sm KB x := fun x hx => by
    simp only [List.mem_cons, List.not_mem_nil, or_false] at hx
    rcases hx with rfl | rfl | rfl
    · exact sl.mono (by decide)
    · exact sU.mono (by decide)
    · exact sV.mono (by decide)
  refine ⟨rfl, [m.form.disc, 2 * m.c * m.d - m.b * m.e, 2 * m.a * m.e - m.b * m.d], _, rfl, .inr rfl, hall, ?_⟩
  have sG := sm_gcds hall
  have hG : (gcds [m.form.disc, 2 * m.c * m.d - m.b * m.e, 2 * m.a * m.e - m.b * m.d]) = (Int.gcd (Int.gcd (Int.gcd 0 m.form.disc : Int) (2 * m.c * m.d - m.b * m.e) : Int) (2 * m.a * m.e - m.b * m.d) : Int) := rfl
  generalize gcds [m.form.disc, 2 * m.c * m.d - m.b * m.e, 2 * m.a * m.e - m.b * m.d] = G at sG hG ⊢
  have G0 : 0 ≤ G := by omega
  have G1 : G ≠ 0 := fun z => by
    rw [hG] at z
    have z := Int.gcd_eq_zero_iff.mp (Int.ofNat.inj z)
    have z2 := Int.gcd_eq_zero_iff.mp (Int.ofNat.inj z.1)
    have z3 := Int.gcd_eq_zero_iff.mp (Int.ofNat.inj z2.1)
    exact h0 z3.2
  have fin : ∀ g : Int, g.natAbs = G.natAbs → ((m.form.disc < 0 ∧ g < 0) ∨ (0 < m.form.disc ∧ 0 < g)) → DivOk m.form.disc g ∧ DivOk (2 * m.c * m.d - m.b * m.e) g ∧ DivOk (2 * m.a * m.e - m.b * m.d) g ∧ Q (.val (.tup [.int (m.form.disc.fdiv g), .int ((2 * m.c * m.d - m.b * m.e).fdiv g), .int ((2 * m.a * m.e - m.b * m.d).fdiv g)])) tk := fun g hg sg => by
    have sg' : Sm KB g := by unfold Sm at *; rw [hg]; exact sG
    have g0 : g ≠ 0 := by omega
    obtain ⟨r1, r2, r3, r4, r5, r6, r7⟩ := centre_law (g := g) (rfl : m.form.disc = _) rfl rfl (by rw [hg, hG]; rfl) sg
    exact ⟨divOk_sm g0 sg', divOk_sm g0 sg', divOk_sm g0 sg', q _ _ _ r1 r2 r3 r4 (Sm.mono (k := 1200) (Nat.lt_of_le_of_lt r5 sl) (by decide)) (Sm.mono (k := 1200) (Nat.lt_of_le_of_lt r6 sU) (by decide)) (Sm.mono (k := 1200) (Nat.lt_of_le_of_lt r7 sV) (by decide))⟩
  refine if2 (fun h => ?_) (fun h => ?_)
  · obtain ⟨f1, f2, f3, f4⟩ := fin (-G) (by omega) (.inl ⟨h, by omega⟩)
    exact ⟨f1, f2, f3, rfl, f4⟩
  · obtain ⟨f1, f2, f3, f4⟩ := fin G rfl (.inr ⟨by have := h0; omega, by omega⟩)
    exact ⟨f1, f2, f3, rfl, f4⟩
end DL
set_option maxHeartbeats 1000000
set_option pp.maxSteps 1200
local macro_rules | `(tactic| walk_at "dl") => `(tactic| simp (config := { failIfUnchanged := false }) only [↓DL.wSeq, ↓DL.wSet, ↓DL.wIfS, ↓DL.wRet, ↓DL.wRetV, ↓DL.wRetN, ↓DL.wNext, ↓DL.wPk, ↓DL.wV, ↓DL.wC, ↓DL.fz, ↓DL.wOp, ↓DL.w1, ↓DL.EV.d, ↓DL.wT_bl, ↓DL.wAnd, ↓DL.wOr, ↓DL.wNot, ↓DL.wB, ↓DL.wIf, ↓DL.wCons, ↓DL.wNil, ↓DL.wTup, ↓DL.wLst, ↓DL.wPar, ↓DL.wPar3, ↓DL.wAsg, ↓DL.wCall, ↓DL.wDrop, ↓DL.gN, ↓DL.gT, ↓DL.gCs, ↓DL.gNl, ↓DL.wR1, ↓DL.wR2, ↓DL.wSrc, ↓DL.wBrk, ↓DL.wCnt, ↓DL.wApp, ↓DL.wFor, ↓DL.fAdd_int, ↓DL.fI_int, ↓DL.fJ_int, ↓DL.fEq_int, ↓DL.fNe_int, ↓DL.fIdx_lst, ↓DL.fIdx_tup, ↓DL.fNeg, ↓DL.fAbs, ↓DL.fInt, ↓DL.fLen, ↓DL.start_def, List.getElem?_cons_zero, List.getElem?_cons_succ, List.set_cons_zero, List.set_cons_succ, List.map_cons, List.map_nil, List.length_cons, List.length_nil, List.replicate_succ, List.replicate_zero, List.cons_append, List.nil_append, Nat.reduceAdd, Nat.reduceSub, Nat.zero_add, decide_eq_true_eq, true_and, and_true])
namespace DL
open PySem PySem.Spec PyProof.Rows L2
theorem E6.ok (m : E6) : m.D.ok = true := ok_tup (okNs_int (okNs_int (okNs_int (okNs_int (okNs_int (okNs_int okNs_nil))))))
theorem E6.change_at (q : E6) (m : M4) (s v : P2) : (q.change m s).at v = q.at (m.old s v) := by
  unfold E6.change E6.at M4.old M4.at F3.act F3.worth E6.form
  dsimp only
  grind
theorem E6.turn_at (q : E6) (x y : Int) : q.turn.at ⟨y, x⟩ = q.at ⟨x, y⟩ := by
  unfold E6.turn E6.at
  dsimp only
  grind
theorem M4.inv_at {m : M4} (h : m.det = 1 ∨ m.det = -1) (s v : P2) : m.inv.at ⟨(m.old s v).x - s.x, (m.old s v).y - s.y⟩ = v := by
  have e : m.det = m.p * m.s - m.q * m.r := rfl
  obtain ⟨x, y⟩ := v
  unfold M4.old M4.at M4.inv
  rcases h with h | h <;> (rw [h]; rw [h] at e; dsimp only; congr 1 <;> grind)
theorem sm_m4 {m : M4} {k j : Nat} (h : m.nrm ≤ 2 ^ k) (hk : k < j) : m.Sm j := M4.sm_of_nrm (Nat.lt_of_le_of_lt h (Nat.pow_lt_pow_right (by decide) hk))
theorem worth_sm {f : F3} {v : P2} (hf : f.Sm 40) (hv : v.Sm 12) : DL.Sm 70 (f.worth v) := by
  obtain ⟨a1, a2, a3⟩ := hf
  obtain ⟨c1, c2⟩ := hv
  exact (((((a1.mul c1).mul c1).mono (show _ ≤ 66 by decide)).add (((a2.mul c1).mul c2).mono (show _ ≤ 66 by decide))).add (((a3.mul c2).mul c2).mono (show _ ≤ 67 by decide))).mono (by decide)
theorem Lact_sm {f : F3} {m : M4} (hf : f.Sm 40) (hm : m.Sm 10) : (f.Lact m).Sm 100 := by
  obtain ⟨b1, b2, b3, b4⟩ := hm
  have w1 := worth_sm (v := ⟨m.p, m.r⟩) hf ⟨b1.mono (by decide), b3.mono (by decide)⟩
  have w2 := worth_sm (v := ⟨m.q, m.s⟩) hf ⟨b2.mono (by decide), b4.mono (by decide)⟩
  have w3 := worth_sm (v := ⟨m.p + m.q, m.r + m.s⟩) hf ⟨(b1.add b2).mono (by decide), (b3.add b4).mono (by decide)⟩
  exact ⟨w1.mono (by decide), ((w3.sub w1).sub (w2.mono (show 70 ≤ 71 by decide))).mono (by decide), w2.mono (by decide)⟩
theorem P2.ok_ (m : P2) : m.D.ok = true := ok_t2
theorem change_sm {E : E6} {M : M4} {S : P2} (hE : E.Sm 401) (hM : M.Sm 10) (hS : S.Sm 10) : (E.change M S).Sm 20000 := by
  obtain ⟨a1, a2, a3, a4, a5, a6⟩ := hE
  obtain ⟨b1, b2, b3, b4⟩ := hM
  obtain ⟨c1, c2⟩ := hS
  have w : ∀ {x y : Int}, Sm 10 x → Sm 10 y → Sm 20000 (E.form.worth ⟨x, y⟩) := fun hx hy =>
    (((((a1.mul hx).mul hx).mono (show _ ≤ 1000 by decide)).add (((a2.mul hx).mul hy).mono (show _ ≤ 1000 by decide))).add (((a3.mul hy).mul hy).mono (show _ ≤ 1001 by decide))).mono (by decide)
  have hside : Sm 2000 (2 * E.a * S.x + E.b * S.y + E.d) := (((((s2.mul a1).mul c1).mono (show _ ≤ 1000 by decide)).add ((a2.mul c2).mono (show _ ≤ 1000 by decide))).add (a4.mono (show 401 ≤ 1001 by decide))).mono (by decide)
  have hoth : Sm 2000 (E.b * S.x + 2 * E.c * S.y + E.e) := ((((a2.mul c1).mono (show _ ≤ 1000 by decide)).add (((s2.mul a3).mul c2).mono (show _ ≤ 1000 by decide))).add (a5.mono (show 401 ≤ 1001 by decide))).mono (by decide)
  refine ⟨w b1 b3, ?_, w b2 b4, ?_, ?_, ?_⟩
  · exact ((((((s2.mul a1).mul b1).mul b2).mono (show _ ≤ 1000 by decide)).add ((a2.mul (((b1.mul b4).add (b2.mul b3)))).mono (show _ ≤ 1000 by decide))).add ((((s2.mul a3).mul b3).mul b4).mono (show _ ≤ 1001 by decide))).mono (by decide)
  · exact ((hside.mul b1).add (hoth.mul b3)).mono (by decide)
  · exact ((hside.mul b2).add (hoth.mul b4)).mono (by decide)
  · have z1 := ((((a1.mul c1).mul c1).mono (show _ ≤ 1000 by decide)).add (((a2.mul c1).mul c2).mono (show _ ≤ 1000 by decide)))
    have z2 := ((z1.add (((a3.mul c2).mul c2).mono (show _ ≤ 1001 by decide))).add ((a4.mul c1).mono (show _ ≤ 1002 by decide)))
    exact ((z2.add ((a5.mul c2).mono (show _ ≤ 1003 by decide))).add (a6.mono (show _ ≤ 1004 by decide))).mono (by decide)
theorem old_sm {M : M4} {S v : P2} (hM : M.Sm 100) (hS : S.Sm 10) (hv : v.Sm 10) : (M.old S v).Sm 1000 := by
  obtain ⟨b1, b2, b3, b4⟩ := hM
  obtain ⟨c1, c2⟩ := hS
  obtain ⟨d1, d2⟩ := hv
  exact ⟨((((b1.mul d1).add (b2.mul d2))).add (c1.mono (show 10 ≤ 100 + 10 + 1 by decide))).mono (by decide), ((((b3.mul d1).add (b4.mul d2))).add (c2.mono (show 10 ≤ 100 + 10 + 1 by decide))).mono (by decide)⟩
theorem E6.up {E : E6} {k j : Nat} (h : E.Sm k) (hk : k ≤ j) : E.Sm j := ⟨h.1.mono hk, h.2.1.mono hk, h.2.2.1.mono hk, h.2.2.2.1.mono hk, h.2.2.2.2.1.mono hk, h.2.2.2.2.2.mono hk⟩
theorem M4.up {E : M4} {k j : Nat} (h : E.Sm k) (hk : k ≤ j) : E.Sm j := ⟨h.1.mono hk, h.2.1.mono hk, h.2.2.1.mono hk, h.2.2.2.mono hk⟩
theorem P2.up {E : P2} {k j : Nat} (h : E.Sm k) (hk : k ≤ j) : E.Sm j := ⟨h.1.mono hk, h.2.mono hk⟩
abbrev N_law_v26 : List Str := ["_law_script", "_law_state_here", "_law_form_here", "_law_equation", "_law_m", "_law_shift", "_law_g", "_law_other", "_law_k", "_law_step", "_law_q", "_law_u", "_law_v", "_law_a", "_law_b", "_law_c", "_law_d", "_law_e", "_law_f", "_law_x", "_law_y", "_law_place", "_law_old", "_law_part"]
def c_law_v26 : WS :=
  (wSeq (wSet 1 (wCall sp_Lstate (wCons (fz (wV 0)) wNil)))
  (wSeq (wSet 2 (wCall sp_Lact_v1 (wCons (fz (wCall sp_Lform (wCons (fz (wV 1)) (wCons (fz (wOp fIdx (fz (wLst (wCons (fz (wC (.str "definite"))) (wCons (fz (wC (.str "indefinite"))) (wCons (fz (wC (.str "split"))) (wCons (fz (wC (.str "flat"))) wNil)))))) (fz (wCall sp_Lnext (wCons (fz (wV 1)) (wCons (fz (wC (.int 4))) wNil)))))) wNil)))) (wCons (fz (wCall sp_Lchange (wCons (fz (wV 1)) (wCons (fz (wC (.int 2))) wNil)))) wNil))))
  (wSeq (wSet 3 (wCall sp_Lthrough (wCons (fz (wV 1)) (wCons (fz (wV 2)) (wCons (fz (wC (.int 12))) wNil)))))
  (wSeq (wSet 4 (w1 fTuple (fz (wLc (wR1 (fz (wC (.int 4)))) (gN 8) wYes (wOp fSub (fz (wCall sp_Lnext (wCons (fz (wV 1)) (wCons (fz (wC (.int 13))) wNil)))) (fz (wC (.int 6)))) [8]))))
  (wSeq (wSet 5 (wTup (wCons (fz (wOp fSub (fz (wCall sp_Lnext (wCons (fz (wV 1)) (wCons (fz (wC (.int 41))) wNil)))) (fz (wC (.int 20))))) (wCons (fz (wOp fSub (fz (wCall sp_Lnext (wCons (fz (wV 1)) (wCons (fz (wC (.int 41))) wNil)))) (fz (wC (.int 20))))) wNil))))
  (wSeq (wSet 6 (wOp fSub (fz (wCall sp_Lnext (wCons (fz (wV 1)) (wCons (fz (wC (.int 19))) wNil)))) (fz (wC (.int 9)))))
  (wSeq (wSet 7 (wCall sp_change_equation (wCons (fz (wV 3)) (wCons (fz (wV 4)) (wCons (fz (wV 5)) wNil)))))
  (wSeq (wIfS (wOr (wNot (wT (w1 fIsi_tuple (wPk 7)))) (wOr (wNot (wT (w1 fIsi_tuple (fz (wCall sp_turn_over (wCons (fz (wV 3)) wNil)))))) (wOr (wT (wOp fNe (fz (w1 fLen (wPk 7))) (fz (wC (.int 6))))) (wT (wOp fNe (fz (wCall sp_scale_equation (wCons (fz (wV 3)) (wCons (fz (wV 6)) wNil)))) (fz (w1 fTuple (fz (wLc (wSrc (fz (wV 3))) (gN 23) wYes (wOp fMul (wPk 6) (wPk 23)) [23]))))))))) (wRet (wC (.bl false))) wNext)
  (wSeq (wFor (wR1 (fz (wC (.int 8)))) (gN 8) (wSeq (wSet 19 (wOp fSub (fz (wCall sp_Lnext (wCons (fz (wV 1)) (wCons (fz (wC (.int 31))) wNil)))) (fz (wC (.int 15)))))
  (wSeq (wSet 20 (wOp fSub (fz (wCall sp_Lnext (wCons (fz (wV 1)) (wCons (fz (wC (.int 31))) wNil)))) (fz (wC (.int 15)))))
  (wSeq (wSet 21 (wCall sp_Lat (wCons (fz (wV 4)) (wCons (fz (wV 19)) (wCons (fz (wV 20)) wNil)))))
  (wSeq (wSet 22 (wTup (wCons (fz (wOp fAdd (fz (wOp fIdx (wPk 21) (fz (wC (.int 0))))) (fz (wOp fIdx (wPk 5) (fz (wC (.int 0))))))) (wCons (fz (wOp fAdd (fz (wOp fIdx (wPk 21) (fz (wC (.int 1))))) (fz (wOp fIdx (wPk 5) (fz (wC (.int 1))))))) wNil))))
  (wSeq (wIfS (wOr (wT (wOp fNe (fz (wCall sp_old_point (wCons (fz (wV 4)) (wCons (fz (wV 5)) (wCons (fz (wTup (wCons (fz (wV 19)) (wCons (fz (wV 20)) wNil)))) wNil))))) (wPk 22))) (wT (wOp fNe (fz (wCall sp_Lvalue (wCons (fz (wV 7)) (wCons (fz (wV 19)) (wCons (fz (wV 20)) wNil))))) (fz (wCall sp_Lvalue (wCons (fz (wV 3)) (wCons (fz (wOp fIdx (wPk 22) (fz (wC (.int 0))))) (wCons (fz (wOp fIdx (wPk 22) (fz (wC (.int 1))))) wNil)))))))) (wRet (wC (.bl false))) wNext)
  (wIfS (wOr (wT (wOp fNe (fz (wCall sp_value (wCons (fz (wV 3)) (wCons (fz (wTup (wCons (fz (wV 19)) (wCons (fz (wV 20)) wNil)))) wNil)))) (fz (wCall sp_Lvalue (wCons (fz (wV 3)) (wCons (fz (wV 19)) (wCons (fz (wV 20)) wNil))))))) (wT (wOp fNe (fz (wCall sp_Lvalue (wCons (fz (wCall sp_turn_over (wCons (fz (wV 3)) wNil))) (wCons (fz (wV 20)) (wCons (fz (wV 19)) wNil))))) (fz (wCall sp_Lvalue (wCons (fz (wV 3)) (wCons (fz (wV 19)) (wCons (fz (wV 20)) wNil)))))))) (wRet (wC (.bl false))) wNext)))))))
  (wSeq (wSet 9 (wCall sp_Lmul (wCons (fz (wCall sp_Lchange (wCons (fz (wV 1)) (wCons (fz (wC (.int 4))) wNil)))) (wCons (fz (wOp fIdx (fz (wLst (wCons (fz (wTup (wCons (fz (wC (.int 1))) (wCons (fz (wC (.int 0))) (wCons (fz (wC (.int 0))) (wCons (fz (wC (.int 1))) wNil)))))) (wCons (fz (wTup (wCons (fz (wC (.int 0))) (wCons (fz (wC (.int 1))) (wCons (fz (wC (.int 1))) (wCons (fz (wC (.int 0))) wNil)))))) wNil)))) (fz (wCall sp_Lnext (wCons (fz (wV 1)) (wCons (fz (wC (.int 2))) wNil)))))) wNil))))
  (wSeq (wIfS (wT (wOp fNe (fz (wCall sp_new_point (wCons (fz (wV 9)) (wCons (fz (wV 5)) (wCons (fz (wCall sp_old_point (wCons (fz (wV 9)) (wCons (fz (wV 5)) (wCons (fz (wTup (wCons (fz (wC (.int 7))) (wCons (fz (wV 6)) wNil)))) wNil))))) wNil))))) (fz (wTup (wCons (fz (wC (.int 7))) (wCons (fz (wV 6)) wNil)))))) (wRet (wC (.bl false))) wNext)
  (wSeq (wIfS (wT (wOp fEq (fz (wOp fMul (fz (wOp fIdx (wPk 2) (fz (wC (.int 1))))) (fz (wOp fIdx (wPk 2) (fz (wC (.int 1))))))) (fz (wOp fMul (fz (wOp fMul (fz (wC (.int 4))) (fz (wOp fIdx (wPk 2) (fz (wC (.int 0))))))) (fz (wOp fIdx (wPk 2) (fz (wC (.int 2))))))))) (wRet (wC (.bl true))) wNext)
  (wSeq (wAsg (fz (wCall sp_centre (wCons (fz (wV 3)) wNil))) (gT 3 (gCs (gN 10) (gCs (gN 11) (gCs (gN 12) gNl)))))
  (wSeq (wAsg (fz (wV 3)) (gT 6 (gCs (gN 13) (gCs (gN 14) (gCs (gN 15) (gCs (gN 16) (gCs (gN 17) (gCs (gN 18) gNl))))))))
  (wSeq (wIfS (wOr (wT (wOp fLt (wPk 10) (fz (wC (.int 1))))) (wT (wOp fNe (fz (wCall sp_Lmeasure_v1 (wCons (fz (wCall sp_Lmeasure_v1 (wCons (fz (wV 10)) (wCons (fz (wV 11)) wNil)))) (wCons (fz (wV 12)) wNil)))) (fz (wC (.int 1)))))) (wRet (wC (.bl false))) wNext)
  (wRet (wB (wAnd (wT (wOp fEq (fz (wOp fAdd (fz (wOp fAdd (fz (wOp fMul (fz (wOp fMul (fz (wC (.int 2))) (wPk 13))) (wPk 11))) (fz (wOp fMul (wPk 14) (wPk 12))))) (fz (wOp fMul (wPk 16) (wPk 10))))) (fz (wC (.int 0))))) (wT (wOp fEq (fz (wOp fAdd (fz (wOp fAdd (fz (wOp fMul (wPk 14) (wPk 11))) (fz (wOp fMul (fz (wOp fMul (fz (wC (.int 2))) (wPk 15))) (wPk 12))))) (fz (wOp fMul (wPk 17) (wPk 10))))) (fz (wC (.int 0)))))))))))))))))))))))
theorem hw_law_v26 : ∀ ds tk Q, sp_law ds tk Q → c_law_v26 { nx := fun _ t => Q (.val .non) t, rt := Q } (start N_law_v26.length ds) tk := by
  rintro ds tk Q ⟨xs, rfl, hl, rfl, q⟩
  refine ⟨xs, rfl, rfl, ?_⟩
  refine ⟨rfl, ?_⟩
  refine ⟨_, _, rfl, rfl, by first | decide | omega, by first | decide | omega, fun v0 v0_0 v0_1 => ?_⟩
  refine fIdx_of (fun d => ∃ s : Str, d = .str s ∧ D.ok (.str s) = true) v0_0 v0_1 (allc ⟨_, rfl, ok_s1⟩ (all3 ⟨_, rfl, ok_s3⟩ ⟨_, rfl, ok_s4⟩ ⟨_, rfl, ok_s2⟩)) ?_
  rintro _ ⟨so, rfl, hso⟩
  refine ⟨so, _, rfl, hso, rfl, by decide, fun f c hf hc => ?_⟩
  have hc : c ≤ 201 := hc
  refine ⟨2, c, rfl, rfl, by decide, by decide, by omega, fun ch c1 chd chn hc1 => ?_⟩
  have hc1 : c1 ≤ 206 := Nat.le_trans hc1 (show c + 1 + 2 * 2 ≤ 206 by omega)
  have chs : ch.Sm 10 := sm_m4 chn (by decide)
  refine ⟨f, ch, rfl, ⟨hf.1.mono (by decide), hf.2.1.mono (by decide), hf.2.2.mono (by decide)⟩, ⟨chs.1.mono (by decide), chs.2.1.mono (by decide), chs.2.2.1.mono (by decide), chs.2.2.2.mono (by decide)⟩, ?_⟩
  have hF := Lact_sm hf chs
  generalize f.Lact ch = F at hF ⊢
  refine ⟨F, c1, rfl, hF, rfl, by omega, fun d e ff c2 hE hc2 => ?_⟩
  have hc2 : c2 ≤ 216 := Nat.le_trans hc2 (by omega)
  obtain ⟨E, hEE⟩ : ∃ E : E6, E = ⟨F.a, F.b, F.c, d, e, ff⟩ := ⟨_, rfl⟩
  refine ⟨by decide, by decide, rfl, rfl, ifB rfl ?_⟩
  refine ⟨_, _, rfl, rfl, by decide, by omega, fun b0 b0_0 b0_1 => ?_⟩
  refine ⟨rfl, (show 0 < sizeLine by decide), rfl, ifB rfl ?_⟩
  refine ⟨_, _, rfl, rfl, by first | decide | omega, by first | decide | omega, fun b1 b1_0 b1_1 => ?_⟩
  refine ⟨rfl, (show 1 < sizeLine by decide), rfl, ifB rfl ?_⟩
  refine ⟨_, _, rfl, rfl, by first | decide | omega, by first | decide | omega, fun b2 b2_0 b2_1 => ?_⟩
  refine ⟨rfl, (show 2 < sizeLine by decide), rfl, ifB rfl ?_⟩
  refine ⟨_, _, rfl, rfl, by first | decide | omega, by first | decide | omega, fun b3 b3_0 b3_1 => ?_⟩
  refine ⟨rfl, (show 3 < sizeLine by decide), ?_⟩
  refine ⟨_, _, rfl, rfl, by first | decide | omega, by first | decide | omega, fun s0 s0_0 s0_1 => ?_⟩
  refine ⟨_, _, rfl, rfl, by first | decide | omega, by first | decide | omega, fun s1 s1_0 s1_1 => ?_⟩
  refine ⟨rfl, ?_⟩
  rw [← hEE] at hE
  dsimp only
  refine seq_cut (a := wSet _ _) (fun en t => ∃ (M : M4) (S : P2) (g : Int) (c' : Nat), M.Sm 10 ∧ S.Sm 10 ∧ Sm 10 g ∧ c' ≤ 300 ∧ t = some c' ∧ en = [some (.val (.lst (xs.map D.int))), some (.val .st), some (.val F.D), some (.val E.D), some (.val M.D), some (.val S.D), some (.val (.int g)), none, none, none, none, none, none, none, none, none, none, none, none, none, none, none, none, none]) (fun R hR => ?_) ?_
  · refine ⟨_, _, rfl, rfl, by first | decide | omega, by first | decide | omega, fun g g_0 g_1 => ?_⟩
    refine hR _ _ ⟨⟨b0 - 6, b1 - 6, b2 - 6, b3 - 6⟩, ⟨s0 - 20, s1 - 20⟩, g - 9, _, ?_, ?_, ?_, ?_, rfl, ?_⟩
    · exact ⟨show (b0 - 6).natAbs < 2 ^ 10 by omega, show (b1 - 6).natAbs < 2 ^ 10 by omega, show (b2 - 6).natAbs < 2 ^ 10 by omega, show (b3 - 6).natAbs < 2 ^ 10 by omega⟩
    · exact ⟨show (s0 - 20).natAbs < 2 ^ 10 by omega, show (s1 - 20).natAbs < 2 ^ 10 by omega⟩
    · exact (show (g - 9).natAbs < 2 ^ 10 by omega)
    · exact (show c2 + 1 + 1 + 1 + 1 + 1 + 1 + 1 ≤ 300 by omega)
    · rw [hEE]; rfl
  have hEF : E.a = F.a ∧ E.b = F.b ∧ E.c = F.c := by rw [hEE]; exact ⟨rfl, rfl, rfl⟩
  clear hEE b0_0 b0_1 b1_0 b1_1 b2_0 b2_1 b3_0 b3_1 s0_0 s0_1 s1_0 s1_1
  rintro en t ⟨M, S, g, c', hM, hS, hg, hc', rfl, rfl⟩
  refine ⟨E, M, S, rfl, E6.up hE (by decide), M4.up hM (by decide), P2.up hS (by decide), ?_⟩
  refine ⟨E, rfl, ?_⟩
  refine ⟨E, g, rfl, E6.up hE (by decide), hg.mono (by decide), ?_⟩
  refine ⟨rfl, rfl, ifB rfl ⟨q1 hg hE.1, rfl, (show 0 < sizeLine by decide), rfl, ifB rfl ⟨q1 hg hE.2.1, rfl, (show 1 < sizeLine by decide), rfl, ifB rfl ⟨q1 hg hE.2.2.1, rfl, (show 2 < sizeLine by decide), rfl, ifB rfl ⟨q1 hg hE.2.2.2.1, rfl, (show 3 < sizeLine by decide), rfl, ifB rfl ⟨q1 hg hE.2.2.2.2.1, rfl, (show 4 < sizeLine by decide), rfl, ifB rfl ⟨q1 hg hE.2.2.2.2.2, rfl, (show 5 < sizeLine by decide), ?_⟩⟩⟩⟩⟩⟩⟩
  have hsc : (E.scale g).D = E6.D ⟨g * E.a, g * E.b, g * E.c, g * E.d, g * E.e, g * E.f⟩ := by
    unfold E6.scale
    rw [Int.mul_comm E.a, Int.mul_comm E.b, Int.mul_comm E.c, Int.mul_comm E.d, Int.mul_comm E.e, Int.mul_comm E.f]
  refine ⟨E6.ok _, E6.ok ⟨g * E.a, g * E.b, g * E.c, g * E.d, g * E.e, g * E.f⟩, ifNB (eqv_eq hsc (E6.ok _)) ?_⟩
  refine ⟨by decide, by decide, ?_⟩
  refine forGo_rng (fun i en t => ∃ (x8 x19 x20 x21 x22 : Option EV), t = some (c' + 2 * i) ∧ en = [some (.val (.lst (xs.map D.int))), some (.val .st), some (.val F.D), some (.val E.D), some (.val M.D), some (.val S.D), some (.val (.int g)), some (.val (E.change M S).D), x8, none, none, none, none, none, none, none, none, none, none, x19, x20, x21, x22, none]) (fun i en t R hi hI hR => ?_) (fun en t hI => ?_) ⟨none, none, none, none, none, rfl, rfl⟩
  · obtain ⟨x8, x19, x20, x21, x22, rfl, rfl⟩ := hI
    have hi' : i < 8 := hi
    refine ⟨_, _, rfl, rfl, by first | decide | omega, by first | decide | omega, fun x x_0 x_1 => ?_⟩
    refine ⟨_, _, rfl, rfl, by first | decide | omega, by first | decide | omega, fun y y_0 y_1 => ?_⟩
    have hv : P2.Sm 10 ⟨x - 15, y - 15⟩ := ⟨show (x - 15).natAbs < 2 ^ 10 by omega, show (y - 15).natAbs < 2 ^ 10 by omega⟩
    have hw : P2.Sm 10 ⟨y - 15, x - 15⟩ := ⟨hv.2, hv.1⟩
    refine ⟨M, ⟨x - 15, y - 15⟩, rfl, M4.up hM (by decide), P2.up hv (by decide), rfl, ?_⟩
    refine ⟨rfl, M, S, ⟨x - 15, y - 15⟩, rfl, M4.up hM (by decide), P2.up hv (by decide), ?_⟩
    refine ⟨P2.ok_ _, P2.ok_ (M.old S ⟨x - 15, y - 15⟩), ifNB (eqv_self (P2.ok_ _)) ?_⟩
    refine ⟨E.change M S, ⟨x - 15, y - 15⟩, rfl, change_sm hE hM hS, P2.up hv (by decide), ?_⟩
    refine ⟨E, M.old S ⟨x - 15, y - 15⟩, rfl, E6.up hE (by decide), P2.up (old_sm (M4.up hM (by decide)) hS hv) (by decide), ?_⟩
    refine ifN (E6.change_at _ _ _ _) ?_
    refine ⟨rfl, E, ⟨x - 15, y - 15⟩, rfl, E6.up hE (by decide), P2.up hv (by decide), ?_⟩
    refine ⟨E, ⟨x - 15, y - 15⟩, rfl, E6.up hE (by decide), P2.up hv (by decide), ifN rfl ?_⟩
    refine ⟨E, rfl, E.turn, ⟨y - 15, x - 15⟩, rfl, ⟨hE.2.2.1.mono (by decide), hE.2.1.mono (by decide), hE.1.mono (by decide), hE.2.2.2.2.1.mono (by decide), hE.2.2.2.1.mono (by decide), hE.2.2.2.2.2.mono (by decide)⟩, P2.up hw (by decide), ?_⟩
    refine ⟨E, ⟨x - 15, y - 15⟩, rfl, E6.up hE (by decide), P2.up hv (by decide), ifN (E6.turn_at _ _ _) ?_⟩
    exact hR _ _ ⟨_, _, _, _, _, rfl, rfl⟩
  · obtain ⟨x8, x19, x20, x21, x22, rfl, rfl⟩ := hI
    refine ⟨4, c' + 2 * 8, rfl, rfl, by decide, by decide, by omega, fun ch c3 hd hn hc3 => ?_⟩
    have hc3 : c3 ≤ 400 := Nat.le_trans hc3 (show c' + 2 * 8 + 1 + 2 * 4 ≤ 400 by omega)
    refine ⟨rfl, rfl, rfl, ?_⟩
    refine ⟨_, _, rfl, rfl, by first | decide | omega, by first | decide | omega, fun v1 v1_0 v1_1 => ?_⟩
    refine fIdx_of (fun d => ∃ b : M4, d = b.D ∧ (b.det = 1 ∨ b.det = -1) ∧ b.nrm ≤ 2) v1_0 v1_1 (all2 ⟨⟨1, 0, 0, 1⟩, rfl, .inl rfl, by decide⟩ ⟨⟨0, 1, 1, 0⟩, rfl, .inr rfl, by decide⟩) ?_
    rintro _ ⟨b, rfl, hbd, hbn⟩
    have hcs : ch.Sm 20 := sm_m4 hn (by decide)
    have hbs : b.Sm 20 := sm_m4 (k := 1) hbn (by decide)
    refine ⟨ch, b, rfl, M4.up hcs (by decide), M4.up hbs (by decide), ?_⟩
    have std : (ch.mul b).det = 1 ∨ (ch.mul b).det = -1 := by
      rw [M4.det_mul, hd, Int.one_mul]
      exact hbd
    have stn : (ch.mul b).nrm ≤ 2 ^ 10 := by
      have h1 := Nat.mul_le_mul (show ch.nrm ≤ 2 ^ 9 from hn) hbn
      exact Nat.le_trans (M4.nrm_mul _ _) h1
    obtain ⟨W, hW⟩ : ∃ W : M4, W = ch.mul b := ⟨_, rfl⟩
    rw [← hW] at std stn
    have hws : W.Sm 20 := sm_m4 stn (by decide)
    have hwi : W.inv.Sm 20 := sm_m4 (k := 10) (by rw [M4.nrm_inv std]; exact stn) (by decide)
    have hwd : Sm BG W.det := by rcases std with z | z <;> (rw [z]; exact sm_lit (by decide))
    have h7 : P2.Sm 10 ⟨7, g⟩ := ⟨show (7 : Int).natAbs < 2 ^ 10 by decide, hg⟩
    have hold := old_sm (M4.up hws (by decide)) hS h7
    refine ⟨rfl, W, S, ⟨7, g⟩, by rw [hW]; rfl, M4.up hws (by decide), P2.up h7 (by decide), ?_⟩
    refine ⟨W, S, W.old S ⟨7, g⟩, by rw [hW]; rfl, M4.up hws (by decide), hwd, M4.up hwi (by decide), ⟨(hold.1.sub (hS.1.mono (by decide))).mono (by decide), (hold.2.sub (hS.2.mono (by decide))).mono (by decide)⟩, ?_⟩
    refine ⟨rfl, ?_⟩
    refine ⟨P2.ok_ _, P2.ok_ ⟨7, g⟩, ifNB (eqv_eq (congrArg P2.D (M4.inv_at std S ⟨7, g⟩)) (P2.ok_ _)) ?_⟩
    refine ⟨q1 hF.2.1 hF.2.1, q1 s4 hF.1, q1 (s4.mul hF.1) hF.2.2, ?_⟩
    refine if2 (fun h => q _) (fun h => ?_)
    have hdi : E.form.disc ≠ 0 := by
      unfold E6.form F3.disc
      dsimp only
      rw [hEF.1, hEF.2.1, hEF.2.2]
      omega
    refine ⟨E, rfl, hE, hdi, fun qq u v hq hgcd he1 he2 sq su sv => ?_⟩
    refine ⟨rfl, rfl, ?_⟩
    simp only [gCs, gN, gNl, start_def, List.map_cons, List.map_nil, List.set_cons_zero, List.set_cons_succ, List.replicate_succ, List.replicate_zero, List.cons_append, List.nil_append, List.length_cons, List.length_nil, Nat.reduceAdd, Nat.reduceSub]
    refine ifF (by omega) ?_
    refine ⟨qq, u, rfl, sq.mono (by decide), su.mono (by decide), ?_⟩
    have sgc : Sm 2000 (Int.gcd qq u : Int) := by
      unfold Sm
      rw [Int.natAbs_natCast]
      have := Nat.le_of_dvd (show 0 < qq.natAbs by omega) (Nat.gcd_dvd_left qq.natAbs u.natAbs)
      exact Nat.lt_of_le_of_lt this (sq.mono (show 1300 ≤ 2000 by decide))
    refine ⟨_, v, rfl, sgc, sv.mono (by decide), ?_⟩
    refine ifN (show ((Int.gcd (Int.gcd qq u : Int) v : Nat) : Int) = 1 by rw [hgcd]; rfl) ?_
    refine ⟨q1 s2 hE.1, q1 (s2.mul hE.1) su, q1 hE.2.1 sv, q1 hE.2.2.2.1 sq, ?_⟩
    refine ifT he1 ?_
    refine ⟨q1 hE.2.1 su, q1 s2 hE.2.2.1, q1 (s2.mul hE.2.2.1) sv, q1 hE.2.2.2.2.1 sq, ?_⟩
    have fin : ∀ t, Q (.val (.bl (decide (E.b * u + 2 * E.c * v + E.e * qq = 0)))) t := fun t => by
      rw [decide_eq_true he2]
      exact q t
    exact fin _
end DL
namespace DL
open PySem PySem.Spec PyProof.Rows L2
def topS (i : Nat) : Stmt := PySem.Challenge.pw_wholeconic_k27_new_unknowns.main.body.getD i (.Pass ⟨0, 0, 0, 0⟩)
section
variable {P : Program} {w : World} {K : PySem.W.Frag} {mg : Str → Option Value} {base : Heap}
abbrev s_bezout : Stmt := topS 1
theorem sc_bezout : FnScope N_bezout ["a", "b"] (defScope s_bezout) := ⟨rfl, rfl, rfl, by decide +kernel, rfl, by decide +kernel, by decide +kernel⟩
theorem ok_bezout {k : Nat} {f : Addr} {fd : FuncData} (F : Fun K "bezout" "bezout" s_bezout f fd) : FnOk P w K mg base CX0 (k + 1) f fd ["a", "b"] (spD K sp_bezout) :=
  fn_ok F sc_bezout len_bezout (fun cdv A outer s H E c hK hr => by
    unfold c_bezout
    have nd := sc_bezout.nd
    exact (ss_cons (ss_par3 (i := 2) (j := 3) (l := 4) rfl nd rfl rfl rfl (by decide) (by decide) (by decide) rfl rfl rfl (sa_cons (SE.fz (se_v 0 (pv 0))) (sa_cons (SE.fz se_int) (sa_cons (SE.fz se_int) sa_nil))))
      (ss_cons (ss_par3 (i := 5) (j := 6) (l := 7) rfl nd rfl rfl rfl (by decide) (by decide) (by decide) rfl rfl rfl (sa_cons (SE.fz (se_v 1 (pv 1))) (sa_cons (SE.fz se_int) (sa_cons (SE.fz se_int) sa_nil))))
      (ss_cons (ss_while PassesOwn.never (st_ne hK (hu_room hr) (sp_v 5 (pv 5)) (SE.pk se_int)) (ss_cons (ss_set (i := 8) nd rfl (by first | exact Or.inl rfl | exact Or.inr rfl) (se_div (sp_v 2 (pv 2)) (sp_v 5 (pv 5))))
      (ss_cons (ss_par (i := 2) (j := 5) rfl nd rfl rfl (by decide) rfl rfl (sa_cons (SE.fz (se_v 5 (pv 5))) (sa_cons (SE.fz (se_sub (sp_v 2 (pv 2)) (SE.pk (se_mul (sp_v 8 (pv 8)) (sp_v 5 (pv 5)))))) sa_nil)))
      (ss_cons (ss_par (i := 3) (j := 6) rfl nd rfl rfl (by decide) rfl rfl (sa_cons (SE.fz (se_v 6 (pv 6))) (sa_cons (SE.fz (se_sub (sp_v 3 (pv 3)) (SE.pk (se_mul (sp_v 8 (pv 8)) (sp_v 6 (pv 6)))))) sa_nil)))
      (ss_one (ss_par (i := 4) (j := 7) rfl nd rfl rfl (by decide) rfl rfl (sa_cons (SE.fz (se_v 7 (pv 7))) (sa_cons (SE.fz (se_sub (sp_v 4 (pv 4)) (SE.pk (se_mul (sp_v 8 (pv 8)) (sp_v 7 (pv 7)))))) sa_nil))))))))
      (ss_cons (ss_if (st_lt (sp_v 2 (pv 2)) (SE.pk se_int)) (ss_one (ss_ret (se_tup (sa_cons (SE.fz (se_neg (sp_v 2 (pv 2)))) (sa_cons (SE.fz (se_neg (sp_v 3 (pv 3)))) (sa_cons (SE.fz (se_neg (sp_v 4 (pv 4)))) sa_nil)))))) ss_nil)
      (ss_one (ss_ret (se_tup (sa_cons (SE.fz (se_v 2 (pv 2))) (sa_cons (SE.fz (se_v 3 (pv 3))) (sa_cons (SE.fz (se_v 4 (pv 4))) sa_nil))))))))))) hw_bezout

abbrev s_measure : Stmt := topS 2
theorem sc_measure : FnScope N_measure ["numbers"] (defScope s_measure) := ⟨rfl, rfl, rfl, by decide +kernel, rfl, by decide +kernel, by decide +kernel⟩
theorem ok_measure {k : Nat} {f : Addr} {fd : FuncData} (F : Fun K "measure" "measure" s_measure f fd) (G_bezout : FnIn P w K mg base k "bezout" sp_bezout) : FnOk P w K mg base CX0 (k + 1) f fd ["numbers"] (spD K sp_measure) :=
  fn_ok F sc_measure len_measure (fun cdv A outer s H E c hK hr => by
    unfold c_measure
    have nd := sc_measure.nd
    exact (ss_cons (ss_set (i := 1) nd rfl (by first | exact Or.inl rfl | exact Or.inr rfl) se_int)
      (ss_cons (ss_for PassesOwn.never rfl (si_seq hK (SE.fz (se_v 0 (pv 0)))) (sg_n (i := 2) nd rfl (by first | exact Or.inl rfl | exact Or.inr rfl)) (ss_one (ss_set (i := 1) nd rfl (by first | exact Or.inl rfl | exact Or.inr rfl) (se_ix hK (SE.pk (se_call hK G_bezout mon_bezout hr (by rfl) (sa_cons (SE.fz (se_v 1 (pv 1))) (sa_cons (SE.fz (se_v 2 (pv 2))) sa_nil)))) (SE.pk se_int) (fun _ _ => rfl)))))
      (ss_one (ss_retV 1 (pv 1)))))) hw_measure

abbrev s_discriminant : Stmt := topS 4
theorem sc_discriminant : FnScope N_discriminant ["form"] (defScope s_discriminant) := ⟨rfl, rfl, rfl, by decide +kernel, rfl, by decide +kernel, by decide +kernel⟩
theorem ok_discriminant {k : Nat} {f : Addr} {fd : FuncData} (F : Fun K "discriminant" "discriminant" s_discriminant f fd) : FnOk P w K mg base CX0 (k + 1) f fd ["form"] (spD K sp_discriminant) :=
  fn_ok F sc_discriminant len_discriminant (fun cdv A outer s H E c hK hr => by
    unfold c_discriminant
    have nd := sc_discriminant.nd
    exact (ss_one (ss_ret (se_sub (SE.pk (se_mul (SE.pk (se_ix hK (sp_v 0 (pv 0)) (SE.pk se_int) (fun _ _ => rfl))) (SE.pk (se_ix hK (sp_v 0 (pv 0)) (SE.pk se_int) (fun _ _ => rfl))))) (SE.pk (se_mul (SE.pk (se_mul (SE.pk se_int) (SE.pk (se_ix hK (sp_v 0 (pv 0)) (SE.pk se_int) (fun _ _ => rfl))))) (SE.pk (se_ix hK (sp_v 0 (pv 0)) (SE.pk se_int) (fun _ _ => rfl))))))))) hw_discriminant

abbrev s_worth : Stmt := topS 5
theorem sc_worth : FnScope N_worth ["form", "point"] (defScope s_worth) := ⟨rfl, rfl, rfl, by decide +kernel, rfl, by decide +kernel, by decide +kernel⟩
theorem ok_worth {k : Nat} {f : Addr} {fd : FuncData} (F : Fun K "worth" "worth" s_worth f fd) : FnOk P w K mg base CX0 (k + 1) f fd ["form", "point"] (spD K sp_worth) :=
  fn_ok F sc_worth len_worth (fun cdv A outer s H E c hK hr => by
    unfold c_worth
    have nd := sc_worth.nd
    exact (ss_cons (ss_asg (SE.fz (se_v 1 (pv 1))) (sg_tup hK rfl (sg_cons (sg_n (i := 2) nd rfl (by first | exact Or.inl rfl | exact Or.inr rfl)) (sg_cons (sg_n (i := 3) nd rfl (by first | exact Or.inl rfl | exact Or.inr rfl)) sg_nil))))
      (ss_one (ss_ret (se_add hK (SE.pk (se_add hK (SE.pk (se_mul (SE.pk (se_mul (SE.pk (se_ix hK (sp_v 0 (pv 0)) (SE.pk se_int) (fun _ _ => rfl))) (sp_v 2 (pv 2)))) (sp_v 2 (pv 2)))) (SE.pk (se_mul (SE.pk (se_mul (SE.pk (se_ix hK (sp_v 0 (pv 0)) (SE.pk se_int) (fun _ _ => rfl))) (sp_v 2 (pv 2)))) (sp_v 3 (pv 3)))))) (SE.pk (se_mul (SE.pk (se_mul (SE.pk (se_ix hK (sp_v 0 (pv 0)) (SE.pk se_int) (fun _ _ => rfl))) (sp_v 3 (pv 3)))) (sp_v 3 (pv 3))))))))) hw_worth

abbrev s_act : Stmt := topS 6
theorem sc_act : FnScope N_act ["form", "m"] (defScope s_act) := ⟨rfl, rfl, rfl, by decide +kernel, rfl, by decide +kernel, by decide +kernel⟩
theorem ok_act {k : Nat} {f : Addr} {fd : FuncData} (F : Fun K "act" "act" s_act f fd) (G_worth : FnIn P w K mg base k "worth" sp_worth) : FnOk P w K mg base CX0 (k + 1) f fd ["form", "m"] (spD K sp_act) :=
  fn_ok F sc_act len_act (fun cdv A outer s H E c hK hr => by
    unfold c_act
    have nd := sc_act.nd
    exact (ss_cons (ss_asg (SE.fz (se_v 1 (pv 1))) (sg_tup hK rfl (sg_cons (sg_n (i := 2) nd rfl (by first | exact Or.inl rfl | exact Or.inr rfl)) (sg_cons (sg_n (i := 3) nd rfl (by first | exact Or.inl rfl | exact Or.inr rfl)) (sg_cons (sg_n (i := 4) nd rfl (by first | exact Or.inl rfl | exact Or.inr rfl)) (sg_cons (sg_n (i := 5) nd rfl (by first | exact Or.inl rfl | exact Or.inr rfl)) sg_nil))))))
      (ss_cons (ss_set (i := 6) nd rfl (by first | exact Or.inl rfl | exact Or.inr rfl) (se_add hK (SE.pk (se_add hK (SE.pk (se_mul (SE.pk (se_mul (SE.pk (se_mul (SE.pk se_int) (SE.pk (se_ix hK (sp_v 0 (pv 0)) (SE.pk se_int) (fun _ _ => rfl))))) (sp_v 2 (pv 2)))) (sp_v 3 (pv 3)))) (SE.pk (se_mul (SE.pk (se_ix hK (sp_v 0 (pv 0)) (SE.pk se_int) (fun _ _ => rfl))) (SE.pk (se_add hK (SE.pk (se_mul (sp_v 2 (pv 2)) (sp_v 5 (pv 5)))) (SE.pk (se_mul (sp_v 3 (pv 3)) (sp_v 4 (pv 4)))))))))) (SE.pk (se_mul (SE.pk (se_mul (SE.pk (se_mul (SE.pk se_int) (SE.pk (se_ix hK (sp_v 0 (pv 0)) (SE.pk se_int) (fun _ _ => rfl))))) (sp_v 4 (pv 4)))) (sp_v 5 (pv 5))))))
      (ss_one (ss_ret (se_tup (sa_cons (SE.fz (se_call hK G_worth mon_worth hr (by rfl) (sa_cons (SE.fz (se_v 0 (pv 0))) (sa_cons (SE.fz (se_tup (sa_cons (SE.fz (se_v 2 (pv 2))) (sa_cons (SE.fz (se_v 4 (pv 4))) sa_nil)))) sa_nil)))) (sa_cons (SE.fz (se_v 6 (pv 6))) (sa_cons (SE.fz (se_call hK G_worth mon_worth hr (by rfl) (sa_cons (SE.fz (se_v 0 (pv 0))) (sa_cons (SE.fz (se_tup (sa_cons (SE.fz (se_v 3 (pv 3))) (sa_cons (SE.fz (se_v 5 (pv 5))) sa_nil)))) sa_nil)))) sa_nil))))))))) hw_act

abbrev s_determinant : Stmt := topS 8
theorem sc_determinant : FnScope N_determinant ["m"] (defScope s_determinant) := ⟨rfl, rfl, rfl, by decide +kernel, rfl, by decide +kernel, by decide +kernel⟩
theorem ok_determinant {k : Nat} {f : Addr} {fd : FuncData} (F : Fun K "determinant" "determinant" s_determinant f fd) : FnOk P w K mg base CX0 (k + 1) f fd ["m"] (spD K sp_determinant) :=
  fn_ok F sc_determinant len_determinant (fun cdv A outer s H E c hK hr => by
    unfold c_determinant
    have nd := sc_determinant.nd
    exact (ss_one (ss_ret (se_sub (SE.pk (se_mul (SE.pk (se_ix hK (sp_v 0 (pv 0)) (SE.pk se_int) (fun _ _ => rfl))) (SE.pk (se_ix hK (sp_v 0 (pv 0)) (SE.pk se_int) (fun _ _ => rfl))))) (SE.pk (se_mul (SE.pk (se_ix hK (sp_v 0 (pv 0)) (SE.pk se_int) (fun _ _ => rfl))) (SE.pk (se_ix hK (sp_v 0 (pv 0)) (SE.pk se_int) (fun _ _ => rfl))))))))) hw_determinant

abbrev s_inverse : Stmt := topS 9
theorem sc_inverse : FnScope N_inverse ["m"] (defScope s_inverse) := ⟨rfl, rfl, rfl, by decide +kernel, rfl, by decide +kernel, by decide +kernel⟩
theorem ok_inverse {k : Nat} {f : Addr} {fd : FuncData} (F : Fun K "inverse" "inverse" s_inverse f fd) (G_determinant : FnIn P w K mg base k "determinant" sp_determinant) : FnOk P w K mg base CX0 (k + 1) f fd ["m"] (spD K sp_inverse) :=
  fn_ok F sc_inverse len_inverse (fun cdv A outer s H E c hK hr => by
    unfold c_inverse
    have nd := sc_inverse.nd
    exact (ss_cons (ss_set (i := 1) nd rfl (by first | exact Or.inl rfl | exact Or.inr rfl) (se_call hK G_determinant mon_determinant hr (by rfl) (sa_cons (SE.fz (se_v 0 (pv 0))) sa_nil)))
      (ss_one (ss_ret (se_tup (sa_cons (SE.fz (se_mul (sp_v 1 (pv 1)) (SE.pk (se_ix hK (sp_v 0 (pv 0)) (SE.pk se_int) (fun _ _ => rfl))))) (sa_cons (SE.fz (se_mul (SE.pk (se_neg (sp_v 1 (pv 1)))) (SE.pk (se_ix hK (sp_v 0 (pv 0)) (SE.pk se_int) (fun _ _ => rfl))))) (sa_cons (SE.fz (se_mul (SE.pk (se_neg (sp_v 1 (pv 1)))) (SE.pk (se_ix hK (sp_v 0 (pv 0)) (SE.pk se_int) (fun _ _ => rfl))))) (sa_cons (SE.fz (se_mul (sp_v 1 (pv 1)) (SE.pk (se_ix hK (sp_v 0 (pv 0)) (SE.pk se_int) (fun _ _ => rfl))))) sa_nil))))))))) hw_inverse

abbrev s_apply : Stmt := topS 10
theorem sc_apply : FnScope N_apply ["m", "point"] (defScope s_apply) := ⟨rfl, rfl, rfl, by decide +kernel, rfl, by decide +kernel, by decide +kernel⟩
theorem ok_apply {k : Nat} {f : Addr} {fd : FuncData} (F : Fun K "apply" "apply" s_apply f fd) : FnOk P w K mg base CX0 (k + 1) f fd ["m", "point"] (spD K sp_apply) :=
  fn_ok F sc_apply len_apply (fun cdv A outer s H E c hK hr => by
    unfold c_apply
    have nd := sc_apply.nd
    exact (ss_one (ss_ret (se_tup (sa_cons (SE.fz (se_add hK (SE.pk (se_mul (SE.pk (se_ix hK (sp_v 0 (pv 0)) (SE.pk se_int) (fun _ _ => rfl))) (SE.pk (se_ix hK (sp_v 1 (pv 1)) (SE.pk se_int) (fun _ _ => rfl))))) (SE.pk (se_mul (SE.pk (se_ix hK (sp_v 0 (pv 0)) (SE.pk se_int) (fun _ _ => rfl))) (SE.pk (se_ix hK (sp_v 1 (pv 1)) (SE.pk se_int) (fun _ _ => rfl))))))) (sa_cons (SE.fz (se_add hK (SE.pk (se_mul (SE.pk (se_ix hK (sp_v 0 (pv 0)) (SE.pk se_int) (fun _ _ => rfl))) (SE.pk (se_ix hK (sp_v 1 (pv 1)) (SE.pk se_int) (fun _ _ => rfl))))) (SE.pk (se_mul (SE.pk (se_ix hK (sp_v 0 (pv 0)) (SE.pk se_int) (fun _ _ => rfl))) (SE.pk (se_ix hK (sp_v 1 (pv 1)) (SE.pk se_int) (fun _ _ => rfl))))))) sa_nil)))))) hw_apply

abbrev s_change_equation : Stmt := topS 12
theorem sc_change_equation : FnScope N_change_equation ["equation", "m", "shift"] (defScope s_change_equation) := ⟨rfl, rfl, rfl, by decide +kernel, rfl, by decide +kernel, by decide +kernel⟩
theorem ok_change_equation {k : Nat} {f : Addr} {fd : FuncData} (F : Fun K "change_equation" "change_equation" s_change_equation f fd) (G_act : FnIn P w K mg base k "act" sp_act) : FnOk P w K mg base CX0 (k + 1) f fd ["equation", "m", "shift"] (spD K sp_change_equation) :=
  fn_ok F sc_change_equation len_change_equation (fun cdv A outer s H E c hK hr => by
    unfold c_change_equation
    have nd := sc_change_equation.nd
    exact (ss_cons (ss_asg (SE.fz (se_v 0 (pv 0))) (sg_tup hK rfl (sg_cons (sg_n (i := 3) nd rfl (by first | exact Or.inl rfl | exact Or.inr rfl)) (sg_cons (sg_n (i := 4) nd rfl (by first | exact Or.inl rfl | exact Or.inr rfl)) (sg_cons (sg_n (i := 5) nd rfl (by first | exact Or.inl rfl | exact Or.inr rfl)) (sg_cons (sg_n (i := 6) nd rfl (by first | exact Or.inl rfl | exact Or.inr rfl)) (sg_cons (sg_n (i := 7) nd rfl (by first | exact Or.inl rfl | exact Or.inr rfl)) (sg_cons (sg_n (i := 8) nd rfl (by first | exact Or.inl rfl | exact Or.inr rfl)) sg_nil))))))))
      (ss_cons (ss_asg (SE.fz (se_v 2 (pv 2))) (sg_tup hK rfl (sg_cons (sg_n (i := 9) nd rfl (by first | exact Or.inl rfl | exact Or.inr rfl)) (sg_cons (sg_n (i := 10) nd rfl (by first | exact Or.inl rfl | exact Or.inr rfl)) sg_nil))))
      (ss_cons (ss_set (i := 11) nd rfl (by first | exact Or.inl rfl | exact Or.inr rfl) (se_add hK (SE.pk (se_add hK (SE.pk (se_mul (SE.pk (se_mul (SE.pk se_int) (sp_v 3 (pv 3)))) (sp_v 9 (pv 9)))) (SE.pk (se_mul (sp_v 4 (pv 4)) (sp_v 10 (pv 10)))))) (sp_v 6 (pv 6))))
      (ss_cons (ss_set (i := 12) nd rfl (by first | exact Or.inl rfl | exact Or.inr rfl) (se_add hK (SE.pk (se_add hK (SE.pk (se_mul (sp_v 4 (pv 4)) (sp_v 9 (pv 9)))) (SE.pk (se_mul (SE.pk (se_mul (SE.pk se_int) (sp_v 5 (pv 5)))) (sp_v 10 (pv 10)))))) (sp_v 7 (pv 7))))
      (ss_cons (ss_set (i := 13) nd rfl (by first | exact Or.inl rfl | exact Or.inr rfl) (se_add hK (SE.pk (se_add hK (SE.pk (se_add hK (SE.pk (se_add hK (SE.pk (se_add hK (SE.pk (se_mul (SE.pk (se_mul (sp_v 3 (pv 3)) (sp_v 9 (pv 9)))) (sp_v 9 (pv 9)))) (SE.pk (se_mul (SE.pk (se_mul (sp_v 4 (pv 4)) (sp_v 9 (pv 9)))) (sp_v 10 (pv 10)))))) (SE.pk (se_mul (SE.pk (se_mul (sp_v 5 (pv 5)) (sp_v 10 (pv 10)))) (sp_v 10 (pv 10)))))) (SE.pk (se_mul (sp_v 6 (pv 6)) (sp_v 9 (pv 9)))))) (SE.pk (se_mul (sp_v 7 (pv 7)) (sp_v 10 (pv 10)))))) (sp_v 8 (pv 8))))
      (ss_cons (ss_set (i := 14) nd rfl (by first | exact Or.inl rfl | exact Or.inr rfl) (se_call hK G_act mon_act hr (by rfl) (sa_cons (SE.fz (se_tup (sa_cons (SE.fz (se_v 3 (pv 3))) (sa_cons (SE.fz (se_v 4 (pv 4))) (sa_cons (SE.fz (se_v 5 (pv 5))) sa_nil))))) (sa_cons (SE.fz (se_v 1 (pv 1))) sa_nil))))
      (ss_one (ss_ret (se_tup (sa_cons (SE.fz (se_ix hK (sp_v 14 (pv 14)) (SE.pk se_int) (fun _ _ => rfl))) (sa_cons (SE.fz (se_ix hK (sp_v 14 (pv 14)) (SE.pk se_int) (fun _ _ => rfl))) (sa_cons (SE.fz (se_ix hK (sp_v 14 (pv 14)) (SE.pk se_int) (fun _ _ => rfl))) (sa_cons (SE.fz (se_add hK (SE.pk (se_mul (sp_v 11 (pv 11)) (SE.pk (se_ix hK (sp_v 1 (pv 1)) (SE.pk se_int) (fun _ _ => rfl))))) (SE.pk (se_mul (sp_v 12 (pv 12)) (SE.pk (se_ix hK (sp_v 1 (pv 1)) (SE.pk se_int) (fun _ _ => rfl))))))) (sa_cons (SE.fz (se_add hK (SE.pk (se_mul (sp_v 11 (pv 11)) (SE.pk (se_ix hK (sp_v 1 (pv 1)) (SE.pk se_int) (fun _ _ => rfl))))) (SE.pk (se_mul (sp_v 12 (pv 12)) (SE.pk (se_ix hK (sp_v 1 (pv 1)) (SE.pk se_int) (fun _ _ => rfl))))))) (sa_cons (SE.fz (se_v 13 (pv 13))) sa_nil)))))))))))))))) hw_change_equation

abbrev s_old_point : Stmt := topS 13
theorem sc_old_point : FnScope N_old_point ["m", "shift", "point"] (defScope s_old_point) := ⟨rfl, rfl, rfl, by decide +kernel, rfl, by decide +kernel, by decide +kernel⟩
theorem ok_old_point {k : Nat} {f : Addr} {fd : FuncData} (F : Fun K "old_point" "old_point" s_old_point f fd) (G_apply : FnIn P w K mg base k "apply" sp_apply) : FnOk P w K mg base CX0 (k + 1) f fd ["m", "shift", "point"] (spD K sp_old_point) :=
  fn_ok F sc_old_point len_old_point (fun cdv A outer s H E c hK hr => by
    unfold c_old_point
    have nd := sc_old_point.nd
    exact (ss_cons (ss_asg (SE.fz (se_call hK G_apply mon_apply hr (by rfl) (sa_cons (SE.fz (se_v 0 (pv 0))) (sa_cons (SE.fz (se_v 2 (pv 2))) sa_nil)))) (sg_tup hK rfl (sg_cons (sg_n (i := 3) nd rfl (by first | exact Or.inl rfl | exact Or.inr rfl)) (sg_cons (sg_n (i := 4) nd rfl (by first | exact Or.inl rfl | exact Or.inr rfl)) sg_nil))))
      (ss_one (ss_ret (se_tup (sa_cons (SE.fz (se_add hK (sp_v 3 (pv 3)) (SE.pk (se_ix hK (sp_v 1 (pv 1)) (SE.pk se_int) (fun _ _ => rfl))))) (sa_cons (SE.fz (se_add hK (sp_v 4 (pv 4)) (SE.pk (se_ix hK (sp_v 1 (pv 1)) (SE.pk se_int) (fun _ _ => rfl))))) sa_nil))))))) hw_old_point

abbrev s_new_point : Stmt := topS 14
theorem sc_new_point : FnScope N_new_point ["m", "shift", "point"] (defScope s_new_point) := ⟨rfl, rfl, rfl, by decide +kernel, rfl, by decide +kernel, by decide +kernel⟩
theorem ok_new_point {k : Nat} {f : Addr} {fd : FuncData} (F : Fun K "new_point" "new_point" s_new_point f fd) (G_apply : FnIn P w K mg base k "apply" sp_apply) (G_inverse : FnIn P w K mg base k "inverse" sp_inverse) : FnOk P w K mg base CX0 (k + 1) f fd ["m", "shift", "point"] (spD K sp_new_point) :=
  fn_ok F sc_new_point len_new_point (fun cdv A outer s H E c hK hr => by
    unfold c_new_point
    have nd := sc_new_point.nd
    exact (ss_one (ss_ret (se_call hK G_apply mon_apply hr (by rfl) (sa_cons (SE.fz (se_call hK G_inverse mon_inverse hr (by rfl) (sa_cons (SE.fz (se_v 0 (pv 0))) sa_nil))) (sa_cons (SE.fz (se_tup (sa_cons (SE.fz (se_sub (SE.pk (se_ix hK (sp_v 2 (pv 2)) (SE.pk se_int) (fun _ _ => rfl))) (SE.pk (se_ix hK (sp_v 1 (pv 1)) (SE.pk se_int) (fun _ _ => rfl))))) (sa_cons (SE.fz (se_sub (SE.pk (se_ix hK (sp_v 2 (pv 2)) (SE.pk se_int) (fun _ _ => rfl))) (SE.pk (se_ix hK (sp_v 1 (pv 1)) (SE.pk se_int) (fun _ _ => rfl))))) sa_nil)))) sa_nil)))))) hw_new_point

abbrev s_scale_equation : Stmt := topS 15
theorem sc_scale_equation : FnScope N_scale_equation ["equation", "number"] (defScope s_scale_equation) := ⟨rfl, rfl, rfl, by decide +kernel, rfl, by decide +kernel, by decide +kernel⟩
theorem ok_scale_equation {k : Nat} {f : Addr} {fd : FuncData} (F : Fun K "scale_equation" "scale_equation" s_scale_equation f fd) (m_tuple : mg "tuple" = none) : FnOk P w K mg base CX0 (k + 1) f fd ["equation", "number"] (spD K sp_scale_equation) :=
  fn_ok F sc_scale_equation len_scale_equation (fun cdv A outer s H E c hK hr => by
    unfold c_scale_equation
    have nd := sc_scale_equation.nd
    exact (ss_one (ss_ret (se_tuple hK (by rfl) m_tuple (SE.pk (se_lc s rfl nd (si_seq hK (SE.fz (se_v 0 (pv 0)))) (own := [("part", 2)]) ⟨blkOk_by (N := N_scale_equation) (show blkC N_scale_equation (defScope s_scale_equation) _ _ = true by decide +kernel), (fun c' hK' s' H' C' cl' fp' => (sg_n (i := 2) nd rfl (by first | exact Or.inl rfl | exact Or.inr rfl))), (fun c' hK' s' H' C' cl' fp' => sts_nil), (fun c' hK' s' H' C' cl' fp' => (se_mul (sp_v 2 (pv 2)) (sp_v 1 (pv 1)))), by decide⟩)))))) hw_scale_equation

abbrev s_turn_over : Stmt := topS 16
theorem sc_turn_over : FnScope N_turn_over ["equation"] (defScope s_turn_over) := ⟨rfl, rfl, rfl, by decide +kernel, rfl, by decide +kernel, by decide +kernel⟩
theorem ok_turn_over {k : Nat} {f : Addr} {fd : FuncData} (F : Fun K "turn_over" "turn_over" s_turn_over f fd) : FnOk P w K mg base CX0 (k + 1) f fd ["equation"] (spD K sp_turn_over) :=
  fn_ok F sc_turn_over len_turn_over (fun cdv A outer s H E c hK hr => by
    unfold c_turn_over
    have nd := sc_turn_over.nd
    exact (ss_cons (ss_asg (SE.fz (se_v 0 (pv 0))) (sg_tup hK rfl (sg_cons (sg_n (i := 1) nd rfl (by first | exact Or.inl rfl | exact Or.inr rfl)) (sg_cons (sg_n (i := 2) nd rfl (by first | exact Or.inl rfl | exact Or.inr rfl)) (sg_cons (sg_n (i := 3) nd rfl (by first | exact Or.inl rfl | exact Or.inr rfl)) (sg_cons (sg_n (i := 4) nd rfl (by first | exact Or.inl rfl | exact Or.inr rfl)) (sg_cons (sg_n (i := 5) nd rfl (by first | exact Or.inl rfl | exact Or.inr rfl)) (sg_cons (sg_n (i := 6) nd rfl (by first | exact Or.inl rfl | exact Or.inr rfl)) sg_nil))))))))
      (ss_one (ss_ret (se_tup (sa_cons (SE.fz (se_v 3 (pv 3))) (sa_cons (SE.fz (se_v 2 (pv 2))) (sa_cons (SE.fz (se_v 1 (pv 1))) (sa_cons (SE.fz (se_v 5 (pv 5))) (sa_cons (SE.fz (se_v 4 (pv 4))) (sa_cons (SE.fz (se_v 6 (pv 6))) sa_nil))))))))))) hw_turn_over

abbrev s_value : Stmt := topS 18
theorem sc_value : FnScope N_value ["equation", "point"] (defScope s_value) := ⟨rfl, rfl, rfl, by decide +kernel, rfl, by decide +kernel, by decide +kernel⟩
theorem ok_value {k : Nat} {f : Addr} {fd : FuncData} (F : Fun K "value" "value" s_value f fd) : FnOk P w K mg base CX0 (k + 1) f fd ["equation", "point"] (spD K sp_value) :=
  fn_ok F sc_value len_value (fun cdv A outer s H E c hK hr => by
    unfold c_value
    have nd := sc_value.nd
    exact (ss_cons (ss_asg (SE.fz (se_v 0 (pv 0))) (sg_tup hK rfl (sg_cons (sg_n (i := 2) nd rfl (by first | exact Or.inl rfl | exact Or.inr rfl)) (sg_cons (sg_n (i := 3) nd rfl (by first | exact Or.inl rfl | exact Or.inr rfl)) (sg_cons (sg_n (i := 4) nd rfl (by first | exact Or.inl rfl | exact Or.inr rfl)) (sg_cons (sg_n (i := 5) nd rfl (by first | exact Or.inl rfl | exact Or.inr rfl)) (sg_cons (sg_n (i := 6) nd rfl (by first | exact Or.inl rfl | exact Or.inr rfl)) (sg_cons (sg_n (i := 7) nd rfl (by first | exact Or.inl rfl | exact Or.inr rfl)) sg_nil))))))))
      (ss_cons (ss_asg (SE.fz (se_v 1 (pv 1))) (sg_tup hK rfl (sg_cons (sg_n (i := 8) nd rfl (by first | exact Or.inl rfl | exact Or.inr rfl)) (sg_cons (sg_n (i := 9) nd rfl (by first | exact Or.inl rfl | exact Or.inr rfl)) sg_nil))))
      (ss_one (ss_ret (se_add hK (SE.pk (se_add hK (SE.pk (se_add hK (SE.pk (se_add hK (SE.pk (se_add hK (SE.pk (se_mul (SE.pk (se_mul (sp_v 2 (pv 2)) (sp_v 8 (pv 8)))) (sp_v 8 (pv 8)))) (SE.pk (se_mul (SE.pk (se_mul (sp_v 3 (pv 3)) (sp_v 8 (pv 8)))) (sp_v 9 (pv 9)))))) (SE.pk (se_mul (SE.pk (se_mul (sp_v 4 (pv 4)) (sp_v 9 (pv 9)))) (sp_v 9 (pv 9)))))) (SE.pk (se_mul (sp_v 5 (pv 5)) (sp_v 8 (pv 8)))))) (SE.pk (se_mul (sp_v 6 (pv 6)) (sp_v 9 (pv 9)))))) (sp_v 7 (pv 7)))))))) hw_value

abbrev s_centre : Stmt := topS 19
theorem sc_centre : FnScope N_centre ["equation"] (defScope s_centre) := ⟨rfl, rfl, rfl, by decide +kernel, rfl, by decide +kernel, by decide +kernel⟩
theorem ok_centre {k : Nat} {f : Addr} {fd : FuncData} (F : Fun K "centre" "centre" s_centre f fd) (G_discriminant : FnIn P w K mg base k "discriminant" sp_discriminant) (G_measure : FnIn P w K mg base k "measure" sp_measure) : FnOk P w K mg base CX0 (k + 1) f fd ["equation"] (spD K sp_centre) :=
  fn_ok F sc_centre len_centre (fun cdv A outer s H E c hK hr => by
    unfold c_centre
    have nd := sc_centre.nd
    exact (ss_cons (ss_asg (SE.fz (se_v 0 (pv 0))) (sg_tup hK rfl (sg_cons (sg_n (i := 1) nd rfl (by first | exact Or.inl rfl | exact Or.inr rfl)) (sg_cons (sg_n (i := 2) nd rfl (by first | exact Or.inl rfl | exact Or.inr rfl)) (sg_cons (sg_n (i := 3) nd rfl (by first | exact Or.inl rfl | exact Or.inr rfl)) (sg_cons (sg_n (i := 4) nd rfl (by first | exact Or.inl rfl | exact Or.inr rfl)) (sg_cons (sg_n (i := 5) nd rfl (by first | exact Or.inl rfl | exact Or.inr rfl)) (sg_cons (sg_n (i := 6) nd rfl (by first | exact Or.inl rfl | exact Or.inr rfl)) sg_nil))))))))
      (ss_cons (ss_set (i := 7) nd rfl (by first | exact Or.inl rfl | exact Or.inr rfl) (se_call hK G_discriminant mon_discriminant hr (by rfl) (sa_cons (SE.fz (se_tup (sa_cons (SE.fz (se_v 1 (pv 1))) (sa_cons (SE.fz (se_v 2 (pv 2))) (sa_cons (SE.fz (se_v 3 (pv 3))) sa_nil))))) sa_nil)))
      (ss_cons (ss_set (i := 8) nd rfl (by first | exact Or.inl rfl | exact Or.inr rfl) (se_sub (SE.pk (se_mul (SE.pk (se_mul (SE.pk se_int) (sp_v 3 (pv 3)))) (sp_v 4 (pv 4)))) (SE.pk (se_mul (sp_v 2 (pv 2)) (sp_v 5 (pv 5))))))
      (ss_cons (ss_set (i := 9) nd rfl (by first | exact Or.inl rfl | exact Or.inr rfl) (se_sub (SE.pk (se_mul (SE.pk (se_mul (SE.pk se_int) (sp_v 1 (pv 1)))) (sp_v 5 (pv 5)))) (SE.pk (se_mul (sp_v 2 (pv 2)) (sp_v 4 (pv 4))))))
      (ss_cons (ss_set (i := 10) nd rfl (by first | exact Or.inl rfl | exact Or.inr rfl) (se_call hK G_measure mon_measure hr (by rfl) (sa_cons (SE.fz (se_tup (sa_cons (SE.fz (se_v 7 (pv 7))) (sa_cons (SE.fz (se_v 8 (pv 8))) (sa_cons (SE.fz (se_v 9 (pv 9))) sa_nil))))) sa_nil)))
      (ss_cons (ss_if (st_lt (sp_v 7 (pv 7)) (SE.pk se_int)) (ss_one (ss_set (i := 10) nd rfl (by first | exact Or.inl rfl | exact Or.inr rfl) (se_neg (sp_v 10 (pv 10))))) ss_nil)
      (ss_one (ss_ret (se_tup (sa_cons (SE.fz (se_div (sp_v 7 (pv 7)) (sp_v 10 (pv 10)))) (sa_cons (SE.fz (se_div (sp_v 8 (pv 8)) (sp_v 10 (pv 10)))) (sa_cons (SE.fz (se_div (sp_v 9 (pv 9)) (sp_v 10 (pv 10)))) sa_nil))))))))))))) hw_centre

abbrev s_Lcell : Stmt := topS 21
theorem sc_Lcell : FnScope N_Lcell ["_law_script", "_law_k"] (defScope s_Lcell) := ⟨rfl, rfl, rfl, by decide +kernel, rfl, by decide +kernel, by decide +kernel⟩
theorem ok_Lcell {k : Nat} {f : Addr} {fd : FuncData} (F : Fun K "_law_cell" "_law_cell" s_Lcell f fd) (m_len : mg "len" = none) : FnOk P w K mg base CX0 (k + 1) f fd ["_law_script", "_law_k"] (spD K sp_Lcell) :=
  fn_ok F sc_Lcell len_Lcell (fun cdv A outer s H E c hK hr => by
    unfold c_Lcell
    have nd := sc_Lcell.nd
    exact (ss_cons (ss_if (st_lt (sp_v 1 (pv 1)) (SE.pk (se_len hK (by rfl) m_len (sp_v 0 (pv 0))))) (ss_one (ss_ret (se_ix hK (sp_v 0 (pv 0)) (sp_v 1 (pv 1)) (fun _ _ => rfl)))) ss_nil)
      (ss_one (ss_ret se_int)))) hw_Lcell

abbrev s_Lnumbers : Stmt := topS 22
theorem sc_Lnumbers : FnScope N_Lnumbers ["_law_cell_here", "_law_many"] (defScope s_Lnumbers) := ⟨rfl, rfl, rfl, by decide +kernel, rfl, by decide +kernel, by decide +kernel⟩
theorem ok_Lnumbers {k : Nat} {f : Addr} {fd : FuncData} (F : Fun K "_law_numbers" "_law_numbers" s_Lnumbers f fd) (m_abs : mg "abs" = none) (m_range : mg "range" = none) (m_int : mg "int" = none) : FnOk P w K mg base CX0 (k + 1) f fd ["_law_cell_here", "_law_many"] (spD K sp_Lnumbers) :=
  fn_ok F sc_Lnumbers len_Lnumbers (fun cdv A outer s H E c hK hr => by
    unfold c_Lnumbers
    have nd := sc_Lnumbers.nd
    exact (ss_cons (ss_set (i := 2) nd rfl (by first | exact Or.inl rfl | exact Or.inr rfl) (se_abs (by rfl) m_abs (sp_v 0 (pv 0))))
      (ss_cons (ss_set (i := 3) nd rfl (by first | exact Or.inl rfl | exact Or.inr rfl) (se_v 2 (pv 2)))
      (ss_cons (ss_set (i := 4) nd rfl (by first | exact Or.inl rfl | exact Or.inr rfl) (se_lst sa_nil))
      (ss_cons (ss_for PassesOwn.never rfl (si_r1 (by rfl) m_range (sp_v 1 (pv 1))) (sg_n (i := 5) nd rfl (by first | exact Or.inl rfl | exact Or.inr rfl)) (ss_one (ss_if (st_w (sw_and (st_ge (sp_v 3 (pv 3)) (SE.pk (se_pow (SE.pk se_int) (SE.pk se_int)))) (sw_and1 (st_gt (sp_v 2 (pv 2)) (SE.pk se_int))))) (ss_cons (ss_app 4 (pv 4) (SE.fz (se_mod (SE.pk (se_toInt (by rfl) m_int (sp_v 2 (pv 2)))) (SE.pk se_int))))
      (ss_one (ss_set (i := 2) nd rfl (by first | exact Or.inl rfl | exact Or.inr rfl) (se_div (sp_v 2 (pv 2)) (SE.pk se_int))))) (ss_cons (ss_set (i := 6) nd rfl (by first | exact Or.inl rfl | exact Or.inr rfl) (se_mod (SE.pk (se_toInt (by rfl) m_int (SE.pk (se_add hK (SE.pk (se_add hK (SE.pk (se_mul (sp_v 3 (pv 3)) (SE.pk se_int))) (SE.pk (se_mul (sp_v 5 (pv 5)) (SE.pk se_int))))) (SE.pk se_int))))) (SE.pk se_int)))
      (ss_cons (ss_set (i := 6) nd rfl (by first | exact Or.inl rfl | exact Or.inr rfl) (se_mod (SE.pk (se_toInt (by rfl) m_int (SE.pk (se_add hK (SE.pk (se_add hK (SE.pk (se_mul (sp_v 6 (pv 6)) (sp_v 6 (pv 6)))) (SE.pk (se_mul (SE.pk se_int) (sp_v 5 (pv 5)))))) (SE.pk se_int))))) (SE.pk se_int)))
      (ss_one (ss_app 4 (pv 4) (SE.fz (se_mod (SE.pk (se_toInt (by rfl) m_int (SE.pk (se_div (sp_v 6 (pv 6)) (SE.pk se_int))))) (SE.pk se_int))))))))))
      (ss_one (ss_retV 4 (pv 4)))))))) hw_Lnumbers

abbrev s_Lstate : Stmt := topS 23
theorem sc_Lstate : FnScope N_Lstate ["_law_script"] (defScope s_Lstate) := ⟨rfl, rfl, rfl, by decide +kernel, rfl, by decide +kernel, by decide +kernel⟩
theorem ok_Lstate0 {k : Nat} {f : Addr} {fd : FuncData} (F : Fun K "_law_state" "_law_state" s_Lstate f fd) (m_range : mg "range" = none) (m_abs : mg "abs" = none) (G_Lnumbers : FnIn P w K mg base k "_law_numbers" sp_Lnumbers) (G_Lcell : FnIn P w K mg base k "_law_cell" sp_Lcell) : FnOk P w K mg base CX0 (k + 1) f fd ["_law_script"] (spD K sp_Lstate0) :=
  fn_ok F sc_Lstate len_Lstate0 (fun cdv A outer s H E c hK hr => by
    unfold c_Lstate
    have nd := sc_Lstate.nd
    exact (ss_cons (ss_set (i := 1) nd rfl (by first | exact Or.inl rfl | exact Or.inr rfl) (se_lst sa_nil))
      (ss_cons (ss_for PassesOwn.never rfl (si_r1 (by rfl) m_range (SE.pk se_int)) (sg_n (i := 2) nd rfl (by first | exact Or.inl rfl | exact Or.inr rfl)) (ss_one (ss_set (i := 1) nd rfl (by first | exact Or.inl rfl | exact Or.inr rfl) (se_add hK (sp_v 1 (pv 1)) (SE.pk (se_call hK G_Lnumbers mon_Lnumbers hr (by rfl) (sa_cons (SE.fz (se_add hK (SE.pk (se_abs (by rfl) m_abs (SE.pk (se_call hK G_Lcell mon_Lcell hr (by rfl) (sa_cons (SE.fz (se_v 0 (pv 0))) (sa_cons (SE.fz (se_v 2 (pv 2))) sa_nil)))))) (SE.pk (se_mul (SE.pk se_int) (sp_v 2 (pv 2)))))) (sa_cons (SE.fz se_int) sa_nil))))))))
      (ss_one (ss_ret (se_lst (sa_cons (SE.fz (se_v 1 (pv 1))) (sa_cons (SE.fz se_int) sa_nil)))))))) hw_Lstate0

abbrev s_Lnext : Stmt := topS 24
theorem sc_Lnext : FnScope N_Lnext ["_law_state_here", "_law_many"] (defScope s_Lnext) := ⟨rfl, rfl, rfl, by decide +kernel, rfl, by decide +kernel, by decide +kernel⟩
theorem ok_Lnext {k : Nat} {f : Addr} {fd : FuncData} (F : Fun K "_law_next" "_law_next" s_Lnext f fd) (m_len : mg "len" = none) (m_int : mg "int" = none) : FnOk P w K mg base CX0 (k + 1) f fd ["_law_state_here", "_law_many"] (spD K sp_Lnext) := by
  refine F.ok sc_Lnext (fun vs H Q E h => ?_) (fun cdv A outer s H vs Q E hr h => ?_)
  · obtain ⟨ω, ds, tk, _, _, r, m, c, rfl, _⟩ := h
    rw [r.length]; rfl
  · obtain ⟨ω, ds, tk, sub, st, r, m, c, rfl, rfl, h0, h1, q⟩ := h
    obtain ⟨v0, vr, rfl, b1, b2⟩ := Reps.cons_iff.mp r
    obtain ⟨v1, vr, rfl, b3, b4⟩ := Reps.cons_iff.mp b2
    rw [Reps.nil_iff] at b4; subst b4
    rw [Rep.int_iff] at b3; subst b3
    obtain ⟨a, hg, rfl⟩ := Rep.st_iff.mp b1
    rcases st with ⟨z, _⟩ | ⟨a', k', e, e1, e0, n, ns, e2, hn, hl, hs⟩
    · rw [hg] at z; cases z
    rw [hg] at e; cases e
    cases e1
    refine ⟨_, pss_cons (ps_asg (pe_op op_add (pe_ix ix_list (pv 0) pe_int (fun _ _ => rfl)) pe_int) (pg_sub (pv 0) pe_int set_list))
      (pss_cons (ps_set (i := 2) sc_Lnext.nd rfl (.inl rfl) (pe_op op_add (pe_ix ix_list (pe_ix ix_list (pv 0) pe_int (fun _ _ => rfl)) (pe_op op_modN (pe_callTy call_int1 (by rfl) m_int (by decide +kernel) (pa_cons (pe_op op_mulA (pe_ix ix_list (pv 0) pe_int (fun _ _ => rfl)) pe_int) pa_nil)) (pe_callB call_len_seq (by rfl) m_len PySem.boot_len (pa_cons (pe_ix ix_list (pv 0) pe_int (fun _ _ => rfl)) pa_nil))) (fun _ _ => rfl))
        (pe_op op_mulA (pe_op op_mulA pe_int (pe_ix ix_list (pv 0) pe_int (fun _ _ => rfl))) (pe_op op_add pe_int (pe_op op_fdivN (pe_ix ix_list (pv 0) pe_int (fun _ _ => rfl)) (pe_callB call_len_seq (by rfl) m_len PySem.boot_len (pa_cons (pe_ix ix_list (pv 0) pe_int (fun _ _ => rfl)) pa_nil)))))))
      (pss_one (ps_ret (pe_op op_modN (pe_callTy call_int1 (by rfl) m_int (by decide +kernel) (pa_cons (pv 2) pa_nil)) (pv 1))))), ?_⟩
    have e3 : (upd H a (.lst [.ref n, .int ((c : Int) + 1)])) a = some (.lst [.ref n, .int ((c : Int) + 1)]) := upd_same
    have hn1 : SqL K (upd H a (.lst [.ref n, .int ((c : Int) + 1)])) n (ns.map V.int) := sqL_mono (fun b o h => by
      rw [upd_ne (fun z => by rw [z, e0] at h; cases h)]
      exact sub b o h) hn
    refine ⟨_, rfl, a, _, 1, .int c, rfl, rfl, .of e2, rfl, c, 1, rfl, rfl, _, rfl, a, _, 1, 1, rfl, rfl, e2, rfl, ?_⟩
    have hlen : ((ns.map V.int).length : Int) = 120 := by rw [List.length_map, hl]; rfl
    have hp : 0 ≤ (((c : Int) + 1) * 7).fmod 120 ∧ (((c : Int) + 1) * 7).fmod 120 < 120 := fmod_pos (by decide)
    obtain ⟨x, hx⟩ : ∃ x : Int, atI (ns.map V.int) ((((c : Int) + 1) * 7).fmod 120) = some (.int x) := by
      obtain ⟨j, e⟩ : ∃ j : Nat, (((c : Int) + 1) * 7).fmod 120 = (j : Int) := ⟨((((c : Int) + 1) * 7).fmod 120).toNat, by omega⟩
      have hi : j < ns.length := by omega
      rw [e]
      exact ⟨ns[j], atI_nat (by rw [List.getElem?_map, List.getElem?_eq_getElem hi]; rfl)⟩
    refine ⟨_, rfl, a, _, 0, .ref n, rfl, rfl, .of e3, rfl, _, rfl, a, _, 1, .int ((c : Int) + 1), rfl, rfl, .of e3, rfl, (c : Int) + 1, 7, rfl, rfl, mulOk_r (by decide), .inl ⟨_, rfl, ?_⟩⟩
    refine ⟨_, rfl, a, _, 0, .ref n, rfl, rfl, .of e3, rfl, n, _, rfl, .inl hn1, _, _, rfl, rfl, by rw [hlen]; exact (show (120 : Int) ≠ 0 by decide), ?_⟩
    refine ⟨n, _, _, .int x, rfl, rfl, hn1, by rw [hlen]; exact hx, _, rfl, a, _, 1, .int ((c : Int) + 1), rfl, rfl, .of e3, rfl, 13, (c : Int) + 1, rfl, rfl, mulOk_l (by decide), ?_⟩
    refine ⟨_, rfl, a, _, 1, .int ((c : Int) + 1), rfl, rfl, .of e3, rfl, _, rfl, a, _, 0, .ref n, rfl, rfl, .of e3, rfl, n, _, rfl, .inl hn1, (c : Int) + 1, _, rfl, rfl, ⟨by rw [hlen]; exact (show (120 : Int) ≠ 0 by decide), by rw [hlen]; exact (show (120 : Int).natAbs < 1073741824 by decide)⟩, 1, _, rfl, rfl, _, _, rfl, rfl, mulOk_l (by omega), _, _, rfl, rfl, ?_⟩
    refine ⟨_, rfl, .inl ⟨_, rfl, _, rfl, _, m, rfl, rfl, by omega, ?_⟩⟩
    exact q _ (fmod_pos h0).1 (fmod_pos h0).2 _ ω _ (ret_Lnext sub hg e0 e2 hn hl hs)

abbrev s_Lroot : Stmt := topS 26
theorem sc_Lroot : FnScope N_Lroot ["_law_n"] (defScope s_Lroot) := ⟨rfl, rfl, rfl, by decide +kernel, rfl, by decide +kernel, by decide +kernel⟩
theorem ok_Lroot {k : Nat} {f : Addr} {fd : FuncData} (F : Fun K "_law_root" "_law_root" s_Lroot f fd) (m_range : mg "range" = none) : FnOk P w K mg base CX0 (k + 1) f fd ["_law_n"] (spD K sp_Lroot) :=
  fn_ok F sc_Lroot len_Lroot (fun cdv A outer s H E c hK hr => by
    unfold c_Lroot
    have nd := sc_Lroot.nd
    exact (ss_cons (ss_set (i := 1) nd rfl (by first | exact Or.inl rfl | exact Or.inr rfl) se_int)
      (ss_cons (ss_set (i := 2) nd rfl (by first | exact Or.inl rfl | exact Or.inr rfl) (se_add hK (sp_v 0 (pv 0)) (SE.pk se_int)))
      (ss_cons (ss_for PassesOwn.never rfl (si_r1 (by rfl) m_range (SE.pk se_int)) (sg_n (i := 3) nd rfl (by first | exact Or.inl rfl | exact Or.inr rfl)) (ss_cons (ss_if (st_le (SE.pk (se_sub (sp_v 2 (pv 2)) (sp_v 1 (pv 1)))) (SE.pk se_int)) (ss_one (ss_retV 1 (pv 1))) ss_nil)
      (ss_cons (ss_set (i := 4) nd rfl (by first | exact Or.inl rfl | exact Or.inr rfl) (se_div (SE.pk (se_add hK (sp_v 1 (pv 1)) (sp_v 2 (pv 2)))) (SE.pk se_int)))
      (ss_one (ss_if (st_le (SE.pk (se_mul (sp_v 4 (pv 4)) (sp_v 4 (pv 4)))) (sp_v 0 (pv 0))) (ss_one (ss_set (i := 1) nd rfl (by first | exact Or.inl rfl | exact Or.inr rfl) (se_v 4 (pv 4)))) (ss_one (ss_set (i := 2) nd rfl (by first | exact Or.inl rfl | exact Or.inr rfl) (se_v 4 (pv 4)))))))))
      (ss_one (ss_retV 1 (pv 1))))))) hw_Lroot

abbrev s_Lmeasure_v1 : Stmt := topS 27
theorem sc_Lmeasure_v1 : FnScope N_Lmeasure_v1 ["_law_a", "_law_b"] (defScope s_Lmeasure_v1) := ⟨rfl, rfl, rfl, by decide +kernel, rfl, by decide +kernel, by decide +kernel⟩
theorem ok_Lmeasure_v1 {k : Nat} {f : Addr} {fd : FuncData} (F : Fun K "_law_measure" "_law_measure" s_Lmeasure_v1 f fd) (m_abs : mg "abs" = none) (m_range : mg "range" = none) : FnOk P w K mg base CX0 (k + 1) f fd ["_law_a", "_law_b"] (spD K sp_Lmeasure_v1) :=
  fn_ok F sc_Lmeasure_v1 len_Lmeasure_v1 (fun cdv A outer s H E c hK hr => by
    unfold c_Lmeasure_v1
    have nd := sc_Lmeasure_v1.nd
    exact (ss_cons (ss_set (i := 0) nd rfl (by first | exact Or.inl rfl | exact Or.inr rfl) (se_abs (by rfl) m_abs (sp_v 0 (pv 0))))
      (ss_cons (ss_set (i := 1) nd rfl (by first | exact Or.inl rfl | exact Or.inr rfl) (se_abs (by rfl) m_abs (sp_v 1 (pv 1))))
      (ss_cons (ss_for PassesOwn.never rfl (si_r1 (by rfl) m_range (SE.pk se_int)) (sg_n (i := 2) nd rfl (by first | exact Or.inl rfl | exact Or.inr rfl)) (ss_cons (ss_if (st_eq hK (hu_room hr) (sp_v 1 (pv 1)) (SE.pk se_int)) (ss_one (ss_retV 0 (pv 0))) ss_nil)
      (ss_one (ss_par (i := 0) (j := 1) rfl nd rfl rfl (by decide) rfl rfl (sa_cons (SE.fz (se_v 1 (pv 1))) (sa_cons (SE.fz (se_mod (sp_v 0 (pv 0)) (sp_v 1 (pv 1)))) sa_nil))))))
      (ss_one (ss_retV 0 (pv 0))))))) hw_Lmeasure_v1

abbrev s_Lmul : Stmt := topS 28
theorem sc_Lmul : FnScope N_Lmul ["_law_m", "_law_n"] (defScope s_Lmul) := ⟨rfl, rfl, rfl, by decide +kernel, rfl, by decide +kernel, by decide +kernel⟩
theorem ok_Lmul {k : Nat} {f : Addr} {fd : FuncData} (F : Fun K "_law_mul" "_law_mul" s_Lmul f fd) (m_tuple : mg "tuple" = none) : FnOk P w K mg base CX0 (k + 1) f fd ["_law_m", "_law_n"] (spD K sp_Lmul) :=
  fn_ok F sc_Lmul len_Lmul (fun cdv A outer s H E c hK hr => by
    unfold c_Lmul
    have nd := sc_Lmul.nd
    exact (ss_cons (ss_set (i := 2) nd rfl (by first | exact Or.inl rfl | exact Or.inr rfl) (se_lst (sa_cons (SE.fz (se_add hK (SE.pk (se_mul (SE.pk (se_ix hK (sp_v 0 (pv 0)) (SE.pk se_int) (fun _ _ => rfl))) (SE.pk (se_ix hK (sp_v 1 (pv 1)) (SE.pk se_int) (fun _ _ => rfl))))) (SE.pk (se_mul (SE.pk (se_ix hK (sp_v 0 (pv 0)) (SE.pk se_int) (fun _ _ => rfl))) (SE.pk (se_ix hK (sp_v 1 (pv 1)) (SE.pk se_int) (fun _ _ => rfl))))))) (sa_cons (SE.fz (se_add hK (SE.pk (se_mul (SE.pk (se_ix hK (sp_v 0 (pv 0)) (SE.pk se_int) (fun _ _ => rfl))) (SE.pk (se_ix hK (sp_v 1 (pv 1)) (SE.pk se_int) (fun _ _ => rfl))))) (SE.pk (se_mul (SE.pk (se_ix hK (sp_v 0 (pv 0)) (SE.pk se_int) (fun _ _ => rfl))) (SE.pk (se_ix hK (sp_v 1 (pv 1)) (SE.pk se_int) (fun _ _ => rfl))))))) sa_nil))))
      (ss_one (ss_ret (se_tuple hK (by rfl) m_tuple (SE.pk (se_add hK (sp_v 2 (pv 2)) (SE.pk (se_lst (sa_cons (SE.fz (se_add hK (SE.pk (se_mul (SE.pk (se_ix hK (sp_v 0 (pv 0)) (SE.pk se_int) (fun _ _ => rfl))) (SE.pk (se_ix hK (sp_v 1 (pv 1)) (SE.pk se_int) (fun _ _ => rfl))))) (SE.pk (se_mul (SE.pk (se_ix hK (sp_v 0 (pv 0)) (SE.pk se_int) (fun _ _ => rfl))) (SE.pk (se_ix hK (sp_v 1 (pv 1)) (SE.pk se_int) (fun _ _ => rfl))))))) (sa_cons (SE.fz (se_add hK (SE.pk (se_mul (SE.pk (se_ix hK (sp_v 0 (pv 0)) (SE.pk se_int) (fun _ _ => rfl))) (SE.pk (se_ix hK (sp_v 1 (pv 1)) (SE.pk se_int) (fun _ _ => rfl))))) (SE.pk (se_mul (SE.pk (se_ix hK (sp_v 0 (pv 0)) (SE.pk se_int) (fun _ _ => rfl))) (SE.pk (se_ix hK (sp_v 1 (pv 1)) (SE.pk se_int) (fun _ _ => rfl))))))) sa_nil))))))))))) hw_Lmul

abbrev s_Lat : Stmt := topS 29
theorem sc_Lat : FnScope N_Lat ["_law_m", "_law_x", "_law_y"] (defScope s_Lat) := ⟨rfl, rfl, rfl, by decide +kernel, rfl, by decide +kernel, by decide +kernel⟩
theorem ok_Lat {k : Nat} {f : Addr} {fd : FuncData} (F : Fun K "_law_at" "_law_at" s_Lat f fd) : FnOk P w K mg base CX0 (k + 1) f fd ["_law_m", "_law_x", "_law_y"] (spD K sp_Lat) :=
  fn_ok F sc_Lat len_Lat (fun cdv A outer s H E c hK hr => by
    unfold c_Lat
    have nd := sc_Lat.nd
    exact (ss_one (ss_ret (se_tup (sa_cons (SE.fz (se_add hK (SE.pk (se_mul (SE.pk (se_ix hK (sp_v 0 (pv 0)) (SE.pk se_int) (fun _ _ => rfl))) (sp_v 1 (pv 1)))) (SE.pk (se_mul (SE.pk (se_ix hK (sp_v 0 (pv 0)) (SE.pk se_int) (fun _ _ => rfl))) (sp_v 2 (pv 2)))))) (sa_cons (SE.fz (se_add hK (SE.pk (se_mul (SE.pk (se_ix hK (sp_v 0 (pv 0)) (SE.pk se_int) (fun _ _ => rfl))) (sp_v 1 (pv 1)))) (SE.pk (se_mul (SE.pk (se_ix hK (sp_v 0 (pv 0)) (SE.pk se_int) (fun _ _ => rfl))) (sp_v 2 (pv 2)))))) sa_nil)))))) hw_Lat

abbrev s_Lworth_v1 : Stmt := topS 30
theorem sc_Lworth_v1 : FnScope N_Lworth_v1 ["_law_form_here", "_law_x", "_law_y"] (defScope s_Lworth_v1) := ⟨rfl, rfl, rfl, by decide +kernel, rfl, by decide +kernel, by decide +kernel⟩
theorem ok_Lworth_v1 {k : Nat} {f : Addr} {fd : FuncData} (F : Fun K "_law_worth" "_law_worth" s_Lworth_v1 f fd) : FnOk P w K mg base CX0 (k + 1) f fd ["_law_form_here", "_law_x", "_law_y"] (spD K sp_Lworth_v1) :=
  fn_ok F sc_Lworth_v1 len_Lworth_v1 (fun cdv A outer s H E c hK hr => by
    unfold c_Lworth_v1
    have nd := sc_Lworth_v1.nd
    exact (ss_one (ss_ret (se_add hK (SE.pk (se_add hK (SE.pk (se_mul (SE.pk (se_mul (SE.pk (se_ix hK (sp_v 0 (pv 0)) (SE.pk se_int) (fun _ _ => rfl))) (sp_v 1 (pv 1)))) (sp_v 1 (pv 1)))) (SE.pk (se_mul (SE.pk (se_mul (SE.pk (se_ix hK (sp_v 0 (pv 0)) (SE.pk se_int) (fun _ _ => rfl))) (sp_v 1 (pv 1)))) (sp_v 2 (pv 2)))))) (SE.pk (se_mul (SE.pk (se_mul (SE.pk (se_ix hK (sp_v 0 (pv 0)) (SE.pk se_int) (fun _ _ => rfl))) (sp_v 2 (pv 2)))) (sp_v 2 (pv 2)))))))) hw_Lworth_v1

abbrev s_Lact_v1 : Stmt := topS 31
theorem sc_Lact_v1 : FnScope N_Lact_v1 ["_law_form_here", "_law_m"] (defScope s_Lact_v1) := ⟨rfl, rfl, rfl, by decide +kernel, rfl, by decide +kernel, by decide +kernel⟩
theorem ok_Lact_v1 {k : Nat} {f : Addr} {fd : FuncData} (F : Fun K "_law_act" "_law_act" s_Lact_v1 f fd) (G_Lworth : FnIn P w K mg base k "_law_worth" sp_Lworth_v1) : FnOk P w K mg base CX0 (k + 1) f fd ["_law_form_here", "_law_m"] (spD K sp_Lact_v1) :=
  fn_ok F sc_Lact_v1 len_Lact_v1 (fun cdv A outer s H E c hK hr => by
    unfold c_Lact_v1
    have nd := sc_Lact_v1.nd
    exact (ss_cons (ss_set (i := 2) nd rfl (by first | exact Or.inl rfl | exact Or.inr rfl) (se_call hK G_Lworth mon_Lworth_v1 hr (by rfl) (sa_cons (SE.fz (se_v 0 (pv 0))) (sa_cons (SE.fz (se_ix hK (sp_v 1 (pv 1)) (SE.pk se_int) (fun _ _ => rfl))) (sa_cons (SE.fz (se_ix hK (sp_v 1 (pv 1)) (SE.pk se_int) (fun _ _ => rfl))) sa_nil)))))
      (ss_cons (ss_set (i := 3) nd rfl (by first | exact Or.inl rfl | exact Or.inr rfl) (se_call hK G_Lworth mon_Lworth_v1 hr (by rfl) (sa_cons (SE.fz (se_v 0 (pv 0))) (sa_cons (SE.fz (se_ix hK (sp_v 1 (pv 1)) (SE.pk se_int) (fun _ _ => rfl))) (sa_cons (SE.fz (se_ix hK (sp_v 1 (pv 1)) (SE.pk se_int) (fun _ _ => rfl))) sa_nil)))))
      (ss_one (ss_ret (se_tup (sa_cons (SE.fz (se_v 2 (pv 2))) (sa_cons (SE.fz (se_sub (SE.pk (se_sub (SE.pk (se_call hK G_Lworth mon_Lworth_v1 hr (by rfl) (sa_cons (SE.fz (se_v 0 (pv 0))) (sa_cons (SE.fz (se_add hK (SE.pk (se_ix hK (sp_v 1 (pv 1)) (SE.pk se_int) (fun _ _ => rfl))) (SE.pk (se_ix hK (sp_v 1 (pv 1)) (SE.pk se_int) (fun _ _ => rfl))))) (sa_cons (SE.fz (se_add hK (SE.pk (se_ix hK (sp_v 1 (pv 1)) (SE.pk se_int) (fun _ _ => rfl))) (SE.pk (se_ix hK (sp_v 1 (pv 1)) (SE.pk se_int) (fun _ _ => rfl))))) sa_nil))))) (sp_v 2 (pv 2)))) (sp_v 3 (pv 3)))) (sa_cons (SE.fz (se_v 3 (pv 3))) sa_nil))))))))) hw_Lact_v1

abbrev s_Lchange : Stmt := topS 32
theorem sc_Lchange : FnScope N_Lchange ["_law_state_here", "_law_many"] (defScope s_Lchange) := ⟨rfl, rfl, rfl, by decide +kernel, rfl, by decide +kernel, by decide +kernel⟩
theorem ok_Lchange {k : Nat} {f : Addr} {fd : FuncData} (F : Fun K "_law_change" "_law_change" s_Lchange f fd) (m_range : mg "range" = none) (G_Lnext : FnIn P w K mg base k "_law_next" sp_Lnext) (G_Lmul : FnIn P w K mg base k "_law_mul" sp_Lmul) : FnOk P w K mg base CX0 (k + 1) f fd ["_law_state_here", "_law_many"] (spD K sp_Lchange) :=
  fn_ok F sc_Lchange len_Lchange (fun cdv A outer s H E c hK hr => by
    unfold c_Lchange
    have nd := sc_Lchange.nd
    exact (ss_cons (ss_set (i := 2) nd rfl (by first | exact Or.inl rfl | exact Or.inr rfl) (se_tup (sa_cons (SE.fz se_int) (sa_cons (SE.fz se_int) (sa_cons (SE.fz se_int) (sa_cons (SE.fz se_int) sa_nil))))))
      (ss_cons (ss_for PassesOwn.never rfl (si_r1 (by rfl) m_range (SE.pk (se_call hK G_Lnext mon_Lnext hr (by rfl) (sa_cons (SE.fz (se_v 0 (pv 0))) (sa_cons (SE.fz (se_add hK (sp_v 1 (pv 1)) (SE.pk se_int))) sa_nil))))) (sg_n (i := 3) nd rfl (by first | exact Or.inl rfl | exact Or.inr rfl)) (ss_cons (ss_set (i := 4) nd rfl (by first | exact Or.inl rfl | exact Or.inr rfl) (se_sub (SE.pk (se_call hK G_Lnext mon_Lnext hr (by rfl) (sa_cons (SE.fz (se_v 0 (pv 0))) (sa_cons (SE.fz se_int) sa_nil)))) (SE.pk se_int)))
      (ss_one (ss_set (i := 2) nd rfl (by first | exact Or.inl rfl | exact Or.inr rfl) (se_call hK G_Lmul mon_Lmul hr (by rfl) (sa_cons (SE.fz (se_v 2 (pv 2))) (sa_cons (SE.fz (se_ix hK (SE.pk (se_lst (sa_cons (SE.fz (se_tup (sa_cons (SE.fz se_int) (sa_cons (SE.fz (se_v 4 (pv 4))) (sa_cons (SE.fz se_int) (sa_cons (SE.fz se_int) sa_nil)))))) (sa_cons (SE.fz (se_tup (sa_cons (SE.fz se_int) (sa_cons (SE.fz se_int) (sa_cons (SE.fz (se_v 4 (pv 4))) (sa_cons (SE.fz se_int) sa_nil)))))) (sa_cons (SE.fz (se_tup (sa_cons (SE.fz se_int) (sa_cons (SE.fz (se_neg (SE.pk se_int))) (sa_cons (SE.fz se_int) (sa_cons (SE.fz se_int) sa_nil)))))) sa_nil))))) (SE.pk (se_call hK G_Lnext mon_Lnext hr (by rfl) (sa_cons (SE.fz (se_v 0 (pv 0))) (sa_cons (SE.fz se_int) sa_nil)))) (fun _ _ => rfl))) sa_nil)))))))
      (ss_one (ss_retV 2 (pv 2)))))) hw_Lchange

abbrev s_Lsquare : Stmt := topS 33
theorem sc_Lsquare : FnScope N_Lsquare ["_law_n"] (defScope s_Lsquare) := ⟨rfl, rfl, rfl, by decide +kernel, rfl, by decide +kernel, by decide +kernel⟩
theorem ok_Lsquare {k : Nat} {f : Addr} {fd : FuncData} (F : Fun K "_law_square" "_law_square" s_Lsquare f fd) (G_Lroot : FnIn P w K mg base k "_law_root" sp_Lroot) : FnOk P w K mg base CX0 (k + 1) f fd ["_law_n"] (spD K sp_Lsquare) :=
  fn_ok F sc_Lsquare len_Lsquare (fun cdv A outer s H E c hK hr => by
    unfold c_Lsquare
    have nd := sc_Lsquare.nd
    exact (ss_one (ss_ret (se_sv (sv_and (se_ge (sp_v 0 (pv 0)) (SE.pk se_int)) (sv_one (se_eq hK (hu_room hr) (SE.pk (se_mul (SE.pk (se_call hK G_Lroot mon_Lroot hr (by rfl) (sa_cons (SE.fz (se_v 0 (pv 0))) sa_nil))) (SE.pk (se_call hK G_Lroot mon_Lroot hr (by rfl) (sa_cons (SE.fz (se_v 0 (pv 0))) sa_nil))))) (sp_v 0 (pv 0))))))))) hw_Lsquare

abbrev s_Lkind : Stmt := topS 34
theorem sc_Lkind : FnScope N_Lkind ["_law_form_here"] (defScope s_Lkind) := ⟨rfl, rfl, rfl, by decide +kernel, rfl, by decide +kernel, by decide +kernel⟩
theorem ok_Lkind {k : Nat} {f : Addr} {fd : FuncData} (F : Fun K "_law_kind" "_law_kind" s_Lkind f fd) (m_int : mg "int" = none) (G_Lsquare : FnIn P w K mg base k "_law_square" sp_Lsquare) : FnOk P w K mg base CX0 (k + 1) f fd ["_law_form_here"] (spD K sp_Lkind) :=
  fn_ok F sc_Lkind len_Lkind (fun cdv A outer s H E c hK hr => by
    unfold c_Lkind
    have nd := sc_Lkind.nd
    exact (ss_cons (ss_set (i := 1) nd rfl (by first | exact Or.inl rfl | exact Or.inr rfl) (se_sub (SE.pk (se_mul (SE.pk (se_ix hK (sp_v 0 (pv 0)) (SE.pk se_int) (fun _ _ => rfl))) (SE.pk (se_ix hK (sp_v 0 (pv 0)) (SE.pk se_int) (fun _ _ => rfl))))) (SE.pk (se_mul (SE.pk (se_mul (SE.pk se_int) (SE.pk (se_ix hK (sp_v 0 (pv 0)) (SE.pk se_int) (fun _ _ => rfl))))) (SE.pk (se_ix hK (sp_v 0 (pv 0)) (SE.pk se_int) (fun _ _ => rfl)))))))
      (ss_cons (ss_if (st_lt (sp_v 1 (pv 1)) (SE.pk se_int)) (ss_one (ss_ret se_str)) ss_nil)
      (ss_cons (ss_if (st_eq hK (hu_room hr) (sp_v 1 (pv 1)) (SE.pk se_int)) (ss_one (ss_ret se_str)) ss_nil)
      (ss_one (ss_ret (se_ix hK (SE.pk (se_lst (sa_cons (SE.fz se_str) (sa_cons (SE.fz se_str) sa_nil)))) (SE.pk (se_toInt (by rfl) m_int (SE.pk (se_call hK G_Lsquare mon_Lsquare hr (by rfl) (sa_cons (SE.fz (se_v 1 (pv 1))) sa_nil))))) (fun _ _ => rfl)))))))) hw_Lkind

abbrev s_Lsplit : Stmt := topS 35
theorem sc_Lsplit : FnScope N_Lsplit ["_law_state_here"] (defScope s_Lsplit) := ⟨rfl, rfl, rfl, by decide +kernel, rfl, by decide +kernel, by decide +kernel⟩
theorem ok_Lsplit {k : Nat} {f : Addr} {fd : FuncData} (F : Fun K "_law_split" "_law_split" s_Lsplit f fd) (m_range : mg "range" = none) (G_Lnext : FnIn P w K mg base k "_law_next" sp_Lnext) : FnOk P w K mg base CX0 (k + 1) f fd ["_law_state_here"] (spD K sp_Lsplit) :=
  fn_ok F sc_Lsplit len_Lsplit (fun cdv A outer s H E c hK hr => by
    unfold c_Lsplit
    have nd := sc_Lsplit.nd
    exact (ss_cons (ss_asg (SE.fz (se_lc s rfl nd (si_r1 (by rfl) m_range (SE.pk se_int)) (own := [("_law_k", 6)]) ⟨blkOk_by (N := N_Lsplit) (show blkC N_Lsplit (defScope s_Lsplit) _ _ = true by decide +kernel), (fun c' hK' s' H' C' cl' fp' => (sg_n (i := 6) nd rfl (by first | exact Or.inl rfl | exact Or.inr rfl))), (fun c' hK' s' H' C' cl' fp' => sts_nil), (fun c' hK' s' H' C' cl' fp' => (se_sub (SE.pk (se_call (hK'.trans hK) G_Lnext mon_Lnext hr (by rfl) (sa_cons (SE.fz (se_v 0 (pv 0))) (sa_cons (SE.fz se_int) sa_nil)))) (SE.pk se_int))), by decide⟩)) (sg_lst hK rfl (sg_cons (sg_n (i := 1) nd rfl (by first | exact Or.inl rfl | exact Or.inr rfl)) (sg_cons (sg_n (i := 2) nd rfl (by first | exact Or.inl rfl | exact Or.inr rfl)) (sg_cons (sg_n (i := 3) nd rfl (by first | exact Or.inl rfl | exact Or.inr rfl)) (sg_cons (sg_n (i := 4) nd rfl (by first | exact Or.inl rfl | exact Or.inr rfl)) sg_nil))))))
      (ss_cons (ss_if (st_eq hK (hu_room hr) (SE.pk (se_mul (sp_v 1 (pv 1)) (sp_v 4 (pv 4)))) (SE.pk (se_mul (sp_v 2 (pv 2)) (sp_v 3 (pv 3))))) (ss_one (ss_asg (SE.fz (se_tup (sa_cons (SE.fz se_int) (sa_cons (SE.fz (se_call hK G_Lnext mon_Lnext hr (by rfl) (sa_cons (SE.fz (se_v 0 (pv 0))) (sa_cons (SE.fz se_int) sa_nil)))) (sa_cons (SE.fz se_int) (sa_cons (SE.fz (se_add hK (SE.pk se_int) (SE.pk (se_call hK G_Lnext mon_Lnext hr (by rfl) (sa_cons (SE.fz (se_v 0 (pv 0))) (sa_cons (SE.fz se_int) sa_nil)))))) sa_nil)))))) (sg_tup hK rfl (sg_cons (sg_n (i := 1) nd rfl (by first | exact Or.inl rfl | exact Or.inr rfl)) (sg_cons (sg_n (i := 2) nd rfl (by first | exact Or.inl rfl | exact Or.inr rfl)) (sg_cons (sg_n (i := 3) nd rfl (by first | exact Or.inl rfl | exact Or.inr rfl)) (sg_cons (sg_n (i := 4) nd rfl (by first | exact Or.inl rfl | exact Or.inr rfl)) sg_nil))))))) ss_nil)
      (ss_cons (ss_set (i := 5) nd rfl (by first | exact Or.inl rfl | exact Or.inr rfl) (se_add hK (SE.pk se_int) (SE.pk (se_div (SE.pk (se_call hK G_Lnext mon_Lnext hr (by rfl) (sa_cons (SE.fz (se_v 0 (pv 0))) (sa_cons (SE.fz se_int) sa_nil)))) (SE.pk se_int)))))
      (ss_one (ss_ret (se_tup (sa_cons (SE.fz (se_mul (SE.pk (se_mul (sp_v 5 (pv 5)) (sp_v 1 (pv 1)))) (sp_v 3 (pv 3)))) (sa_cons (SE.fz (se_mul (sp_v 5 (pv 5)) (SE.pk (se_add hK (SE.pk (se_mul (sp_v 1 (pv 1)) (sp_v 4 (pv 4)))) (SE.pk (se_mul (sp_v 2 (pv 2)) (sp_v 3 (pv 3)))))))) (sa_cons (SE.fz (se_mul (SE.pk (se_mul (sp_v 5 (pv 5)) (sp_v 2 (pv 2)))) (sp_v 4 (pv 4)))) sa_nil)))))))))) hw_Lsplit

abbrev s_Lflat : Stmt := topS 36
theorem sc_Lflat : FnScope N_Lflat ["_law_state_here"] (defScope s_Lflat) := ⟨rfl, rfl, rfl, by decide +kernel, rfl, by decide +kernel, by decide +kernel⟩
theorem ok_Lflat {k : Nat} {f : Addr} {fd : FuncData} (F : Fun K "_law_flat" "_law_flat" s_Lflat f fd) (G_Lnext : FnIn P w K mg base k "_law_next" sp_Lnext) : FnOk P w K mg base CX0 (k + 1) f fd ["_law_state_here"] (spD K sp_Lflat) :=
  fn_ok F sc_Lflat len_Lflat (fun cdv A outer s H E c hK hr => by
    unfold c_Lflat
    have nd := sc_Lflat.nd
    exact (ss_cons (ss_set (i := 1) nd rfl (by first | exact Or.inl rfl | exact Or.inr rfl) (se_sub (SE.pk (se_call hK G_Lnext mon_Lnext hr (by rfl) (sa_cons (SE.fz (se_v 0 (pv 0))) (sa_cons (SE.fz se_int) sa_nil)))) (SE.pk se_int)))
      (ss_cons (ss_set (i := 2) nd rfl (by first | exact Or.inl rfl | exact Or.inr rfl) (se_sub (SE.pk (se_call hK G_Lnext mon_Lnext hr (by rfl) (sa_cons (SE.fz (se_v 0 (pv 0))) (sa_cons (SE.fz se_int) sa_nil)))) (SE.pk se_int)))
      (ss_cons (ss_set (i := 3) nd rfl (by first | exact Or.inl rfl | exact Or.inr rfl) (se_ix hK (SE.pk (se_lst (sa_cons (SE.fz se_int) (sa_cons (SE.fz se_int) (sa_cons (SE.fz (se_neg (SE.pk se_int))) (sa_cons (SE.fz se_int) (sa_cons (SE.fz (se_neg (SE.pk se_int))) sa_nil))))))) (SE.pk (se_call hK G_Lnext mon_Lnext hr (by rfl) (sa_cons (SE.fz (se_v 0 (pv 0))) (sa_cons (SE.fz se_int) sa_nil)))) (fun _ _ => rfl)))
      (ss_cons (ss_if (st_w (sw_and (st_eq hK (hu_room hr) (sp_v 1 (pv 1)) (SE.pk se_int)) (sw_and1 (st_eq hK (hu_room hr) (sp_v 2 (pv 2)) (SE.pk se_int))))) (ss_one (ss_set (i := 2) nd rfl (by first | exact Or.inl rfl | exact Or.inr rfl) se_int)) ss_nil)
      (ss_one (ss_ret (se_tup (sa_cons (SE.fz (se_mul (SE.pk (se_mul (sp_v 3 (pv 3)) (sp_v 1 (pv 1)))) (sp_v 1 (pv 1)))) (sa_cons (SE.fz (se_mul (SE.pk (se_mul (SE.pk (se_mul (SE.pk se_int) (sp_v 3 (pv 3)))) (sp_v 1 (pv 1)))) (sp_v 2 (pv 2)))) (sa_cons (SE.fz (se_mul (SE.pk (se_mul (sp_v 3 (pv 3)) (sp_v 2 (pv 2)))) (sp_v 2 (pv 2)))) sa_nil))))))))))) hw_Lflat

abbrev s_Lform : Stmt := topS 37
theorem sc_Lform : FnScope N_Lform ["_law_state_here", "_law_sort"] (defScope s_Lform) := ⟨rfl, rfl, rfl, by decide +kernel, rfl, by decide +kernel, by decide +kernel⟩
theorem ok_Lform {k : Nat} {f : Addr} {fd : FuncData} (F : Fun K "_law_form" "_law_form" s_Lform f fd) (m_range : mg "range" = none) (m_int : mg "int" = none) (G_Lsplit : FnIn P w K mg base k "_law_split" sp_Lsplit) (G_Lflat : FnIn P w K mg base k "_law_flat" sp_Lflat) (G_Lnext : FnIn P w K mg base k "_law_next" sp_Lnext) (G_Lkind : FnIn P w K mg base k "_law_kind" sp_Lkind) : FnOk P w K mg base CX0 (k + 1) f fd ["_law_state_here", "_law_sort"] (spD K sp_Lform) :=
  fn_ok F sc_Lform len_Lform (fun cdv A outer s H E c hK hr => by
    unfold c_Lform
    have nd := sc_Lform.nd
    exact (ss_cons (ss_if (st_eq hK (hu_room hr) (sp_v 1 (pv 1)) (SE.pk se_str)) (ss_one (ss_ret (se_call hK G_Lsplit mon_Lsplit hr (by rfl) (sa_cons (SE.fz (se_v 0 (pv 0))) sa_nil)))) ss_nil)
      (ss_cons (ss_if (st_eq hK (hu_room hr) (sp_v 1 (pv 1)) (SE.pk se_str)) (ss_one (ss_ret (se_call hK G_Lflat mon_Lflat hr (by rfl) (sa_cons (SE.fz (se_v 0 (pv 0))) sa_nil)))) ss_nil)
      (ss_cons (ss_for PassesOwn.never rfl (si_r1 (by rfl) m_range (SE.pk se_int)) (sg_n (i := 2) nd rfl (by first | exact Or.inl rfl | exact Or.inr rfl)) (ss_cons (ss_set (i := 3) nd rfl (by first | exact Or.inl rfl | exact Or.inr rfl) (se_mul (SE.pk (se_add hK (SE.pk se_int) (SE.pk (se_call hK G_Lnext mon_Lnext hr (by rfl) (sa_cons (SE.fz (se_v 0 (pv 0))) (sa_cons (SE.fz se_int) sa_nil)))))) (SE.pk (se_ix hK (SE.pk (se_lst (sa_cons (SE.fz se_int) (sa_cons (SE.fz (se_neg (SE.pk se_int))) sa_nil)))) (SE.pk (se_call hK G_Lnext mon_Lnext hr (by rfl) (sa_cons (SE.fz (se_v 0 (pv 0))) (sa_cons (SE.fz se_int) sa_nil)))) (fun _ _ => rfl)))))
      (ss_cons (ss_set (i := 4) nd rfl (by first | exact Or.inl rfl | exact Or.inr rfl) (se_mul (SE.pk (se_add hK (SE.pk se_int) (SE.pk (se_call hK G_Lnext mon_Lnext hr (by rfl) (sa_cons (SE.fz (se_v 0 (pv 0))) (sa_cons (SE.fz se_int) sa_nil)))))) (SE.pk (se_ix hK (SE.pk (se_lst (sa_cons (SE.fz se_int) (sa_cons (SE.fz (se_neg (SE.pk se_int))) sa_nil)))) (SE.pk (se_call hK G_Lnext mon_Lnext hr (by rfl) (sa_cons (SE.fz (se_v 0 (pv 0))) (sa_cons (SE.fz se_int) sa_nil)))) (fun _ _ => rfl)))))
      (ss_cons (ss_set (i := 5) nd rfl (by first | exact Or.inl rfl | exact Or.inr rfl) (se_tup (sa_cons (SE.fz (se_v 3 (pv 3))) (sa_cons (SE.fz (se_sub (SE.pk (se_call hK G_Lnext mon_Lnext hr (by rfl) (sa_cons (SE.fz (se_v 0 (pv 0))) (sa_cons (SE.fz se_int) sa_nil)))) (SE.pk se_int))) (sa_cons (SE.fz (se_v 4 (pv 4))) sa_nil)))))
      (ss_one (ss_if (st_eq hK (hu_room hr) (SE.pk (se_call hK G_Lkind mon_Lkind hr (by rfl) (sa_cons (SE.fz (se_v 5 (pv 5))) sa_nil))) (sp_v 1 (pv 1))) (ss_one (ss_retV 5 (pv 5))) ss_nil))))))
      (ss_one (ss_ret (se_ix hK (SE.pk (se_lst (sa_cons (SE.fz (se_tup (sa_cons (SE.fz se_int) (sa_cons (SE.fz se_int) (sa_cons (SE.fz se_int) sa_nil))))) (sa_cons (SE.fz (se_tup (sa_cons (SE.fz se_int) (sa_cons (SE.fz se_int) (sa_cons (SE.fz (se_neg (SE.pk se_int))) sa_nil))))) sa_nil)))) (SE.pk (se_toInt (by rfl) m_int (SE.pk (se_eq hK (hu_room hr) (sp_v 1 (pv 1)) (SE.pk se_str))))) (fun _ _ => rfl)))))))) hw_Lform

abbrev s_Lvalue : Stmt := topS 38
theorem sc_Lvalue : FnScope N_Lvalue ["_law_equation", "_law_x", "_law_y"] (defScope s_Lvalue) := ⟨rfl, rfl, rfl, by decide +kernel, rfl, by decide +kernel, by decide +kernel⟩
theorem ok_Lvalue {k : Nat} {f : Addr} {fd : FuncData} (F : Fun K "_law_value" "_law_value" s_Lvalue f fd) : FnOk P w K mg base CX0 (k + 1) f fd ["_law_equation", "_law_x", "_law_y"] (spD K sp_Lvalue) :=
  fn_ok F sc_Lvalue len_Lvalue (fun cdv A outer s H E c hK hr => by
    unfold c_Lvalue
    have nd := sc_Lvalue.nd
    exact (ss_cons (ss_asg (SE.fz (se_v 0 (pv 0))) (sg_tup hK rfl (sg_cons (sg_n (i := 3) nd rfl (by first | exact Or.inl rfl | exact Or.inr rfl)) (sg_cons (sg_n (i := 4) nd rfl (by first | exact Or.inl rfl | exact Or.inr rfl)) (sg_cons (sg_n (i := 5) nd rfl (by first | exact Or.inl rfl | exact Or.inr rfl)) (sg_cons (sg_n (i := 6) nd rfl (by first | exact Or.inl rfl | exact Or.inr rfl)) (sg_cons (sg_n (i := 7) nd rfl (by first | exact Or.inl rfl | exact Or.inr rfl)) (sg_cons (sg_n (i := 8) nd rfl (by first | exact Or.inl rfl | exact Or.inr rfl)) sg_nil))))))))
      (ss_one (ss_ret (se_add hK (SE.pk (se_add hK (SE.pk (se_add hK (SE.pk (se_add hK (SE.pk (se_add hK (SE.pk (se_mul (SE.pk (se_mul (sp_v 3 (pv 3)) (sp_v 1 (pv 1)))) (sp_v 1 (pv 1)))) (SE.pk (se_mul (SE.pk (se_mul (sp_v 4 (pv 4)) (sp_v 1 (pv 1)))) (sp_v 2 (pv 2)))))) (SE.pk (se_mul (SE.pk (se_mul (sp_v 5 (pv 5)) (sp_v 2 (pv 2)))) (sp_v 2 (pv 2)))))) (SE.pk (se_mul (sp_v 6 (pv 6)) (sp_v 1 (pv 1)))))) (SE.pk (se_mul (sp_v 7 (pv 7)) (sp_v 2 (pv 2)))))) (sp_v 8 (pv 8))))))) hw_Lvalue

abbrev s_Lthrough : Stmt := topS 39
theorem sc_Lthrough : FnScope N_Lthrough ["_law_state_here", "_law_form_here", "_law_reach"] (defScope s_Lthrough) := ⟨rfl, rfl, rfl, by decide +kernel, rfl, by decide +kernel, by decide +kernel⟩
theorem ok_Lthrough {k : Nat} {f : Addr} {fd : FuncData} (F : Fun K "_law_through" "_law_through" s_Lthrough f fd) (G_Lnext : FnIn P w K mg base k "_law_next" sp_Lnext) (G_Lvalue : FnIn P w K mg base k "_law_value" sp_Lvalue) : FnOk P w K mg base CX0 (k + 1) f fd ["_law_state_here", "_law_form_here", "_law_reach"] (spD K sp_Lthrough) :=
  fn_ok F sc_Lthrough len_Lthrough (fun cdv A outer s H E c hK hr => by
    unfold c_Lthrough
    have nd := sc_Lthrough.nd
    exact (ss_cons (ss_set (i := 3) nd rfl (by first | exact Or.inl rfl | exact Or.inr rfl) (se_sub (SE.pk (se_call hK G_Lnext mon_Lnext hr (by rfl) (sa_cons (SE.fz (se_v 0 (pv 0))) (sa_cons (SE.fz (se_add hK (SE.pk (se_mul (SE.pk se_int) (sp_v 2 (pv 2)))) (SE.pk se_int))) sa_nil)))) (sp_v 2 (pv 2))))
      (ss_cons (ss_set (i := 4) nd rfl (by first | exact Or.inl rfl | exact Or.inr rfl) (se_sub (SE.pk (se_call hK G_Lnext mon_Lnext hr (by rfl) (sa_cons (SE.fz (se_v 0 (pv 0))) (sa_cons (SE.fz (se_add hK (SE.pk (se_mul (SE.pk se_int) (sp_v 2 (pv 2)))) (SE.pk se_int))) sa_nil)))) (sp_v 2 (pv 2))))
      (ss_cons (ss_set (i := 5) nd rfl (by first | exact Or.inl rfl | exact Or.inr rfl) (se_sub (SE.pk (se_call hK G_Lnext mon_Lnext hr (by rfl) (sa_cons (SE.fz (se_v 0 (pv 0))) (sa_cons (SE.fz se_int) sa_nil)))) (SE.pk se_int)))
      (ss_cons (ss_if (st_gt (SE.pk (se_call hK G_Lnext mon_Lnext hr (by rfl) (sa_cons (SE.fz (se_v 0 (pv 0))) (sa_cons (SE.fz se_int) sa_nil)))) (SE.pk se_int)) (ss_cons (ss_set (i := 6) nd rfl (by first | exact Or.inl rfl | exact Or.inr rfl) (se_sub (SE.pk (se_call hK G_Lnext mon_Lnext hr (by rfl) (sa_cons (SE.fz (se_v 0 (pv 0))) (sa_cons (SE.fz se_int) sa_nil)))) (SE.pk se_int)))
      (ss_cons (ss_set (i := 7) nd rfl (by first | exact Or.inl rfl | exact Or.inr rfl) (se_sub (SE.pk (se_call hK G_Lnext mon_Lnext hr (by rfl) (sa_cons (SE.fz (se_v 0 (pv 0))) (sa_cons (SE.fz se_int) sa_nil)))) (SE.pk se_int)))
      (ss_one (ss_set (i := 5) nd rfl (by first | exact Or.inl rfl | exact Or.inr rfl) (se_neg (SE.pk (se_call hK G_Lvalue mon_Lvalue hr (by rfl) (sa_cons (SE.fz (se_tup (sa_cons (SE.fz (se_ix hK (sp_v 1 (pv 1)) (SE.pk se_int) (fun _ _ => rfl))) (sa_cons (SE.fz (se_ix hK (sp_v 1 (pv 1)) (SE.pk se_int) (fun _ _ => rfl))) (sa_cons (SE.fz (se_ix hK (sp_v 1 (pv 1)) (SE.pk se_int) (fun _ _ => rfl))) (sa_cons (SE.fz (se_v 3 (pv 3))) (sa_cons (SE.fz (se_v 4 (pv 4))) (sa_cons (SE.fz se_int) sa_nil)))))))) (sa_cons (SE.fz (se_v 6 (pv 6))) (sa_cons (SE.fz (se_v 7 (pv 7))) sa_nil)))))))))) ss_nil)
      (ss_one (ss_ret (se_tup (sa_cons (SE.fz (se_ix hK (sp_v 1 (pv 1)) (SE.pk se_int) (fun _ _ => rfl))) (sa_cons (SE.fz (se_ix hK (sp_v 1 (pv 1)) (SE.pk se_int) (fun _ _ => rfl))) (sa_cons (SE.fz (se_ix hK (sp_v 1 (pv 1)) (SE.pk se_int) (fun _ _ => rfl))) (sa_cons (SE.fz (se_v 3 (pv 3))) (sa_cons (SE.fz (se_v 4 (pv 4))) (sa_cons (SE.fz (se_v 5 (pv 5))) sa_nil)))))))))))))) hw_Lthrough

abbrev s_law_v26 : Stmt := topS 41
theorem sc_law_v26 : FnScope N_law_v26 ["_law_script"] (defScope s_law_v26) := ⟨rfl, rfl, rfl, by decide +kernel, rfl, by decide +kernel, by decide +kernel⟩
theorem ok_law_v26 {k : Nat} {f : Addr} {fd : FuncData} (F : Fun K "law" "law" s_law_v26 f fd) (m_range : mg "range" = none) (m_tuple : mg "tuple" = none) (m_isinstance : mg "isinstance" = none) (m_len : mg "len" = none) (G_Lstate : FnIn P w K mg base k "_law_state" sp_Lstate) (G_Lact : FnIn P w K mg base k "_law_act" sp_Lact_v1) (G_Lform : FnIn P w K mg base k "_law_form" sp_Lform) (G_Lnext : FnIn P w K mg base k "_law_next" sp_Lnext) (G_Lchange : FnIn P w K mg base k "_law_change" sp_Lchange) (G_Lthrough : FnIn P w K mg base k "_law_through" sp_Lthrough) (G_change_equation : FnIn P w K mg base k "change_equation" sp_change_equation) (G_turn_over : FnIn P w K mg base k "turn_over" sp_turn_over) (G_scale_equation : FnIn P w K mg base k "scale_equation" sp_scale_equation) (G_Lat : FnIn P w K mg base k "_law_at" sp_Lat) (G_old_point : FnIn P w K mg base k "old_point" sp_old_point) (G_Lvalue : FnIn P w K mg base k "_law_value" sp_Lvalue) (G_value : FnIn P w K mg base k "value" sp_value) (G_Lmul : FnIn P w K mg base k "_law_mul" sp_Lmul) (G_new_point : FnIn P w K mg base k "new_point" sp_new_point) (G_centre : FnIn P w K mg base k "centre" sp_centre) (G_Lmeasure : FnIn P w K mg base k "_law_measure" sp_Lmeasure_v1) : FnOk P w K mg base CX0 (k + 1) f fd ["_law_script"] (spD K sp_law) :=
  fn_ok F sc_law_v26 len_law (fun cdv A outer s H E c hK hr => by
    unfold c_law_v26
    have nd := sc_law_v26.nd
    exact (ss_cons (ss_set (i := 1) nd rfl (by first | exact Or.inl rfl | exact Or.inr rfl) (se_call hK G_Lstate mon_Lstate hr (by rfl) (sa_cons (SE.fz (se_v 0 (pv 0))) sa_nil)))
      (ss_cons (ss_set (i := 2) nd rfl (by first | exact Or.inl rfl | exact Or.inr rfl) (se_call hK G_Lact mon_Lact_v1 hr (by rfl) (sa_cons (SE.fz (se_call hK G_Lform mon_Lform hr (by rfl) (sa_cons (SE.fz (se_v 1 (pv 1))) (sa_cons (SE.fz (se_ix hK (SE.pk (se_lst (sa_cons (SE.fz se_str) (sa_cons (SE.fz se_str) (sa_cons (SE.fz se_str) (sa_cons (SE.fz se_str) sa_nil)))))) (SE.pk (se_call hK G_Lnext mon_Lnext hr (by rfl) (sa_cons (SE.fz (se_v 1 (pv 1))) (sa_cons (SE.fz se_int) sa_nil)))) (fun _ _ => rfl))) sa_nil)))) (sa_cons (SE.fz (se_call hK G_Lchange mon_Lchange hr (by rfl) (sa_cons (SE.fz (se_v 1 (pv 1))) (sa_cons (SE.fz se_int) sa_nil)))) sa_nil))))
      (ss_cons (ss_set (i := 3) nd rfl (by first | exact Or.inl rfl | exact Or.inr rfl) (se_call hK G_Lthrough mon_Lthrough hr (by rfl) (sa_cons (SE.fz (se_v 1 (pv 1))) (sa_cons (SE.fz (se_v 2 (pv 2))) (sa_cons (SE.fz se_int) sa_nil)))))
      (ss_cons (ss_set (i := 4) nd rfl (by first | exact Or.inl rfl | exact Or.inr rfl) (se_tuple hK (by rfl) m_tuple (SE.pk (se_lc s rfl nd (si_r1 (by rfl) m_range (SE.pk se_int)) (own := [("_law_k", 8)]) ⟨blkOk_by (N := N_law_v26) (show blkC N_law_v26 (defScope s_law_v26) _ _ = true by decide +kernel), (fun c' hK' s' H' C' cl' fp' => (sg_n (i := 8) nd rfl (by first | exact Or.inl rfl | exact Or.inr rfl))), (fun c' hK' s' H' C' cl' fp' => sts_nil), (fun c' hK' s' H' C' cl' fp' => (se_sub (SE.pk (se_call (hK'.trans hK) G_Lnext mon_Lnext hr (by rfl) (sa_cons (SE.fz (se_v 1 (pv 1))) (sa_cons (SE.fz se_int) sa_nil)))) (SE.pk se_int))), by decide⟩))))
      (ss_cons (ss_set (i := 5) nd rfl (by first | exact Or.inl rfl | exact Or.inr rfl) (se_tup (sa_cons (SE.fz (se_sub (SE.pk (se_call hK G_Lnext mon_Lnext hr (by rfl) (sa_cons (SE.fz (se_v 1 (pv 1))) (sa_cons (SE.fz se_int) sa_nil)))) (SE.pk se_int))) (sa_cons (SE.fz (se_sub (SE.pk (se_call hK G_Lnext mon_Lnext hr (by rfl) (sa_cons (SE.fz (se_v 1 (pv 1))) (sa_cons (SE.fz se_int) sa_nil)))) (SE.pk se_int))) sa_nil))))
      (ss_cons (ss_set (i := 6) nd rfl (by first | exact Or.inl rfl | exact Or.inr rfl) (se_sub (SE.pk (se_call hK G_Lnext mon_Lnext hr (by rfl) (sa_cons (SE.fz (se_v 1 (pv 1))) (sa_cons (SE.fz se_int) sa_nil)))) (SE.pk se_int)))
      (ss_cons (ss_set (i := 7) nd rfl (by first | exact Or.inl rfl | exact Or.inr rfl) (se_call hK G_change_equation mon_change_equation hr (by rfl) (sa_cons (SE.fz (se_v 3 (pv 3))) (sa_cons (SE.fz (se_v 4 (pv 4))) (sa_cons (SE.fz (se_v 5 (pv 5))) sa_nil)))))
      (ss_cons (ss_if (st_w (sw_or (st_not (st_v (se_isi_tuple hK (by rfl) m_isinstance (by rfl) m_tuple (sp_v 7 (pv 7))))) (sw_or (st_not (st_v (se_isi_tuple hK (by rfl) m_isinstance (by rfl) m_tuple (SE.pk (se_call hK G_turn_over mon_turn_over hr (by rfl) (sa_cons (SE.fz (se_v 3 (pv 3))) sa_nil)))))) (sw_or (st_ne hK (hu_room hr) (SE.pk (se_len hK (by rfl) m_len (sp_v 7 (pv 7)))) (SE.pk se_int)) (sw_or1 (st_ne hK (hu_room hr) (SE.pk (se_call hK G_scale_equation mon_scale_equation hr (by rfl) (sa_cons (SE.fz (se_v 3 (pv 3))) (sa_cons (SE.fz (se_v 6 (pv 6))) sa_nil)))) (SE.pk (se_tuple hK (by rfl) m_tuple (SE.pk (se_lc s rfl nd (si_seq hK (SE.fz (se_v 3 (pv 3)))) (own := [("_law_part", 23)]) ⟨blkOk_by (N := N_law_v26) (show blkC N_law_v26 (defScope s_law_v26) _ _ = true by decide +kernel), (fun c' hK' s' H' C' cl' fp' => (sg_n (i := 23) nd rfl (by first | exact Or.inl rfl | exact Or.inr rfl))), (fun c' hK' s' H' C' cl' fp' => sts_nil), (fun c' hK' s' H' C' cl' fp' => (se_mul (sp_v 6 (pv 6)) (sp_v 23 (pv 23)))), by decide⟩)))))))))) (ss_one (ss_ret se_bl)) ss_nil)
      (ss_cons (ss_for PassesOwn.never rfl (si_r1 (by rfl) m_range (SE.pk se_int)) (sg_n (i := 8) nd rfl (by first | exact Or.inl rfl | exact Or.inr rfl)) (ss_cons (ss_set (i := 19) nd rfl (by first | exact Or.inl rfl | exact Or.inr rfl) (se_sub (SE.pk (se_call hK G_Lnext mon_Lnext hr (by rfl) (sa_cons (SE.fz (se_v 1 (pv 1))) (sa_cons (SE.fz se_int) sa_nil)))) (SE.pk se_int)))
      (ss_cons (ss_set (i := 20) nd rfl (by first | exact Or.inl rfl | exact Or.inr rfl) (se_sub (SE.pk (se_call hK G_Lnext mon_Lnext hr (by rfl) (sa_cons (SE.fz (se_v 1 (pv 1))) (sa_cons (SE.fz se_int) sa_nil)))) (SE.pk se_int)))
      (ss_cons (ss_set (i := 21) nd rfl (by first | exact Or.inl rfl | exact Or.inr rfl) (se_call hK G_Lat mon_Lat hr (by rfl) (sa_cons (SE.fz (se_v 4 (pv 4))) (sa_cons (SE.fz (se_v 19 (pv 19))) (sa_cons (SE.fz (se_v 20 (pv 20))) sa_nil)))))
      (ss_cons (ss_set (i := 22) nd rfl (by first | exact Or.inl rfl | exact Or.inr rfl) (se_tup (sa_cons (SE.fz (se_add hK (SE.pk (se_ix hK (sp_v 21 (pv 21)) (SE.pk se_int) (fun _ _ => rfl))) (SE.pk (se_ix hK (sp_v 5 (pv 5)) (SE.pk se_int) (fun _ _ => rfl))))) (sa_cons (SE.fz (se_add hK (SE.pk (se_ix hK (sp_v 21 (pv 21)) (SE.pk se_int) (fun _ _ => rfl))) (SE.pk (se_ix hK (sp_v 5 (pv 5)) (SE.pk se_int) (fun _ _ => rfl))))) sa_nil))))
      (ss_cons (ss_if (st_w (sw_or (st_ne hK (hu_room hr) (SE.pk (se_call hK G_old_point mon_old_point hr (by rfl) (sa_cons (SE.fz (se_v 4 (pv 4))) (sa_cons (SE.fz (se_v 5 (pv 5))) (sa_cons (SE.fz (se_tup (sa_cons (SE.fz (se_v 19 (pv 19))) (sa_cons (SE.fz (se_v 20 (pv 20))) sa_nil)))) sa_nil))))) (sp_v 22 (pv 22))) (sw_or1 (st_ne hK (hu_room hr) (SE.pk (se_call hK G_Lvalue mon_Lvalue hr (by rfl) (sa_cons (SE.fz (se_v 7 (pv 7))) (sa_cons (SE.fz (se_v 19 (pv 19))) (sa_cons (SE.fz (se_v 20 (pv 20))) sa_nil))))) (SE.pk (se_call hK G_Lvalue mon_Lvalue hr (by rfl) (sa_cons (SE.fz (se_v 3 (pv 3))) (sa_cons (SE.fz (se_ix hK (sp_v 22 (pv 22)) (SE.pk se_int) (fun _ _ => rfl))) (sa_cons (SE.fz (se_ix hK (sp_v 22 (pv 22)) (SE.pk se_int) (fun _ _ => rfl))) sa_nil))))))))) (ss_one (ss_ret se_bl)) ss_nil)
      (ss_one (ss_if (st_w (sw_or (st_ne hK (hu_room hr) (SE.pk (se_call hK G_value mon_value hr (by rfl) (sa_cons (SE.fz (se_v 3 (pv 3))) (sa_cons (SE.fz (se_tup (sa_cons (SE.fz (se_v 19 (pv 19))) (sa_cons (SE.fz (se_v 20 (pv 20))) sa_nil)))) sa_nil)))) (SE.pk (se_call hK G_Lvalue mon_Lvalue hr (by rfl) (sa_cons (SE.fz (se_v 3 (pv 3))) (sa_cons (SE.fz (se_v 19 (pv 19))) (sa_cons (SE.fz (se_v 20 (pv 20))) sa_nil)))))) (sw_or1 (st_ne hK (hu_room hr) (SE.pk (se_call hK G_Lvalue mon_Lvalue hr (by rfl) (sa_cons (SE.fz (se_call hK G_turn_over mon_turn_over hr (by rfl) (sa_cons (SE.fz (se_v 3 (pv 3))) sa_nil))) (sa_cons (SE.fz (se_v 20 (pv 20))) (sa_cons (SE.fz (se_v 19 (pv 19))) sa_nil))))) (SE.pk (se_call hK G_Lvalue mon_Lvalue hr (by rfl) (sa_cons (SE.fz (se_v 3 (pv 3))) (sa_cons (SE.fz (se_v 19 (pv 19))) (sa_cons (SE.fz (se_v 20 (pv 20))) sa_nil))))))))) (ss_one (ss_ret se_bl)) ss_nil))))))))
      (ss_cons (ss_set (i := 9) nd rfl (by first | exact Or.inl rfl | exact Or.inr rfl) (se_call hK G_Lmul mon_Lmul hr (by rfl) (sa_cons (SE.fz (se_call hK G_Lchange mon_Lchange hr (by rfl) (sa_cons (SE.fz (se_v 1 (pv 1))) (sa_cons (SE.fz se_int) sa_nil)))) (sa_cons (SE.fz (se_ix hK (SE.pk (se_lst (sa_cons (SE.fz (se_tup (sa_cons (SE.fz se_int) (sa_cons (SE.fz se_int) (sa_cons (SE.fz se_int) (sa_cons (SE.fz se_int) sa_nil)))))) (sa_cons (SE.fz (se_tup (sa_cons (SE.fz se_int) (sa_cons (SE.fz se_int) (sa_cons (SE.fz se_int) (sa_cons (SE.fz se_int) sa_nil)))))) sa_nil)))) (SE.pk (se_call hK G_Lnext mon_Lnext hr (by rfl) (sa_cons (SE.fz (se_v 1 (pv 1))) (sa_cons (SE.fz se_int) sa_nil)))) (fun _ _ => rfl))) sa_nil))))
      (ss_cons (ss_if (st_ne hK (hu_room hr) (SE.pk (se_call hK G_new_point mon_new_point hr (by rfl) (sa_cons (SE.fz (se_v 9 (pv 9))) (sa_cons (SE.fz (se_v 5 (pv 5))) (sa_cons (SE.fz (se_call hK G_old_point mon_old_point hr (by rfl) (sa_cons (SE.fz (se_v 9 (pv 9))) (sa_cons (SE.fz (se_v 5 (pv 5))) (sa_cons (SE.fz (se_tup (sa_cons (SE.fz se_int) (sa_cons (SE.fz (se_v 6 (pv 6))) sa_nil)))) sa_nil))))) sa_nil))))) (SE.pk (se_tup (sa_cons (SE.fz se_int) (sa_cons (SE.fz (se_v 6 (pv 6))) sa_nil))))) (ss_one (ss_ret se_bl)) ss_nil)
      (ss_cons (ss_if (st_eq hK (hu_room hr) (SE.pk (se_mul (SE.pk (se_ix hK (sp_v 2 (pv 2)) (SE.pk se_int) (fun _ _ => rfl))) (SE.pk (se_ix hK (sp_v 2 (pv 2)) (SE.pk se_int) (fun _ _ => rfl))))) (SE.pk (se_mul (SE.pk (se_mul (SE.pk se_int) (SE.pk (se_ix hK (sp_v 2 (pv 2)) (SE.pk se_int) (fun _ _ => rfl))))) (SE.pk (se_ix hK (sp_v 2 (pv 2)) (SE.pk se_int) (fun _ _ => rfl)))))) (ss_one (ss_ret se_bl)) ss_nil)
      (ss_cons (ss_asg (SE.fz (se_call hK G_centre mon_centre hr (by rfl) (sa_cons (SE.fz (se_v 3 (pv 3))) sa_nil))) (sg_tup hK rfl (sg_cons (sg_n (i := 10) nd rfl (by first | exact Or.inl rfl | exact Or.inr rfl)) (sg_cons (sg_n (i := 11) nd rfl (by first | exact Or.inl rfl | exact Or.inr rfl)) (sg_cons (sg_n (i := 12) nd rfl (by first | exact Or.inl rfl | exact Or.inr rfl)) sg_nil)))))
      (ss_cons (ss_asg (SE.fz (se_v 3 (pv 3))) (sg_tup hK rfl (sg_cons (sg_n (i := 13) nd rfl (by first | exact Or.inl rfl | exact Or.inr rfl)) (sg_cons (sg_n (i := 14) nd rfl (by first | exact Or.inl rfl | exact Or.inr rfl)) (sg_cons (sg_n (i := 15) nd rfl (by first | exact Or.inl rfl | exact Or.inr rfl)) (sg_cons (sg_n (i := 16) nd rfl (by first | exact Or.inl rfl | exact Or.inr rfl)) (sg_cons (sg_n (i := 17) nd rfl (by first | exact Or.inl rfl | exact Or.inr rfl)) (sg_cons (sg_n (i := 18) nd rfl (by first | exact Or.inl rfl | exact Or.inr rfl)) sg_nil))))))))
      (ss_cons (ss_if (st_w (sw_or (st_lt (sp_v 10 (pv 10)) (SE.pk se_int)) (sw_or1 (st_ne hK (hu_room hr) (SE.pk (se_call hK G_Lmeasure mon_Lmeasure_v1 hr (by rfl) (sa_cons (SE.fz (se_call hK G_Lmeasure mon_Lmeasure_v1 hr (by rfl) (sa_cons (SE.fz (se_v 10 (pv 10))) (sa_cons (SE.fz (se_v 11 (pv 11))) sa_nil)))) (sa_cons (SE.fz (se_v 12 (pv 12))) sa_nil)))) (SE.pk se_int))))) (ss_one (ss_ret se_bl)) ss_nil)
      (ss_one (ss_ret (se_sv (sv_and (se_eq hK (hu_room hr) (SE.pk (se_add hK (SE.pk (se_add hK (SE.pk (se_mul (SE.pk (se_mul (SE.pk se_int) (sp_v 13 (pv 13)))) (sp_v 11 (pv 11)))) (SE.pk (se_mul (sp_v 14 (pv 14)) (sp_v 12 (pv 12)))))) (SE.pk (se_mul (sp_v 16 (pv 16)) (sp_v 10 (pv 10)))))) (SE.pk se_int)) (sv_one (se_eq hK (hu_room hr) (SE.pk (se_add hK (SE.pk (se_add hK (SE.pk (se_mul (sp_v 14 (pv 14)) (sp_v 11 (pv 11)))) (SE.pk (se_mul (SE.pk (se_mul (SE.pk se_int) (sp_v 15 (pv 15)))) (sp_v 12 (pv 12)))))) (SE.pk (se_mul (sp_v 17 (pv 17)) (sp_v 10 (pv 10)))))) (SE.pk se_int))))))))))))))))))))))) hw_law_v26

end
theorem all_mk {l : PySem.W.OpenLaw} {w : World} {K : PySem.W.Frag} {h : Heap} {mg : Str → Option Value} {fa f_Lnumbers f_Lcell f_Lstate f_Lworth_v1 f_Lact_v1 f_Lnext f_Lsplit f_Lflat f_Lroot f_Lsquare f_Lkind f_Lform f_Lmul f_Lchange f_Lvalue f_Lthrough f_worth f_act f_change_equation f_turn_over f_scale_equation f_Lat f_apply f_old_point f_value f_determinant f_inverse f_new_point f_discriminant f_bezout f_measure f_centre f_Lmeasure_v1 f_law_v26 : Addr} (X : K.In h) (G : h.Ns mainGlobals mg) (hfa : mg "law" = some (.ref fa))
    {od_Lnumbers an_Lnumbers od_Lcell an_Lcell od_Lstate an_Lstate od_Lworth_v1 an_Lworth_v1 od_Lact_v1 an_Lact_v1 od_Lnext an_Lnext od_Lsplit an_Lsplit od_Lflat an_Lflat od_Lroot an_Lroot od_Lsquare an_Lsquare od_Lkind an_Lkind od_Lform an_Lform od_Lmul an_Lmul od_Lchange an_Lchange od_Lvalue an_Lvalue od_Lthrough an_Lthrough od_worth an_worth od_act an_act od_change_equation an_change_equation od_turn_over an_turn_over od_scale_equation an_scale_equation od_Lat an_Lat od_apply an_apply od_old_point an_old_point od_value an_value od_determinant an_determinant od_inverse an_inverse od_new_point an_new_point od_discriminant an_discriminant od_bezout an_bezout od_measure an_measure od_centre an_centre od_Lmeasure_v1 an_Lmeasure_v1 od_law_v26 an_law_v26 : Option Addr} {sl_Lnumbers sl_Lcell sl_Lstate sl_Lworth_v1 sl_Lact_v1 sl_Lnext sl_Lsplit sl_Lflat sl_Lroot sl_Lsquare sl_Lkind sl_Lform sl_Lmul sl_Lchange sl_Lvalue sl_Lthrough sl_worth sl_act sl_change_equation sl_turn_over sl_scale_equation sl_Lat sl_apply sl_old_point sl_value sl_determinant sl_inverse sl_new_point sl_discriminant sl_bezout sl_measure sl_centre sl_Lmeasure_v1 sl_law_v26 : Array (Option Value)} {oc_Lnumbers kV_Lnumbers dc_Lnumbers pm_Lnumbers cd_Lnumbers ct_Lnumbers oc_Lcell kV_Lcell dc_Lcell pm_Lcell cd_Lcell ct_Lcell oc_Lstate kV_Lstate dc_Lstate pm_Lstate cd_Lstate ct_Lstate oc_Lworth_v1 kV_Lworth_v1 dc_Lworth_v1 pm_Lworth_v1 cd_Lworth_v1 ct_Lworth_v1 oc_Lact_v1 kV_Lact_v1 dc_Lact_v1 pm_Lact_v1 cd_Lact_v1 ct_Lact_v1 oc_Lnext kV_Lnext dc_Lnext pm_Lnext cd_Lnext ct_Lnext oc_Lsplit kV_Lsplit dc_Lsplit pm_Lsplit cd_Lsplit ct_Lsplit oc_Lflat kV_Lflat dc_Lflat pm_Lflat cd_Lflat ct_Lflat oc_Lroot kV_Lroot dc_Lroot pm_Lroot cd_Lroot ct_Lroot oc_Lsquare kV_Lsquare dc_Lsquare pm_Lsquare cd_Lsquare ct_Lsquare oc_Lkind kV_Lkind dc_Lkind pm_Lkind cd_Lkind ct_Lkind oc_Lform kV_Lform dc_Lform pm_Lform cd_Lform ct_Lform oc_Lmul kV_Lmul dc_Lmul pm_Lmul cd_Lmul ct_Lmul oc_Lchange kV_Lchange dc_Lchange pm_Lchange cd_Lchange ct_Lchange oc_Lvalue kV_Lvalue dc_Lvalue pm_Lvalue cd_Lvalue ct_Lvalue oc_Lthrough kV_Lthrough dc_Lthrough pm_Lthrough cd_Lthrough ct_Lthrough oc_worth kV_worth dc_worth pm_worth cd_worth ct_worth oc_act kV_act dc_act pm_act cd_act ct_act oc_change_equation kV_change_equation dc_change_equation pm_change_equation cd_change_equation ct_change_equation oc_turn_over kV_turn_over dc_turn_over pm_turn_over cd_turn_over ct_turn_over oc_scale_equation kV_scale_equation dc_scale_equation pm_scale_equation cd_scale_equation ct_scale_equation oc_Lat kV_Lat dc_Lat pm_Lat cd_Lat ct_Lat oc_apply kV_apply dc_apply pm_apply cd_apply ct_apply oc_old_point kV_old_point dc_old_point pm_old_point cd_old_point ct_old_point oc_value kV_value dc_value pm_value cd_value ct_value oc_determinant kV_determinant dc_determinant pm_determinant cd_determinant ct_determinant oc_inverse kV_inverse dc_inverse pm_inverse cd_inverse ct_inverse oc_new_point kV_new_point dc_new_point pm_new_point cd_new_point ct_new_point oc_discriminant kV_discriminant dc_discriminant pm_discriminant cd_discriminant ct_discriminant oc_bezout kV_bezout dc_bezout pm_bezout cd_bezout ct_bezout oc_measure kV_measure dc_measure pm_measure cd_measure ct_measure oc_centre kV_centre dc_centre pm_centre cd_centre ct_centre oc_Lmeasure_v1 kV_Lmeasure_v1 dc_Lmeasure_v1 pm_Lmeasure_v1 cd_Lmeasure_v1 ct_Lmeasure_v1 oc_law_v26 kV_law_v26 dc_law_v26 pm_law_v26 cd_law_v26 ct_law_v26 : Value}
    (a_Lnumbers : PySem.W.nsIn K mainGlobals "_law_numbers" = some (some (.ref f_Lnumbers))) (l_Lnumbers : K.lookup f_Lnumbers = some ⟨oc_Lnumbers, od_Lnumbers, .func (PySem.W.fnOf "_law_numbers" "_law_numbers" (defArgs s_Lnumbers) (defBody s_Lnumbers) (defScope s_Lnumbers) .none kV_Lnumbers dc_Lnumbers pm_Lnumbers an_Lnumbers cd_Lnumbers ct_Lnumbers), sl_Lnumbers⟩) (c_Lnumbers : PySem.W.codeIn K cd_Lnumbers "_law_numbers" = true) (k_Lnumbers : PySem.W.keepIn K (.ref f_Lnumbers) = true)
    (a_Lcell : PySem.W.nsIn K mainGlobals "_law_cell" = some (some (.ref f_Lcell))) (l_Lcell : K.lookup f_Lcell = some ⟨oc_Lcell, od_Lcell, .func (PySem.W.fnOf "_law_cell" "_law_cell" (defArgs s_Lcell) (defBody s_Lcell) (defScope s_Lcell) .none kV_Lcell dc_Lcell pm_Lcell an_Lcell cd_Lcell ct_Lcell), sl_Lcell⟩) (c_Lcell : PySem.W.codeIn K cd_Lcell "_law_cell" = true) (k_Lcell : PySem.W.keepIn K (.ref f_Lcell) = true)
    (a_Lstate : PySem.W.nsIn K mainGlobals "_law_state" = some (some (.ref f_Lstate))) (l_Lstate : K.lookup f_Lstate = some ⟨oc_Lstate, od_Lstate, .func (PySem.W.fnOf "_law_state" "_law_state" (defArgs s_Lstate) (defBody s_Lstate) (defScope s_Lstate) .none kV_Lstate dc_Lstate pm_Lstate an_Lstate cd_Lstate ct_Lstate), sl_Lstate⟩) (c_Lstate : PySem.W.codeIn K cd_Lstate "_law_state" = true) (k_Lstate : PySem.W.keepIn K (.ref f_Lstate) = true)
    (a_Lworth_v1 : PySem.W.nsIn K mainGlobals "_law_worth" = some (some (.ref f_Lworth_v1))) (l_Lworth_v1 : K.lookup f_Lworth_v1 = some ⟨oc_Lworth_v1, od_Lworth_v1, .func (PySem.W.fnOf "_law_worth" "_law_worth" (defArgs s_Lworth_v1) (defBody s_Lworth_v1) (defScope s_Lworth_v1) .none kV_Lworth_v1 dc_Lworth_v1 pm_Lworth_v1 an_Lworth_v1 cd_Lworth_v1 ct_Lworth_v1), sl_Lworth_v1⟩) (c_Lworth_v1 : PySem.W.codeIn K cd_Lworth_v1 "_law_worth" = true) (k_Lworth_v1 : PySem.W.keepIn K (.ref f_Lworth_v1) = true)
    (a_Lact_v1 : PySem.W.nsIn K mainGlobals "_law_act" = some (some (.ref f_Lact_v1))) (l_Lact_v1 : K.lookup f_Lact_v1 = some ⟨oc_Lact_v1, od_Lact_v1, .func (PySem.W.fnOf "_law_act" "_law_act" (defArgs s_Lact_v1) (defBody s_Lact_v1) (defScope s_Lact_v1) .none kV_Lact_v1 dc_Lact_v1 pm_Lact_v1 an_Lact_v1 cd_Lact_v1 ct_Lact_v1), sl_Lact_v1⟩) (c_Lact_v1 : PySem.W.codeIn K cd_Lact_v1 "_law_act" = true) (k_Lact_v1 : PySem.W.keepIn K (.ref f_Lact_v1) = true)
    (a_Lnext : PySem.W.nsIn K mainGlobals "_law_next" = some (some (.ref f_Lnext))) (l_Lnext : K.lookup f_Lnext = some ⟨oc_Lnext, od_Lnext, .func (PySem.W.fnOf "_law_next" "_law_next" (defArgs s_Lnext) (defBody s_Lnext) (defScope s_Lnext) .none kV_Lnext dc_Lnext pm_Lnext an_Lnext cd_Lnext ct_Lnext), sl_Lnext⟩) (c_Lnext : PySem.W.codeIn K cd_Lnext "_law_next" = true) (k_Lnext : PySem.W.keepIn K (.ref f_Lnext) = true)
    (a_Lsplit : PySem.W.nsIn K mainGlobals "_law_split" = some (some (.ref f_Lsplit))) (l_Lsplit : K.lookup f_Lsplit = some ⟨oc_Lsplit, od_Lsplit, .func (PySem.W.fnOf "_law_split" "_law_split" (defArgs s_Lsplit) (defBody s_Lsplit) (defScope s_Lsplit) .none kV_Lsplit dc_Lsplit pm_Lsplit an_Lsplit cd_Lsplit ct_Lsplit), sl_Lsplit⟩) (c_Lsplit : PySem.W.codeIn K cd_Lsplit "_law_split" = true) (k_Lsplit : PySem.W.keepIn K (.ref f_Lsplit) = true)
    (a_Lflat : PySem.W.nsIn K mainGlobals "_law_flat" = some (some (.ref f_Lflat))) (l_Lflat : K.lookup f_Lflat = some ⟨oc_Lflat, od_Lflat, .func (PySem.W.fnOf "_law_flat" "_law_flat" (defArgs s_Lflat) (defBody s_Lflat) (defScope s_Lflat) .none kV_Lflat dc_Lflat pm_Lflat an_Lflat cd_Lflat ct_Lflat), sl_Lflat⟩) (c_Lflat : PySem.W.codeIn K cd_Lflat "_law_flat" = true) (k_Lflat : PySem.W.keepIn K (.ref f_Lflat) = true)
    (a_Lroot : PySem.W.nsIn K mainGlobals "_law_root" = some (some (.ref f_Lroot))) (l_Lroot : K.lookup f_Lroot = some ⟨oc_Lroot, od_Lroot, .func (PySem.W.fnOf "_law_root" "_law_root" (defArgs s_Lroot) (defBody s_Lroot) (defScope s_Lroot) .none kV_Lroot dc_Lroot pm_Lroot an_Lroot cd_Lroot ct_Lroot), sl_Lroot⟩) (c_Lroot : PySem.W.codeIn K cd_Lroot "_law_root" = true) (k_Lroot : PySem.W.keepIn K (.ref f_Lroot) = true)
    (a_Lsquare : PySem.W.nsIn K mainGlobals "_law_square" = some (some (.ref f_Lsquare))) (l_Lsquare : K.lookup f_Lsquare = some ⟨oc_Lsquare, od_Lsquare, .func (PySem.W.fnOf "_law_square" "_law_square" (defArgs s_Lsquare) (defBody s_Lsquare) (defScope s_Lsquare) .none kV_Lsquare dc_Lsquare pm_Lsquare an_Lsquare cd_Lsquare ct_Lsquare), sl_Lsquare⟩) (c_Lsquare : PySem.W.codeIn K cd_Lsquare "_law_square" = true) (k_Lsquare : PySem.W.keepIn K (.ref f_Lsquare) = true)
    (a_Lkind : PySem.W.nsIn K mainGlobals "_law_kind" = some (some (.ref f_Lkind))) (l_Lkind : K.lookup f_Lkind = some ⟨oc_Lkind, od_Lkind, .func (PySem.W.fnOf "_law_kind" "_law_kind" (defArgs s_Lkind) (defBody s_Lkind) (defScope s_Lkind) .none kV_Lkind dc_Lkind pm_Lkind an_Lkind cd_Lkind ct_Lkind), sl_Lkind⟩) (c_Lkind : PySem.W.codeIn K cd_Lkind "_law_kind" = true) (k_Lkind : PySem.W.keepIn K (.ref f_Lkind) = true)
    (a_Lform : PySem.W.nsIn K mainGlobals "_law_form" = some (some (.ref f_Lform))) (l_Lform : K.lookup f_Lform = some ⟨oc_Lform, od_Lform, .func (PySem.W.fnOf "_law_form" "_law_form" (defArgs s_Lform) (defBody s_Lform) (defScope s_Lform) .none kV_Lform dc_Lform pm_Lform an_Lform cd_Lform ct_Lform), sl_Lform⟩) (c_Lform : PySem.W.codeIn K cd_Lform "_law_form" = true) (k_Lform : PySem.W.keepIn K (.ref f_Lform) = true)
    (a_Lmul : PySem.W.nsIn K mainGlobals "_law_mul" = some (some (.ref f_Lmul))) (l_Lmul : K.lookup f_Lmul = some ⟨oc_Lmul, od_Lmul, .func (PySem.W.fnOf "_law_mul" "_law_mul" (defArgs s_Lmul) (defBody s_Lmul) (defScope s_Lmul) .none kV_Lmul dc_Lmul pm_Lmul an_Lmul cd_Lmul ct_Lmul), sl_Lmul⟩) (c_Lmul : PySem.W.codeIn K cd_Lmul "_law_mul" = true) (k_Lmul : PySem.W.keepIn K (.ref f_Lmul) = true)
    (a_Lchange : PySem.W.nsIn K mainGlobals "_law_change" = some (some (.ref f_Lchange))) (l_Lchange : K.lookup f_Lchange = some ⟨oc_Lchange, od_Lchange, .func (PySem.W.fnOf "_law_change" "_law_change" (defArgs s_Lchange) (defBody s_Lchange) (defScope s_Lchange) .none kV_Lchange dc_Lchange pm_Lchange an_Lchange cd_Lchange ct_Lchange), sl_Lchange⟩) (c_Lchange : PySem.W.codeIn K cd_Lchange "_law_change" = true) (k_Lchange : PySem.W.keepIn K (.ref f_Lchange) = true)
    (a_Lvalue : PySem.W.nsIn K mainGlobals "_law_value" = some (some (.ref f_Lvalue))) (l_Lvalue : K.lookup f_Lvalue = some ⟨oc_Lvalue, od_Lvalue, .func (PySem.W.fnOf "_law_value" "_law_value" (defArgs s_Lvalue) (defBody s_Lvalue) (defScope s_Lvalue) .none kV_Lvalue dc_Lvalue pm_Lvalue an_Lvalue cd_Lvalue ct_Lvalue), sl_Lvalue⟩) (c_Lvalue : PySem.W.codeIn K cd_Lvalue "_law_value" = true) (k_Lvalue : PySem.W.keepIn K (.ref f_Lvalue) = true)
    (a_Lthrough : PySem.W.nsIn K mainGlobals "_law_through" = some (some (.ref f_Lthrough))) (l_Lthrough : K.lookup f_Lthrough = some ⟨oc_Lthrough, od_Lthrough, .func (PySem.W.fnOf "_law_through" "_law_through" (defArgs s_Lthrough) (defBody s_Lthrough) (defScope s_Lthrough) .none kV_Lthrough dc_Lthrough pm_Lthrough an_Lthrough cd_Lthrough ct_Lthrough), sl_Lthrough⟩) (c_Lthrough : PySem.W.codeIn K cd_Lthrough "_law_through" = true) (k_Lthrough : PySem.W.keepIn K (.ref f_Lthrough) = true)
    (a_worth : PySem.W.nsIn K mainGlobals "worth" = some (some (.ref f_worth))) (l_worth : K.lookup f_worth = some ⟨oc_worth, od_worth, .func (PySem.W.fnOf "worth" "worth" (defArgs s_worth) (defBody s_worth) (defScope s_worth) .none kV_worth dc_worth pm_worth an_worth cd_worth ct_worth), sl_worth⟩) (c_worth : PySem.W.codeIn K cd_worth "worth" = true) (k_worth : PySem.W.keepIn K (.ref f_worth) = true)
    (a_act : PySem.W.nsIn K mainGlobals "act" = some (some (.ref f_act))) (l_act : K.lookup f_act = some ⟨oc_act, od_act, .func (PySem.W.fnOf "act" "act" (defArgs s_act) (defBody s_act) (defScope s_act) .none kV_act dc_act pm_act an_act cd_act ct_act), sl_act⟩) (c_act : PySem.W.codeIn K cd_act "act" = true) (k_act : PySem.W.keepIn K (.ref f_act) = true)
    (a_change_equation : PySem.W.nsIn K mainGlobals "change_equation" = some (some (.ref f_change_equation))) (l_change_equation : K.lookup f_change_equation = some ⟨oc_change_equation, od_change_equation, .func (PySem.W.fnOf "change_equation" "change_equation" (defArgs s_change_equation) (defBody s_change_equation) (defScope s_change_equation) .none kV_change_equation dc_change_equation pm_change_equation an_change_equation cd_change_equation ct_change_equation), sl_change_equation⟩) (c_change_equation : PySem.W.codeIn K cd_change_equation "change_equation" = true) (k_change_equation : PySem.W.keepIn K (.ref f_change_equation) = true)
    (a_turn_over : PySem.W.nsIn K mainGlobals "turn_over" = some (some (.ref f_turn_over))) (l_turn_over : K.lookup f_turn_over = some ⟨oc_turn_over, od_turn_over, .func (PySem.W.fnOf "turn_over" "turn_over" (defArgs s_turn_over) (defBody s_turn_over) (defScope s_turn_over) .none kV_turn_over dc_turn_over pm_turn_over an_turn_over cd_turn_over ct_turn_over), sl_turn_over⟩) (c_turn_over : PySem.W.codeIn K cd_turn_over "turn_over" = true) (k_turn_over : PySem.W.keepIn K (.ref f_turn_over) = true)
    (a_scale_equation : PySem.W.nsIn K mainGlobals "scale_equation" = some (some (.ref f_scale_equation))) (l_scale_equation : K.lookup f_scale_equation = some ⟨oc_scale_equation, od_scale_equation, .func (PySem.W.fnOf "scale_equation" "scale_equation" (defArgs s_scale_equation) (defBody s_scale_equation) (defScope s_scale_equation) .none kV_scale_equation dc_scale_equation pm_scale_equation an_scale_equation cd_scale_equation ct_scale_equation), sl_scale_equation⟩) (c_scale_equation : PySem.W.codeIn K cd_scale_equation "scale_equation" = true) (k_scale_equation : PySem.W.keepIn K (.ref f_scale_equation) = true)
    (a_Lat : PySem.W.nsIn K mainGlobals "_law_at" = some (some (.ref f_Lat))) (l_Lat : K.lookup f_Lat = some ⟨oc_Lat, od_Lat, .func (PySem.W.fnOf "_law_at" "_law_at" (defArgs s_Lat) (defBody s_Lat) (defScope s_Lat) .none kV_Lat dc_Lat pm_Lat an_Lat cd_Lat ct_Lat), sl_Lat⟩) (c_Lat : PySem.W.codeIn K cd_Lat "_law_at" = true) (k_Lat : PySem.W.keepIn K (.ref f_Lat) = true)
    (a_apply : PySem.W.nsIn K mainGlobals "apply" = some (some (.ref f_apply))) (l_apply : K.lookup f_apply = some ⟨oc_apply, od_apply, .func (PySem.W.fnOf "apply" "apply" (defArgs s_apply) (defBody s_apply) (defScope s_apply) .none kV_apply dc_apply pm_apply an_apply cd_apply ct_apply), sl_apply⟩) (c_apply : PySem.W.codeIn K cd_apply "apply" = true) (k_apply : PySem.W.keepIn K (.ref f_apply) = true)
    (a_old_point : PySem.W.nsIn K mainGlobals "old_point" = some (some (.ref f_old_point))) (l_old_point : K.lookup f_old_point = some ⟨oc_old_point, od_old_point, .func (PySem.W.fnOf "old_point" "old_point" (defArgs s_old_point) (defBody s_old_point) (defScope s_old_point) .none kV_old_point dc_old_point pm_old_point an_old_point cd_old_point ct_old_point), sl_old_point⟩) (c_old_point : PySem.W.codeIn K cd_old_point "old_point" = true) (k_old_point : PySem.W.keepIn K (.ref f_old_point) = true)
    (a_value : PySem.W.nsIn K mainGlobals "value" = some (some (.ref f_value))) (l_value : K.lookup f_value = some ⟨oc_value, od_value, .func (PySem.W.fnOf "value" "value" (defArgs s_value) (defBody s_value) (defScope s_value) .none kV_value dc_value pm_value an_value cd_value ct_value), sl_value⟩) (c_value : PySem.W.codeIn K cd_value "value" = true) (k_value : PySem.W.keepIn K (.ref f_value) = true)
    (a_determinant : PySem.W.nsIn K mainGlobals "determinant" = some (some (.ref f_determinant))) (l_determinant : K.lookup f_determinant = some ⟨oc_determinant, od_determinant, .func (PySem.W.fnOf "determinant" "determinant" (defArgs s_determinant) (defBody s_determinant) (defScope s_determinant) .none kV_determinant dc_determinant pm_determinant an_determinant cd_determinant ct_determinant), sl_determinant⟩) (c_determinant : PySem.W.codeIn K cd_determinant "determinant" = true) (k_determinant : PySem.W.keepIn K (.ref f_determinant) = true)
    (a_inverse : PySem.W.nsIn K mainGlobals "inverse" = some (some (.ref f_inverse))) (l_inverse : K.lookup f_inverse = some ⟨oc_inverse, od_inverse, .func (PySem.W.fnOf "inverse" "inverse" (defArgs s_inverse) (defBody s_inverse) (defScope s_inverse) .none kV_inverse dc_inverse pm_inverse an_inverse cd_inverse ct_inverse), sl_inverse⟩) (c_inverse : PySem.W.codeIn K cd_inverse "inverse" = true) (k_inverse : PySem.W.keepIn K (.ref f_inverse) = true)
    (a_new_point : PySem.W.nsIn K mainGlobals "new_point" = some (some (.ref f_new_point))) (l_new_point : K.lookup f_new_point = some ⟨oc_new_point, od_new_point, .func (PySem.W.fnOf "new_point" "new_point" (defArgs s_new_point) (defBody s_new_point) (defScope s_new_point) .none kV_new_point dc_new_point pm_new_point an_new_point cd_new_point ct_new_point), sl_new_point⟩) (c_new_point : PySem.W.codeIn K cd_new_point "new_point" = true) (k_new_point : PySem.W.keepIn K (.ref f_new_point) = true)
    (a_discriminant : PySem.W.nsIn K mainGlobals "discriminant" = some (some (.ref f_discriminant))) (l_discriminant : K.lookup f_discriminant = some ⟨oc_discriminant, od_discriminant, .func (PySem.W.fnOf "discriminant" "discriminant" (defArgs s_discriminant) (defBody s_discriminant) (defScope s_discriminant) .none kV_discriminant dc_discriminant pm_discriminant an_discriminant cd_discriminant ct_discriminant), sl_discriminant⟩) (c_discriminant : PySem.W.codeIn K cd_discriminant "discriminant" = true) (k_discriminant : PySem.W.keepIn K (.ref f_discriminant) = true)
    (a_bezout : PySem.W.nsIn K mainGlobals "bezout" = some (some (.ref f_bezout))) (l_bezout : K.lookup f_bezout = some ⟨oc_bezout, od_bezout, .func (PySem.W.fnOf "bezout" "bezout" (defArgs s_bezout) (defBody s_bezout) (defScope s_bezout) .none kV_bezout dc_bezout pm_bezout an_bezout cd_bezout ct_bezout), sl_bezout⟩) (c_bezout : PySem.W.codeIn K cd_bezout "bezout" = true) (k_bezout : PySem.W.keepIn K (.ref f_bezout) = true)
    (a_measure : PySem.W.nsIn K mainGlobals "measure" = some (some (.ref f_measure))) (l_measure : K.lookup f_measure = some ⟨oc_measure, od_measure, .func (PySem.W.fnOf "measure" "measure" (defArgs s_measure) (defBody s_measure) (defScope s_measure) .none kV_measure dc_measure pm_measure an_measure cd_measure ct_measure), sl_measure⟩) (c_measure : PySem.W.codeIn K cd_measure "measure" = true) (k_measure : PySem.W.keepIn K (.ref f_measure) = true)
    (a_centre : PySem.W.nsIn K mainGlobals "centre" = some (some (.ref f_centre))) (l_centre : K.lookup f_centre = some ⟨oc_centre, od_centre, .func (PySem.W.fnOf "centre" "centre" (defArgs s_centre) (defBody s_centre) (defScope s_centre) .none kV_centre dc_centre pm_centre an_centre cd_centre ct_centre), sl_centre⟩) (c_centre : PySem.W.codeIn K cd_centre "centre" = true) (k_centre : PySem.W.keepIn K (.ref f_centre) = true)
    (a_Lmeasure_v1 : PySem.W.nsIn K mainGlobals "_law_measure" = some (some (.ref f_Lmeasure_v1))) (l_Lmeasure_v1 : K.lookup f_Lmeasure_v1 = some ⟨oc_Lmeasure_v1, od_Lmeasure_v1, .func (PySem.W.fnOf "_law_measure" "_law_measure" (defArgs s_Lmeasure_v1) (defBody s_Lmeasure_v1) (defScope s_Lmeasure_v1) .none kV_Lmeasure_v1 dc_Lmeasure_v1 pm_Lmeasure_v1 an_Lmeasure_v1 cd_Lmeasure_v1 ct_Lmeasure_v1), sl_Lmeasure_v1⟩) (c_Lmeasure_v1 : PySem.W.codeIn K cd_Lmeasure_v1 "_law_measure" = true) (k_Lmeasure_v1 : PySem.W.keepIn K (.ref f_Lmeasure_v1) = true)
    (a_law_v26 : PySem.W.nsIn K mainGlobals "law" = some (some (.ref f_law_v26))) (l_law_v26 : K.lookup f_law_v26 = some ⟨oc_law_v26, od_law_v26, .func (PySem.W.fnOf "law" "law" (defArgs s_law_v26) (defBody s_law_v26) (defScope s_law_v26) .none kV_law_v26 dc_law_v26 pm_law_v26 an_law_v26 cd_law_v26 ct_law_v26), sl_law_v26⟩) (c_law_v26 : PySem.W.codeIn K cd_law_v26 "law" = true) (k_law_v26 : PySem.W.keepIn K (.ref f_law_v26) = true)
    (z_abs : PySem.W.nsIn K mainGlobals "abs" = some none)
    (z_range : PySem.W.nsIn K mainGlobals "range" = some none)
    (z_int : PySem.W.nsIn K mainGlobals "int" = some none)
    (z_len : PySem.W.nsIn K mainGlobals "len" = some none)
    (z_tuple : PySem.W.nsIn K mainGlobals "tuple" = some none)
    (z_isinstance : PySem.W.nsIn K mainGlobals "isinstance" = some none) :
    ∃ fd : FuncData, (∀ (s : Shared) (v : Value), BindsTo s fd ⟨[v], []⟩ [("_law_script", v)]) ∧ ∀ base : Heap, K.In base → base.Ns mainGlobals mg → FnOk l.prog w K mg base CX0 5 fa fd ["_law_script"] (spD K sp_law) := by
  have e := hfa.symm.trans (PySem.W.mg_of X G a_law_v26)
  cases e
  have m_abs := PySem.W.mg_none_of X G z_abs
  have m_range := PySem.W.mg_none_of X G z_range
  have m_int := PySem.W.mg_none_of X G z_int
  have m_len := PySem.W.mg_none_of X G z_len
  have m_tuple := PySem.W.mg_none_of X G z_tuple
  have m_isinstance := PySem.W.mg_none_of X G z_isinstance
  refine ⟨PySem.W.fnOf "law" "law" (defArgs s_law_v26) (defBody s_law_v26) (defScope s_law_v26) .none kV_law_v26 dc_law_v26 pm_law_v26 an_law_v26 cd_law_v26 ct_law_v26, fun s v => .of_eq rfl, fun base _ _ => ?_⟩
  have F_Lnumbers := fun_mk (st := s_Lnumbers) l_Lnumbers c_Lnumbers k_Lnumbers
  have b_Lnumbers := F_Lnumbers.binds (ps := ["_law_cell_here", "_law_many"]) fun _ _ _ _ _ _ us hl => match us, hl with | [_, _], _ => rfl
  have I_Lnumbers : FnIn l.prog w K mg base 1 "_law_numbers" sp_Lnumbers := fn_in F_Lnumbers (ok_Lnumbers (P := l.prog) (w := w) (base := base) (k := 0) F_Lnumbers m_abs m_range m_int) (PySem.W.mg_of X G a_Lnumbers) b_Lnumbers
  have F_Lcell := fun_mk (st := s_Lcell) l_Lcell c_Lcell k_Lcell
  have b_Lcell := F_Lcell.binds (ps := ["_law_script", "_law_k"]) fun _ _ _ _ _ _ us hl => match us, hl with | [_, _], _ => rfl
  have I_Lcell : FnIn l.prog w K mg base 1 "_law_cell" sp_Lcell := fn_in F_Lcell (ok_Lcell (P := l.prog) (w := w) (base := base) (k := 0) F_Lcell m_len) (PySem.W.mg_of X G a_Lcell) b_Lcell
  have F_Lstate := fun_mk (st := s_Lstate) l_Lstate c_Lstate k_Lstate
  have b_Lstate := F_Lstate.binds (ps := ["_law_script"]) fun _ _ _ _ _ _ us hl => match us, hl with | [_], _ => rfl
  have I_Lstate : FnIn l.prog w K mg base 2 "_law_state" sp_Lstate := fn_in F_Lstate ((ok_Lstate0 (P := l.prog) (w := w) (base := base) (k := 1) F_Lstate m_range m_abs (I_Lnumbers.mono (by decide)) (I_Lcell.mono (by decide))).imp imp_Lstate) (PySem.W.mg_of X G a_Lstate) b_Lstate
  have F_Lworth_v1 := fun_mk (st := s_Lworth_v1) l_Lworth_v1 c_Lworth_v1 k_Lworth_v1
  have b_Lworth_v1 := F_Lworth_v1.binds (ps := ["_law_form_here", "_law_x", "_law_y"]) fun _ _ _ _ _ _ us hl => match us, hl with | [_, _, _], _ => rfl
  have I_Lworth_v1 : FnIn l.prog w K mg base 1 "_law_worth" sp_Lworth_v1 := fn_in F_Lworth_v1 (ok_Lworth_v1 (P := l.prog) (w := w) (base := base) (k := 0) F_Lworth_v1) (PySem.W.mg_of X G a_Lworth_v1) b_Lworth_v1
  have F_Lact_v1 := fun_mk (st := s_Lact_v1) l_Lact_v1 c_Lact_v1 k_Lact_v1
  have b_Lact_v1 := F_Lact_v1.binds (ps := ["_law_form_here", "_law_m"]) fun _ _ _ _ _ _ us hl => match us, hl with | [_, _], _ => rfl
  have I_Lact_v1 : FnIn l.prog w K mg base 2 "_law_act" sp_Lact_v1 := fn_in F_Lact_v1 (ok_Lact_v1 (P := l.prog) (w := w) (base := base) (k := 1) F_Lact_v1 (I_Lworth_v1.mono (by decide))) (PySem.W.mg_of X G a_Lact_v1) b_Lact_v1
  have F_Lnext := fun_mk (st := s_Lnext) l_Lnext c_Lnext k_Lnext
  have b_Lnext := F_Lnext.binds (ps := ["_law_state_here", "_law_many"]) fun _ _ _ _ _ _ us hl => match us, hl with | [_, _], _ => rfl
  have I_Lnext : FnIn l.prog w K mg base 1 "_law_next" sp_Lnext := fn_in F_Lnext (ok_Lnext (P := l.prog) (w := w) (base := base) (k := 0) F_Lnext m_len m_int) (PySem.W.mg_of X G a_Lnext) b_Lnext
  have F_Lsplit := fun_mk (st := s_Lsplit) l_Lsplit c_Lsplit k_Lsplit
  have b_Lsplit := F_Lsplit.binds (ps := ["_law_state_here"]) fun _ _ _ _ _ _ us hl => match us, hl with | [_], _ => rfl
  have I_Lsplit : FnIn l.prog w K mg base 2 "_law_split" sp_Lsplit := fn_in F_Lsplit (ok_Lsplit (P := l.prog) (w := w) (base := base) (k := 1) F_Lsplit m_range (I_Lnext.mono (by decide))) (PySem.W.mg_of X G a_Lsplit) b_Lsplit
  have F_Lflat := fun_mk (st := s_Lflat) l_Lflat c_Lflat k_Lflat
  have b_Lflat := F_Lflat.binds (ps := ["_law_state_here"]) fun _ _ _ _ _ _ us hl => match us, hl with | [_], _ => rfl
  have I_Lflat : FnIn l.prog w K mg base 2 "_law_flat" sp_Lflat := fn_in F_Lflat (ok_Lflat (P := l.prog) (w := w) (base := base) (k := 1) F_Lflat (I_Lnext.mono (by decide))) (PySem.W.mg_of X G a_Lflat) b_Lflat
  have F_Lroot := fun_mk (st := s_Lroot) l_Lroot c_Lroot k_Lroot
  have b_Lroot := F_Lroot.binds (ps := ["_law_n"]) fun _ _ _ _ _ _ us hl => match us, hl with | [_], _ => rfl
  have I_Lroot : FnIn l.prog w K mg base 1 "_law_root" sp_Lroot := fn_in F_Lroot (ok_Lroot (P := l.prog) (w := w) (base := base) (k := 0) F_Lroot m_range) (PySem.W.mg_of X G a_Lroot) b_Lroot
  have F_Lsquare := fun_mk (st := s_Lsquare) l_Lsquare c_Lsquare k_Lsquare
  have b_Lsquare := F_Lsquare.binds (ps := ["_law_n"]) fun _ _ _ _ _ _ us hl => match us, hl with | [_], _ => rfl
  have I_Lsquare : FnIn l.prog w K mg base 2 "_law_square" sp_Lsquare := fn_in F_Lsquare (ok_Lsquare (P := l.prog) (w := w) (base := base) (k := 1) F_Lsquare (I_Lroot.mono (by decide))) (PySem.W.mg_of X G a_Lsquare) b_Lsquare
  have F_Lkind := fun_mk (st := s_Lkind) l_Lkind c_Lkind k_Lkind
  have b_Lkind := F_Lkind.binds (ps := ["_law_form_here"]) fun _ _ _ _ _ _ us hl => match us, hl with | [_], _ => rfl
  have I_Lkind : FnIn l.prog w K mg base 3 "_law_kind" sp_Lkind := fn_in F_Lkind (ok_Lkind (P := l.prog) (w := w) (base := base) (k := 2) F_Lkind m_int (I_Lsquare.mono (by decide))) (PySem.W.mg_of X G a_Lkind) b_Lkind
  have F_Lform := fun_mk (st := s_Lform) l_Lform c_Lform k_Lform
  have b_Lform := F_Lform.binds (ps := ["_law_state_here", "_law_sort"]) fun _ _ _ _ _ _ us hl => match us, hl with | [_, _], _ => rfl
  have I_Lform : FnIn l.prog w K mg base 4 "_law_form" sp_Lform := fn_in F_Lform (ok_Lform (P := l.prog) (w := w) (base := base) (k := 3) F_Lform m_range m_int (I_Lsplit.mono (by decide)) (I_Lflat.mono (by decide)) (I_Lnext.mono (by decide)) (I_Lkind.mono (by decide))) (PySem.W.mg_of X G a_Lform) b_Lform
  have F_Lmul := fun_mk (st := s_Lmul) l_Lmul c_Lmul k_Lmul
  have b_Lmul := F_Lmul.binds (ps := ["_law_m", "_law_n"]) fun _ _ _ _ _ _ us hl => match us, hl with | [_, _], _ => rfl
  have I_Lmul : FnIn l.prog w K mg base 1 "_law_mul" sp_Lmul := fn_in F_Lmul (ok_Lmul (P := l.prog) (w := w) (base := base) (k := 0) F_Lmul m_tuple) (PySem.W.mg_of X G a_Lmul) b_Lmul
  have F_Lchange := fun_mk (st := s_Lchange) l_Lchange c_Lchange k_Lchange
  have b_Lchange := F_Lchange.binds (ps := ["_law_state_here", "_law_many"]) fun _ _ _ _ _ _ us hl => match us, hl with | [_, _], _ => rfl
  have I_Lchange : FnIn l.prog w K mg base 2 "_law_change" sp_Lchange := fn_in F_Lchange (ok_Lchange (P := l.prog) (w := w) (base := base) (k := 1) F_Lchange m_range (I_Lnext.mono (by decide)) (I_Lmul.mono (by decide))) (PySem.W.mg_of X G a_Lchange) b_Lchange
  have F_Lvalue := fun_mk (st := s_Lvalue) l_Lvalue c_Lvalue k_Lvalue
  have b_Lvalue := F_Lvalue.binds (ps := ["_law_equation", "_law_x", "_law_y"]) fun _ _ _ _ _ _ us hl => match us, hl with | [_, _, _], _ => rfl
  have I_Lvalue : FnIn l.prog w K mg base 1 "_law_value" sp_Lvalue := fn_in F_Lvalue (ok_Lvalue (P := l.prog) (w := w) (base := base) (k := 0) F_Lvalue) (PySem.W.mg_of X G a_Lvalue) b_Lvalue
  have F_Lthrough := fun_mk (st := s_Lthrough) l_Lthrough c_Lthrough k_Lthrough
  have b_Lthrough := F_Lthrough.binds (ps := ["_law_state_here", "_law_form_here", "_law_reach"]) fun _ _ _ _ _ _ us hl => match us, hl with | [_, _, _], _ => rfl
  have I_Lthrough : FnIn l.prog w K mg base 2 "_law_through" sp_Lthrough := fn_in F_Lthrough (ok_Lthrough (P := l.prog) (w := w) (base := base) (k := 1) F_Lthrough (I_Lnext.mono (by decide)) (I_Lvalue.mono (by decide))) (PySem.W.mg_of X G a_Lthrough) b_Lthrough
  have F_worth := fun_mk (st := s_worth) l_worth c_worth k_worth
  have b_worth := F_worth.binds (ps := ["form", "point"]) fun _ _ _ _ _ _ us hl => match us, hl with | [_, _], _ => rfl
  have I_worth : FnIn l.prog w K mg base 1 "worth" sp_worth := fn_in F_worth (ok_worth (P := l.prog) (w := w) (base := base) (k := 0) F_worth) (PySem.W.mg_of X G a_worth) b_worth
  have F_act := fun_mk (st := s_act) l_act c_act k_act
  have b_act := F_act.binds (ps := ["form", "m"]) fun _ _ _ _ _ _ us hl => match us, hl with | [_, _], _ => rfl
  have I_act : FnIn l.prog w K mg base 2 "act" sp_act := fn_in F_act (ok_act (P := l.prog) (w := w) (base := base) (k := 1) F_act (I_worth.mono (by decide))) (PySem.W.mg_of X G a_act) b_act
  have F_change_equation := fun_mk (st := s_change_equation) l_change_equation c_change_equation k_change_equation
  have b_change_equation := F_change_equation.binds (ps := ["equation", "m", "shift"]) fun _ _ _ _ _ _ us hl => match us, hl with | [_, _, _], _ => rfl
  have I_change_equation : FnIn l.prog w K mg base 3 "change_equation" sp_change_equation := fn_in F_change_equation (ok_change_equation (P := l.prog) (w := w) (base := base) (k := 2) F_change_equation (I_act.mono (by decide))) (PySem.W.mg_of X G a_change_equation) b_change_equation
  have F_turn_over := fun_mk (st := s_turn_over) l_turn_over c_turn_over k_turn_over
  have b_turn_over := F_turn_over.binds (ps := ["equation"]) fun _ _ _ _ _ _ us hl => match us, hl with | [_], _ => rfl
  have I_turn_over : FnIn l.prog w K mg base 1 "turn_over" sp_turn_over := fn_in F_turn_over (ok_turn_over (P := l.prog) (w := w) (base := base) (k := 0) F_turn_over) (PySem.W.mg_of X G a_turn_over) b_turn_over
  have F_scale_equation := fun_mk (st := s_scale_equation) l_scale_equation c_scale_equation k_scale_equation
  have b_scale_equation := F_scale_equation.binds (ps := ["equation", "number"]) fun _ _ _ _ _ _ us hl => match us, hl with | [_, _], _ => rfl
  have I_scale_equation : FnIn l.prog w K mg base 1 "scale_equation" sp_scale_equation := fn_in F_scale_equation (ok_scale_equation (P := l.prog) (w := w) (base := base) (k := 0) F_scale_equation m_tuple) (PySem.W.mg_of X G a_scale_equation) b_scale_equation
  have F_Lat := fun_mk (st := s_Lat) l_Lat c_Lat k_Lat
  have b_Lat := F_Lat.binds (ps := ["_law_m", "_law_x", "_law_y"]) fun _ _ _ _ _ _ us hl => match us, hl with | [_, _, _], _ => rfl
  have I_Lat : FnIn l.prog w K mg base 1 "_law_at" sp_Lat := fn_in F_Lat (ok_Lat (P := l.prog) (w := w) (base := base) (k := 0) F_Lat) (PySem.W.mg_of X G a_Lat) b_Lat
  have F_apply := fun_mk (st := s_apply) l_apply c_apply k_apply
  have b_apply := F_apply.binds (ps := ["m", "point"]) fun _ _ _ _ _ _ us hl => match us, hl with | [_, _], _ => rfl
  have I_apply : FnIn l.prog w K mg base 1 "apply" sp_apply := fn_in F_apply (ok_apply (P := l.prog) (w := w) (base := base) (k := 0) F_apply) (PySem.W.mg_of X G a_apply) b_apply
  have F_old_point := fun_mk (st := s_old_point) l_old_point c_old_point k_old_point
  have b_old_point := F_old_point.binds (ps := ["m", "shift", "point"]) fun _ _ _ _ _ _ us hl => match us, hl with | [_, _, _], _ => rfl
  have I_old_point : FnIn l.prog w K mg base 2 "old_point" sp_old_point := fn_in F_old_point (ok_old_point (P := l.prog) (w := w) (base := base) (k := 1) F_old_point (I_apply.mono (by decide))) (PySem.W.mg_of X G a_old_point) b_old_point
  have F_value := fun_mk (st := s_value) l_value c_value k_value
  have b_value := F_value.binds (ps := ["equation", "point"]) fun _ _ _ _ _ _ us hl => match us, hl with | [_, _], _ => rfl
  have I_value : FnIn l.prog w K mg base 1 "value" sp_value := fn_in F_value (ok_value (P := l.prog) (w := w) (base := base) (k := 0) F_value) (PySem.W.mg_of X G a_value) b_value
  have F_determinant := fun_mk (st := s_determinant) l_determinant c_determinant k_determinant
  have b_determinant := F_determinant.binds (ps := ["m"]) fun _ _ _ _ _ _ us hl => match us, hl with | [_], _ => rfl
  have I_determinant : FnIn l.prog w K mg base 1 "determinant" sp_determinant := fn_in F_determinant (ok_determinant (P := l.prog) (w := w) (base := base) (k := 0) F_determinant) (PySem.W.mg_of X G a_determinant) b_determinant
  have F_inverse := fun_mk (st := s_inverse) l_inverse c_inverse k_inverse
  have b_inverse := F_inverse.binds (ps := ["m"]) fun _ _ _ _ _ _ us hl => match us, hl with | [_], _ => rfl
  have I_inverse : FnIn l.prog w K mg base 2 "inverse" sp_inverse := fn_in F_inverse (ok_inverse (P := l.prog) (w := w) (base := base) (k := 1) F_inverse (I_determinant.mono (by decide))) (PySem.W.mg_of X G a_inverse) b_inverse
  have F_new_point := fun_mk (st := s_new_point) l_new_point c_new_point k_new_point
  have b_new_point := F_new_point.binds (ps := ["m", "shift", "point"]) fun _ _ _ _ _ _ us hl => match us, hl with | [_, _, _], _ => rfl
  have I_new_point : FnIn l.prog w K mg base 3 "new_point" sp_new_point := fn_in F_new_point (ok_new_point (P := l.prog) (w := w) (base := base) (k := 2) F_new_point (I_apply.mono (by decide)) (I_inverse.mono (by decide))) (PySem.W.mg_of X G a_new_point) b_new_point
  have F_discriminant := fun_mk (st := s_discriminant) l_discriminant c_discriminant k_discriminant
  have b_discriminant := F_discriminant.binds (ps := ["form"]) fun _ _ _ _ _ _ us hl => match us, hl with | [_], _ => rfl
  have I_discriminant : FnIn l.prog w K mg base 1 "discriminant" sp_discriminant := fn_in F_discriminant (ok_discriminant (P := l.prog) (w := w) (base := base) (k := 0) F_discriminant) (PySem.W.mg_of X G a_discriminant) b_discriminant
  have F_bezout := fun_mk (st := s_bezout) l_bezout c_bezout k_bezout
  have b_bezout := F_bezout.binds (ps := ["a", "b"]) fun _ _ _ _ _ _ us hl => match us, hl with | [_, _], _ => rfl
  have I_bezout : FnIn l.prog w K mg base 1 "bezout" sp_bezout := fn_in F_bezout (ok_bezout (P := l.prog) (w := w) (base := base) (k := 0) F_bezout) (PySem.W.mg_of X G a_bezout) b_bezout
  have F_measure := fun_mk (st := s_measure) l_measure c_measure k_measure
  have b_measure := F_measure.binds (ps := ["numbers"]) fun _ _ _ _ _ _ us hl => match us, hl with | [_], _ => rfl
  have I_measure : FnIn l.prog w K mg base 2 "measure" sp_measure := fn_in F_measure (ok_measure (P := l.prog) (w := w) (base := base) (k := 1) F_measure (I_bezout.mono (by decide))) (PySem.W.mg_of X G a_measure) b_measure
  have F_centre := fun_mk (st := s_centre) l_centre c_centre k_centre
  have b_centre := F_centre.binds (ps := ["equation"]) fun _ _ _ _ _ _ us hl => match us, hl with | [_], _ => rfl
  have I_centre : FnIn l.prog w K mg base 3 "centre" sp_centre := fn_in F_centre (ok_centre (P := l.prog) (w := w) (base := base) (k := 2) F_centre (I_discriminant.mono (by decide)) (I_measure.mono (by decide))) (PySem.W.mg_of X G a_centre) b_centre
  have F_Lmeasure_v1 := fun_mk (st := s_Lmeasure_v1) l_Lmeasure_v1 c_Lmeasure_v1 k_Lmeasure_v1
  have b_Lmeasure_v1 := F_Lmeasure_v1.binds (ps := ["_law_a", "_law_b"]) fun _ _ _ _ _ _ us hl => match us, hl with | [_, _], _ => rfl
  have I_Lmeasure_v1 : FnIn l.prog w K mg base 1 "_law_measure" sp_Lmeasure_v1 := fn_in F_Lmeasure_v1 (ok_Lmeasure_v1 (P := l.prog) (w := w) (base := base) (k := 0) F_Lmeasure_v1 m_abs m_range) (PySem.W.mg_of X G a_Lmeasure_v1) b_Lmeasure_v1
  have F_law_v26 := fun_mk (st := s_law_v26) l_law_v26 c_law_v26 k_law_v26
  exact ok_law_v26 (P := l.prog) (w := w) (base := base) (k := 4) F_law_v26 m_range m_tuple m_isinstance m_len (I_Lstate.mono (by decide)) (I_Lact_v1.mono (by decide)) (I_Lform.mono (by decide)) (I_Lnext.mono (by decide)) (I_Lchange.mono (by decide)) (I_Lthrough.mono (by decide)) (I_change_equation.mono (by decide)) (I_turn_over.mono (by decide)) (I_scale_equation.mono (by decide)) (I_Lat.mono (by decide)) (I_old_point.mono (by decide)) (I_Lvalue.mono (by decide)) (I_value.mono (by decide)) (I_Lmul.mono (by decide)) (I_new_point.mono (by decide)) (I_centre.mono (by decide)) (I_Lmeasure_v1.mono (by decide))
end DL
open PySem PySem.W PyProof.Rows
set_option maxRecDepth 100000 in
set_option maxHeartbeats 0 in
theorem PySem.Challenge.cw_wholeconic_k27_new_unknowns_holds : PySem.Challenge.rw_wholeconic_k27_new_unknowns.Holds := by
  w_on; o_law; k_head; (case hw => w_witness2)
  k_fill
  refine L2.walk_of (l := PySem.Challenge.rw_wholeconic_k27_new_unknowns) (n := 63) (k := 5) (x := "_law_script") (CX := fun _ => L2.CX0) (sp := fun w => DL.spD _ DL.sp_law) rfl (by decide) rfl ⟨rfl, by decide, by decide⟩ (fun w h Y => PySem.W.kIn_of Y) ?F (fun _ _ a ns hl hO hS => DL.law_in hl hS) (fun _ _ _ _ _ h => h)
  case F =>
    intro w mg fa h KX G hmg
    refine' DL.all_mk KX G hmg ?a_Lnumbers ?l_Lnumbers ?c_Lnumbers ?k_Lnumbers ?a_Lcell ?l_Lcell ?c_Lcell ?k_Lcell ?a_Lstate ?l_Lstate ?c_Lstate ?k_Lstate ?a_Lworth_v1 ?l_Lworth_v1 ?c_Lworth_v1 ?k_Lworth_v1 ?a_Lact_v1 ?l_Lact_v1 ?c_Lact_v1 ?k_Lact_v1 ?a_Lnext ?l_Lnext ?c_Lnext ?k_Lnext ?a_Lsplit ?l_Lsplit ?c_Lsplit ?k_Lsplit ?a_Lflat ?l_Lflat ?c_Lflat ?k_Lflat ?a_Lroot ?l_Lroot ?c_Lroot ?k_Lroot ?a_Lsquare ?l_Lsquare ?c_Lsquare ?k_Lsquare ?a_Lkind ?l_Lkind ?c_Lkind ?k_Lkind ?a_Lform ?l_Lform ?c_Lform ?k_Lform ?a_Lmul ?l_Lmul ?c_Lmul ?k_Lmul ?a_Lchange ?l_Lchange ?c_Lchange ?k_Lchange ?a_Lvalue ?l_Lvalue ?c_Lvalue ?k_Lvalue ?a_Lthrough ?l_Lthrough ?c_Lthrough ?k_Lthrough ?a_worth ?l_worth ?c_worth ?k_worth ?a_act ?l_act ?c_act ?k_act ?a_change_equation ?l_change_equation ?c_change_equation ?k_change_equation ?a_turn_over ?l_turn_over ?c_turn_over ?k_turn_over ?a_scale_equation ?l_scale_equation ?c_scale_equation ?k_scale_equation ?a_Lat ?l_Lat ?c_Lat ?k_Lat ?a_apply ?l_apply ?c_apply ?k_apply ?a_old_point ?l_old_point ?c_old_point ?k_old_point ?a_value ?l_value ?c_value ?k_value ?a_determinant ?l_determinant ?c_determinant ?k_determinant ?a_inverse ?l_inverse ?c_inverse ?k_inverse ?a_new_point ?l_new_point ?c_new_point ?k_new_point ?a_discriminant ?l_discriminant ?c_discriminant ?k_discriminant ?a_bezout ?l_bezout ?c_bezout ?k_bezout ?a_measure ?l_measure ?c_measure ?k_measure ?a_centre ?l_centre ?c_centre ?k_centre ?a_Lmeasure_v1 ?l_Lmeasure_v1 ?c_Lmeasure_v1 ?k_Lmeasure_v1 ?a_law_v26 ?l_law_v26 ?c_law_v26 ?k_law_v26 ?z_abs ?z_range ?z_int ?z_len ?z_tuple ?z_isinstance
    (case a_Lnumbers => k_is)
    (case l_Lnumbers => k_is)
    (case c_Lnumbers => k_is)
    (case k_Lnumbers => k_is)
    (case a_Lcell => k_is)
    (case l_Lcell => k_is)
    (case c_Lcell => k_is)
    (case k_Lcell => k_is)
    (case a_Lstate => k_is)
    (case l_Lstate => k_is)
    (case c_Lstate => k_is)
    (case k_Lstate => k_is)
    (case a_Lworth_v1 => k_is)
    (case l_Lworth_v1 => k_is)
    (case c_Lworth_v1 => k_is)
    (case k_Lworth_v1 => k_is)
    (case a_Lact_v1 => k_is)
    (case l_Lact_v1 => k_is)
    (case c_Lact_v1 => k_is)
    (case k_Lact_v1 => k_is)
    (case a_Lnext => k_is)
    (case l_Lnext => k_is)
    (case c_Lnext => k_is)
    (case k_Lnext => k_is)
    (case a_Lsplit => k_is)
    (case l_Lsplit => k_is)
    (case c_Lsplit => k_is)
    (case k_Lsplit => k_is)
    (case a_Lflat => k_is)
    (case l_Lflat => k_is)
    (case c_Lflat => k_is)
    (case k_Lflat => k_is)
    (case a_Lroot => k_is)
    (case l_Lroot => k_is)
    (case c_Lroot => k_is)
    (case k_Lroot => k_is)
    (case a_Lsquare => k_is)
    (case l_Lsquare => k_is)
    (case c_Lsquare => k_is)
    (case k_Lsquare => k_is)
    (case a_Lkind => k_is)
    (case l_Lkind => k_is)
    (case c_Lkind => k_is)
    (case k_Lkind => k_is)
    (case a_Lform => k_is)
    (case l_Lform => k_is)
    (case c_Lform => k_is)
    (case k_Lform => k_is)
    (case a_Lmul => k_is)
    (case l_Lmul => k_is)
    (case c_Lmul => k_is)
    (case k_Lmul => k_is)
    (case a_Lchange => k_is)
    (case l_Lchange => k_is)
    (case c_Lchange => k_is)
    (case k_Lchange => k_is)
    (case a_Lvalue => k_is)
    (case l_Lvalue => k_is)
    (case c_Lvalue => k_is)
    (case k_Lvalue => k_is)
    (case a_Lthrough => k_is)
    (case l_Lthrough => k_is)
    (case c_Lthrough => k_is)
    (case k_Lthrough => k_is)
    (case a_worth => k_is)
    (case l_worth => k_is)
    (case c_worth => k_is)
    (case k_worth => k_is)
    (case a_act => k_is)
    (case l_act => k_is)
    (case c_act => k_is)
    (case k_act => k_is)
    (case a_change_equation => k_is)
    (case l_change_equation => k_is)
    (case c_change_equation => k_is)
    (case k_change_equation => k_is)
    (case a_turn_over => k_is)
    (case l_turn_over => k_is)
    (case c_turn_over => k_is)
    (case k_turn_over => k_is)
    (case a_scale_equation => k_is)
    (case l_scale_equation => k_is)
    (case c_scale_equation => k_is)
    (case k_scale_equation => k_is)
    (case a_Lat => k_is)
    (case l_Lat => k_is)
    (case c_Lat => k_is)
    (case k_Lat => k_is)
    (case a_apply => k_is)
    (case l_apply => k_is)
    (case c_apply => k_is)
    (case k_apply => k_is)
    (case a_old_point => k_is)
    (case l_old_point => k_is)
    (case c_old_point => k_is)
    (case k_old_point => k_is)
    (case a_value => k_is)
    (case l_value => k_is)
    (case c_value => k_is)
    (case k_value => k_is)
    (case a_determinant => k_is)
    (case l_determinant => k_is)
    (case c_determinant => k_is)
    (case k_determinant => k_is)
    (case a_inverse => k_is)
    (case l_inverse => k_is)
    (case c_inverse => k_is)
    (case k_inverse => k_is)
    (case a_new_point => k_is)
    (case l_new_point => k_is)
    (case c_new_point => k_is)
    (case k_new_point => k_is)
    (case a_discriminant => k_is)
    (case l_discriminant => k_is)
    (case c_discriminant => k_is)
    (case k_discriminant => k_is)
    (case a_bezout => k_is)
    (case l_bezout => k_is)
    (case c_bezout => k_is)
    (case k_bezout => k_is)
    (case a_measure => k_is)
    (case l_measure => k_is)
    (case c_measure => k_is)
    (case k_measure => k_is)
    (case a_centre => k_is)
    (case l_centre => k_is)
    (case c_centre => k_is)
    (case k_centre => k_is)
    (case a_Lmeasure_v1 => k_is)
    (case l_Lmeasure_v1 => k_is)
    (case c_Lmeasure_v1 => k_is)
    (case k_Lmeasure_v1 => k_is)
    (case a_law_v26 => k_is)
    (case l_law_v26 => k_is)
    (case c_law_v26 => k_is)
    (case k_law_v26 => k_is)
    (case z_abs => k_is)
    (case z_range => k_is)
    (case z_int => k_is)
    (case z_len => k_is)
    (case z_tuple => k_is)
    (case z_isinstance => k_is)
