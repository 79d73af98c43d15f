import PyProof.Rows.All
import Wide.All
import OpenK.AllK
import Wide.FinOn
import HandS.ForMost
import HandS.Wide
import HandS.Style
import HandS.Conv
import HandS.Deep
import HandS.TupLe
import HandS.SortInts
import HandS.IsInst
import KE.KMathG
import HandS.TryOnly
import KE.SortData
import KE.DataCmp
import PyProof.TupleOfSeq
import KE.DataMinMax
import PyProof.RulesMatch
import HandS.TupSets
import Flt.RightSqrt
import PySem.Challenge.RW_wholeconic_k17_classes
set_option Elab.async false
set_option linter.all false
set_option maxRecDepth 100000
set_option maxHeartbeats 4000000
namespace DL
open PySem PySem.Spec PyProof.Rows L2

/-! ### data -/
inductive D where
  | non | bl (b : Bool) | int (i : Int) | str (s : Str) | st | tup (xs : List D) | lst (xs : List D)
  deriving Inhabited

/-- where the law's own state stands; what is written once for all -/
structure Wd where
  g : Option Addr
  hd : Hp
structure Wd.le (a b : Wd) : Prop where
  g : ∀ p, a.g = some p → b.g = some p
  hd : ∀ p o, a.hd p = some o → b.hd p = some o
theorem Wd.le.refl (a : Wd) : a.le a := ⟨fun _ h => h, fun _ _ h => h⟩
theorem Wd.le.trans {a b c : Wd} (x : a.le b) (y : b.le c) : a.le c := ⟨fun p h => y.g p (x.g p h), fun p o h => y.hd p o (x.hd p o h)⟩

mutual
def Rep (K : PySem.W.Frag) (ω : Wd) : D → V → Prop
  | .non, v => v = .non
  | .bl b, v => v = .bl b
  | .int i, v => v = .int i
  | .str s, v => v = .str s
  | .st, v => ∃ a, ω.g = some a ∧ v = .ref a
  | .tup xs, v => ∃ a vs, v = .ref a ∧ SqT K ω.hd a vs ∧ Reps K ω xs vs
  | .lst xs, v => ∃ a vs, v = .ref a ∧ SqL K ω.hd a vs ∧ Reps K ω xs vs
def Reps (K : PySem.W.Frag) (ω : Wd) : List D → List V → Prop
  | [], vs => vs = []
  | d :: ds, vs => ∃ v r, vs = v :: r ∧ Rep K ω d v ∧ Reps K ω ds r
end

theorem sqL_mono {K : PySem.W.Frag} {H H' : Hp} (e : ∀ p o, H p = some o → H' p = some o) {a : Addr} {vs : List V} (h : SqL K H a vs) : SqL K H' a vs := by
  rcases h with (h | ⟨o, h⟩) | h
  · exact .inl (.inl (e _ _ h))
  · exact .inl (.inr ⟨o, e _ _ h⟩)
  · exact .inr h
theorem sqT_mono {K : PySem.W.Frag} {H H' : Hp} (e : ∀ p o, H p = some o → H' p = some o) {a : Addr} {vs : List V} (h : SqT K H a vs) : SqT K H' a vs := by
  rcases h with (h | ⟨o, h⟩) | h
  · exact .inl (.inl (e _ _ h))
  · exact .inl (.inr ⟨o, e _ _ h⟩)
  · exact .inr h

mutual
theorem Rep.mono {K : PySem.W.Frag} {ω ω' : Wd} (l : ω.le ω') : ∀ {d : D} {v : V}, Rep K ω d v → Rep K ω' d v
  | .non, _, h => by unfold Rep at h ⊢; exact h
  | .bl b, _, h => by unfold Rep at h ⊢; exact h
  | .int i, _, h => by unfold Rep at h ⊢; exact h
  | .str s, _, h => by unfold Rep at h ⊢; exact h
  | .st, _, h => by
    unfold Rep at h ⊢
    obtain ⟨a, h1, h2⟩ := h
    exact ⟨a, l.g a h1, h2⟩
  | .tup xs, _, h => by
    unfold Rep at h ⊢
    obtain ⟨a, vs, h1, h2, h3⟩ := h
    exact ⟨a, vs, h1, sqT_mono l.hd h2, Reps.mono l h3⟩
  | .lst xs, _, h => by
    unfold Rep at h ⊢
    obtain ⟨a, vs, h1, h2, h3⟩ := h
    exact ⟨a, vs, h1, sqL_mono l.hd h2, Reps.mono l h3⟩
theorem Reps.mono {K : PySem.W.Frag} {ω ω' : Wd} (l : ω.le ω') : ∀ {ds : List D} {vs : List V}, Reps K ω ds vs → Reps K ω' ds vs
  | [], _, h => by unfold Reps at h ⊢; exact h
  | d :: ds, _, h => by
    unfold Reps at h ⊢
    obtain ⟨v, r, h1, h2, h3⟩ := h
    exact ⟨v, r, h1, Rep.mono l h2, Reps.mono l h3⟩
end
section
variable {K : PySem.W.Frag} {ω : Wd}
theorem Rep.int_iff {i : Int} {v : V} : Rep K ω (.int i) v ↔ v = .int i := by unfold Rep; exact Iff.rfl
theorem Rep.bl_iff {i : Bool} {v : V} : Rep K ω (.bl i) v ↔ v = .bl i := by unfold Rep; exact Iff.rfl
theorem Rep.str_iff {i : Str} {v : V} : Rep K ω (.str i) v ↔ v = .str i := by unfold Rep; exact Iff.rfl
theorem Rep.non_iff {v : V} : Rep K ω .non v ↔ v = .non := by unfold Rep; exact Iff.rfl
theorem Rep.tup_iff {xs : List D} {v : V} : Rep K ω (.tup xs) v ↔ ∃ a vs, v = .ref a ∧ SqT K ω.hd a vs ∧ Reps K ω xs vs := by conv => lhs; unfold Rep
theorem Rep.lst_iff {xs : List D} {v : V} : Rep K ω (.lst xs) v ↔ ∃ a vs, v = .ref a ∧ SqL K ω.hd a vs ∧ Reps K ω xs vs := by conv => lhs; unfold Rep
theorem Rep.st_iff {v : V} : Rep K ω .st v ↔ ∃ a, ω.g = some a ∧ v = .ref a := by conv => lhs; unfold Rep
theorem Reps.nil : Reps K ω [] [] := by unfold Reps; rfl
theorem Reps.nil_iff {vs : List V} : Reps K ω [] vs ↔ vs = [] := by unfold Reps; exact Iff.rfl
theorem Reps.cons_iff {d : D} {ds : List D} {vs : List V} : Reps K ω (d :: ds) vs ↔ ∃ v r, vs = v :: r ∧ Rep K ω d v ∧ Reps K ω ds r := by conv => lhs; unfold Reps
theorem Reps.cons {d : D} {ds : List D} {v : V} {vs : List V} (h : Rep K ω d v) (t : Reps K ω ds vs) : Reps K ω (d :: ds) (v :: vs) := Reps.cons_iff.mpr ⟨v, vs, rfl, h, t⟩
theorem Reps.length : ∀ {ds : List D} {vs : List V}, Reps K ω ds vs → vs.length = ds.length
  | [], _, h => by rw [Reps.nil_iff] at h; rw [h]; rfl
  | d :: ds, _, h => by
    obtain ⟨v, r, rfl, _, h3⟩ := Reps.cons_iff.mp h
    rw [List.length_cons, List.length_cons, Reps.length h3]
theorem Reps.get : ∀ {ds : List D} {vs : List V} {i : Nat} {d : D}, Reps K ω ds vs → ds[i]? = some d → ∃ v, vs[i]? = some v ∧ Rep K ω d v
  | [], _, _, _, _, e => by simp at e
  | d :: ds, _, 0, _, h, e => by
    obtain ⟨v, r, rfl, h2, h3⟩ := Reps.cons_iff.mp h
    simp at e; subst e
    exact ⟨v, rfl, h2⟩
  | d :: ds, _, i + 1, d', h, e => by
    obtain ⟨v, r, rfl, h2, h3⟩ := Reps.cons_iff.mp h
    obtain ⟨v', e', h'⟩ := Reps.get (i := i) (d := d') h3 (by simpa using e)
    exact ⟨v', by simpa using e', h'⟩
theorem Reps.append : ∀ {ds es : List D} {vs us : List V}, Reps K ω ds vs → Reps K ω es us → Reps K ω (ds ++ es) (vs ++ us)
  | [], _, _, _, h, t => by rw [Reps.nil_iff] at h; subst h; exact t
  | d :: ds, _, _, _, h, t => by
    obtain ⟨v, r, rfl, h2, h3⟩ := Reps.cons_iff.mp h
    exact Reps.cons h2 (Reps.append h3 t)
theorem Reps.drop : ∀ {ds : List D} {vs : List V} (n : Nat), Reps K ω ds vs → Reps K ω (ds.drop n) (vs.drop n)
  | _, _, 0, h => h
  | [], _, n + 1, h => by rw [Reps.nil_iff] at h; subst h; exact Reps.nil
  | d :: ds, _, n + 1, h => by
    obtain ⟨v, r, rfl, h2, h3⟩ := Reps.cons_iff.mp h
    exact Reps.drop n h3
theorem Reps.take : ∀ {ds : List D} {vs : List V} (n : Nat), Reps K ω ds vs → Reps K ω (ds.take n) (vs.take n)
  | _, _, 0, h => Reps.nil
  | [], _, n + 1, h => by rw [Reps.nil_iff] at h; subst h; exact Reps.nil
  | d :: ds, _, n + 1, h => by
    obtain ⟨v, r, rfl, h2, h3⟩ := Reps.cons_iff.mp h
    exact Reps.cons h2 (Reps.take n h3)
end

/-! ### what a name holds, what an expression gives -/
inductive EV where
  | val (d : D) | own (ds : List D)
  deriving Inhabited
def EV.d : EV → D
  | .val d => d
  | .own ds => .lst ds
abbrev En := List (Option EV)
abbrev Tk := Option Nat
structure C where
  K : PySem.W.Frag
  w0 : Wd
  H0 : Hp
  pr : Addr → Prop := fun _ => False

def StOk (K : PySem.W.Frag) (ω : Wd) (H : Hp) (tk : Tk) : Prop :=
  (ω.g = none ∧ tk = none) ∨ ∃ (a : Addr) (k : Nat), ω.g = some a ∧ tk = some k ∧ ω.hd a = none ∧ ∃ (n : Addr) (ns : List Int), H a = some (.lst [.ref n, .int (k : Int)]) ∧ SqL K ω.hd n (ns.map V.int) ∧ ns.length = 120 ∧ ∀ x ∈ ns, (0 : Int) ≤ x ∧ x < 1000
def OwnAt (c : C) (ω : Wd) (H : Hp) (p : Addr) (ds : List D) : Prop := ∃ vs, H p = some (.lst vs) ∧ ω.hd p = none ∧ ω.g ≠ some p ∧ (c.H0 p = none ∧ ¬ c.pr p) ∧ Reps c.K ω ds vs
def SlotV (c : C) (ω : Wd) (H : Hp) : EV → V → Prop
  | .val d, v => Rep c.K ω d v
  | .own ds, v => ∃ p, v = .ref p ∧ OwnAt c ω H p ds
structure Ok (c : C) (ω : Wd) (H : Hp) (σ : L2.St) (env : En) (tk : Tk) : Prop where
  len : σ.length = env.length
  sub : ∀ b o, ω.hd b = some o → H b = some o
  st : StOk c.K ω H tk
  slots : ∀ (i : Nat) (e : EV), env[i]? = some (some e) → ∃ v, σ[i]? = some (some v) ∧ SlotV c ω H e v
  dist : ∀ (i j : Nat) (p : Addr) (ds es : List D), env[i]? = some (some (.own ds)) → env[j]? = some (some (.own es)) → σ[i]? = some (some (.ref p)) → σ[j]? = some (some (.ref p)) → i = j
  new : ∀ b, ω.hd b ≠ none → c.w0.hd b ≠ none ∨ c.H0 b = none
  ng : ∀ a, ω.g = some a → c.w0.g = some a ∨ c.H0 a = none
  fr : ∀ b o, c.H0 b = some o → c.w0.g ≠ some b → H b = some o
  le0 : c.w0.le ω
  pr : ∀ b, c.pr b → H b ≠ none ∧ ω.hd b = none ∧ ω.g ≠ some b
/-- an expression's step -/
structure Stp (ω : Wd) (H : Hp) (ω' : Wd) (H' : Hp) : Prop where
  le : ω.le ω'
  fr : ∀ b o, H b = some o → ω.g ≠ some b → H' b = some o
  ng : ∀ a, ω'.g = some a → ω.g = some a ∨ H a = none
theorem Stp.refl (ω : Wd) (H : Hp) : Stp ω H ω H := ⟨.refl _, fun _ _ h _ => h, fun _ h => .inl h⟩
theorem Stp.trans {ω ω1 ω2 : Wd} {H H1 H2 : Hp} (a : Stp ω H ω1 H1) (b : Stp ω1 H1 ω2 H2) : Stp ω H ω2 H2 := by
  refine ⟨a.le.trans b.le, fun p o h n => b.fr p o (a.fr p o h n) fun e => ?_, fun p h => ?_⟩
  · rcases a.ng p e with e | e
    · exact n e
    · rw [h] at e; cases e
  · rcases b.ng p h with e | e
    · exact a.ng p e
    · by_cases q : ω.g = some p
      · exact .inl q
      · refine .inr ?_
        cases z : H p with
        | none => rfl
        | some o =>
          rw [a.fr p o z q] at e
          cases e
/-- read without giving away -/
def RepP (c : C) (ω : Wd) (H : Hp) (d : D) (v : V) : Prop := Rep c.K ω d v ∨ ∃ ds p vs, d = .lst ds ∧ v = .ref p ∧ H p = some (.lst vs) ∧ ω.g ≠ some p ∧ Reps c.K ω ds vs
def RepE (c : C) (ω : Wd) (H : Hp) (σ : L2.St) (env : En) : EV → V → Prop
  | .val d, v => Rep c.K ω d v
  | .own ds, v => ∃ p, v = .ref p ∧ OwnAt c ω H p ds ∧ ∀ (i : Nat) (es : List D), env[i]? = some (some (.own es)) → σ[i]? ≠ some (some (.ref p))
theorem RepP.step {c : C} {ω ω' : Wd} {H H' : Hp} {d : D} {v : V} (h : RepP c ω H d v) (s : Stp ω H ω' H') : RepP c ω' H' d v := by
  rcases h with h | ⟨ds, p, vs, rfl, rfl, h1, h2, h3⟩
  · exact .inl (h.mono s.le)
  · refine .inr ⟨ds, p, vs, rfl, rfl, s.fr p _ h1 h2, fun e => ?_, h3.mono s.le⟩
    rcases s.ng p e with e | e
    · exact h2 e
    · rw [h1] at e; cases e
section
variable {c : C} {ω : Wd} {H : Hp} {v : V}
theorem RepP.int {i : Int} (h : RepP c ω H (.int i) v) : v = .int i := by
  rcases h with h | ⟨ds, p, vs, e, _⟩
  · exact Rep.int_iff.mp h
  · cases e
theorem RepP.bl {i : Bool} (h : RepP c ω H (.bl i) v) : v = .bl i := by
  rcases h with h | ⟨ds, p, vs, e, _⟩
  · exact Rep.bl_iff.mp h
  · cases e
theorem RepP.str {i : Str} (h : RepP c ω H (.str i) v) : v = .str i := by
  rcases h with h | ⟨ds, p, vs, e, _⟩
  · exact Rep.str_iff.mp h
  · cases e
theorem RepP.lst (sub : ∀ b o, ω.hd b = some o → H b = some o) {ds : List D} (h : RepP c ω H (.lst ds) v) : ∃ p vs, v = .ref p ∧ SqL c.K H p vs ∧ Reps c.K ω ds vs := by
  rcases h with h | ⟨ds, p, vs, e, rfl, h1, h2, h3⟩
  · obtain ⟨a, vs, rfl, h1, h2⟩ := Rep.lst_iff.mp h
    exact ⟨a, vs, rfl, sqL_mono sub h1, h2⟩
  · cases e
    exact ⟨p, vs, rfl, .of h1, h3⟩
theorem RepP.tup (sub : ∀ b o, ω.hd b = some o → H b = some o) {ds : List D} (h : RepP c ω H (.tup ds) v) : ∃ p vs, v = .ref p ∧ SqT c.K H p vs ∧ Reps c.K ω ds vs := by
  rcases h with h | ⟨ds, p, vs, e, _⟩
  · obtain ⟨a, vs, rfl, h1, h2⟩ := Rep.tup_iff.mp h
    exact ⟨a, vs, rfl, sqT_mono sub h1, h2⟩
  · cases e
end
end DL

namespace DL
open PySem PySem.Spec PyProof.Rows L2

/-! ### the world grows -/
section
variable {c : C} {ω : Wd} {H : Hp} {σ : L2.St} {env : En} {tk : Tk} {p : Addr}
theorem Ok.nohd (ok : Ok c ω H σ env tk) (n : H p = none) : ω.hd p = none := by
  cases z : ω.hd p with
  | none => rfl
  | some o => rw [ok.sub p o z] at n; cases n
theorem StOk.there {K : PySem.W.Frag} (st : StOk K ω H tk) {a : Addr} (h : ω.g = some a) : H a ≠ none := by
  rcases st with ⟨e, _⟩ | ⟨a', k, e, _, _, n, ns, e2, _⟩
  · rw [h] at e; cases e
  · rw [h] at e; cases e
    intro z
    rw [e2] at z; cases z
theorem Ok.nog (ok : Ok c ω H σ env tk) (n : H p = none) : ω.g ≠ some p := fun e => ok.st.there e n
theorem Ok.noH0 (ok : Ok c ω H σ env tk) (n : H p = none) : c.H0 p = none := by
  cases z : c.H0 p with
  | none => rfl
  | some o =>
    by_cases q : c.w0.g = some p
    · exact absurd n (ok.st.there (ok.le0.g p q))
    · rw [ok.fr p o z q] at n; cases n
theorem Ok.nopr (ok : Ok c ω H σ env tk) (n : H p = none) : ¬ c.pr p := fun e => (ok.pr p e).1 n
/-- a slot's own list does not stand at a free place, nor at a frozen one -/
theorem Ok.noslot (ok : Ok c ω H σ env tk) (n : H p = none ∨ ω.hd p ≠ none) : ∀ (i : Nat) (es : List D), env[i]? = some (some (.own es)) → σ[i]? ≠ some (some (.ref p)) := fun i es e z => by
  obtain ⟨v, hv, q, rfl, vs, h1, h2, _⟩ := ok.slots i _ e
  rw [z] at hv
  cases hv
  rcases n with n | n
  · rw [h1] at n; cases n
  · exact n h2
theorem le_upd {o : HO} (n : ω.hd p = none) : ω.le ⟨ω.g, upd ω.hd p o⟩ := ⟨fun _ h => h, fun q u h => by
  show upd ω.hd p o q = some u
  rw [upd_ne (ne_of_none h n)]
  exact h⟩
theorem StOk.upd {K : PySem.W.Frag} {o : HO} (st : StOk K ω H tk) (n : H p = none) : StOk K ω (upd H p o) tk := by
  rcases st with st | ⟨a', k, e, e1, e0, nn, ns, e2, r⟩
  · exact .inl st
  · exact .inr ⟨a', k, e, e1, e0, nn, ns, by rw [upd_ne (ne_of_none e2 n)]; exact e2, r⟩
theorem StOk.hd {K : PySem.W.Frag} {o : HO} (st : StOk K ω H tk) (n : ω.g ≠ some p) (n2 : ω.hd p = none) : StOk K ⟨ω.g, L2.upd ω.hd p o⟩ H tk := by
  rcases st with st | ⟨a', k, e, e1, e0, nn, ns, e2, r, r2⟩
  · exact .inl st
  · refine .inr ⟨a', k, e, e1, ?_, nn, ns, e2, sqL_mono (le_upd n2).hd r, r2⟩
    show L2.upd ω.hd p o a' = none
    rw [upd_ne (fun q => n (by rw [e, q]))]
    exact e0
theorem SlotV.up {e : EV} {v : V} {ω' : Wd} {H' : Hp} (s : SlotV c ω H e v) (l : ω.le ω') (hg : ω'.g = ω.g) (k : ∀ q vs, v = .ref q → H q = some (.lst vs) → ω.hd q = none → c.H0 q = none ∧ ¬ c.pr q → H' q = some (.lst vs) ∧ ω'.hd q = none) : SlotV c ω' H' e v := by
  cases e with
  | val d => exact Rep.mono l s
  | own ds =>
    obtain ⟨q, rfl, vs, h1, h2, h3, h4, h5⟩ := s
    obtain ⟨k1, k2⟩ := k q vs rfl h1 h2 h4
    exact ⟨q, rfl, vs, k1, k2, by rw [hg]; exact h3, h4, h5.mono l⟩
/-- a new object, frozen at once -/
theorem Ok.alloc (ok : Ok c ω H σ env tk) (n : H p = none) (o : HO) : Ok c ⟨ω.g, upd ω.hd p o⟩ (upd H p o) σ env tk where
  len := ok.len
  sub := fun b u h => by
    by_cases e : b = p
    · subst e
      have h' : upd ω.hd b o b = some u := h
      rw [upd_same] at h' ⊢
      exact h'
    · have h' : upd ω.hd p o b = some u := h
      rw [upd_ne e] at h' ⊢
      exact ok.sub b u h'
  st := (ok.st.upd n).hd (ok.nog n) (ok.nohd n)
  slots := fun i e he => by
    obtain ⟨v, h1, h2⟩ := ok.slots i e he
    refine ⟨v, h1, h2.up (le_upd (ok.nohd n)) rfl fun q vs _ a1 a2 _ => ?_⟩
    have hq : q ≠ p := ne_of_none a1 n
    exact ⟨by rw [upd_ne hq]; exact a1, by show upd ω.hd p o q = none; rw [upd_ne hq]; exact a2⟩
  dist := ok.dist
  new := fun b h => by
    by_cases e : b = p
    · subst e
      exact .inr (ok.noH0 n)
    · have h' : upd ω.hd p o b ≠ none := h
      rw [upd_ne e] at h'
      exact ok.new b h'
  ng := ok.ng
  fr := fun b u h q => by
    have hb : b ≠ p := ne_of_none h (ok.noH0 n)
    rw [upd_ne hb]
    exact ok.fr b u h q
  le0 := ok.le0.trans (le_upd (ok.nohd n))
  pr := fun b h => by
    obtain ⟨h1, h2, h3⟩ := ok.pr b h
    have hb : b ≠ p := fun e => ok.nopr n (e ▸ h)
    exact ⟨by rw [upd_ne hb]; exact h1, by show upd ω.hd p o b = none; rw [upd_ne hb]; exact h2, h3⟩
theorem Stp.alloc (n : H p = none) (nh : ω.hd p = none) (o : HO) : Stp ω H ⟨ω.g, upd ω.hd p o⟩ (upd H p o) := ⟨le_upd nh, fun b u h _ => by rw [upd_ne (ne_of_none h n)]; exact h, fun _ h => .inl h⟩
/-- a new list, not yet frozen -/
theorem Ok.newL (ok : Ok c ω H σ env tk) (n : H p = none) (o : HO) : Ok c ω (upd H p o) σ env tk where
  len := ok.len
  sub := fun b u h => by
    rw [upd_ne (ne_of_none h (ok.nohd n))]
    exact ok.sub b u h
  st := ok.st.upd n
  slots := fun i e he => by
    obtain ⟨v, h1, h2⟩ := ok.slots i e he
    refine ⟨v, h1, h2.up (.refl _) rfl fun q vs _ a1 a2 _ => ?_⟩
    exact ⟨by rw [upd_ne (ne_of_none a1 n)]; exact a1, a2⟩
  dist := ok.dist
  new := ok.new
  ng := ok.ng
  fr := fun b u h q => by
    rw [upd_ne (ne_of_none h (ok.noH0 n))]
    exact ok.fr b u h q
  le0 := ok.le0
  pr := fun b h => by
    obtain ⟨h1, h2, h3⟩ := ok.pr b h
    have hb : b ≠ p := fun e => ok.nopr n (e ▸ h)
    exact ⟨by rw [upd_ne hb]; exact h1, h2, h3⟩
theorem Stp.newL (n : H p = none) (o : HO) : Stp ω H ω (upd H p o) := ⟨.refl _, fun b u h _ => by rw [upd_ne (ne_of_none h n)]; exact h, fun _ h => .inl h⟩
theorem Ok.own (ok : Ok c ω H σ env tk) (n : H p = none) {ds : List D} {vs : List V} (r : Reps c.K ω ds vs) : RepE c ω (upd H p (.lst vs)) σ env (.own ds) (.ref p) :=
  ⟨p, rfl, ⟨vs, upd_same, ok.nohd n, ok.nog n, ⟨ok.noH0 n, ok.nopr n⟩, r⟩, ok.noslot (.inl n)⟩
/-- an own list is given away -/
theorem Ok.freeze (ok : Ok c ω H σ env tk) {vs : List V} (h1 : H p = some (.lst vs)) (h2 : ω.hd p = none) (h3 : ω.g ≠ some p) (h4 : c.H0 p = none ∧ ¬ c.pr p)
    (hs : ∀ (i : Nat) (es : List D), env[i]? = some (some (.own es)) → σ[i]? ≠ some (some (.ref p))) : Ok c ⟨ω.g, upd ω.hd p (.lst vs)⟩ H σ env tk where
  len := ok.len
  sub := fun b u h => by
    have h' : upd ω.hd p (.lst vs) b = some u := h
    by_cases e : b = p
    · subst e
      rw [upd_same] at h'
      rw [h1]
      exact h'
    · rw [upd_ne e] at h'
      exact ok.sub b u h'
  st := ok.st.hd h3 h2
  slots := fun i e he => by
    obtain ⟨v, g1, g2⟩ := ok.slots i e he
    cases e with
    | val d => exact ⟨v, g1, Rep.mono (le_upd h2) g2⟩
    | own es =>
      refine ⟨v, g1, g2.up (le_upd h2) rfl fun q us e1 a1 a2 _ => ⟨a1, ?_⟩⟩
      show upd ω.hd p (.lst vs) q = none
      rw [upd_ne (fun z => hs i es he (by rw [g1, e1, z]))]
      exact a2
  dist := ok.dist
  new := fun b h => by
    by_cases e : b = p
    · subst e
      exact .inr h4.1
    · have h' : upd ω.hd p (.lst vs) b ≠ none := h
      rw [upd_ne e] at h'
      exact ok.new b h'
  ng := ok.ng
  fr := ok.fr
  le0 := ok.le0.trans (le_upd h2)
  pr := fun b h => by
    obtain ⟨a1, a2, a3⟩ := ok.pr b h
    have hb : b ≠ p := fun e => h4.2 (e ▸ h)
    exact ⟨a1, by show upd ω.hd p (.lst vs) b = none; rw [upd_ne hb]; exact a2, a3⟩
theorem Stp.freeze {vs : List V} (h2 : ω.hd p = none) : Stp ω H ⟨ω.g, upd ω.hd p (.lst vs)⟩ H := ⟨le_upd h2, fun _ _ h _ => h, fun _ h => .inl h⟩
theorem Ok.reenv (ok : Ok c ω H σ env tk) {env' : En} (hl : env'.length = env.length) (h : ∀ (i : Nat) (e : EV), env'[i]? = some (some e) → env[i]? = some (some e) ∨ ∃ d v, e = .val d ∧ σ[i]? = some (some v) ∧ Rep c.K ω d v) : Ok c ω H σ env' tk where
  len := ok.len.trans hl.symm
  sub := ok.sub
  st := ok.st
  slots := fun i e he => by
    rcases h i e he with q | ⟨d, v, rfl, h1, h2⟩
    · exact ok.slots i e q
    · exact ⟨v, h1, h2⟩
  dist := fun i j q ds es a b x y => by
    rcases h i _ a with a | ⟨d, v, e, _⟩
    · rcases h j _ b with b | ⟨d, v, e, _⟩
      · exact ok.dist i j q ds es a b x y
      · cases e
    · cases e
  new := ok.new
  ng := ok.ng
  fr := ok.fr
  le0 := ok.le0
  pr := ok.pr
/-- any value given away: its data -/
theorem give (ok : Ok c ω H σ env tk) {ev : EV} {v : V} (r : RepE c ω H σ env ev v) : ∃ ω', Ok c ω' H σ env tk ∧ Stp ω H ω' H ∧ Rep c.K ω' ev.d v := by
  cases ev with
  | val d => exact ⟨ω, ok, .refl _ _, r⟩
  | own ds =>
    obtain ⟨p, rfl, ⟨vs, h1, h2, h3, h4, h5⟩, hs⟩ := r
    refine ⟨_, ok.freeze h1 h2 h3 h4 hs, .freeze h2, Rep.lst_iff.mpr ⟨p, vs, rfl, .of ?_, h5.mono (le_upd h2)⟩⟩
    show upd ω.hd p (.lst vs) p = _
    exact upd_same
end

/-! ### readings over data -/
abbrev W (α : Type) := En → Tk → (α → En → Tk → Prop) → Prop
abbrev WE := W EV
abbrev WD := W D
abbrev WT := W Bool
abbrev WA := W (List D)
def Mon {α : Type} (w : W α) : Prop := ∀ env tk Q Q', (∀ a e t, Q a e t → Q' a e t) → w env tk Q → w env tk Q'
def lift {α β : Type} (c : C) (R : Wd → Hp → L2.St → En → α → β → Prop) (w : W α) : L2.St → Hp → (β → Hp → Prop) → Prop :=
  fun σ H Q => ∃ ω env tk, Ok c ω H σ env tk ∧ w env tk fun a env' tk' => ∀ v ω' H', Stp ω H ω' H' → Ok c ω' H' σ env' tk' → R ω' H' σ env' a v → Q v H'
abbrev liftE (c : C) (w : WE) : TE := lift c (RepE c) w
abbrev liftD (c : C) (w : WD) : TE := lift c (fun ω _ _ _ d v => Rep c.K ω d v) w
abbrev liftP (c : C) (w : WD) : TE := lift c (fun ω H _ _ d v => RepP c ω H d v) w
abbrev liftT (c : C) (w : WT) : TT := lift c (fun _ _ _ _ b b' => b' = b) w
abbrev liftA (c : C) (w : WA) : TA := lift c (fun ω _ _ _ ds vs => Reps c.K ω ds vs) w

structure SE (X : Cx) (c : C) (e : Expr) (w : WE) : Prop where
  mon : Mon w
  run : PE X e (liftE c w)
structure SD (X : Cx) (c : C) (e : Expr) (w : WD) : Prop where
  mon : Mon w
  run : PE X e (liftD c w)
structure SP (X : Cx) (c : C) (e : Expr) (w : WD) : Prop where
  mon : Mon w
  run : PE X e (liftP c w)
structure ST (X : Cx) (c : C) (e : Expr) (w : WT) : Prop where
  mon : Mon w
  run : PT X e (liftT c w)
/-- a chain of and, or -/
structure SW (X : Cx) (c : C) (e : Expr) (w : WT) : Prop where
  mon : Mon w
  run : PW X e (liftT c w)
structure SA (X : Cx) (c : C) (es : List Expr) (w : WA) : Prop where
  mon : Mon w
  run : PA X es (liftA c w)
theorem _root_.L2.PE.wk {X : Cx} {e : Expr} {t t' : TE} (h : PE X e t) (k : ∀ σ H Q, t' σ H Q → t σ H Q) : PE X e t' := ⟨fun pins s σ H Q I q => h.run pins s σ H Q I (k _ _ _ q)⟩
theorem _root_.L2.PT.wk {X : Cx} {e : Expr} {t t' : TT} (h : PT X e t) (k : ∀ σ H Q, t' σ H Q → t σ H Q) : PT X e t' := ⟨fun pins s σ H Q I q => h.run pins s σ H Q I (k _ _ _ q)⟩
theorem _root_.L2.PW.wk {X : Cx} {e : Expr} {t t' : TT} (h : PW X e t) (k : ∀ σ H Q, t' σ H Q → t σ H Q) : PW X e t' := ⟨fun wh pins s σ H Q I q => h.run wh pins s σ H Q I (k _ _ _ q)⟩
theorem _root_.L2.PA.wk {X : Cx} {e : List Expr} {t t' : TA} (h : PA X e t) (k : ∀ σ H Q, t' σ H Q → t σ H Q) : PA X e t' := ⟨fun pos pins s σ H Q I q => h.run pos pins s σ H Q I (k _ _ _ q)⟩

/-- given away -/
def fz (w : WE) : WD := fun env tk Q => w env tk fun ev e t => Q ev.d e t
theorem Mon.fz {w : WE} (m : Mon w) : Mon (DL.fz w) := fun env tk Q Q' h q => m env tk _ _ (fun a e t => h a.d e t) q
theorem SE.fz {X : Cx} {c : C} {e : Expr} {w : WE} (h : SE X c e w) : SD X c e (DL.fz w) := ⟨h.mon.fz, h.run.wk fun σ H Q ⟨ω, env, tk, ok, q⟩ => ⟨ω, env, tk, ok, h.mon _ _ _ _ (fun ev e t k v ω' H' st ok' r => by
  obtain ⟨ω2, ok2, s2, r2⟩ := give ok' r
  exact k v ω2 H' (st.trans s2) ok2 r2) q⟩⟩
theorem SD.pk {X : Cx} {c : C} {e : Expr} {w : WD} (h : SD X c e w) : SP X c e w := ⟨h.mon, h.run.wk fun σ H Q ⟨ω, env, tk, ok, q⟩ => ⟨ω, env, tk, ok, h.mon _ _ _ _ (fun ev e t k v ω' H' st ok' r => k v ω' H' st ok' (.inl r)) q⟩⟩
theorem SE.pk {X : Cx} {c : C} {e : Expr} {w : WE} (h : SE X c e w) : SP X c e (DL.fz w) := h.fz.pk

/-! ### names -/
def wPk (i : Nat) : WD := fun env tk Q => match env[i]? with
  | some (some ev) => Q ev.d env tk
  | _ => False
def wV (i : Nat) : WE := fun env tk Q => match env[i]? with
  | some (some (.val d)) => Q (.val d) env tk
  | some (some (.own ds)) => Q (.val (.lst ds)) (env.set i (some (.val (.lst ds)))) tk
  | _ => False
section
variable {X : Cx} {c : C}
theorem sp_v (i : Nat) {x : Str} {pos : Pos} (h : PE X (.Name x pos) (tVar i)) : SP X c (.Name x pos) (wPk i) := by
  refine ⟨fun env tk Q Q' h q => ?_, h.wk fun σ H Q ⟨ω, env, tk, ok, q⟩ => ?_⟩
  · unfold wPk at q ⊢
    split at q
    · exact h _ _ _ q
    · exact q
  · unfold wPk at q
    split at q
    · rename_i ev he
      obtain ⟨v, h1, h2⟩ := ok.slots i ev he
      refine ⟨v, h1, q v ω H (.refl _ _) ok ?_⟩
      cases ev with
      | val d => exact .inl h2
      | own ds =>
        obtain ⟨p, rfl, vs, a1, a2, a3, a4, a5⟩ := h2
        exact .inr ⟨ds, p, vs, rfl, rfl, a1, a3, a5⟩
    · exact q.elim
theorem se_v (i : Nat) {x : Str} {pos : Pos} (h : PE X (.Name x pos) (tVar i)) : SE X c (.Name x pos) (wV i) := by
  refine ⟨fun env tk Q Q' h q => ?_, h.wk fun σ H Q ⟨ω, env, tk, ok, q⟩ => ?_⟩
  · unfold wV at q ⊢
    split at q
    · exact h _ _ _ q
    · exact h _ _ _ q
    · exact q
  · unfold wV at q
    split at q
    · rename_i d he
      obtain ⟨v, h1, h2⟩ := ok.slots i _ he
      exact ⟨v, h1, q v ω H (.refl _ _) ok h2⟩
    · rename_i ds he
      obtain ⟨v, h1, p, rfl, vs, a1, a2, a3, a4, a5⟩ := ok.slots i _ he
      have hlt : i < env.length := (List.getElem?_eq_some_iff.mp he).1
      have ok1 : Ok c ω H σ (env.set i none) tk := ok.reenv (by rw [List.length_set]) fun j e hj => by
        by_cases hij : i = j
        · subst hij
          rw [List.getElem?_set_self hlt] at hj
          cases hj
        · rw [List.getElem?_set_ne hij] at hj
          exact .inl hj
      have ok2 := ok1.freeze a1 a2 a3 a4 fun j es hj hp => by
        by_cases hij : i = j
        · subst hij
          rw [List.getElem?_set_self hlt] at hj
          cases hj
        · rw [List.getElem?_set_ne hij] at hj
          exact hij (ok.dist i j p _ _ he hj h1 hp)
      have r : Rep c.K ⟨ω.g, upd ω.hd p (.lst vs)⟩ (.lst ds) (.ref p) := Rep.lst_iff.mpr ⟨p, vs, rfl, .of (show upd ω.hd p (.lst vs) p = _ from upd_same), a5.mono (le_upd a2)⟩
      refine ⟨_, h1, q _ _ H (.freeze a2) (ok2.reenv (by rw [List.length_set, List.length_set]) fun j e hj => ?_) r⟩
      by_cases hij : i = j
      · subst hij
        rw [List.getElem?_set_self hlt] at hj
        cases hj
        exact .inr ⟨_, _, rfl, h1, r⟩
      · rw [List.getElem?_set_ne hij] at hj
        left
        rw [List.getElem?_set_ne hij]
        exact hj
    · exact q.elim
/-! ### constants -/
def wC (d : D) : WE := fun env tk Q => Q (.val d) env tk
theorem Mon.con {d : D} : Mon (wC d) := fun _ _ _ _ h q => h _ _ _ q
theorem se_c {e : Expr} {d : D} {v : V} (h : PE X e (tC v)) (r : ∀ ω, Rep c.K ω d v) : SE X c e (wC d) := ⟨.con, h.wk fun σ H Q ⟨ω, env, tk, ok, q⟩ => q v ω H (.refl _ _) ok (r ω)⟩
theorem se_int {i j pos} : SE X c (.Constant (.int i) j pos) (wC (.int i)) := se_c pe_int fun _ => Rep.int_iff.mpr rfl
theorem se_bl {i j pos} : SE X c (.Constant (.bool i) j pos) (wC (.bl i)) := se_c pe_bl fun _ => Rep.bl_iff.mpr rfl
theorem se_non {j pos} : SE X c (.Constant .none j pos) (wC .non) := se_c pe_non fun _ => Rep.non_iff.mpr rfl
theorem se_str {i j pos} : SE X c (.Constant (.str i) j pos) (wC (.str i)) := se_c pe_str fun _ => Rep.str_iff.mpr rfl
end
end DL

namespace DL
open PySem PySem.Spec PyProof.Rows L2

/-! ### operators over data -/
abbrev FOp := D → D → (EV → Prop) → Prop
def MonF (f : FOp) : Prop := ∀ x y q q', (∀ ev, q ev → q' ev) → f x y q → f x y q'
/-- what an operator's rule is to give -/
def Res (c : C) (ω : Wd) (H : Hp) (σ : L2.St) (env : En) (tk : Tk) (q : EV → Prop) (Q : VK) : Prop :=
  ∀ ev v' ω' H', q ev → Stp ω H ω' H' → Ok c ω' H' σ env tk → RepE c ω' H' σ env ev v' → Q v' H'
section
variable {c : C} {ω : Wd} {H : Hp} {σ : L2.St} {env : En} {tk : Tk} {q : EV → Prop} {Q : VK}
theorem Res.int (hr : Res c ω H σ env tk q Q) (ok : Ok c ω H σ env tk) {i : Int} (h : q (.val (.int i))) : Q (.int i) H := hr _ _ ω H h (.refl _ _) ok (show Rep c.K ω (.int i) (.int i) from Rep.int_iff.mpr rfl)
theorem Res.bl (hr : Res c ω H σ env tk q Q) (ok : Ok c ω H σ env tk) {i : Bool} (h : q (.val (.bl i))) : Q (.bl i) H := hr _ _ ω H h (.refl _ _) ok (show Rep c.K ω (.bl i) (.bl i) from Rep.bl_iff.mpr rfl)
theorem Res.str (hr : Res c ω H σ env tk q Q) (ok : Ok c ω H σ env tk) {i : Str} (h : q (.val (.str i))) : Q (.str i) H := hr _ _ ω H h (.refl _ _) ok (show Rep c.K ω (.str i) (.str i) from Rep.str_iff.mpr rfl)
theorem Res.non (hr : Res c ω H σ env tk q Q) (ok : Ok c ω H σ env tk) (h : q (.val .non)) : Q .non H := hr _ _ ω H h (.refl _ _) ok (show Rep c.K ω .non .non from Rep.non_iff.mpr rfl)
theorem Res.val (hr : Res c ω H σ env tk q Q) (ok : Ok c ω H σ env tk) {d : D} {v : V} (h : q (.val d)) (r : Rep c.K ω d v) : Q v H := hr _ _ ω H h (.refl _ _) ok r
theorem Res.tup (hr : Res c ω H σ env tk q Q) (ok : Ok c ω H σ env tk) {ds : List D} {vs : List V} (h : q (.val (.tup ds))) (r : Reps c.K ω ds vs) {p : Addr} (n : H p = none) : Q (.ref p) (upd H p (.tup vs)) :=
  hr _ _ _ _ h (.alloc n (ok.nohd n) _) (ok.alloc n _) (show Rep c.K ⟨ω.g, upd ω.hd p (.tup vs)⟩ (.tup ds) (.ref p) from Rep.tup_iff.mpr ⟨p, vs, rfl, .of (show upd ω.hd p _ p = _ from upd_same), r.mono (le_upd (ok.nohd n))⟩)
theorem Res.lst (hr : Res c ω H σ env tk q Q) (ok : Ok c ω H σ env tk) {ds : List D} {vs : List V} (h : q (.own ds)) (r : Reps c.K ω ds vs) {p : Addr} (n : H p = none) : Q (.ref p) (upd H p (.lst vs)) :=
  hr _ _ _ _ h (.newL n _) (ok.newL n _) (ok.own n r)
end
def OpD (c : C) (r : R2) (f : FOp) : Prop :=
  ∀ (ω : Wd) (H : Hp) (σ : L2.St) (env : En) (tk : Tk) (x y : D) (v u : V) (q : EV → Prop) (Q : VK), Ok c ω H σ env tk → RepP c ω H x v → RepP c ω H y u → f x y q → Res c ω H σ env tk q Q → r v u H Q
def wOp (f : FOp) (a b : WD) : WE := fun env tk Q => a env tk fun x e1 t1 => b e1 t1 fun y e2 t2 => f x y fun ev => Q ev e2 t2
theorem Mon.op {f : FOp} {a b : WD} (mf : MonF f) (ma : Mon a) (mb : Mon b) : Mon (wOp f a b) := fun env tk Q Q' h q =>
  ma _ _ _ _ (fun x e1 t1 h1 => mb _ _ _ _ (fun y e2 t2 h2 => mf _ _ _ _ (fun ev => h ev e2 t2) h2) h1) q
section
variable {X : Cx} {c : C} {a b : Expr} {wa wb : WD} {pos : Pos}
theorem run_op {r : R2} {f : FOp} (mf : MonF f) (od : OpD c r f) (ha : SP X c a wa) (hb : SP X c b wb) {σ : L2.St} {H : Hp} {Q : VK} (h : liftE c (wOp f wa wb) σ H Q) : tOp r (liftP c wa) (liftP c wb) σ H Q := by
  obtain ⟨ω, env, tk, ok, h⟩ := h
  refine ⟨ω, env, tk, ok, ha.mon _ _ _ _ (fun x e1 t1 h1 v ω1 H1 s1 ok1 r1 => ?_) h⟩
  refine ⟨ω1, e1, t1, ok1, hb.mon _ _ _ _ (fun y e2 t2 h2 u ω2 H2 s2 ok2 r2 => ?_) h1⟩
  exact od ω2 H2 σ e2 t2 x y v u _ Q ok2 (r1.step s2) r2 h2 fun ev v' ω' H' q st ok' r' => q v' ω' H' ((s1.trans s2).trans st) ok' r'
theorem se_op {op : Operator} {r : R2} {f : FOp} (ho : OpR X (binaryOp op) r) (mf : MonF f) (od : OpD c r f) (ha : SP X c a wa) (hb : SP X c b wb) : SE X c (.BinOp a op b pos) (wOp f wa wb) :=
  ⟨.op mf ha.mon hb.mon, (pe_op ho ha.run hb.run).wk fun _ _ _ h => run_op mf od ha hb h⟩
theorem se_cmp {op : CmpOp} {r : R2} {f : FOp} (ho : OpR X (compareOp op) r) (mf : MonF f) (od : OpD c r f) (ha : SP X c a wa) (hb : SP X c b wb) (hm : behindInMarks op b = false) : SE X c (.Compare a [op] [b] pos) (wOp f wa wb) :=
  ⟨.op mf ha.mon hb.mon, (pe_cmpR ho ha.run hb.run hm).wk fun _ _ _ h => run_op mf od ha hb h⟩
end
theorem OpD.or {c : C} {r r' : R2} {f f' g : FOp} (h : OpD c r f) (h' : OpD c r' f') (k : ∀ x y q, g x y q → f x y q ∨ f' x y q) : OpD c (fun x y H Q => r x y H Q ∨ r' x y H Q) g := fun ω H σ env tk x y v u q Q ok rx ry hg hr =>
  (k x y q hg).elim (fun z => .inl (h ω H σ env tk x y v u q Q ok rx ry z hr)) fun z => .inr (h' ω H σ env tk x y v u q Q ok rx ry z hr)

/-! #### two ints -/
def fI (C : Int → Int → Prop) (g : Int → Int → D) : FOp
  | .int i, .int j, q => C i j ∧ q (.val (g i j))
  | _, _, _ => False
theorem MonF.i {C : Int → Int → Prop} {g : Int → Int → D} : MonF (fI C g) := fun x y q q' h z => by
  unfold fI at z ⊢
  split at z
  · exact ⟨z.1, h _ z.2⟩
  · exact z.elim
theorem od_i {c : C} {P : Int → Int → Prop} {g : Int → Int → Int} : OpD c (rI P fun i j => .int (g i j)) (fI P fun i j => .int (g i j)) := fun ω H σ env tk x y v u q Q ok rx ry h hr => by
  cases x <;> first | exact (show False from h).elim | (cases y <;> first | exact (show False from h).elim | skip)
  exact ⟨_, _, rx.int, ry.int, h.1, hr.int ok h.2⟩
def fJ (g : Int → Int → D) : FOp
  | .int i, .int j, q => q (.val (g i j))
  | _, _, _ => False
theorem MonF.j {g : Int → Int → D} : MonF (fJ g) := fun x y q q' h z => by
  unfold fJ at z ⊢
  split at z
  · exact h _ z
  · exact z.elim
theorem od_i0 {c : C} {g : Int → Int → Int} : OpD c (rI0 fun i j => .int (g i j)) (fJ fun i j => .int (g i j)) := fun ω H σ env tk x y v u q Q ok rx ry h hr => by
  cases x <;> first | exact (show False from h).elim | (cases y <;> first | exact (show False from h).elim | skip)
  exact ⟨_, _, rx.int, ry.int, hr.int ok h⟩
theorem od_b0 {c : C} {g : Int → Int → Bool} : OpD c (rI0 fun i j => .bl (g i j)) (fJ fun i j => .bl (g i j)) := fun ω H σ env tk x y v u q Q ok rx ry h hr => by
  cases x <;> first | exact (show False from h).elim | (cases y <;> first | exact (show False from h).elim | skip)
  exact ⟨_, _, rx.int, ry.int, hr.bl ok h⟩

/-! #### + -/
def fAdd : FOp
  | .int i, .int j, q => q (.val (.int (i + j)))
  | .lst xs, .lst ys, q => xs.length + ys.length ≤ sizeLine ∧ q (.own (xs ++ ys))
  | .tup xs, .tup ys, q => xs ≠ [] ∧ ys ≠ [] ∧ xs.length + ys.length ≤ sizeLine ∧ q (.val (.tup (xs ++ ys)))
  | .str x, .str y, q => x.length + y.length ≤ sizeLine ∧ q (.val (.str (x ++ y)))
  | _, _, _ => False
theorem MonF.add : MonF fAdd := fun x y q q' h z => by
  unfold fAdd at z ⊢
  split at z
  · exact h _ z
  · exact ⟨z.1, h _ z.2⟩
  · exact ⟨z.1, z.2.1, z.2.2.1, h _ z.2.2.2⟩
  · exact ⟨z.1, h _ z.2⟩
  · exact z.elim
section
variable {X : Cx} {c : C}
/-- list + list, whatever they are -/
def rCatA (K : PySem.W.Frag) : R2 := fun x y H Q => ∃ l b xs zs, x = .ref l ∧ y = .ref b ∧ SqL K H l xs ∧ SqL K H b zs ∧ xs.length + zs.length ≤ sizeLine ∧ ∀ p, H p = none → Q (.ref p) (upd H p (.lst (xs ++ zs)))
theorem plain_isL {h : Heap} {a : Addr} {its : Array Value} (p : PlainL h a its) : ∃ n sl, h.get? a = some { cls := .type "list", dict := none, data := .seq its n, slots := sl } := by
  obtain ⟨o, n, h1, h2, h3, h4⟩ := p
  cases o
  simp only at h2 h3 h4
  subst h2 h3 h4
  exact ⟨n, _, h1⟩
theorem op_catA : OpR X (binaryOp .Add) (rCatA X.K) := by
  intro pins s σ H x y v u Q I rx ry h
  obtain ⟨l, b, xs, zs, rfl, rfl, hH, hB, hz, q⟩ := h
  cases rx
  cases ry
  obtain ⟨its, r, p, _⟩ := I.list hH
  obtain ⟨its2, r2, p2, _⟩ := I.list hB
  obtain ⟨n, sl, e⟩ := plain_isL p
  obtain ⟨n2, sl2, e2⟩ := plain_isL p2
  have l1 := r.length
  have l2 := r2.length
  refine concat_meets ⟨_, e, rfl⟩ ⟨_, e2, rfl⟩ noFill_list_add seq_list_add PySem.F.slot_list_add PySem.F.entry_list_add (PySem.F.args_list_add_2 _ _) (list_addW _ _ its.toArray its2.toArray n n2 none none sl sl2 (by simp only [List.size_toArray]; omega)) ⟨e, e2, ?_⟩
  have ea : its.toArray ++ its2.toArray = (its ++ its2).toArray := by simp
  rw [ea]
  exact ⟨.ref _, _, I.lnew (t' := s.toks) (r.append r2) (by rw [List.length_append]; omega), rfl, q _ I.fresh⟩
theorem op_addA : OpR X (binaryOp .Add) (fun x y H Q => (rI0 (fun i j => .int (i + j)) x y H Q ∨ rCatA X.K x y H Q) ∨ (rCatT X.K x y H Q ∨ ∃ i j, x = .str i ∧ y = .str j ∧ i.length + j.length ≤ sizeLine ∧ Q (.str (i ++ j)) H)) :=
  (op_add.or op_catA).or (op_catT.or op_add_str)
theorem od_add (hK : c.K = X.K) : OpD c (fun x y H Q => (rI0 (fun i j => .int (i + j)) x y H Q ∨ rCatA X.K x y H Q) ∨ (rCatT X.K x y H Q ∨ ∃ i j, x = .str i ∧ y = .str j ∧ i.length + j.length ≤ sizeLine ∧ Q (.str (i ++ j)) H)) fAdd := fun ω H σ env tk x y v u q Q ok rx ry h hr => by
  cases x <;> first | exact (show False from h).elim | (cases y <;> first | exact (show False from h).elim | skip)
  · exact .inl (.inl ⟨_, _, rx.int, ry.int, hr.int ok h⟩)
  · exact .inr (.inr ⟨_, _, rx.str, ry.str, h.1, hr.str ok h.2⟩)
  · obtain ⟨h1, h2, h3, h4⟩ := h
    obtain ⟨p, vs, rfl, sx, qx⟩ := rx.tup ok.sub
    obtain ⟨p', us, rfl, sy, qy⟩ := ry.tup ok.sub
    rw [hK] at sx sy
    have l1 := qx.length
    have l2 := qy.length
    refine .inr (.inl ⟨p, p', vs, us, rfl, rfl, sx, sy, fun e => h1 ?_, by omega, fun e => absurd ?_ h2, fun _ t ht => hr.tup ok h4 (qx.append qy) ht⟩)
    · subst e; exact List.eq_nil_of_length_eq_zero l1.symm
    · subst e; exact List.eq_nil_of_length_eq_zero l2.symm
  · obtain ⟨h1, h2⟩ := h
    obtain ⟨p, vs, rfl, sx, qx⟩ := rx.lst ok.sub
    obtain ⟨p', us, rfl, sy, qy⟩ := ry.lst ok.sub
    rw [hK] at sx sy
    have l1 := qx.length
    have l2 := qy.length
    exact .inl (.inr ⟨p, p', vs, us, rfl, rfl, sx, sy, by omega, fun t ht => hr.lst ok h2 (qx.append qy) ht⟩)
end
end DL

namespace DL
open PySem PySem.Spec PyProof.Rows L2

/-! ### data compared -/
mutual
def D.p : D → PyData
  | .non => .none
  | .bl b => .bool b
  | .int i => .int i
  | .str s => .str s
  | .st => .dict []
  | .tup xs => .tuple (D.ps xs)
  | .lst xs => .list (D.ps xs)
def D.ps : List D → List PyData
  | [] => []
  | d :: ds => d.p :: D.ps ds
end
mutual
def okN : Nat → D → Bool
  | _, .non => true
  | _, .bl _ => true
  | _, .int _ => true
  | _, .str s => PyData.canLay0 (.str s)
  | _, .st => false
  | 0, .tup _ => false
  | 0, .lst _ => false
  | n + 1, .tup xs => okNs n xs
  | n + 1, .lst xs => okNs n xs
def okNs : Nat → List D → Bool
  | _, [] => true
  | n, d :: ds => okN n d && okNs n ds
end
def D.ok (d : D) : Bool := okN 60 d
def D.eqv (x y : D) : Bool := PyData.eqv x.p y.p
mutual
theorem okN_lay : ∀ (d : D) (n : Nat), okN n d = true → d.p.canLay0 = true ∧ d.p.depth ≤ n
  | .non, n, h => by unfold D.p; exact ⟨rfl, Nat.zero_le _⟩
  | .bl b, n, h => by unfold D.p; exact ⟨rfl, Nat.zero_le _⟩
  | .int i, n, h => by unfold D.p; exact ⟨rfl, Nat.zero_le _⟩
  | .str s, n, h => by unfold okN at h; unfold D.p; exact ⟨h, Nat.zero_le _⟩
  | .st, n, h => by unfold okN at h; cases h
  | .tup xs, 0, h => by unfold okN at h; cases h
  | .lst xs, 0, h => by unfold okN at h; cases h
  | .tup xs, n + 1, h => by
    unfold okN at h
    unfold D.p
    obtain ⟨h1, h2⟩ := okNs_lay xs n h
    exact ⟨h1, Nat.succ_le_succ h2⟩
  | .lst xs, n + 1, h => by
    unfold okN at h
    unfold D.p
    obtain ⟨h1, h2⟩ := okNs_lay xs n h
    exact ⟨h1, Nat.succ_le_succ h2⟩
theorem okNs_lay : ∀ (ds : List D) (n : Nat), okNs n ds = true → PyData.canLayAll0 (D.ps ds) = true ∧ PyData.depthAll (D.ps ds) ≤ n
  | [], n, h => by unfold D.ps; exact ⟨rfl, Nat.zero_le _⟩
  | d :: ds, n, h => by
    unfold okNs at h
    rw [Bool.and_eq_true] at h
    obtain ⟨a1, a2⟩ := okN_lay d n h.1
    obtain ⟨b1, b2⟩ := okNs_lay ds n h.2
    unfold D.ps
    refine ⟨?_, ?_⟩
    · show (d.p.canLay0 && PyData.canLayAll0 (D.ps ds)) = true
      rw [a1, b1]; rfl
    · show max d.p.depth (PyData.depthAll (D.ps ds)) ≤ n
      omega
end
theorem D.ok.shaped {d : D} (h : d.ok = true) : SeqAt.shaped d.p = true := by
  obtain ⟨h1, h2⟩ := okN_lay d 60 h
  unfold SeqAt.shaped
  rw [h1, Bool.true_and]
  exact decide_eq_true (by omega)
theorem okN_mono_st : ∀ {n : Nat} {xs : List D}, okN (n + 1) (.lst xs) = okNs n xs := by intros; conv => lhs; unfold okN

mutual
theorem Rep.dp {K : PySem.W.Frag} {ω : Wd} {H : Hp} (sub : ∀ b o, ω.hd b = some o → H b = some o) : ∀ (d : D) (n : Nat) (v : V), okN n d = true → Rep K ω d v → Dp K H v d.p
  | .non, _, _, _, h => by rw [Rep.non_iff] at h; subst h; unfold D.p; exact .non
  | .bl b, _, _, _, h => by rw [Rep.bl_iff] at h; subst h; unfold D.p; exact .bl b
  | .int b, _, _, _, h => by rw [Rep.int_iff] at h; subst h; unfold D.p; exact .int b
  | .str b, _, _, _, h => by rw [Rep.str_iff] at h; subst h; unfold D.p; exact .str b
  | .st, _, _, z, _ => by unfold okN at z; cases z
  | .tup xs, 0, _, z, _ => by unfold okN at z; cases z
  | .lst xs, 0, _, z, _ => by unfold okN at z; cases z
  | .tup xs, n + 1, _, z, h => by
    obtain ⟨a, vs, rfl, h1, h2⟩ := Rep.tup_iff.mp h
    unfold okN at z
    unfold D.p
    exact .tup (sqT_mono sub h1) (Reps.dp sub xs n vs z h2)
  | .lst xs, n + 1, _, z, h => by
    obtain ⟨a, vs, rfl, h1, h2⟩ := Rep.lst_iff.mp h
    unfold okN at z
    unfold D.p
    exact .lst (sqL_mono sub h1) (Reps.dp sub xs n vs z h2)
theorem Reps.dp {K : PySem.W.Frag} {ω : Wd} {H : Hp} (sub : ∀ b o, ω.hd b = some o → H b = some o) : ∀ (ds : List D) (n : Nat) (vs : List V), okNs n ds = true → Reps K ω ds vs → DpAll K H vs (D.ps ds)
  | [], _, _, _, h => by rw [Reps.nil_iff] at h; subst h; unfold D.ps; exact .nil
  | d :: ds, n, _, z, h => by
    obtain ⟨v, r, rfl, h1, h2⟩ := Reps.cons_iff.mp h
    unfold okNs at z
    rw [Bool.and_eq_true] at z
    unfold D.ps
    exact .cons (Rep.dp sub d n v z.1 h1) (Reps.dp sub ds n r z.2 h2)
end
theorem RepP.dp {c : C} {ω : Wd} {H : Hp} (sub : ∀ b o, ω.hd b = some o → H b = some o) {d : D} {v : V} (z : d.ok = true) (h : RepP c ω H d v) : Dp c.K H v d.p := by
  rcases h with h | ⟨ds, p, vs, rfl, rfl, h1, h2, h3⟩
  · exact Rep.dp sub d 60 v z h
  · have z' : okN 60 (.lst ds) = true := z
    unfold okN at z'
    unfold D.p
    exact .lst (.of h1) (Reps.dp sub ds 59 vs z' h3)

/-! #### == and != -/
def fEq : FOp
  | .int i, .int j, q => q (.val (.bl (decide (i = j))))
  | x, y, q => x.ok = true ∧ y.ok = true ∧ q (.val (.bl (x.eqv y)))
def fNe : FOp
  | .int i, .int j, q => q (.val (.bl (!decide (i = j))))
  | x, y, q => x.ok = true ∧ y.ok = true ∧ q (.val (.bl (!x.eqv y)))
theorem ok_int {i : Int} : D.ok (.int i) = true := by unfold D.ok okN; rfl
theorem eqv_int {i j : Int} : D.eqv (.int i) (.int j) = decide (i = j) := by
  show (i == j) = _
  exact Bool.beq_eq_decide_eq i j
theorem fEq_gen {x y : D} {q : EV → Prop} (h : fEq x y q) : x.ok = true ∧ y.ok = true ∧ q (.val (.bl (x.eqv y))) := by
  unfold fEq at h
  split at h
  · rw [eqv_int]; exact ⟨ok_int, ok_int, h⟩
  · exact h
theorem fNe_gen {x y : D} {q : EV → Prop} (h : fNe x y q) : x.ok = true ∧ y.ok = true ∧ q (.val (.bl (!x.eqv y))) := by
  unfold fNe at h
  split at h
  · rw [eqv_int]; exact ⟨ok_int, ok_int, h⟩
  · exact h
theorem MonF.eq : MonF fEq := fun x y q q' h z => by
  unfold fEq at z ⊢
  split at z
  · exact h _ z
  · exact ⟨z.1, z.2.1, h _ z.2.2⟩
theorem MonF.ne : MonF fNe := fun x y q q' h z => by
  unfold fNe at z ⊢
  split at z
  · exact h _ z
  · exact ⟨z.1, z.2.1, h _ z.2.2⟩
theorem od_eq {c : C} : OpD c (rEqD c.K) fEq := fun ω H σ env tk x y v u q Q ok rx ry h hr => by
  have h := fEq_gen h
  exact ⟨x.p, y.p, rx.dp ok.sub h.1, ry.dp ok.sub h.2.1, D.ok.shaped h.1, D.ok.shaped h.2.1, hr.bl ok h.2.2⟩
theorem od_ne {c : C} : OpD c (rNeD c.K) fNe := fun ω H σ env tk x y v u q Q ok rx ry h hr => by
  have h := fNe_gen h
  exact ⟨x.p, y.p, rx.dp ok.sub h.1, ry.dp ok.sub h.2.1, D.ok.shaped h.1, D.ok.shaped h.2.1, hr.bl ok h.2.2⟩
/-! #### in -/
def fIn : FOp := fun x y q => match y with
  | .lst ds => x.ok = true ∧ D.ok (.lst ds) = true ∧ q (.val (.bl (ds.any fun z => z.eqv x)))
  | _ => False
def fNotIn : FOp := fun x y q => match y with
  | .lst ds => x.ok = true ∧ D.ok (.lst ds) = true ∧ q (.val (.bl (!ds.any fun z => z.eqv x)))
  | _ => False
theorem MonF.in : MonF fIn := fun x y _ _ h z => by cases y <;> first | exact (show False from z).elim | exact ⟨z.1, z.2.1, h _ z.2.2⟩
theorem MonF.notIn : MonF fNotIn := fun x y _ _ h z => by cases y <;> first | exact (show False from z).elim | exact ⟨z.1, z.2.1, h _ z.2.2⟩
theorem ps_any (x : D) : ∀ ds : List D, (D.ps ds).any (fun z => PyData.eqv z x.p) = ds.any fun z => z.eqv x
  | [] => by unfold D.ps; rfl
  | d :: ds => by unfold D.ps; rw [List.any_cons, List.any_cons, ps_any x ds]; rfl
theorem od_in {c : C} : OpD c (rInD c.K) fIn := fun ω H σ env tk x y v u q Q ok rx ry h hr => by
  cases y <;> first | exact (show False from h).elim | skip
  rename_i ds
  obtain ⟨h1, h2, h3⟩ := h
  have z1 := ry.dp ok.sub h2
  have z2 := D.ok.shaped h2
  unfold D.p at z1 z2
  refine ⟨x.p, D.ps ds, rx.dp ok.sub h1, z1, D.ok.shaped h1, z2, ?_⟩
  rw [ps_any]
  exact hr.bl ok h3
theorem od_notIn {c : C} : OpD c (rNotInD c.K) fNotIn := fun ω H σ env tk x y v u q Q ok rx ry h hr => by
  cases y <;> first | exact (show False from h).elim | skip
  rename_i ds
  obtain ⟨h1, h2, h3⟩ := h
  have z1 := ry.dp ok.sub h2
  have z2 := D.ok.shaped h2
  unfold D.p at z1 z2
  refine ⟨x.p, D.ps ds, rx.dp ok.sub h1, z1, D.ok.shaped h1, z2, ?_⟩
  rw [ps_any]
  exact hr.bl ok h3
/-! #### is None, is True -/
def isNon : D → Bool
  | .non => true
  | _ => false
def fIsN : FOp := fun x y q => match y with
  | .non => q (.val (.bl (isNon x)))
  | _ => False
def fNotN : FOp := fun x y q => match y with
  | .non => q (.val (.bl (!isNon x)))
  | _ => False
theorem MonF.isN : MonF fIsN := fun x y _ _ h z => by cases y <;> first | exact (show False from z).elim | exact h _ z
theorem MonF.notN : MonF fNotN := fun x y _ _ h z => by cases y <;> first | exact (show False from z).elim | exact h _ z
theorem RepP.non {c : C} {ω : Wd} {H : Hp} {v : V} (h : RepP c ω H .non v) : v = .non := by
  rcases h with h | ⟨ds, p, vs, e, _⟩
  · exact Rep.non_iff.mp h
  · cases e
theorem RepP.isNon {c : C} {ω : Wd} {H : Hp} {d : D} {v : V} (h : RepP c ω H d v) : decide (v = .non) = isNon d := by
  rcases h with h | ⟨ds, p, vs, rfl, rfl, _⟩
  · cases d with
    | non => rw [Rep.non_iff.mp h]; rfl
    | bl b => rw [Rep.bl_iff.mp h]; rfl
    | int b => rw [Rep.int_iff.mp h]; rfl
    | str b => rw [Rep.str_iff.mp h]; rfl
    | st => obtain ⟨a, _, rfl⟩ := Rep.st_iff.mp h; rfl
    | tup xs => obtain ⟨a, _, rfl, _⟩ := Rep.tup_iff.mp h; rfl
    | lst xs => obtain ⟨a, _, rfl, _⟩ := Rep.lst_iff.mp h; rfl
  · rfl
theorem od_isN {c : C} : OpD c (fun x y H Q => y = .non ∧ Q (.bl (decide (x = .non))) H) fIsN := fun ω H σ env tk x y v u q Q ok rx ry h hr => by
  cases y <;> first | exact (show False from h).elim | skip
  refine ⟨ry.non, ?_⟩
  rw [rx.isNon]
  exact hr.bl ok h
theorem od_notN {c : C} : OpD c (fun x y H Q => y = .non ∧ Q (.bl (!decide (x = .non))) H) fNotN := fun ω H σ env tk x y v u q Q ok rx ry h hr => by
  cases y <;> first | exact (show False from h).elim | skip
  refine ⟨ry.non, ?_⟩
  rw [rx.isNon]
  exact hr.bl ok h
def fIsB : FOp := fun x y q => match x, y with
  | .bl a, .bl b => q (.val (.bl (decide (a = b))))
  | _, _ => False
def fNotB : FOp := fun x y q => match x, y with
  | .bl a, .bl b => q (.val (.bl (!decide (a = b))))
  | _, _ => False
theorem MonF.isB : MonF fIsB := fun x y _ _ h z => by cases x <;> cases y <;> first | exact (show False from z).elim | exact h _ z
theorem MonF.notB : MonF fNotB := fun x y _ _ h z => by cases x <;> cases y <;> first | exact (show False from z).elim | exact h _ z
theorem od_isB {c : C} : OpD c (fun x y H Q => ∃ a b, x = .bl a ∧ y = .bl b ∧ Q (.bl (decide (a = b))) H) fIsB := fun ω H σ env tk x y v u q Q ok rx ry h hr => by
  cases x <;> cases y <;> first | exact (show False from h).elim | exact ⟨_, _, rx.bl, ry.bl, hr.bl ok h⟩
theorem od_notB {c : C} : OpD c (fun x y H Q => ∃ a b, x = .bl a ∧ y = .bl b ∧ Q (.bl (!decide (a = b))) H) fNotB := fun ω H σ env tk x y v u q Q ok rx ry h hr => by
  cases x <;> cases y <;> first | exact (show False from h).elim | exact ⟨_, _, rx.bl, ry.bl, hr.bl ok h⟩

/-! ### the numbers' operators -/
def DivOk (_ j : Int) : Prop := j ≠ 0 ∧ j.natAbs.log2 < 9000
section
variable {X : Cx} {c : C} {a b : Expr} {wa wb : WD} {pos : Pos}
theorem op_fdivZ : OpR X (binaryOp .FloorDiv) (rI DivOk fun i j => .int (i.fdiv j)) := opI fun _ _ _ _ _ _ _ hc q => floordiv_int hc.1 q (.inl (PyProof.noPylong_of_log2 hc.2))
abbrev fSub : FOp := fJ fun i j => .int (i - j)
def MulOk (i j : Int) : Prop := CMulW i j ∨ CMul i j
theorem op_mulA : OpR X (binaryOp .Mult) (rI MulOk fun i j => .int (i * j)) := opI fun _ _ _ _ _ _ _ hc q => mul_int q (hc.elim (fun z => z.ok) fun z => z.ok)
abbrev fMul : FOp := fI MulOk fun i j => .int (i * j)
abbrev fDiv : FOp := fI DivOk fun i j => .int (i.fdiv j)
abbrev fMod : FOp := fI (fun _ j => j ≠ 0) fun i j => .int (i.fmod j)
abbrev fPow : FOp := fI CPow fun i j => .int (i ^ j.toNat)
abbrev fLt : FOp := fJ fun i j => .bl (decide (i < j))
abbrev fLe : FOp := fJ fun i j => .bl (decide (i ≤ j))
abbrev fGt : FOp := fJ fun i j => .bl (decide (j < i))
abbrev fGe : FOp := fJ fun i j => .bl (decide (j ≤ i))
theorem se_add (hK : c.K = X.K) (ha : SP X c a wa) (hb : SP X c b wb) : SE X c (.BinOp a .Add b pos) (wOp fAdd wa wb) := se_op op_addA .add (od_add hK) ha hb
theorem se_sub (ha : SP X c a wa) (hb : SP X c b wb) : SE X c (.BinOp a .Sub b pos) (wOp fSub wa wb) := se_op op_sub .j od_i0 ha hb
theorem se_mul (ha : SP X c a wa) (hb : SP X c b wb) : SE X c (.BinOp a .Mult b pos) (wOp fMul wa wb) := se_op op_mulA .i od_i ha hb
theorem se_div (ha : SP X c a wa) (hb : SP X c b wb) : SE X c (.BinOp a .FloorDiv b pos) (wOp fDiv wa wb) := se_op op_fdivZ .i od_i ha hb
theorem se_mod (ha : SP X c a wa) (hb : SP X c b wb) : SE X c (.BinOp a .Mod b pos) (wOp fMod wa wb) := se_op op_modN .i od_i ha hb
theorem se_pow (ha : SP X c a wa) (hb : SP X c b wb) : SE X c (.BinOp a .Pow b pos) (wOp fPow wa wb) := se_op op_pow .i od_i ha hb
theorem se_lt (ha : SP X c a wa) (hb : SP X c b wb) : SE X c (.Compare a [.Lt] [b] pos) (wOp fLt wa wb) := se_cmp op_lt .j od_b0 ha hb (nomark _)
theorem se_le (ha : SP X c a wa) (hb : SP X c b wb) : SE X c (.Compare a [.LtE] [b] pos) (wOp fLe wa wb) := se_cmp op_le .j od_b0 ha hb (nomark _)
theorem se_gt (ha : SP X c a wa) (hb : SP X c b wb) : SE X c (.Compare a [.Gt] [b] pos) (wOp fGt wa wb) := se_cmp op_gt .j od_b0 ha hb (nomark _)
theorem se_ge (ha : SP X c a wa) (hb : SP X c b wb) : SE X c (.Compare a [.GtE] [b] pos) (wOp fGe wa wb) := se_cmp op_ge .j od_b0 ha hb (nomark _)
theorem se_eq (hK : c.K = X.K) (hu : X.A.units + 100 < cLine) (ha : SP X c a wa) (hb : SP X c b wb) : SE X c (.Compare a [.Eq] [b] pos) (wOp fEq wa wb) := se_cmp (op_eqD (by omega)) .eq (by rw [← hK]; exact od_eq) ha hb (nomark _)
theorem se_ne (hK : c.K = X.K) (hu : X.A.units + 100 < cLine) (ha : SP X c a wa) (hb : SP X c b wb) : SE X c (.Compare a [.NotEq] [b] pos) (wOp fNe wa wb) := se_cmp (op_neD (by omega)) .ne (by rw [← hK]; exact od_ne) ha hb (nomark _)
theorem se_in (hK : c.K = X.K) (hu : X.A.units + 100 < cLine) (ha : SP X c a wa) (hb : SP X c b wb) (hm : behindInMarks .In b = false) : SE X c (.Compare a [.In] [b] pos) (wOp fIn wa wb) := se_cmp (op_inD (by omega)) .in (by rw [← hK]; exact od_in) ha hb hm
theorem se_notIn (hK : c.K = X.K) (hu : X.A.units + 100 < cLine) (ha : SP X c a wa) (hb : SP X c b wb) (hm : behindInMarks .NotIn b = false) : SE X c (.Compare a [.NotIn] [b] pos) (wOp fNotIn wa wb) := se_cmp (op_notInD (by omega)) .notIn (by rw [← hK]; exact od_notIn) ha hb hm
theorem se_isN (ha : SP X c a wa) (hb : SP X c b wb) : SE X c (.Compare a [.Is] [b] pos) (wOp fIsN wa wb) := se_cmp op_isN .isN od_isN ha hb (nomark _)
theorem se_notN (ha : SP X c a wa) (hb : SP X c b wb) : SE X c (.Compare a [.IsNot] [b] pos) (wOp fNotN wa wb) := se_cmp op_notN .notN od_notN ha hb (nomark _)
theorem se_isB (ha : SP X c a wa) (hb : SP X c b wb) : SE X c (.Compare a [.Is] [b] pos) (wOp fIsB wa wb) := se_cmp op_is_bl .isB od_isB ha hb (nomark _)
theorem se_notB (ha : SP X c a wa) (hb : SP X c b wb) : SE X c (.Compare a [.IsNot] [b] pos) (wOp fNotB wa wb) := se_cmp op_isnot_bl .notB od_notB ha hb (nomark _)

/-! #### one operand -/
abbrev F1 := D → (EV → Prop) → Prop
def MonF1 (f : F1) : Prop := ∀ x q q', (∀ ev, q ev → q' ev) → f x q → f x q'
def w1 (f : F1) (a : WD) : WE := fun env tk Q => a env tk fun x e1 t1 => f x fun ev => Q ev e1 t1
theorem Mon.w1 {f : F1} {a : WD} (mf : MonF1 f) (ma : Mon a) : Mon (DL.w1 f a) := fun env tk Q Q' h q => ma _ _ _ _ (fun x e1 t1 h1 => mf _ _ _ (fun ev => h ev e1 t1) h1) q
def UnD (c : C) (r : V → Hp → VK → Prop) (f : F1) : Prop :=
  ∀ (ω : Wd) (H : Hp) (σ : L2.St) (env : En) (tk : Tk) (x : D) (v : V) (q : EV → Prop) (Q : VK), Ok c ω H σ env tk → RepP c ω H x v → f x q → Res c ω H σ env tk q Q → r v H Q
theorem run_1 {r : V → Hp → VK → Prop} {f : F1} (mf : MonF1 f) (od : UnD c r f) (ha : SP X c a wa) {σ : L2.St} {H : Hp} {Q : VK} (h : liftE c (w1 f wa) σ H Q) : liftP c wa σ H fun x H1 => r x H1 Q := by
  obtain ⟨ω, env, tk, ok, h⟩ := h
  refine ⟨ω, env, tk, ok, ha.mon _ _ _ _ (fun x e1 t1 h1 v ω1 H1 s1 ok1 r1 => ?_) h⟩
  exact od ω1 H1 σ e1 t1 x v _ Q ok1 r1 h1 fun ev v' ω' H' q st ok' r' => q v' ω' H' (s1.trans st) ok' r'
def fNeg : F1
  | .int i, q => q (.val (.int (-i)))
  | _, _ => False
theorem MonF1.neg : MonF1 fNeg := fun x _ _ h z => by cases x <;> first | exact (show False from z).elim | exact h _ z
theorem se_neg (ha : SP X c a wa) : SE X c (.UnaryOp .USub a pos) (w1 fNeg wa) := ⟨.w1 .neg ha.mon, (pe_un un_neg ha.run).wk fun _ _ _ h => run_1 .neg (fun ω H σ env tk x v q Q ok rx h hr => by
  cases x <;> first | exact (show False from h).elim | exact ⟨_, rx.int, hr.int ok h⟩) ha h⟩
end
end DL

namespace DL
open PySem PySem.Spec PyProof.Rows L2

/-! ### tests -/
theorem RepE.bl {c : C} {ω : Wd} {H : Hp} {σ : L2.St} {env : En} {b : Bool} {v : V} (h : RepE c ω H σ env (.val (.bl b)) v) : v = .bl b := Rep.bl_iff.mp (show Rep c.K ω (.bl b) v from h)
theorem RepE.mkbl {c : C} {ω : Wd} {H : Hp} {σ : L2.St} {env : En} {b : Bool} : RepE c ω H σ env (.val (.bl b)) (.bl b) := show Rep c.K ω (.bl b) (.bl b) from Rep.bl_iff.mpr rfl
def wT (w : WE) : WT := fun env tk Q => w env tk fun ev e t => match ev with
  | .val (.bl b) => Q b e t
  | _ => False
theorem Mon.t {w : WE} (m : Mon w) : Mon (wT w) := fun env tk Q Q' h q => m _ _ _ _ (fun ev e t z => by
  cases ev with
  | own ds => exact z
  | val d => cases d <;> first | exact (show False from z).elim | exact h _ _ _ z) q
def wNot (w : WT) : WT := fun env tk Q => w env tk fun b e t => Q (!b) e t
def wAnd (a b : WT) : WT := fun env tk Q => a env tk fun x e t => if x = true then b e t Q else Q false e t
def wOr (a b : WT) : WT := fun env tk Q => a env tk fun x e t => if x = true then Q true e t else b e t Q
theorem Mon.not {w : WT} (m : Mon w) : Mon (wNot w) := fun env tk Q Q' h q => m _ _ _ _ (fun b e t z => h _ e t z) q
theorem Mon.and {a b : WT} (m : Mon a) (n : Mon b) : Mon (wAnd a b) := fun env tk Q Q' h q => m _ _ _ _ (fun x e t z => by
  cases x with
  | true => exact (if_pos rfl).mpr (n _ _ _ _ h ((if_pos rfl).mp z))
  | false => exact (if_neg Bool.false_ne_true).mpr (h _ _ _ ((if_neg Bool.false_ne_true).mp z))) q
theorem Mon.or {a b : WT} (m : Mon a) (n : Mon b) : Mon (wOr a b) := fun env tk Q Q' h q => m _ _ _ _ (fun x e t z => by
  cases x with
  | true => exact (if_pos rfl).mpr (h _ _ _ ((if_pos rfl).mp z))
  | false => exact (if_neg Bool.false_ne_true).mpr (n _ _ _ _ h ((if_neg Bool.false_ne_true).mp z))) q
/-- a test as a value -/
def wB (w : WT) : WE := fun env tk Q => w env tk fun b e t => Q (.val (.bl b)) e t
theorem Mon.b {w : WT} (m : Mon w) : Mon (wB w) := fun env tk Q Q' h q => m _ _ _ _ (fun b e t z => h _ e t z) q
def wIf {α : Type} (c : WT) (a b : W α) : W α := fun env tk Q => c env tk fun x e t => if x = true then a e t Q else b e t Q
theorem Mon.if {α : Type} {c : WT} {a b : W α} (mc : Mon c) (ma : Mon a) (mb : Mon b) : Mon (wIf c a b) := fun env tk Q Q' h q => mc _ _ _ _ (fun x e t z => by
  cases x with
  | true => exact (if_pos rfl).mpr (ma _ _ _ _ h ((if_pos rfl).mp z))
  | false => exact (if_neg Bool.false_ne_true).mpr (mb _ _ _ _ h ((if_neg Bool.false_ne_true).mp z))) q
section
variable {X : Cx} {c : C} {a b e : Expr} {pos : Pos}
theorem liftE_bl {w : WE} (m : Mon w) {σ : L2.St} {H : Hp} {Q : Bool → Hp → Prop} (h : liftT c (wT w) σ H Q) : liftE c w σ H fun x H' => ∃ k, x = .bl k ∧ Q k H' := by
  obtain ⟨ω, env, tk, ok, h⟩ := h
  refine ⟨ω, env, tk, ok, m _ _ _ _ (fun ev e1 t1 h1 v ω' H' st ok' r => ?_) h⟩
  cases ev with
  | own ds => exact (show False from h1).elim
  | val d => cases d <;> first | exact (show False from h1).elim | (have r' := r.bl; subst r'; exact ⟨_, rfl, h1 _ ω' H' st ok' rfl⟩)
theorem st_v {w : WE} (h : SE X c e w) (he : ∀ whole, isTrue e X.env whole = (do let v ← whole; standAt e.pos; holding [v] (truthy v)) := by intro _; rfl) : ST X c e (wT w) :=
  ⟨h.mon.t, (pt_val h.run he).wk fun _ _ _ q => liftE_bl h.mon q⟩
theorem run_cmp {op : CmpOp} {r : R2} {f : FOp} {wa wb : WD} (ho : OpR X (compareOp op) r) (mf : MonF f) (od : OpD c r f) (ha : SP X c a wa) (hb : SP X c b wb) (hm : behindInMarks op b = false) : ST X c (.Compare a [op] [b] pos) (wT (wOp f wa wb)) := by
  refine ⟨(Mon.op mf ha.mon hb.mon).t, (pt_cmpR ho ha.run hb.run hm).wk fun σ H Q h => ?_⟩
  exact run_op mf od ha hb (liftE_bl (.op mf ha.mon hb.mon) h)
variable {wa wb : WD}
theorem st_lt (ha : SP X c a wa) (hb : SP X c b wb) : ST X c (.Compare a [.Lt] [b] pos) (wT (wOp fLt wa wb)) := run_cmp op_lt .j od_b0 ha hb (nomark _)
theorem st_le (ha : SP X c a wa) (hb : SP X c b wb) : ST X c (.Compare a [.LtE] [b] pos) (wT (wOp fLe wa wb)) := run_cmp op_le .j od_b0 ha hb (nomark _)
theorem st_gt (ha : SP X c a wa) (hb : SP X c b wb) : ST X c (.Compare a [.Gt] [b] pos) (wT (wOp fGt wa wb)) := run_cmp op_gt .j od_b0 ha hb (nomark _)
theorem st_ge (ha : SP X c a wa) (hb : SP X c b wb) : ST X c (.Compare a [.GtE] [b] pos) (wT (wOp fGe wa wb)) := run_cmp op_ge .j od_b0 ha hb (nomark _)
theorem st_eq (hK : c.K = X.K) (hu : X.A.units + 100 < cLine) (ha : SP X c a wa) (hb : SP X c b wb) : ST X c (.Compare a [.Eq] [b] pos) (wT (wOp fEq wa wb)) := run_cmp (op_eqD (by omega)) .eq (by rw [← hK]; exact od_eq) ha hb (nomark _)
theorem st_ne (hK : c.K = X.K) (hu : X.A.units + 100 < cLine) (ha : SP X c a wa) (hb : SP X c b wb) : ST X c (.Compare a [.NotEq] [b] pos) (wT (wOp fNe wa wb)) := run_cmp (op_neD (by omega)) .ne (by rw [← hK]; exact od_ne) ha hb (nomark _)
theorem st_in (hK : c.K = X.K) (hu : X.A.units + 100 < cLine) (ha : SP X c a wa) (hb : SP X c b wb) (hm : behindInMarks .In b = false) : ST X c (.Compare a [.In] [b] pos) (wT (wOp fIn wa wb)) := run_cmp (op_inD (by omega)) .in (by rw [← hK]; exact od_in) ha hb hm
theorem st_notIn (hK : c.K = X.K) (hu : X.A.units + 100 < cLine) (ha : SP X c a wa) (hb : SP X c b wb) (hm : behindInMarks .NotIn b = false) : ST X c (.Compare a [.NotIn] [b] pos) (wT (wOp fNotIn wa wb)) := run_cmp (op_notInD (by omega)) .notIn (by rw [← hK]; exact od_notIn) ha hb hm
theorem st_isN (ha : SP X c a wa) (hb : SP X c b wb) : ST X c (.Compare a [.Is] [b] pos) (wT (wOp fIsN wa wb)) := run_cmp op_isN .isN od_isN ha hb (nomark _)
theorem st_notN (ha : SP X c a wa) (hb : SP X c b wb) : ST X c (.Compare a [.IsNot] [b] pos) (wT (wOp fNotN wa wb)) := run_cmp op_notN .notN od_notN ha hb (nomark _)
theorem st_isB (ha : SP X c a wa) (hb : SP X c b wb) : ST X c (.Compare a [.Is] [b] pos) (wT (wOp fIsB wa wb)) := run_cmp op_is_bl .isB od_isB ha hb (nomark _)
theorem st_notB (ha : SP X c a wa) (hb : SP X c b wb) : ST X c (.Compare a [.IsNot] [b] pos) (wT (wOp fNotB wa wb)) := run_cmp op_isnot_bl .notB od_notB ha hb (nomark _)
/-! #### chains a < b < c -/
def wChain (f g : FOp) (a b d : WD) : WE := fun env tk Q => a env tk fun x e1 t1 => b e1 t1 fun y e2 t2 => f x y fun ev => match ev with
  | .val (.bl k) => if k = true then d e2 t2 fun z e3 t3 => g y z fun ev => Q ev e3 t3 else Q (.val (.bl false)) e2 t2
  | _ => False
theorem Mon.chain {f g : FOp} {a b d : WD} (mf : MonF f) (mg : MonF g) (ma : Mon a) (mb : Mon b) (md : Mon d) : Mon (wChain f g a b d) := fun env tk Q Q' h q =>
  ma _ _ _ _ (fun x e1 t1 h1 => mb _ _ _ _ (fun y e2 t2 h2 => mf _ _ _ _ (fun ev z => by
    cases ev with
    | own ds => exact z
    | val v => cases v <;> first | exact (show False from z).elim | (rename_i k; cases k with
      | true => exact (if_pos rfl).mpr (md _ _ _ _ (fun w e3 t3 h3 => mg _ _ _ _ (fun ev => h ev e3 t3) h3) ((if_pos rfl).mp z))
      | false => exact (if_neg Bool.false_ne_true).mpr (h _ _ _ ((if_neg Bool.false_ne_true).mp z)))) h2) h1) q
theorem run_chain {r r' : R2} {f g : FOp} {d : Expr} {wd : WD} (mf : MonF f) (mg : MonF g) (od : OpD c r f) (od' : OpD c r' g) (ha : SP X c a wa) (hb : SP X c b wb) (hd : SP X c d wd) {σ : L2.St} {H : Hp} {Q : VK} (h : liftE c (wChain f g wa wb wd) σ H Q) :
    tChain r r' (liftP c wa) (liftP c wb) (liftP c wd) σ H Q := by
  obtain ⟨ω, env, tk, ok, h⟩ := h
  refine ⟨ω, env, tk, ok, ha.mon _ _ _ _ (fun x e1 t1 h1 v ω1 H1 s1 ok1 r1 => ?_) h⟩
  refine ⟨ω1, e1, t1, ok1, hb.mon _ _ _ _ (fun y e2 t2 h2 u ω2 H2 s2 ok2 r2 => ?_) h1⟩
  refine od ω2 H2 σ e2 t2 x y v u _ _ ok2 (r1.step s2) r2 h2 fun ev v' ω' H' q st ok' r' => ?_
  cases ev with
  | own ds => exact (show False from q).elim
  | val d => cases d <;> first
      | exact (show False from q).elim
      | (have r'' := r'.bl
         subst r''
         rename_i k
         refine ⟨k, rfl, ?_⟩
         cases k with
         | false => exact (if_neg Bool.false_ne_true).mpr (((if_neg Bool.false_ne_true).mp q) _ ω' H' ((s1.trans s2).trans st) ok' RepE.mkbl)
         | true =>
           refine (if_pos rfl).mpr ⟨ω', e2, t2, ok', hd.mon _ _ _ _ (fun z e3 t3 h3 w ω3 H3 s3 ok3 r3 => ?_) ((if_pos rfl).mp q)⟩
           exact od' ω3 H3 σ e3 t3 y z u w _ Q ok3 ((r2.step st).step s3) r3 h3 fun ev v' ω' H' q st' ok' r' => q v' ω' H' ((((s1.trans s2).trans st).trans s3).trans st') ok' r')
theorem se_chain {op op' : CmpOp} {r r' : R2} {f g : FOp} {d : Expr} {wd : WD} (ho : OpR X (compareOp op) r) (ho' : OpR X (compareOp op') r') (mf : MonF f) (mg : MonF g) (od : OpD c r f) (od' : OpD c r' g) (ha : SP X c a wa) (hb : SP X c b wb) (hd : SP X c d wd)
    (hm : lastMarks [op, op'] [b, d] = false := by with_unfolding_all rfl) : SE X c (.Compare a [op, op'] [b, d] pos) (wChain f g wa wb wd) :=
  ⟨.chain mf mg ha.mon hb.mon hd.mon, (pe_chain ho ho' ha.run hb.run hd.run hm).wk fun _ _ _ h => run_chain mf mg od od' ha hb hd h⟩
theorem st_chain {op op' : CmpOp} {r r' : R2} {f g : FOp} {d : Expr} {wd : WD} (ho : OpR X (compareOp op) r) (ho' : OpR X (compareOp op') r') (mf : MonF f) (mg : MonF g) (od : OpD c r f) (od' : OpD c r' g) (ha : SP X c a wa) (hb : SP X c b wb) (hd : SP X c d wd)
    (hm : lastMarks [op, op'] [b, d] = false := by with_unfolding_all rfl) : ST X c (.Compare a [op, op'] [b, d] pos) (wT (wChain f g wa wb wd)) :=
  ⟨(Mon.chain mf mg ha.mon hb.mon hd.mon).t, (pt_chain ho ho' ha.run hb.run hd.run hm).wk fun _ _ _ h => run_chain mf mg od od' ha hb hd (liftE_bl (.chain mf mg ha.mon hb.mon hd.mon) h)⟩

/-! #### and, or, not -/
variable {ta tb : WT} {rest : List Expr}
theorem st_not (ha : ST X c a ta) : ST X c (.UnaryOp .Not a pos) (wNot ta) := ⟨ha.mon.not, (pt_not ha.run).wk fun σ H Q ⟨ω, env, tk, ok, h⟩ => ⟨ω, env, tk, ok, ha.mon _ _ _ _ (fun b e t q v ω' H' st ok' r => by subst r; exact q _ ω' H' st ok' rfl) h⟩⟩
theorem sw_and1 (ha : ST X c a ta) : SW X c (.BoolOp .And [a] pos) ta := ⟨ha.mon, pw_and1 ha.run⟩
theorem sw_or1 (ha : ST X c a ta) : SW X c (.BoolOp .Or [a] pos) ta := ⟨ha.mon, pw_or1 ha.run⟩
theorem run_and (ma : Mon ta) (mb : Mon tb) {σ : L2.St} {H : Hp} {Q : Bool → Hp → Prop} (h : liftT c (wAnd ta tb) σ H Q) : tAnd (liftT c ta) (liftT c tb) σ H Q := by
  obtain ⟨ω, env, tk, ok, h⟩ := h
  refine ⟨ω, env, tk, ok, ma _ _ _ _ (fun x e1 t1 h1 v ω1 H1 s1 ok1 r1 => ?_) h⟩
  subst r1
  cases v with
  | true => exact (if_pos rfl).mpr ⟨ω1, e1, t1, ok1, mb _ _ _ _ (fun y e2 t2 h2 u ω2 H2 s2 ok2 r2 => h2 u ω2 H2 (s1.trans s2) ok2 r2) ((if_pos rfl).mp h1)⟩
  | false => exact (if_neg Bool.false_ne_true).mpr (((if_neg Bool.false_ne_true).mp h1) _ ω1 H1 s1 ok1 rfl)
theorem run_or (ma : Mon ta) (mb : Mon tb) {σ : L2.St} {H : Hp} {Q : Bool → Hp → Prop} (h : liftT c (wOr ta tb) σ H Q) : tOr (liftT c ta) (liftT c tb) σ H Q := by
  obtain ⟨ω, env, tk, ok, h⟩ := h
  refine ⟨ω, env, tk, ok, ma _ _ _ _ (fun x e1 t1 h1 v ω1 H1 s1 ok1 r1 => ?_) h⟩
  subst r1
  cases v with
  | false => exact (if_neg Bool.false_ne_true).mpr ⟨ω1, e1, t1, ok1, mb _ _ _ _ (fun y e2 t2 h2 u ω2 H2 s2 ok2 r2 => h2 u ω2 H2 (s1.trans s2) ok2 r2) ((if_neg Bool.false_ne_true).mp h1)⟩
  | true => exact (if_pos rfl).mpr (((if_pos rfl).mp h1) _ ω1 H1 s1 ok1 rfl)
theorem sw_and (ha : ST X c a ta) (hb : SW X c (.BoolOp .And (b :: rest) pos) tb) : SW X c (.BoolOp .And (a :: b :: rest) pos) (wAnd ta tb) := ⟨ha.mon.and hb.mon, (pw_and ha.run hb.run).wk fun _ _ _ h => run_and ha.mon hb.mon h⟩
theorem sw_or (ha : ST X c a ta) (hb : SW X c (.BoolOp .Or (b :: rest) pos) tb) : SW X c (.BoolOp .Or (a :: b :: rest) pos) (wOr ta tb) := ⟨ha.mon.or hb.mon, (pw_or ha.run hb.run).wk fun _ _ _ h => run_or ha.mon hb.mon h⟩
theorem st_w (h : SW X c e ta) : ST X c e ta := ⟨h.mon, h.run.pt⟩
/-- as values -/
theorem run_b {t : WT} {w : WE} (mt : Mon t) (e : t = wT w) : True := trivial
theorem liftE_wB {t : WT} (m : Mon t) {σ : L2.St} {H : Hp} {Q : VK} (h : liftE c (wB t) σ H Q) : liftT c t σ H fun b H' => Q (.bl b) H' := by
  obtain ⟨ω, env, tk, ok, h⟩ := h
  exact ⟨ω, env, tk, ok, m _ _ _ _ (fun b e1 t1 h1 v ω' H' st ok' r => by subst r; exact h1 _ ω' H' st ok' RepE.mkbl) h⟩
variable {va vb : WE}
structure SV (X : Cx) (c : C) (e : Expr) (t : WT) : Prop where
  mon : Mon t
  run : PE X e (liftE c (wB t))
theorem se_sv {t : WT} (h : SV X c e t) : SE X c e (wB t) := ⟨h.mon.b, h.run⟩
theorem sv_one {op} (h : SE X c a va) : SV X c (.BoolOp op [a] pos) (wT va) := ⟨h.mon.t, (pe_one h.run).wk fun σ H Q q => by
  obtain ⟨ω, env, tk, ok, z⟩ := liftE_bl h.mon (liftE_wB h.mon.t q)
  exact ⟨ω, env, tk, ok, h.mon _ _ _ _ (fun ev e1 t1 h1 v ω' H' st ok' r => by obtain ⟨k, rfl, q⟩ := h1 v ω' H' st ok' r; exact q) z⟩⟩
theorem sv_and (ha : SE X c a va) (hb : SV X c (.BoolOp .And (b :: rest) pos) tb) : SV X c (.BoolOp .And (a :: b :: rest) pos) (wAnd (wT va) tb) := ⟨ha.mon.t.and hb.mon, (pe_and ha.run hb.run).wk fun σ H Q q => by
  have z := liftE_bl ha.mon (run_and ha.mon.t hb.mon (liftE_wB (ha.mon.t.and hb.mon) q))
  obtain ⟨ω, env, tk, ok, z⟩ := z
  refine ⟨ω, env, tk, ok, ha.mon _ _ _ _ (fun ev e1 t1 h1 v ω' H' st ok' r => ?_) z⟩
  obtain ⟨k, e, q⟩ := h1 v ω' H' st ok' r
  refine ⟨k, e, ?_⟩
  cases k with
  | false => exact (if_neg Bool.false_ne_true).mpr ((if_neg Bool.false_ne_true).mp q)
  | true =>
    refine (if_pos rfl).mpr ?_
    obtain ⟨ω, env, tk, ok, z⟩ := (if_pos rfl).mp q
    exact ⟨ω, env, tk, ok, hb.mon _ _ _ _ (fun b e2 t2 h2 v ω2 H2 s2 ok2 r2 => by have r2' := r2.bl; subst r2'; exact h2 _ ω2 H2 s2 ok2 rfl) z⟩⟩
theorem sv_or (ha : SE X c a va) (hb : SV X c (.BoolOp .Or (b :: rest) pos) tb) : SV X c (.BoolOp .Or (a :: b :: rest) pos) (wOr (wT va) tb) := ⟨ha.mon.t.or hb.mon, (pe_or ha.run hb.run).wk fun σ H Q q => by
  have z := liftE_bl ha.mon (run_or ha.mon.t hb.mon (liftE_wB (ha.mon.t.or hb.mon) q))
  obtain ⟨ω, env, tk, ok, z⟩ := z
  refine ⟨ω, env, tk, ok, ha.mon _ _ _ _ (fun ev e1 t1 h1 v ω' H' st ok' r => ?_) z⟩
  obtain ⟨k, e, q⟩ := h1 v ω' H' st ok' r
  refine ⟨k, e, ?_⟩
  cases k with
  | true => exact (if_pos rfl).mpr ((if_pos rfl).mp q)
  | false =>
    refine (if_neg Bool.false_ne_true).mpr ?_
    obtain ⟨ω, env, tk, ok, z⟩ := (if_neg Bool.false_ne_true).mp q
    exact ⟨ω, env, tk, ok, hb.mon _ _ _ _ (fun b e2 t2 h2 v ω2 H2 s2 ok2 r2 => by have r2' := r2.bl; subst r2'; exact h2 _ ω2 H2 s2 ok2 rfl) z⟩⟩
theorem se_not (ha : SE X c a va) : SE X c (.UnaryOp .Not a pos) (wB (wNot (wT va))) := ⟨ha.mon.t.not.b, (pe_not ha.run).wk fun σ H Q q => by
  obtain ⟨ω, env, tk, ok, z⟩ := liftE_wB ha.mon.t.not q
  have z' : liftT c (wT va) σ H fun b H' => Q (.bl (!b)) H' := ⟨ω, env, tk, ok, ha.mon.t _ _ _ _ (fun b e t q v ω' H' st ok' r => by subst r; exact q _ ω' H' st ok' rfl) z⟩
  exact liftE_bl ha.mon z'⟩
theorem se_if {t : Expr} {tt : WT} (hc : ST X c t tt) (ha : SE X c a va) (hb : SE X c b vb) : SE X c (.IfExp t a b pos) (wIf tt va vb) := ⟨hc.mon.if ha.mon hb.mon, (pe_ifExp hc.run ha.run hb.run).wk fun σ H Q h => by
  obtain ⟨ω, env, tk, ok, h⟩ := h
  refine ⟨ω, env, tk, ok, hc.mon _ _ _ _ (fun x e1 t1 h1 v ω1 H1 s1 ok1 r1 => ?_) h⟩
  subst r1
  cases v with
  | true => exact (if_pos rfl).mpr ⟨ω1, e1, t1, ok1, ha.mon _ _ _ _ (fun y e2 t2 h2 u ω2 H2 s2 ok2 r2 => h2 u ω2 H2 (s1.trans s2) ok2 r2) ((if_pos rfl).mp h1)⟩
  | false => exact (if_neg Bool.false_ne_true).mpr ⟨ω1, e1, t1, ok1, hb.mon _ _ _ _ (fun y e2 t2 h2 u ω2 H2 s2 ok2 r2 => h2 u ω2 H2 (s1.trans s2) ok2 r2) ((if_neg Bool.false_ne_true).mp h1)⟩⟩

/-! ### displays, arguments -/
def wNil : WA := fun env tk Q => Q [] env tk
def wCons (a : WD) (r : WA) : WA := fun env tk Q => a env tk fun x e1 t1 => r e1 t1 fun xs e2 t2 => Q (x :: xs) e2 t2
theorem Mon.nil : Mon wNil := fun _ _ _ _ h q => h _ _ _ q
theorem Mon.cons {a : WD} {r : WA} (ma : Mon a) (mr : Mon r) : Mon (wCons a r) := fun env tk Q Q' h q => ma _ _ _ _ (fun x e1 t1 h1 => mr _ _ _ _ (fun xs e2 t2 h2 => h _ e2 t2 h2) h1) q
theorem sa_nil : SA X c [] wNil := ⟨.nil, pa_nil.wk fun σ H Q ⟨ω, env, tk, ok, h⟩ => h _ ω H (.refl _ _) ok Reps.nil⟩
theorem sa_cons {es : List Expr} {w : WD} {r : WA} (ha : SD X c e w) (hr : SA X c es r) (hs : starEach (e :: es) X.env = (false, eval e X.env) :: starEach es X.env := by rfl) : SA X c (e :: es) (wCons w r) := ⟨.cons ha.mon hr.mon, (pa_cons ha.run hr.run hs).wk fun σ H Q ⟨ω, env, tk, ok, h⟩ => by
  refine ⟨ω, env, tk, ok, ha.mon _ _ _ _ (fun x e1 t1 h1 v ω1 H1 s1 ok1 r1 => ?_) h⟩
  refine ⟨ω1, e1, t1, ok1, hr.mon _ _ _ _ (fun xs e2 t2 h2 us ω2 H2 s2 ok2 r2 => ?_) h1⟩
  exact h2 _ ω2 H2 (s1.trans s2) ok2 (Reps.cons (r1.mono s2.le) r2)⟩
def wTup (r : WA) : WE := fun env tk Q => r env tk fun ds e t => Nat.ble ds.length 1000 = true ∧ Q (.val (.tup ds)) e t
def wLst (r : WA) : WE := fun env tk Q => r env tk fun ds e t => Nat.ble ds.length 1000 = true ∧ Q (.own ds) e t
theorem Mon.tup {r : WA} (m : Mon r) : Mon (wTup r) := fun env tk Q Q' h q => m _ _ _ _ (fun ds e t z => ⟨z.1, h _ _ _ z.2⟩) q
theorem Mon.lst {r : WA} (m : Mon r) : Mon (wLst r) := fun env tk Q Q' h q => m _ _ _ _ (fun ds e t z => ⟨z.1, h _ _ _ z.2⟩) q
theorem small_le {n : Nat} (h : n ≤ 1000) : n ≤ sizeLine := Nat.le_of_lt (small1000 h)
theorem se_tup {es : List Expr} {r : WA} {x1} (h : SA X c es r) : SE X c (.Tuple es x1 pos) (wTup r) := ⟨h.mon.tup, (pe_tup h.run).wk fun σ H Q ⟨ω, env, tk, ok, q⟩ => ⟨ω, env, tk, ok, h.mon _ _ _ _ (fun ds e t z vs ω' H' st ok' r => by
  refine ⟨by rw [r.length]; exact small_le (Nat.le_of_ble_eq_true z.1), fun p n => ?_⟩
  exact z.2 _ _ _ (st.trans (.alloc n (ok'.nohd n) _)) (ok'.alloc n _) (show Rep c.K ⟨ω'.g, upd ω'.hd p (.tup vs)⟩ (.tup ds) (.ref p) from Rep.tup_iff.mpr ⟨p, vs, rfl, .of (show upd ω'.hd p _ p = _ from upd_same), r.mono (le_upd (ok'.nohd n))⟩)) q⟩⟩
theorem se_lst {es : List Expr} {r : WA} (h : SA X c es r) : SE X c (.List es pos) (wLst r) := ⟨h.mon.lst, (pe_lst h.run).wk fun σ H Q ⟨ω, env, tk, ok, q⟩ => ⟨ω, env, tk, ok, h.mon _ _ _ _ (fun ds e t z vs ω' H' st ok' r => by
  refine ⟨by rw [r.length]; exact small_le (Nat.le_of_ble_eq_true z.1), fun p n => ?_⟩
  exact z.2 _ _ _ (st.trans (.newL n _)) (ok'.newL n _) (ok'.own n r)) q⟩⟩
end
end DL

namespace DL
open PySem PySem.Spec PyProof.Rows L2

/-! ### items, slices -/
def fIdx : FOp
  | .lst ds, .int i, q => match atI ds i with
    | some d => q (.val d)
    | none => False
  | .tup ds, .int i, q => match atI ds i with
    | some d => q (.val d)
    | none => False
  | .str s, .int i, q => s.length ≤ sizeLine ∧ match atI s.cps.toList i with
    | some ch => q (.val (.str ⟨#[ch]⟩))
    | none => False
  | _, _, _ => False
theorem MonF.idx : MonF fIdx := fun x y q q' h z => by
  cases x <;> first | exact (show False from z).elim | (cases y <;> first | exact (show False from z).elim | skip)
  · obtain ⟨z1, z⟩ := z
    refine ⟨z1, ?_⟩
    split at z <;> first | exact h _ z | exact z.elim
  · unfold fIdx at z ⊢
    simp only at z ⊢
    split at z <;> first | exact h _ z | exact z.elim
  · unfold fIdx at z ⊢
    simp only at z ⊢
    split at z <;> first | exact h _ z | exact z.elim
theorem Reps.atI {K : PySem.W.Frag} {ω : Wd} {ds : List D} {vs : List V} {i : Int} {d : D} (h : Reps K ω ds vs) (e : L2.atI ds i = some d) : ∃ v, L2.atI vs i = some v ∧ Rep K ω d v := by
  unfold L2.atI at e ⊢
  rw [h.length]
  cases z : ixN ds.length i with
  | none => rw [z] at e; cases e
  | some j =>
    rw [z] at e
    obtain ⟨v, h1, h2⟩ := h.get (i := j) (d := d) e
    exact ⟨v, h1, h2⟩
section
variable {X : Cx} {c : C} {a b e : Expr} {wa wb : WD} {pos p2 : Pos}
theorem od_idx : OpD c (rIx c.K) fIdx := fun ω H σ env tk x y v u q Q ok rx ry h hr => by
  cases x <;> first | exact (show False from h).elim | (cases y <;> first | exact (show False from h).elim | skip)
  · obtain ⟨h1, h⟩ := h
    split at h
    · rename_i ch e
      exact .inr (.inr ⟨_, _, ch, rx.str, ry.int, h1, e, hr.str ok h⟩)
    · exact h.elim
  · unfold fIdx at h
    simp only at h
    split at h
    · rename_i d e
      obtain ⟨p, vs, rfl, sx, qx⟩ := rx.tup ok.sub
      obtain ⟨w, h1, h2⟩ := qx.atI e
      exact .inr (.inl ⟨p, vs, _, w, rfl, ry.int, sx, h1, hr.val ok h h2⟩)
    · exact h.elim
  · unfold fIdx at h
    simp only at h
    split at h
    · rename_i d e
      obtain ⟨p, vs, rfl, sx, qx⟩ := rx.lst ok.sub
      obtain ⟨w, h1, h2⟩ := qx.atI e
      exact .inl ⟨p, vs, _, w, rfl, ry.int, sx, h1, hr.val ok h h2⟩
    · exact h.elim
theorem se_ix (hK : c.K = X.K) (ha : SP X c a wa) (hb : SP X c b wb) (hs : PlainIx b) : SE X c (.Subscript a b pos) (wOp fIdx wa wb) :=
  ⟨.op .idx ha.mon hb.mon, (pe_ix ix_seq ha.run hb.run hs).wk fun _ _ _ h => by rw [← hK]; exact run_op .idx od_idx ha hb h⟩

abbrev WO := W (Option Int)
def liftO (c : C) (w : WO) : TO := lift c (fun _ _ _ _ b b' => b' = b) w
structure SO (X : Cx) (c : C) (e : Option Expr) (w : WO) : Prop where
  mon : Mon w
  run : PO X e (liftO c w)
def wNo : WO := fun env tk Q => Q none env tk
def wSo (w : WD) : WO := fun env tk Q => w env tk fun d e t => match d with
  | .int i => Q (some i) e t
  | _ => False
theorem so_none : SO X c none wNo := ⟨fun _ _ _ _ h q => h _ _ _ q, ⟨fun pins s σ H Q I h => po_none.run pins s σ H Q I (by
  obtain ⟨ω, env, tk, ok, h⟩ := h
  exact h _ ω H (.refl _ _) ok rfl)⟩⟩
theorem so_some {w : WD} (h : SP X c e w) : SO X c (some e) (wSo w) := ⟨fun env tk Q Q' k q => h.mon _ _ _ _ (fun d e t z => by cases d <;> first | exact (show False from z).elim | exact k _ _ _ z) q,
  ⟨fun pins s σ H Q I hw => (po_some h.run).run pins s σ H Q I (by
    obtain ⟨ω, env, tk, ok, q⟩ := hw
    refine ⟨ω, env, tk, ok, h.mon _ _ _ _ (fun d e1 t1 z v ω' H' st ok' r => ?_) q⟩
    cases d <;> first | exact (show False from z).elim | exact ⟨_, r.int, z _ ω' H' st ok' rfl⟩)⟩⟩
def cutG {α : Type} (xs : List α) (lo hi : Option Int) : List α := (xs.drop (HT.sIx xs.length 0 lo)).take (HT.sIx xs.length xs.length hi - HT.sIx xs.length 0 lo)
def fSl : D → Option Int → Option Int → (EV → Prop) → Prop
  | .lst ds, lo, hi, q => q (.own (cutG ds lo hi))
  | .tup ds, lo, hi, q => ¬ (HT.sIx ds.length 0 lo = 0 ∧ HT.sIx ds.length ds.length hi = ds.length) ∧ q (.val (.tup (cutG ds lo hi)))
  | _, _, _, _ => False
def wSl (a : WD) (lo hi : WO) : WE := fun env tk Q => a env tk fun x e1 t1 => lo e1 t1 fun l e2 t2 => hi e2 t2 fun u e3 t3 => fSl x l u fun ev => Q ev e3 t3
theorem Reps.cut {K : PySem.W.Frag} {ω : Wd} {ds : List D} {vs : List V} (h : Reps K ω ds vs) (lo hi : Option Int) : Reps K ω (cutG ds lo hi) (cutV vs lo hi) := by
  unfold cutG cutV
  rw [h.length]
  exact (h.drop _).take _
theorem se_sl (hK : c.K = X.K) {lo hi : Option Expr} {wl wh : WO} (ha : SP X c a wa) (hl : SO X c lo wl) (hh : SO X c hi wh) : SE X c (.Subscript a (.Slice lo hi none p2) pos) (wSl wa wl wh) := by
  refine ⟨fun env tk Q Q' k q => ha.mon _ _ _ _ (fun x e1 t1 h1 => hl.mon _ _ _ _ (fun l e2 t2 h2 => hh.mon _ _ _ _ (fun u e3 t3 h3 => ?_) h2) h1) q, (pe_slice (sl_list.or sl_tup) ha.run hl.run hh.run).wk fun σ H Q h => ?_⟩
  · cases x <;> first | exact (show False from h3).elim | exact k _ _ _ h3 | exact ⟨h3.1, k _ _ _ h3.2⟩
  · obtain ⟨ω, env, tk, ok, h⟩ := h
    refine ⟨ω, env, tk, ok, ha.mon _ _ _ _ (fun x e1 t1 h1 v ω1 H1 s1 ok1 r1 => ?_) h⟩
    refine ⟨ω1, e1, t1, ok1, hl.mon _ _ _ _ (fun l e2 t2 h2 v2 ω2 H2 s2 ok2 r2 => ?_) h1⟩
    refine ⟨ω2, e2, t2, ok2, hh.mon _ _ _ _ (fun u e3 t3 h3 v3 ω3 H3 s3 ok3 r3 => ?_) h2⟩
    subst r2 r3
    have r4 := (r1.step s2).step s3
    have hr : Res c ω3 H3 σ e3 t3 (fun ev => ∀ v ω' H', Stp ω H ω' H' → Ok c ω' H' σ e3 t3 → RepE c ω' H' σ e3 ev v → Q v H') Q := fun ev v' ω' H' q st' ok' r' => q v' ω' H' (((s1.trans s2).trans s3).trans st') ok' r'
    cases x <;> first | exact (show False from h3).elim | skip
    · obtain ⟨p, vs, rfl, sx, qx⟩ := r4.tup ok3.sub
      rw [hK] at sx
      refine .inr ⟨p, vs, rfl, sx, by rw [qx.length]; exact h3.1, fun t n => hr.tup ok3 h3.2 (qx.cut _ _) n⟩
    · obtain ⟨p, vs, rfl, sx, qx⟩ := r4.lst ok3.sub
      rw [hK] at sx
      exact .inl ⟨p, vs, rfl, sx, fun t n => hr.lst ok3 h3 (qx.cut _ _) n⟩

/-! ### built-in functions -/
def CallD1 (c : C) (r : List V → Hp → VK → Prop) (f : F1) : Prop := UnD c (fun v H Q => r [v] H Q) f
abbrev F2 := FOp
def CallD2 (c : C) (r : List V → Hp → VK → Prop) (f : FOp) : Prop := OpD c (fun v u H Q => r [v, u] H Q) f
theorem run_c1 {r : List V → Hp → VK → Prop} {f : F1} (mf : MonF1 f) (od : CallD1 c r f) (ha : SP X c a wa) {σ : L2.St} {H : Hp} {Q : VK} (h : liftE c (w1 f wa) σ H Q) : tCB r (tCons (liftP c wa) tNil) σ H Q :=
  run_1 mf od ha h
theorem run_c2 {r : List V → Hp → VK → Prop} {f : FOp} (mf : MonF f) (od : CallD2 c r f) (ha : SP X c a wa) (hb : SP X c b wb) {σ : L2.St} {H : Hp} {Q : VK} (h : liftE c (wOp f wa wb) σ H Q) : tCB r (tCons (liftP c wa) (tCons (liftP c wb) tNil)) σ H Q :=
  run_op mf od ha hb h
variable {id T : String} {x : Str} {p : Pos}
theorem se_b1 {r : List V → Hp → VK → Prop} {f : F1} (hc : CallR X (.builtin id) r) (hg : Gl X x) (hm : X.mg x = none) (hv : bootBuiltins x = some (.builtin id)) (mf : MonF1 f) (od : CallD1 c r f) (ha : SP X c a wa) (hn : x ≠ "__name__" := by decide) (hdb : (x == ("__debug__" : Str)) = false := by decide)
    (he : starEach [a] X.env = [(false, eval a X.env)] := by rfl) : SE X c (.Call (.Name x p) [a] [] pos) (w1 f wa) :=
  ⟨.w1 mf ha.mon, (pe_callB hc hg hm hv (pa_cons ha.run pa_nil he) hn hdb he).wk fun _ _ _ h => run_c1 mf od ha h⟩
theorem se_t1 {r : List V → Hp → VK → Prop} {f : F1} (hc : CallR X (.type T) r) (hg : Gl X x) (hm : X.mg x = none) (hv : bootBuiltins x = some (.type T)) (mf : MonF1 f) (od : CallD1 c r f) (ha : SP X c a wa) (hn : x ≠ "__name__" := by decide) (hdb : (x == ("__debug__" : Str)) = false := by decide)
    (he : starEach [a] X.env = [(false, eval a X.env)] := by rfl) : SE X c (.Call (.Name x p) [a] [] pos) (w1 f wa) :=
  ⟨.w1 mf ha.mon, (pe_callTy hc hg hm hv (pa_cons ha.run pa_nil he) hn hdb he).wk fun _ _ _ h => run_c1 mf od ha h⟩
theorem se_b2 {r : List V → Hp → VK → Prop} {f : FOp} (hc : CallR X (.builtin id) r) (hg : Gl X x) (hm : X.mg x = none) (hv : bootBuiltins x = some (.builtin id)) (mf : MonF f) (od : CallD2 c r f) (ha : SP X c a wa) (hb : SP X c b wb) (hn : x ≠ "__name__" := by decide) (hdb : (x == ("__debug__" : Str)) = false := by decide)
    (he : starEach [a, b] X.env = [(false, eval a X.env), (false, eval b X.env)] := by rfl) (he2 : starEach [b] X.env = [(false, eval b X.env)] := by rfl) : SE X c (.Call (.Name x p) [a, b] [] pos) (wOp f wa wb) :=
  ⟨.op mf ha.mon hb.mon, (pe_callB hc hg hm hv (pa_cons ha.run (pa_cons hb.run pa_nil he2) (by rw [he, he2])) hn hdb (by rw [he, he2]) (by rw [he2]; rfl)).wk fun _ _ _ h => run_c2 mf od ha hb h⟩
/-- len -/
def fLen : F1
  | .lst ds, q => q (.val (.int (ds.length : Int)))
  | .tup ds, q => q (.val (.int (ds.length : Int)))
  | .str s, q => s.length ≤ sizeLine ∧ q (.val (.int (s.length : Int)))
  | _, _ => False
theorem MonF1.len : MonF1 fLen := fun x _ _ h z => by cases x <;> first | exact (show False from z).elim | exact h _ z | exact ⟨z.1, h _ z.2⟩
theorem cd_len : CallD1 c (fun xs H Q => (∃ p ys, xs = [.ref p] ∧ (SqL c.K H p ys ∨ SqT c.K H p ys) ∧ Q (.int ys.length) H) ∨ (∃ z, xs = [.str z] ∧ z.length ≤ sizeLine ∧ Q (.int z.length) H)) fLen := fun ω H σ env tk x v q Q ok rx h hr => by
  cases x <;> first | exact (show False from h).elim | skip
  · rw [rx.str]
    exact .inr ⟨_, rfl, h.1, hr.int ok h.2⟩
  · obtain ⟨p, vs, rfl, sx, qx⟩ := rx.tup ok.sub
    exact .inl ⟨p, vs, rfl, .inr sx, by rw [qx.length]; exact hr.int ok h⟩
  · obtain ⟨p, vs, rfl, sx, qx⟩ := rx.lst ok.sub
    exact .inl ⟨p, vs, rfl, .inl sx, by rw [qx.length]; exact hr.int ok h⟩
theorem se_len (hK : c.K = X.K) (hg : Gl X "len") (hm : X.mg "len" = none) (ha : SP X c a wa) (he : starEach [a] X.env = [(false, eval a X.env)] := by rfl) : SE X c (.Call (.Name "len" p) [a] [] pos) (w1 fLen wa) :=
  se_b1 (call_len_seq.or call_len_str) hg hm PySem.boot_len .len (by rw [← hK]; exact cd_len) ha (he := he)
/-- abs -/
def fAbs : F1
  | .int i, q => q (.val (.int (if i < 0 then -i else i)))
  | _, _ => False
theorem MonF1.abs : MonF1 fAbs := fun x _ _ h z => by cases x <;> first | exact (show False from z).elim | exact h _ z
theorem se_abs (hg : Gl X "abs") (hm : X.mg "abs" = none) (ha : SP X c a wa) (he : starEach [a] X.env = [(false, eval a X.env)] := by rfl) : SE X c (.Call (.Name "abs" p) [a] [] pos) (w1 fAbs wa) :=
  se_b1 call_abs hg hm (by decide +kernel) .abs (fun ω H σ env tk x v q Q ok rx h hr => by
    cases x <;> first | exact (show False from h).elim | skip
    rw [rx.int]
    exact ⟨_, rfl, hr.int ok h⟩) ha (he := he)
/-- int -/
def fInt : F1
  | .int i, q => q (.val (.int i))
  | .bl b, q => q (.val (.int (if b then 1 else 0)))
  | _, _ => False
theorem MonF1.toInt : MonF1 fInt := fun x _ _ h z => by cases x <;> first | exact (show False from z).elim | exact h _ z
theorem se_toInt (hg : Gl X "int") (hm : X.mg "int" = none) (ha : SP X c a wa) (he : starEach [a] X.env = [(false, eval a X.env)] := by rfl) : SE X c (.Call (.Name "int" p) [a] [] pos) (w1 fInt wa) :=
  se_t1 call_int1 hg hm (by decide +kernel) .toInt (fun ω H σ env tk x v q Q ok rx h hr => by
    cases x <;> first | exact (show False from h).elim | skip
    · rw [rx.bl]
      exact .inr ⟨_, rfl, hr.int ok h⟩
    · rw [rx.int]
      exact .inl ⟨_, rfl, hr.int ok h⟩) ha (he := he)
/-- max, min of two ints -/
def fMax : FOp
  | .int i, .int j, q => q (.val (.int (if j > i then j else i)))
  | _, _, _ => False
def fMin : FOp
  | .int i, .int j, q => q (.val (.int (if j < i then j else i)))
  | _, _, _ => False
theorem MonF.max : MonF fMax := fun x y _ _ h z => by cases x <;> first | exact (show False from z).elim | (cases y <;> first | exact (show False from z).elim | exact h _ z)
theorem MonF.min : MonF fMin := fun x y _ _ h z => by cases x <;> first | exact (show False from z).elim | (cases y <;> first | exact (show False from z).elim | exact h _ z)
theorem se_max (hc : X.calm = true) (hg : Gl X "max") (hm : X.mg "max" = none) (ha : SP X c a wa) (hb : SP X c b wb) (he : starEach [a, b] X.env = [(false, eval a X.env), (false, eval b X.env)] := by rfl) (he2 : starEach [b] X.env = [(false, eval b X.env)] := by rfl) : SE X c (.Call (.Name "max" p) [a, b] [] pos) (wOp fMax wa wb) :=
  se_b2 (call_max2 hc) hg hm (by decide +kernel) .max (fun ω H σ env tk x y v u q Q ok rx ry h hr => by
    cases x <;> first | exact (show False from h).elim | (cases y <;> first | exact (show False from h).elim | skip)
    rw [rx.int, ry.int]
    exact ⟨_, _, rfl, hr.int ok h⟩) ha hb (he := he) (he2 := he2)
theorem se_min (hc : X.calm = true) (hg : Gl X "min") (hm : X.mg "min" = none) (ha : SP X c a wa) (hb : SP X c b wb) (he : starEach [a, b] X.env = [(false, eval a X.env), (false, eval b X.env)] := by rfl) (he2 : starEach [b] X.env = [(false, eval b X.env)] := by rfl) : SE X c (.Call (.Name "min" p) [a, b] [] pos) (wOp fMin wa wb) :=
  se_b2 (call_min2 hc) hg hm (by decide +kernel) .min (fun ω H σ env tk x y v u q Q ok rx ry h hr => by
    cases x <;> first | exact (show False from h).elim | (cases y <;> first | exact (show False from h).elim | skip)
    rw [rx.int, ry.int]
    exact ⟨_, _, rfl, hr.int ok h⟩) ha hb (he := he) (he2 := he2)
/-- list, tuple -/
def fList : F1
  | .lst ds, q => q (.own ds)
  | .tup ds, q => q (.own ds)
  | _, _ => False
def fTuple : F1
  | .lst ds, q => q (.val (.tup ds))
  | .tup ds, q => q (.val (.tup ds))
  | _, _ => False
theorem MonF1.list : MonF1 fList := fun x _ _ h z => by cases x <;> first | exact (show False from z).elim | exact h _ z
theorem MonF1.tuple : MonF1 fTuple := fun x _ _ h z => by cases x <;> first | exact (show False from z).elim | exact h _ z
theorem cd_list : CallD1 c (fun xs H Q => ∃ p ys, xs = [.ref p] ∧ (SqL c.K H p ys ∨ SqT c.K H p ys) ∧ ∀ l, H l = none → Q (.ref l) (upd H l (.lst ys))) fList := fun ω H σ env tk x v q Q ok rx h hr => by
  cases x <;> first | exact (show False from h).elim | skip
  · obtain ⟨p, vs, rfl, sx, qx⟩ := rx.tup ok.sub
    exact ⟨p, vs, rfl, .inr sx, fun l n => hr.lst ok h qx n⟩
  · obtain ⟨p, vs, rfl, sx, qx⟩ := rx.lst ok.sub
    exact ⟨p, vs, rfl, .inl sx, fun l n => hr.lst ok h qx n⟩
theorem se_list (hK : c.K = X.K) (hg : Gl X "list") (hm : X.mg "list" = none) (ha : SP X c a wa) (he : starEach [a] X.env = [(false, eval a X.env)] := by rfl) : SE X c (.Call (.Name "list" p) [a] [] pos) (w1 fList wa) :=
  se_t1 call_list_of hg hm (by decide +kernel) .list (by rw [← hK]; exact cd_list) ha (he := he)
theorem RepP.tupRep {ω : Wd} {H : Hp} {ds : List D} {v : V} (h : RepP c ω H (.tup ds) v) : Rep c.K ω (.tup ds) v := by
  rcases h with h | ⟨ds, p, vs, e, _⟩
  · exact h
  · cases e
theorem cd_tuple : CallD1 c (fun xs H Q => ∃ p ys, xs = [.ref p] ∧ ((SqL c.K H p ys ∧ ∀ l, H l = none → Q (.ref l) (upd H l (.tup ys))) ∨ (SqT c.K H p ys ∧ Q (.ref p) H))) fTuple := fun ω H σ env tk x v q Q ok rx h hr => by
  cases x <;> first | exact (show False from h).elim | skip
  · have r := rx.tupRep
    obtain ⟨p, vs, rfl, sx, qx⟩ := rx.tup ok.sub
    exact ⟨p, vs, rfl, .inr ⟨sx, hr.val ok h r⟩⟩
  · obtain ⟨p, vs, rfl, sx, qx⟩ := rx.lst ok.sub
    exact ⟨p, vs, rfl, .inl ⟨sx, fun l n => hr.tup ok h qx n⟩⟩
theorem se_tuple (hK : c.K = X.K) (hg : Gl X "tuple") (hm : X.mg "tuple" = none) (ha : SP X c a wa) (he : starEach [a] X.env = [(false, eval a X.env)] := by rfl) : SE X c (.Call (.Name "tuple" p) [a] [] pos) (w1 fTuple wa) :=
  se_t1 call_tuple_of hg hm (by decide +kernel) .tuple (by rw [← hK]; exact cd_tuple) ha (he := he)
/-- sorted of ints -/
def asInts : List D → Option (List Int)
  | [] => some []
  | .int i :: ds => (asInts ds).map (i :: ·)
  | _ :: _ => none
def fSortI : F1
  | .lst ds, q => ∃ ns, asInts ds = some ns ∧ ∀ ns', List.Perm ns' ns → ns'.Pairwise (· ≤ ·) → q (.own (ns'.map D.int))
  | _, _ => False
theorem MonF1.sortI : MonF1 fSortI := fun x _ _ h z => by
  cases x <;> first | exact (show False from z).elim | skip
  obtain ⟨ns, e, z⟩ := z
  exact ⟨ns, e, fun ns' a b => h _ (z ns' a b)⟩
theorem asInts_reps {K : PySem.W.Frag} {ω : Wd} : ∀ {ds : List D} {ns : List Int} {vs : List V}, asInts ds = some ns → Reps K ω ds vs → vs = ns.map V.int
  | [], ns, vs, e, h => by cases e; rw [Reps.nil_iff] at h; rw [h]; rfl
  | d :: ds, ns, vs, e, h => by
    cases d <;> first | cases e | skip
    rename_i i
    obtain ⟨v, r, rfl, h1, h2⟩ := Reps.cons_iff.mp h
    unfold asInts at e
    cases z : asInts ds with
    | none => rw [z] at e; cases e
    | some ms =>
      rw [z] at e
      cases e
      rw [Rep.int_iff.mp h1, asInts_reps z h2]
      rfl
theorem reps_ints {K : PySem.W.Frag} {ω : Wd} : ∀ ns : List Int, Reps K ω (ns.map D.int) (ns.map V.int)
  | [] => .nil
  | n :: ns => Reps.cons (Rep.int_iff.mpr rfl) (reps_ints ns)
theorem asInts_map : ∀ ns : List Int, asInts (ns.map D.int) = some ns
  | [] => rfl
  | n :: ns => by
    show (asInts (ns.map D.int)).map (n :: ·) = _
    rw [asInts_map ns]
    rfl
theorem se_sortI (hK : c.K = X.K) (hg : Gl X "sorted") (hm : X.mg "sorted" = none) (ha : SP X c a wa) (he : starEach [a] X.env = [(false, eval a X.env)] := by rfl) : SE X c (.Call (.Name "sorted" p) [a] [] pos) (w1 fSortI wa) :=
  se_b1 cr_sortedI hg hm (by decide +kernel) .sortI (by
    rw [← hK]
    exact fun ω H σ env tk x v q Q ok rx h hr => by
      cases x <;> first | exact (show False from h).elim | skip
      obtain ⟨ns, e, h⟩ := h
      obtain ⟨p, vs, rfl, sx, qx⟩ := rx.lst ok.sub
      rw [asInts_reps e qx] at sx
      exact ⟨p, ns, rfl, sx, fun ns' l h1 h2 n => hr.lst ok (h ns' h1 h2) (reps_ints ns') n⟩) ha (he := he)
/-- isqrt, by the module's name -/
def fSqrt : F1
  | .int i, q => 0 ≤ i ∧ i.toNat.log2 < 13400 ∧ q (.val (.int ((Float64.isqrt i.toNat : Nat) : Int)))
  | _, _ => False
theorem MonF1.sqrt : MonF1 fSqrt := fun x _ _ h z => by cases x <;> first | exact (show False from z).elim | exact ⟨z.1, z.2.1, h _ z.2.2⟩
theorem call_isqrt : CallR X (.builtin "math.isqrt") (fun xs H Q => ∃ i, xs = [.int i] ∧ 0 ≤ i ∧ i.toNat.log2 < 13400 ∧ Q (.int ((Float64.isqrt i.toNat : Nat) : Int)) H) := by
  intro pins s σ H xs us Q I r h
  obtain ⟨i, rfl, h0, h1, q⟩ := h
  obtain ⟨u, rfl, t, rfl⟩ := vals1 r
  exact call_function_meets PySem.W.MGF.kind_isqrt PySem.W.MGF.plain_isqrt PySem.W.MGF.entry_isqrt (PySem.W.MGF.args_isqrt _) (PySem.W.mg_run_isqrt i t (by omega) (by omega) (by omega)).meets ⟨.int _, H, I.tok _, ⟨_, rfl⟩, q⟩
theorem se_g1 {r : List V → Hp → VK → Prop} {f : F1} (hc : CallR X (.builtin id) r) (hg : Gl X x) (hm : X.mg x = some (.builtin id)) (mf : MonF1 f) (od : CallD1 c r f) (ha : SP X c a wa) (hdb : (x == ("__debug__" : Str)) = false := by decide)
    (he : starEach [a] X.env = [(false, eval a X.env)] := by rfl) : SE X c (.Call (.Name x p) [a] [] pos) (w1 f wa) := by
  refine ⟨.w1 mf ha.mon, ⟨fun pins s σ H Q I h => ?_⟩⟩
  have h' := run_c1 mf od ha h
  refine wpAny_Call_Name_kw (ld_glob I hg hm ?_ hdb)
  exact PyProof.Rows.callWith_builtin1 (thn ((pa_cons ha.run pa_nil he).run pos pins s σ H _ I h') fun us s1 ⟨vs, H1, I1, r1, q1⟩ => hc pins s1 σ H1 vs us Q I1 r1 q1) he rfl
theorem se_sqrt (hg : Gl X "isqrt") (hm : X.mg "isqrt" = some (.builtin "math.isqrt")) (ha : SP X c a wa) (he : starEach [a] X.env = [(false, eval a X.env)] := by rfl) : SE X c (.Call (.Name "isqrt" p) [a] [] pos) (w1 fSqrt wa) :=
  se_g1 call_isqrt hg hm .sqrt (fun ω H σ env tk x v q Q ok rx h hr => by
    cases x <;> first | exact (show False from h).elim | skip
    rw [rx.int]
    exact ⟨_, rfl, h.1, h.2.1, hr.int ok h.2.2⟩) ha (he := he)
end
end DL

namespace DL
open PySem PySem.Spec PyProof.Rows L2

/-! ### defs -/
abbrev FSpec := List D → Tk → (EV → Tk → Prop) → Prop
def RetV (c : C) (ω : Wd) (H : Hp) : EV → V → Prop
  | .val d, v => Rep c.K ω d v
  | .own ds, v => ∃ p, v = .ref p ∧ OwnAt c ω H p ds
structure Ret (c : C) (ω : Wd) (H : Hp) (tk : Tk) (ev : EV) (v : V) : Prop where
  sub : ∀ b o, ω.hd b = some o → H b = some o
  st : StOk c.K ω H tk
  new : ∀ b, ω.hd b ≠ none → c.w0.hd b ≠ none ∨ c.H0 b = none
  ng : ∀ a, ω.g = some a → c.w0.g = some a ∨ c.H0 a = none
  fr : ∀ b o, c.H0 b = some o → c.w0.g ≠ some b → H b = some o
  le0 : c.w0.le ω
  v : RetV c ω H ev v
theorem Ok.ret {c : C} {ω : Wd} {H : Hp} {σ : L2.St} {env : En} {tk : Tk} (ok : Ok c ω H σ env tk) {ev : EV} {v : V} (r : RepE c ω H σ env ev v) : Ret c ω H tk ev v := ⟨ok.sub, ok.st, ok.new, ok.ng, ok.fr, ok.le0, by
  cases ev with
  | val d => exact r
  | own ds => obtain ⟨p, e, h, _⟩ := r; exact ⟨p, e, h⟩⟩
def spD (K : PySem.W.Frag) (S : FSpec) : Sp := fun vs H Q _ => ∃ ω ds tk, (∀ b o, ω.hd b = some o → H b = some o) ∧ StOk K ω H tk ∧ Reps K ω ds vs ∧ S ds tk fun ev tk' => ∀ v ω' H', Ret ⟨K, ω, H, fun _ => False⟩ ω' H' tk' ev v → Q v H'
def MonFS (S : FSpec) : Prop := ∀ ds tk Q Q', (∀ ev t, Q ev t → Q' ev t) → S ds tk Q → S ds tk Q'
structure FnIn (P : Program) (w : World) (K : PySem.W.Frag) (mg : Str → Option Value) (base : Heap) (k : Nat) (x : Str) (S : FSpec) : Prop where
  ex : ∃ f fd ps, FnOk P w K mg base CX0 k f fd ps (spD K S) ∧ mg x = some (.ref f) ∧ PySem.W.keepIn K (.ref f) = true ∧ Binds K fd ps []
theorem FnIn.mono {P : Program} {w : World} {K : PySem.W.Frag} {mg : Str → Option Value} {base : Heap} {j k : Nat} {x : Str} {S : FSpec} (G : FnIn P w K mg base j x S) (h : j ≤ k) : FnIn P w K mg base k x S := by
  obtain ⟨f, fd, ps, F, a, b, d⟩ := G.ex
  exact ⟨f, fd, ps, F.mono h, a, b, d⟩
def wCall (S : FSpec) (r : WA) : WE := fun env tk Q => r env tk fun ds e1 t1 => S ds t1 fun ev t2 => Q ev e1 t2
theorem Mon.call {S : FSpec} {r : WA} (ms : MonFS S) (mr : Mon r) : Mon (wCall S r) := fun env tk Q Q' h q => mr _ _ _ _ (fun ds e t z => ms _ _ _ _ (fun ev t => h ev _ t) z) q
/-- what a call leaves of the caller's state -/
theorem Ok.after {c : C} {ω ω' : Wd} {H H' : Hp} {σ : L2.St} {env : En} {tk tk' : Tk} {ev : EV} {v : V} (ok : Ok c ω H σ env tk) (r : Ret ⟨c.K, ω, H, fun _ => False⟩ ω' H' tk' ev v) : Ok c ω' H' σ env tk' ∧ Stp ω H ω' H' ∧ RepE c ω' H' σ env ev v := by
  have hs : Stp ω H ω' H' := ⟨r.le0, r.fr, r.ng⟩
  have ok' : Ok c ω' H' σ env tk' := {
    len := ok.len
    sub := r.sub
    st := r.st
    slots := fun i e he => by
      obtain ⟨u, h1, h2⟩ := ok.slots i e he
      refine ⟨u, h1, ?_⟩
      cases e with
      | val d => exact Rep.mono r.le0 h2
      | own ds =>
        obtain ⟨p, rfl, vs, a1, a2, a3, a4, a5⟩ := h2
        refine ⟨p, rfl, vs, r.fr p _ a1 a3, ?_, fun e => ?_, a4, a5.mono r.le0⟩
        · cases z : ω'.hd p with
          | none => rfl
          | some o =>
            rcases r.new p (by rw [z]; exact fun q => nomatch q) with q | q
            · exact absurd a2 q
            · rw [show H p = none from q] at a1; cases a1
        · rcases r.ng p e with q | q
          · exact a3 q
          · rw [show H p = none from q] at a1; cases a1
    dist := ok.dist
    new := fun b h => by
      rcases r.new b h with q | q
      · exact ok.new b q
      · exact .inr (ok.noH0 q)
    ng := fun a h => by
      rcases r.ng a h with q | q
      · exact ok.ng a q
      · exact .inr (ok.noH0 q)
    fr := fun b o h n => r.fr b o (ok.fr b o h n) fun e => by
      rcases ok.ng b e with q | q
      · exact n q
      · rw [h] at q; cases q
    le0 := ok.le0.trans r.le0
    pr := fun b h => by
      obtain ⟨a1, a2, a3⟩ := ok.pr b h
      refine ⟨?_, ?_, fun e => ?_⟩
      · cases z : H b with
        | none => exact absurd z a1
        | some o => rw [r.fr b o z a3]; exact fun q => nomatch q
      · cases z : ω'.hd b with
        | none => rfl
        | some o =>
          rcases r.new b (by rw [z]; exact fun q => nomatch q) with q | q
          · exact absurd a2 q
          · exact absurd q a1
      · rcases r.ng b e with q | q
        · exact a3 q
        · exact a1 q }
  refine ⟨ok', hs, ?_⟩
  have hv := r.v
  cases ev with
  | val d => exact hv
  | own ds =>
    obtain ⟨p, e, vs, a1, a2, a3, a4, a5⟩ := hv
    exact ⟨p, e, ⟨vs, a1, a2, a3, ⟨ok.noH0 a4.1, ok.nopr a4.1⟩, a5⟩, ok.noslot (.inl a4.1)⟩
section
variable {X : Cx} {c : C} {e : Expr} {es : List Expr} {r : WA} {x : Str} {p pos : Pos} {k : Nat} {S : FSpec}
theorem se_call (hK : c.K = X.K) (G : FnIn X.prog X.w X.K X.mg X.base k x S) (ms : MonFS S) (hr : Room k X.A) (hg : Gl X x) (ha : SA X c (e :: es) r) (hdb : (x == ("__debug__" : Str)) = false := by decide)
    (he : starEach (e :: es) X.env = (false, eval e X.env) :: starEach es X.env := by rfl) (hpl : (backTo pos (starEach es X.env)).any (·.1) = false := by rfl) : SE X c (.Call (.Name x p) (e :: es) [] pos) (wCall S r) := by
  obtain ⟨f, fd, ps, F, hm, hk, hb⟩ := G.ex
  refine ⟨.call ms ha.mon, (pe_call F hr hg hm hk hb .nil pass0 ha.run hdb he hpl).wk fun σ H Q h => ?_⟩
  obtain ⟨ω, env, tk, ok, h⟩ := h
  refine ⟨ω, env, tk, ok, ha.mon _ _ _ _ (fun ds e1 t1 h1 vs ω1 H1 s1 ok1 r1 => ?_) h⟩
  show spD X.K S (vs ++ []) H1 Q E0
  rw [List.append_nil, ← hK]
  refine ⟨ω1, ds, t1, ok1.sub, ok1.st, r1, ms _ _ _ _ (fun ev t2 h2 v ω' H' ret => ?_) h1⟩
  obtain ⟨a1, a2, a3⟩ := ok1.after ret
  exact h2 v ω' H' (s1.trans a2) a1 a3
end

/-! ### statements -/
structure Post where
  nx : En → Tk → Prop
  rt : EV → Tk → Prop
  bk : En → Tk → Prop := fun _ _ => False
  ct : En → Tk → Prop := fun _ _ => False
structure Post.le (P P' : Post) : Prop where
  nx : ∀ e t, P.nx e t → P'.nx e t
  rt : ∀ v t, P.rt v t → P'.rt v t
  bk : ∀ e t, P.bk e t → P'.bk e t
  ct : ∀ e t, P.ct e t → P'.ct e t
abbrev WS := Post → En → Tk → Prop
def MonS (w : WS) : Prop := ∀ P P' env tk, P.le P' → w P env tk → w P' env tk
def liftN (c : C) (ω : Wd) (k : L2.St → Hp → Prop) : En → Tk → Prop := fun e t => ∀ σ' ω' H', ω.le ω' → Ok c ω' H' σ' e t → k σ' H'
def postOf (c : C) (ω : Wd) (D : Ends) : Post := { nx := liftN c ω D.nx, rt := fun ev t => ∀ v ω' H', Ret c ω' H' t ev v → D.rt v H', bk := liftN c ω D.bk, ct := liftN c ω D.ct }
def liftS (c : C) (w : WS) : TS := fun D σ H => ∃ ω env tk, Ok c ω H σ env tk ∧ w (postOf c ω D) env tk
structure SS (X : Cx) (c : C) (st : Stmt) (w : WS) : Prop where
  mon : MonS w
  run : PS X st (liftS c w)
structure SSs (X : Cx) (c : C) (st : List Stmt) (w : WS) : Prop where
  mon : MonS w
  run : PSs X st (liftS c w)
theorem _root_.L2.PS.wk {X : Cx} {e : Stmt} {t t' : TS} (h : PS X e t) (k : ∀ D σ H, t' D σ H → t D σ H) : PS X e t' := ⟨fun pins s σ H D I q => h.run pins s σ H D I (k _ _ _ q)⟩
theorem _root_.L2.PSs.wk {X : Cx} {e : List Stmt} {t t' : TS} (h : PSs X e t) (k : ∀ D σ H, t' D σ H → t D σ H) : PSs X e t' := ⟨fun pins s σ H D I q => h.run pins s σ H D I (k _ _ _ q)⟩
theorem liftN_up {c : C} {ω ω' : Wd} (l : ω.le ω') {k : L2.St → Hp → Prop} {e : En} {t : Tk} (h : liftN c ω k e t) : liftN c ω' k e t := fun σ' ω'' H' l' ok => h σ' ω'' H' (l.trans l') ok
theorem postOf_up {c : C} {ω ω' : Wd} (l : ω.le ω') (D : Ends) : (postOf c ω D).le (postOf c ω' D) := ⟨fun _ _ h => liftN_up l h, fun _ _ h => h, fun _ _ h => liftN_up l h, fun _ _ h => liftN_up l h⟩
theorem Post.le.refl (P : Post) : P.le P := ⟨fun _ _ h => h, fun _ _ h => h, fun _ _ h => h, fun _ _ h => h⟩

def wSeq (a b : WS) : WS := fun P env tk => a { P with nx := fun e t => b P e t } env tk
def wNext : WS := fun P env tk => P.nx env tk
theorem MonS.seq {a b : WS} (ma : MonS a) (mb : MonS b) : MonS (wSeq a b) := fun P P' env tk l h => ma _ _ _ _ (by exact ⟨fun e t z => mb _ _ _ _ l z, l.rt, l.bk, l.ct⟩) h
section
variable {X : Cx} {c : C} {st : Stmt} {rest : List Stmt} {a b : WS} {e : Expr} {pos : Pos}
theorem ss_nil : SSs X c [] wNext := ⟨fun P P' env tk l h => l.nx _ _ h, pss_nil.wk fun D σ H ⟨ω, env, tk, ok, h⟩ => h σ ω H (.refl _) ok⟩
theorem ss_cons (ha : SS X c st a) (hb : SSs X c rest b) : SSs X c (st :: rest) (wSeq a b) := ⟨.seq ha.mon hb.mon, (pss_cons ha.run hb.run).wk fun D σ H ⟨ω, env, tk, ok, h⟩ => by
  refine ⟨ω, env, tk, ok, ha.mon { postOf c ω D with nx := fun e t => b (postOf c ω D) e t } _ _ _ ⟨fun e t z σ' ω' H' l ok' => ?_, fun _ _ z => z, fun _ _ z => z, fun _ _ z => z⟩ h⟩
  exact ⟨ω', e, t, ok', hb.mon _ _ _ _ (postOf_up l D) z⟩⟩
theorem ss_one (ha : SS X c st a) : SSs X c [st] a := ⟨ha.mon, pss_one ha.run⟩
def wBrk : WS := fun P env tk => P.bk env tk
def wCnt : WS := fun P env tk => P.ct env tk
theorem ss_pass : SS X c (.Pass pos) wNext := ⟨fun P P' env tk l h => l.nx _ _ h, ps_pass.wk fun D σ H ⟨ω, env, tk, ok, h⟩ => h σ ω H (.refl _) ok⟩
theorem ss_brk : SS X c (.Break pos) wBrk := ⟨fun P P' env tk l h => l.bk _ _ h, ps_break.wk fun D σ H ⟨ω, env, tk, ok, h⟩ => h σ ω H (.refl _) ok⟩
theorem ss_cnt : SS X c (.Continue pos) wCnt := ⟨fun P P' env tk l h => l.ct _ _ h, ps_continue.wk fun D σ H ⟨ω, env, tk, ok, h⟩ => h σ ω H (.refl _) ok⟩
/-- a value dropped -/
def wDrop (w : WE) : WS := fun P env tk => w env tk fun _ e t => P.nx e t
theorem ss_drop {w : WE} (h : SE X c e w) (hs : swapsWith e none pos.line X.env = pure false := by rfl) : SS X c (.Expr e pos) (wDrop w) := ⟨fun P P' env tk l q => h.mon _ _ _ _ (fun _ e t z => l.nx _ _ z) q, (ps_expr h.run hs).wk fun D σ H ⟨ω, env, tk, ok, q⟩ =>
  ⟨ω, env, tk, ok, h.mon _ _ _ _ (fun ev e t z v ω' H' st ok' r => z σ ω' H' st.le ok') q⟩⟩
/-- return -/
def wRet (w : WE) : WS := fun P env tk => w env tk fun ev _ t => P.rt ev t
def wRetV (i : Nat) : WS := fun P env tk => match env[i]? with
  | some (some ev) => P.rt ev tk
  | _ => False
theorem ss_ret {w : WE} (h : SE X c e w) : SS X c (.Return (some e) pos) (wRet w) := ⟨fun P P' env tk l q => h.mon _ _ _ _ (fun _ e t z => l.rt _ _ z) q, (ps_ret h.run).wk fun D σ H ⟨ω, env, tk, ok, q⟩ =>
  ⟨ω, env, tk, ok, h.mon _ _ _ _ (fun ev e t z v ω' H' st ok' r => z v ω' H' (ok'.ret r)) q⟩⟩
theorem ss_retV (i : Nat) {x : Str} {pos' : Pos} (h : PE X (.Name x pos') (tVar i)) : SS X c (.Return (some (.Name x pos')) pos) (wRetV i) := ⟨fun P P' env tk l q => by
  unfold wRetV at q ⊢
  split at q
  · exact l.rt _ _ q
  · exact q, (ps_ret h).wk fun D σ H ⟨ω, env, tk, ok, q⟩ => by
  unfold wRetV at q
  split at q
  · rename_i ev he
    obtain ⟨v, h1, h2⟩ := ok.slots i ev he
    exact ⟨v, h1, q v ω H ⟨ok.sub, ok.st, ok.new, ok.ng, ok.fr, ok.le0, by cases ev <;> exact h2⟩⟩
  · exact q.elim⟩
def wRetN : WS := fun P _ tk => P.rt (.val .non) tk
theorem ss_retN : SS X c (.Return none pos) wRetN := ⟨fun P P' env tk l q => l.rt _ _ q, ps_retN.wk fun D σ H ⟨ω, env, tk, ok, q⟩ => q .non ω H (ok.ret (env := env) (ev := .val .non) (show Rep c.K ω .non .non from Rep.non_iff.mpr rfl))⟩
/-- if -/
def wIfS (t : WT) (a b : WS) : WS := fun P env tk => t env tk fun x e1 t1 => if x = true then a P e1 t1 else b P e1 t1
theorem MonS.if {t : WT} {a b : WS} (mt : Mon t) (ma : MonS a) (mb : MonS b) : MonS (wIfS t a b) := fun P P' env tk l h => mt _ _ _ _ (fun x e t z => by
  cases x with
  | true => exact (if_pos rfl).mpr (ma _ _ _ _ l ((if_pos rfl).mp z))
  | false => exact (if_neg Bool.false_ne_true).mpr (mb _ _ _ _ l ((if_neg Bool.false_ne_true).mp z))) h
theorem ss_if {t : WT} {sa sb : List Stmt} (ht : ST X c e t) (ha : SSs X c sa a) (hb : SSs X c sb b) : SS X c (.If e sa sb pos) (wIfS t a b) := ⟨.if ht.mon ha.mon hb.mon, (ps_if ht.run ha.run hb.run).wk fun D σ H ⟨ω, env, tk, ok, q⟩ =>
  ⟨ω, env, tk, ok, ht.mon _ _ _ _ (fun x e1 t1 z v ω' H' st ok' r => by
    subst r
    cases v with
    | true => exact (if_pos rfl).mpr ⟨ω', e1, t1, ok', ha.mon _ _ _ _ (postOf_up st.le D) ((if_pos rfl).mp z)⟩
    | false => exact (if_neg Bool.false_ne_true).mpr ⟨ω', e1, t1, ok', hb.mon _ _ _ _ (postOf_up st.le D) ((if_neg Bool.false_ne_true).mp z)⟩) q⟩⟩
/-- code that is never reached -/
def wNever : WS := fun _ _ _ => False
theorem ss_never : SS X c st wNever := ⟨fun _ _ _ _ _ h => h, ps_never.wk fun D σ H ⟨_, _, _, _, h⟩ => h.elim⟩

/-! #### stores -/
theorem Ok.set {ω : Wd} {H : Hp} {σ : L2.St} {env : En} {tk : Tk} (ok : Ok c ω H σ env tk) (i : Nat) {ev : EV} {v : V} (r : RepE c ω H σ env ev v) : Ok c ω H (σ.set i (some v)) (env.set i (some ev)) tk where
  len := by rw [List.length_set, List.length_set]; exact ok.len
  sub := ok.sub
  st := ok.st
  slots := fun j e he => by
    by_cases hij : i = j
    · subst hij
      by_cases hl : i < env.length
      · rw [List.getElem?_set_self hl] at he
        cases he
        refine ⟨v, by rw [List.getElem?_set_self (by rw [ok.len]; exact hl)], ?_⟩
        cases ev with
        | val d => exact r
        | own ds => obtain ⟨p, a, b, _⟩ := r; exact ⟨p, a, b⟩
      · rw [List.getElem?_eq_none (by rw [List.length_set]; omega)] at he
        cases he
    · rw [List.getElem?_set_ne hij] at he
      rw [List.getElem?_set_ne hij]
      exact ok.slots j e he
  dist := fun j k p ds es hj hk pj pk => by
    by_cases hij : i = j
    · by_cases hik : i = k
      · omega
      · subst hij
        rw [List.getElem?_set_ne hik] at hk pk
        by_cases hl : i < env.length
        · rw [List.getElem?_set_self hl] at hj
          rw [List.getElem?_set_self (by rw [ok.len]; exact hl)] at pj
          cases hj
          cases pj
          obtain ⟨q, e, _, n⟩ := r
          cases e
          exact absurd pk (n k es hk)
        · rw [List.getElem?_eq_none (by rw [List.length_set]; omega)] at hj
          cases hj
    · rw [List.getElem?_set_ne hij] at hj pj
      by_cases hik : i = k
      · subst hik
        by_cases hl : i < env.length
        · rw [List.getElem?_set_self hl] at hk
          rw [List.getElem?_set_self (by rw [ok.len]; exact hl)] at pk
          cases hk
          cases pk
          obtain ⟨q, e, _, n⟩ := r
          cases e
          exact absurd pj (n j ds hj)
        · rw [List.getElem?_eq_none (by rw [List.length_set]; omega)] at hk
          cases hk
      · rw [List.getElem?_set_ne hik] at hk pk
        exact ok.dist j k p ds es hj hk pj pk
  new := ok.new
  ng := ok.ng
  fr := ok.fr
  le0 := ok.le0
  pr := ok.pr
def wSet (i : Nat) (w : WE) : WS := fun P env tk => w env tk fun ev e t => P.nx (e.set i (some ev)) t
theorem MonS.set {i : Nat} {w : WE} (m : Mon w) : MonS (wSet i w) := fun P P' env tk l q => m _ _ _ _ (fun _ e t z => l.nx _ _ z) q
theorem run_set {i : Nat} {w : WE} (m : Mon w) {D : Ends} {σ : L2.St} {H : Hp} (h : liftS c (wSet i w) D σ H) : tAsg (liftE c w) (gName i) D σ H := by
  obtain ⟨ω, env, tk, ok, q⟩ := h
  exact ⟨ω, env, tk, ok, m _ _ _ _ (fun ev e t z v ω' H' st ok' r => z _ ω' H' st.le (ok'.set i r)) q⟩
theorem ss_set {i : Nat} {x : Str} {w : WE} {pos' : Pos} (hN : X.N.Nodup) (hi : X.N[i]? = some x) (hx : Loc X.env.scope x) (h : SE X c e w) (hs : swapsWith e (some (.Name x pos')) pos.line X.env = pure false := by rfl) (hf : X.fn x = true ∨ X.env.scope.names.lookup x = some .local := by first | exact .inl rfl | exact .inr rfl | assumption) :
    SS X c (.Assign [.Name x pos'] e pos) (wSet i w) := ⟨.set h.mon, (ps_set hN hi hx h.run hs hf).wk fun _ _ _ q => run_set h.mon q⟩

/-! #### targets -/
abbrev WG := D → En → (En → Prop) → Prop
abbrev WGs := List D → En → (En → Prop) → Prop
def Off (vs : List Nat) (σ σ' : L2.St) : Prop := σ'.length = σ.length ∧ ∀ j, j ∉ vs → σ'[j]? = σ[j]?
theorem Off.set (i : Nat) (v : Option V) (σ : L2.St) : Off [i] σ (σ.set i v) := ⟨List.length_set, fun j h => List.getElem?_set_ne fun e => h (by rw [e]; exact List.mem_singleton.mpr rfl)⟩
theorem Off.refl (vs : List Nat) (σ : L2.St) : Off vs σ σ := ⟨rfl, fun _ _ => rfl⟩
theorem Off.app {vs us : List Nat} {σ σ1 σ2 : L2.St} (a : Off vs σ σ1) (b : Off us σ1 σ2) : Off (vs ++ us) σ σ2 := ⟨b.1.trans a.1, fun j h => (b.2 j fun e => h (List.mem_append_right _ e)).trans (a.2 j fun e => h (List.mem_append_left _ e))⟩
abbrev Offl (vs : List Nat) (e e' : En) : Prop := e'.length = e.length ∧ ∀ j, j ∉ vs → e'[j]? = e[j]?
structure SG (X : Cx) (c : C) (tg : Expr) (t : TG) (g : WG) (vs : List Nat) : Prop where
  mon : ∀ d env Q Q', (∀ e, Q e → Q' e) → g d env Q → g d env Q'
  loc : ∀ d env Q, g d env Q → g d env fun e => Offl vs env e ∧ Q e
  pg : PG X tg t
  run : ∀ (σ : L2.St) (H : Hp) (v : V) (Q : L2.St → Hp → Prop) (ω : Wd) (env : En) (tk : Tk) (d : D), Ok c ω H σ env tk → Rep c.K ω d v → g d env (fun env' => ∀ σ', Off vs σ σ' → Ok c ω H σ' env' tk → Q σ' H) → t v σ H Q
structure SGs (X : Cx) (c : C) (tg : List Expr) (t : TGs) (g : WGs) (vs : List Nat) : Prop where
  mon : ∀ d env Q Q', (∀ e, Q e → Q' e) → g d env Q → g d env Q'
  loc : ∀ d env Q, g d env Q → g d env fun e => Offl vs env e ∧ Q e
  pg : PGs X tg t
  run : ∀ (σ : L2.St) (H : Hp) (v : List V) (Q : L2.St → Hp → Prop) (ω : Wd) (env : En) (tk : Tk) (d : List D), Ok c ω H σ env tk → Reps c.K ω d v → g d env (fun env' => ∀ σ', Off vs σ σ' → Ok c ω H σ' env' tk → Q σ' H) → t v σ H Q
def gN (i : Nat) : WG := fun d env Q => Q (env.set i (some (.val d)))
def gNl : WGs := fun ds env Q => match ds with
  | [] => Q env
  | _ => False
def gCs (g : WG) (h : WGs) : WGs := fun ds env Q => match ds with
  | d :: r => g d env fun e => h r e Q
  | [] => False
def gT (n : Nat) (g : WGs) : WG := fun d env Q => match d with
  | .tup ds => ds.length = n ∧ g ds env Q
  | _ => False
theorem sg_n {i : Nat} {x : Str} (hN : X.N.Nodup) (hi : X.N[i]? = some x) (hx : Loc X.env.scope x) (hf : X.fn x = true ∨ X.env.scope.names.lookup x = some .local := by first | exact .inl rfl | exact .inr rfl | assumption) : SG X c (.Name x pos) (gName i) (gN i) [i] where
  mon := fun d env Q Q' h q => h _ q
  loc := fun d env Q q => ⟨⟨List.length_set, fun j h => List.getElem?_set_ne fun e => h (by rw [e]; exact List.mem_singleton.mpr rfl)⟩, q⟩
  pg := pg_name hN hi hx hf
  run := fun σ H v Q ω env tk d ok r h => h _ (.set i _ σ) (ok.set i (ev := .val d) r)
theorem sg_nil : SGs X c [] gNil gNl [] where
  mon := fun d env Q Q' h q => by cases d <;> first | exact h _ q | exact (show False from q).elim
  loc := fun d env Q q => by cases d <;> first | exact (show False from q).elim | exact ⟨⟨rfl, fun _ _ => rfl⟩, q⟩
  pg := pgs_nil
  run := fun σ H v Q ω env tk d ok r h => by
    cases d with
    | nil => exact ⟨Reps.nil_iff.mp r, h _ (.refl _ _) ok⟩
    | cons d ds => exact (show False from h).elim
theorem sg_cons {tg : Expr} {ts : List Expr} {t : TG} {u : TGs} {g : WG} {h : WGs} {vs us : List Nat} (hg : SG X c tg t g vs) (hh : SGs X c ts u h us) (hs : (assignEach (tg :: ts) X.env).map (·.2) = assign tg X.env :: (assignEach ts X.env).map (·.2) := by rfl) : SGs X c (tg :: ts) (gCons t u) (gCs g h) (vs ++ us) where
  mon := fun d env Q Q' k q => by
    cases d with
    | nil => exact (show False from q).elim
    | cons d ds => exact hg.mon _ _ _ _ (fun e z => hh.mon _ _ _ _ k z) q
  loc := fun d env Q q => by
    cases d with
    | nil => exact (show False from q).elim
    | cons d ds => exact hg.mon _ _ _ _ (fun e z => hh.mon _ _ _ _ (fun e2 z2 => ⟨⟨z2.1.1.trans z.1.1, fun j hj => (z2.1.2 j fun m => hj (List.mem_append_right _ m)).trans (z.1.2 j fun m => hj (List.mem_append_left _ m))⟩, z2.2⟩) (hh.loc _ _ _ z.2)) (hg.loc _ _ _ q)
  pg := pgs_cons hg.pg hh.pg hs
  run := fun σ H v Q ω env tk d ok r q => by
    cases d with
    | nil => exact (show False from q).elim
    | cons d ds =>
      obtain ⟨v0, vr, rfl, a1, a2⟩ := Reps.cons_iff.mp r
      exact ⟨v0, vr, rfl, hg.run σ H v0 _ ω env tk d ok a1 (hg.mon _ _ _ _ (fun e z σ' f1 ok' => hh.run σ' H vr Q ω e tk ds ok' a2 (hh.mon _ _ _ _ (fun e2 z2 σ2 f2 ok2 => z2 σ2 (f1.app f2) ok2) z)) q)⟩
theorem sg_tup {es : List Expr} {k n : Nat} {t : TGs} {g : WGs} {vs : List Nat} (hK : c.K = X.K) (hc : X.calm = true) (hg : SGs X c es t g vs) (hn : (assignEach es X.env).length = n := by rfl) (hst : (assignEach es X.env).findIdx? (·.1) = none := by rfl) : SG X c (.Tuple es k pos) (gTup X.K n t) (gT n g) vs where
  mon := fun d env Q Q' k q => by cases d <;> first | exact (show False from q).elim | exact ⟨q.1, hg.mon _ _ _ _ k q.2⟩
  loc := fun d env Q q => by cases d <;> first | exact (show False from q).elim | exact ⟨q.1, hg.loc _ _ _ q.2⟩
  pg := pg_tup hc hg.pg hn hst
  run := fun σ H v Q ω env tk d ok r q => by
    cases d <;> first | exact (show False from q).elim | skip
    obtain ⟨a, vs, rfl, h1, h2⟩ := Rep.tup_iff.mp r
    rw [hK] at h1
    exact ⟨a, vs, rfl, sqT_mono ok.sub h1, by rw [h2.length]; exact q.1, hg.run σ H vs Q ω env tk _ ok h2 q.2⟩
def wAsg (w : WD) (g : WG) : WS := fun P env tk => w env tk fun d e t => g d e fun e' => P.nx e' t
theorem ss_asg {tg : Expr} {w : WD} {t : TG} {g : WG} {vs : List Nat} (h : SD X c e w) (hg : SG X c tg t g vs) (hs : swapsWithSole [tg] e pos.line X.env = pure false := by rfl) (hw : swappedStores [tg] e X.env = pure none := by rfl)
    (h1 : (assignEach [tg] X.env).map (·.2) = [assign tg X.env] := by rfl) : SS X c (.Assign [tg] e pos) (wAsg w g) := by
  refine ⟨fun P P' env tk l q => h.mon _ _ _ _ (fun d e t z => hg.mon _ _ _ _ (fun e' z => l.nx _ _ z) z) q, (ps_asg h.run hg.pg hs hw h1).wk fun D σ H ⟨ω, env, tk, ok, q⟩ => ?_⟩
  refine ⟨ω, env, tk, ok, h.mon _ _ _ _ (fun d e1 t1 z v ω' H' st ok' r => ?_) q⟩
  exact hg.run σ H' v _ ω' e1 t1 d ok' r (hg.mon _ _ _ _ (fun e' z σ' _ ok'' => z σ' ω' H' st.le ok'') z)
/-- a, b = x, y -/
def wPar (i j : Nat) (r : WA) : WS := fun P env tk => r env tk fun ds e t => match ds with
  | [x, y] => P.nx ((e.set i (some (.val x))).set j (some (.val y))) t
  | _ => False
def wPar3 (i j l : Nat) (r : WA) : WS := fun P env tk => r env tk fun ds e t => match ds with
  | [x, y, z] => P.nx (((e.set i (some (.val x))).set j (some (.val y))).set l (some (.val z))) t
  | _ => False
theorem MonS.par {i j : Nat} {r : WA} (m : Mon r) : MonS (wPar i j r) := fun P P' env tk l q => m _ _ _ _ (fun ds e t z => by
  match ds, z with
  | [x, y], z => exact l.nx _ _ z) q
theorem MonS.par3 {i j k : Nat} {r : WA} (m : Mon r) : MonS (wPar3 i j k r) := fun P P' env tk l q => m _ _ _ _ (fun ds e t z => by
  match ds, z with
  | [x, y, w], z => exact l.nx _ _ z) q
theorem run_par {i j : Nat} {r : WA} (m : Mon r) {D : Ends} {σ : L2.St} {H : Hp} (h : liftS c (wPar i j r) D σ H) : tPar i j (liftA c r) D σ H := by
  obtain ⟨ω, env, tk, ok, q⟩ := h
  refine ⟨ω, env, tk, ok, m _ _ _ _ (fun ds e t z vs ω' H' st ok' rr => ?_) q⟩
  match ds, z with
  | [x, y], z =>
    obtain ⟨v0, vr, rfl, a1, a2⟩ := Reps.cons_iff.mp rr
    obtain ⟨v1, vr, rfl, a3, a4⟩ := Reps.cons_iff.mp a2
    rw [Reps.nil_iff] at a4
    subst a4
    exact ⟨v0, v1, rfl, z _ ω' H' st.le ((ok'.set i (ev := .val x) a1).set j (ev := .val y) a3)⟩
theorem run_par3 {i j k : Nat} {r : WA} (m : Mon r) {D : Ends} {σ : L2.St} {H : Hp} (h : liftS c (wPar3 i j k r) D σ H) : tPar3 i j k (liftA c r) D σ H := by
  obtain ⟨ω, env, tk, ok, q⟩ := h
  refine ⟨ω, env, tk, ok, m _ _ _ _ (fun ds e t z vs ω' H' st ok' rr => ?_) q⟩
  match ds, z with
  | [x, y, w], z =>
    obtain ⟨v0, vr, rfl, a1, a2⟩ := Reps.cons_iff.mp rr
    obtain ⟨v1, vr, rfl, a3, a4⟩ := Reps.cons_iff.mp a2
    obtain ⟨v2, vr, rfl, a5, a6⟩ := Reps.cons_iff.mp a4
    rw [Reps.nil_iff] at a6
    subst a6
    exact ⟨v0, v1, v2, rfl, z _ ω' H' st.le (((ok'.set i (ev := .val x) a1).set j (ev := .val y) a3).set k (ev := .val w) a5)⟩
end
end DL

namespace DL
open PySem PySem.Spec PyProof.Rows L2

section
variable {X : Cx} {c : C} {st : Stmt} {rest : List Stmt} {a b : WS} {e : Expr} {pos apos p p2 : Pos} {x : Str}
/-! ### append, extend -/
theorem Ok.mut {ω : Wd} {H : Hp} {σ : L2.St} {env : En} {tk : Tk} (ok : Ok c ω H σ env tk) {i : Nat} {ds es : List D} {q : Addr} {us : List V} (he : env[i]? = some (some (.own ds))) (hp : σ[i]? = some (some (.ref q))) (r : Reps c.K ω es us) :
    Ok c ω (upd H q (.lst us)) σ (env.set i (some (.own es))) tk := by
  obtain ⟨v, hv, q', e, vs, a1, a2, a3, a4, a5⟩ := ok.slots i _ he
  rw [hp] at hv
  cases hv
  cases e
  have hl : i < env.length := (List.getElem?_eq_some_iff.mp he).1
  exact {
    len := by rw [List.length_set]; exact ok.len
    sub := fun b o h => by
      rw [upd_ne (fun e => by rw [e, a2] at h; cases h)]
      exact ok.sub b o h
    st := by
      rcases ok.st with z | ⟨a', k, e, e1, e0, nn, ns, e2, r1, r2⟩
      · exact .inl z
      · exact .inr ⟨a', k, e, e1, e0, nn, ns, by rw [upd_ne (fun z => a3 (by rw [e, z]))]; exact e2, r1, r2⟩
    slots := fun j ev hj => by
      by_cases hij : i = j
      · subst hij
        rw [List.getElem?_set_self hl] at hj
        cases hj
        exact ⟨_, hp, q, rfl, us, upd_same, a2, a3, a4, r⟩
      · rw [List.getElem?_set_ne hij] at hj
        obtain ⟨v, h1, h2⟩ := ok.slots j ev hj
        refine ⟨v, h1, ?_⟩
        cases ev with
        | val d => exact h2
        | own ls =>
          obtain ⟨t, rfl, ws, b1, b2⟩ := h2
          exact ⟨t, rfl, ws, by rw [upd_ne (fun z => hij (ok.dist i j q _ _ he hj hp (by rw [h1, z])))]; exact b1, b2⟩
    dist := fun j k t ls ms hj hk pj pk => by
      have g : ∀ (j : Nat) (ls : List D), (env.set i (some (.own es)))[j]? = some (some (.own ls)) → ∃ ls', env[j]? = some (some (.own ls')) := fun j ls h => by
        by_cases hij : i = j
        · subst hij
          exact ⟨ds, he⟩
        · rw [List.getElem?_set_ne hij] at h
          exact ⟨ls, h⟩
      obtain ⟨l1, g1⟩ := g j ls hj
      obtain ⟨l2, g2⟩ := g k ms hk
      exact ok.dist j k t l1 l2 g1 g2 pj pk
    new := ok.new
    ng := ok.ng
    fr := fun b o h n => by
      rw [upd_ne (ne_of_none h a4.1)]
      exact ok.fr b o h n
    le0 := ok.le0
    pr := fun b h => by
      obtain ⟨h1, h2, h3⟩ := ok.pr b h
      have hq : b ≠ q := fun z => a4.2 (by rw [← z]; exact h)
      exact ⟨by rw [upd_ne hq]; exact h1, h2, h3⟩ }
def wApp (i : Nat) (w : WD) : WS := fun P env tk => match env[i]? with
  | some (some (.own _)) => w env tk fun d e t => match e[i]? with
    | some (some (.own ds)) => ds.length < sizeLine ∧ P.nx (e.set i (some (.own (ds ++ [d])))) t
    | _ => False
  | _ => False
theorem MonS.app {i : Nat} {w : WD} (m : Mon w) : MonS (wApp i w) := fun P P' env tk l q => by
  unfold wApp at q ⊢
  split at q
  · refine m _ _ _ _ (fun d e t z => ?_) q
    split at z
    · exact ⟨z.1, l.nx _ _ z.2⟩
    · exact z
  · exact q
theorem ss_app (i : Nat) {w : WD} (h : PE X (.Name x p) (tVar i)) (hw : SD X c e w) (hline : (apos.endLine == pos.line) = true := by rfl) (hs : starEach [e] X.env = [(false, eval e X.env)] := by rfl)
    (hsw : swapsWith (.Call (.Attribute (.Name x p) "append" apos) [e] [] pos) none p2.line X.env = pure false := by rfl) (hbase : attributeBase (.Name x p) "append" X.env (eval (.Name x p) X.env) = eval (.Name x p) X.env := by rfl)
    (hfew : ((backTo pos (starEach [e] X.env)).all (fun x => !x.1) && (backToKw pos (keywordEach [] X.env)).all (fun x => x.1.isSome)
      && decide (([e] : List Expr).length + ([] : List Keyword).length + (if ([] : List Keyword).isEmpty then 0 else 1) < 30)) = true := by rfl) : SS X c (.Expr (.Call (.Attribute (.Name x p) "append" apos) [e] [] pos) p2) (wApp i w) := by
  refine ⟨.app hw.mon, (ps_expr (pe_bm PySem.F.plainAttrs_list PySem.F.slot_list_append PySem.F.type_list_append mt_append h (pa_cons hw.run pa_nil hs) hbase hfew hline hs rfl) hsw).wk fun D σ H ⟨ω, env, tk, ok, q⟩ => ?_⟩
  unfold wApp at q
  split at q
  · rename_i ds0 he0
    obtain ⟨v, hv, q0, rfl, vs0, a1, a2, a3, a4, a5⟩ := ok.slots i _ he0
    refine ⟨_, hv, .inl ⟨rfl, _, .of a1⟩, ω, env, tk, ok, hw.mon _ _ _ _ (fun d e1 t1 z v ω' H' st ok' r => ?_) q⟩
    split at z
    · rename_i ds he
      obtain ⟨z1, z2⟩ := z
      obtain ⟨v', hv', q1, rfl, vs, b1, b2, b3, b4, b5⟩ := ok'.slots i _ he
      rw [hv] at hv'
      cases hv'
      refine ⟨_, vs, v, rfl, rfl, b1, by rw [b5.length]; exact z1, z2 σ ω' _ st.le (ok'.mut he hv (b5.append (Reps.cons r Reps.nil)))⟩
    · exact z.elim
  · exact q.elim
def wExt (i : Nat) (w : WE) : WS := fun P env tk => match env[i]? with
  | some (some (.own _)) => w env tk fun ev e t => match e[i]?, ev with
    | some (some (.own ds)), .own es => ds.length + es.length ≤ sizeLine ∧ P.nx (e.set i (some (.own (ds ++ es)))) t
    | _, _ => False
  | _ => False
theorem MonS.ext {i : Nat} {w : WE} (m : Mon w) : MonS (wExt i w) := fun P P' env tk l q => by
  unfold wExt at q ⊢
  split at q
  · refine m _ _ _ _ (fun d e t z => ?_) q
    split at z
    · exact ⟨z.1, l.nx _ _ z.2⟩
    · exact z
  · exact q
theorem ss_ext (i : Nat) {w : WE} (h : PE X (.Name x p) (tVar i)) (hw : SE X c e w) (hline : (apos.endLine == pos.line) = true := by rfl) (hs : starEach [e] X.env = [(false, eval e X.env)] := by rfl)
    (hsw : swapsWith (.Call (.Attribute (.Name x p) "extend" apos) [e] [] pos) none p2.line X.env = pure false := by rfl) (hbase : attributeBase (.Name x p) "extend" X.env (eval (.Name x p) X.env) = eval (.Name x p) X.env := by rfl)
    (hfew : ((backTo pos (starEach [e] X.env)).all (fun x => !x.1) && (backToKw pos (keywordEach [] X.env)).all (fun x => x.1.isSome)
      && decide (([e] : List Expr).length + ([] : List Keyword).length + (if ([] : List Keyword).isEmpty then 0 else 1) < 30)) = true := by rfl) : SS X c (.Expr (.Call (.Attribute (.Name x p) "extend" apos) [e] [] pos) p2) (wExt i w) := by
  refine ⟨.ext hw.mon, (ps_expr (pe_bm PySem.F.plainAttrs_list PySem.F.slot_list_extend PySem.F.type_list_extend mt_extend h (pa_cons hw.run pa_nil hs) hbase hfew hline hs rfl) hsw).wk fun D σ H ⟨ω, env, tk, ok, q⟩ => ?_⟩
  unfold wExt at q
  split at q
  · rename_i ds0 he0
    obtain ⟨v, hv, q0, rfl, vs0, a1, a2, a3, a4, a5⟩ := ok.slots i _ he0
    refine ⟨_, hv, .inl ⟨rfl, _, .of a1⟩, ω, env, tk, ok, hw.mon _ _ _ _ (fun d e1 t1 z v ω' H' st ok' r => ?_) q⟩
    split at z
    · rename_i ds es he
      obtain ⟨z1, z2⟩ := z
      obtain ⟨v', hv', q1, rfl, vs, b1, b2, b3, b4, b5⟩ := ok'.slots i _ he
      rw [hv] at hv'
      cases hv'
      obtain ⟨q2, rfl, ⟨us, d1, d2, d3, d4, d5⟩, _⟩ := r
      refine ⟨_, q2, vs, us, rfl, rfl, b1, d1, by rw [b5.length, d5.length]; exact z1, z2 σ ω' _ st.le (ok'.mut he hv (b5.append d5))⟩
    · exact z.elim
  · exact q.elim
/-- a list just made, appended to and dropped -/
def wAppT (w : WE) : WS := fun P env tk => w env tk fun ev e t => match ev with
  | .own ds => ds.length < sizeLine ∧ P.nx e t
  | _ => False
theorem ss_appT {a : Expr} {w : WE} {v : V} (hw : SE X c e w) (hv : PE X a (tC v)) (hline : (apos.endLine == pos.line) = true := by rfl) (hs : starEach [a] X.env = [(false, eval a X.env)] := by rfl)
    (hsw : swapsWith (.Call (.Attribute e "append" apos) [a] [] pos) none p2.line X.env = pure false := by rfl) (hbase : attributeBase e "append" X.env (eval e X.env) = eval e X.env := by rfl)
    (hfew : ((backTo pos (starEach [a] X.env)).all (fun x => !x.1) && (backToKw pos (keywordEach [] X.env)).all (fun x => x.1.isSome)
      && decide (([a] : List Expr).length + ([] : List Keyword).length + (if ([] : List Keyword).isEmpty then 0 else 1) < 30)) = true := by rfl) : SS X c (.Expr (.Call (.Attribute e "append" apos) [a] [] pos) p2) (wAppT w) := by
  refine ⟨fun P P' env tk l q => hw.mon _ _ _ _ (fun ev e t z => by cases ev <;> first | exact (show False from z).elim | exact ⟨z.1, l.nx _ _ z.2⟩) q, (ps_expr (pe_bm PySem.F.plainAttrs_list PySem.F.slot_list_append PySem.F.type_list_append mt_append hw.run (pa_cons hv pa_nil hs) hbase hfew hline hs rfl) hsw).wk fun D σ H ⟨ω, env, tk, ok, q⟩ => ?_⟩
  refine ⟨ω, env, tk, ok, hw.mon _ _ _ _ (fun ev e1 t1 z u ω' H' st ok' r => ?_) q⟩
  cases ev with
  | val d => exact (show False from z).elim
  | own ds =>
    obtain ⟨q1, rfl, ⟨vs, b1, b2, b3, b4, b5⟩, hn⟩ := r
    obtain ⟨z1, z2⟩ := z
    refine ⟨.inl ⟨rfl, _, .of b1⟩, q1, vs, v, rfl, rfl, b1, by rw [b5.length]; exact z1, z2 σ ω' _ st.le ?_⟩
    exact {
      len := ok'.len
      sub := fun b o h => by
        rw [upd_ne (fun e => by rw [e, b2] at h; cases h)]
        exact ok'.sub b o h
      st := by
        rcases ok'.st with z | ⟨a', k, e, e1, e0, nn, ns, e2, r1, r2⟩
        · exact .inl z
        · exact .inr ⟨a', k, e, e1, e0, nn, ns, by rw [upd_ne (fun z => b3 (by rw [e, z]))]; exact e2, r1, r2⟩
      slots := fun j ev hj => by
        obtain ⟨v, h1, h2⟩ := ok'.slots j ev hj
        refine ⟨v, h1, ?_⟩
        cases ev with
        | val d => exact h2
        | own ls =>
          obtain ⟨t, rfl, ws, c1, c2⟩ := h2
          exact ⟨t, rfl, ws, by rw [upd_ne (fun z => hn j ls hj (by rw [h1, z]))]; exact c1, c2⟩
      dist := ok'.dist
      new := ok'.new
      ng := ok'.ng
      fr := fun b o h n => by
        rw [upd_ne (ne_of_none h b4.1)]
        exact ok'.fr b o h n
      le0 := ok'.le0
      pr := fun b h => by
        obtain ⟨h1, h2, h3⟩ := ok'.pr b h
        have hq : b ≠ q1 := fun z => b4.2 (by rw [← z]; exact h)
        exact ⟨by rw [upd_ne hq]; exact h1, h2, h3⟩ }

/-! ### while -/
def wWhile (t : WT) (b : WS) : WS := fun P env tk => ∃ I : Nat → En → Tk → Prop, (∃ m, I m env tk) ∧ ∀ m e k, I m e k →
  t e k fun x e1 k1 => if x = true then b { P with nx := fun e2 k2 => ∃ m', m' < m ∧ I m' e2 k2, ct := fun e2 k2 => ∃ m', m' < m ∧ I m' e2 k2, bk := P.nx } e1 k1 else P.nx e1 k1
theorem MonS.while {t : WT} {b : WS} (mt : Mon t) (mb : MonS b) : MonS (wWhile t b) := fun P P' env tk l ⟨I, h0, h⟩ => ⟨I, h0, fun m e k hi => mt _ _ _ _ (fun x e1 k1 z => by
  cases x with
  | true => exact (if_pos rfl).mpr (mb _ _ _ _ (by exact ⟨fun _ _ z => z, l.rt, l.nx, fun _ _ z => z⟩) ((if_pos rfl).mp z))
  | false => exact (if_neg Bool.false_ne_true).mpr (l.nx _ _ ((if_neg Bool.false_ne_true).mp z))) (h m e k hi)⟩
theorem ss_while {t : WT} {body : List Stmt} (hp : PassesOwn (model X.prog X.w) X.A X.env X.xe) (ht : ST X c e t) (hb : SSs X c body b) : SS X c (.While e body [] pos) (wWhile t b) := by
  refine ⟨.while ht.mon hb.mon, (ps_while hp ht.run hb.run).wk fun D σ H ⟨ω, env, tk, ok, I, ⟨m0, h0⟩, h⟩ => ?_⟩
  refine ⟨fun m σ H => ∃ ω' e k, ω.le ω' ∧ Ok c ω' H σ e k ∧ I m e k, ⟨m0, ω, env, tk, .refl _, ok, h0⟩, fun m σ H ⟨ω1, e1, k1, l1, ok1, i1⟩ => ?_⟩
  refine ⟨ω1, e1, k1, ok1, ht.mon _ _ _ _ (fun x e2 k2 z v ω2 H2 st ok2 r => ?_) (h m e1 k1 i1)⟩
  subst r
  cases v with
  | true =>
    refine (if_pos rfl).mpr ⟨fun σ' H' => ∃ m', m' < m ∧ ∃ ω' e k, ω.le ω' ∧ Ok c ω' H' σ' e k ∧ I m' e k, fun _ _ z => z, ω2, e2, k2, ok2, hb.mon _ _ _ _ ?_ ((if_pos rfl).mp z)⟩
    have l2 : ω.le ω2 := l1.trans st.le
    exact ⟨fun e t ⟨m', hm, hi⟩ σ' ω' H' l' ok' => ⟨m', hm, ω', e, t, l2.trans l', ok', hi⟩, fun _ _ z => z, fun e t z => liftN_up l2 z, fun e t ⟨m', hm, hi⟩ σ' ω' H' l' ok' => ⟨m', hm, ω', e, t, l2.trans l', ok', hi⟩⟩
  | false => exact (if_neg Bool.false_ne_true).mpr (((if_neg Bool.false_ne_true).mp z) σ ω2 H2 (l1.trans st.le) ok2)

/-! ### what is walked -/
def Src (K : PySem.W.Frag) (ω : Wd) (J : It) (ds : List D) : Prop := ∀ (i : Nat) (ω' : Wd) (H : Hp), ω.le ω' → (∀ b o, ω'.hd b = some o → H b = some o) → (i < ds.length → J.go i H) ∧ (ds.length ≤ i → J.stop i H) ∧ ∀ x H', J.yld i H x H' → H' = H ∧ ∀ d, ds[i]? = some d → Rep K ω' d x
structure SI (X : Cx) (c : C) (tg it : Expr) (wi : TI) (w : WA) : Prop where
  mon : Mon w
  pi : PI X tg it wi
  run : ∀ (σ : L2.St) (H : Hp) (R : It → Hp → Prop), lift c (fun ω _ _ _ ds J => Src c.K ω J ds) w σ H R → wi σ H R
def iSeq (K : PySem.W.Frag) (tl : TE) : TI := fun σ H R => tl σ H fun x H1 => (∃ a, x = .ref a ∧ (∃ xs, SqL K H1 a xs) ∧ R (Itl K a) H1) ∨ (∃ a, x = .ref a ∧ (∃ xs, SqT K H1 a xs) ∧ R (Itt K a) H1)
theorem pi_seq {tg l : Expr} {tl : TE} (hl : PE X l tl) : PI X tg l (iSeq X.K tl) := by
  refine ⟨fun pins s σ H R I h => ?_⟩
  refine thn (hl.run pins s σ H _ I h) fun v s1 ⟨x, H1, I1, r1, q1⟩ => ?_
  rcases q1 with q1 | q1
  · exact (show wpAny _ _ (pyIter v) (PIE X pins σ tg R) X.xe s1 from by
      obtain ⟨a, e, ⟨xs, hq⟩, q⟩ := q1
      subst e
      cases r1
      obtain ⟨its, rv, p, hz⟩ := I1.list hq
      refine wpAny_pyIter_list p.isList ?_
      refine ⟨s1.heap.objs.size, [s1.heap.objs.size], _, _, H1, rfl, I1.kept (t' := s1.toks) fun b o e => Heap.get?_push_of_some _ e, turn_list a _, ⟨_, Heap.get?_push_size _ rfl, rfl, rfl⟩, fun b hb => ?_, q⟩
      have e : b = s1.heap.objs.size := by simpa using hb
      subst e
      exact I1.fpOk (Nat.le_refl _) (I1.hok.fresh (Nat.le_refl _)))
  · obtain ⟨a, e, ⟨xs, hq⟩, q⟩ := q1
    subst e
    cases r1
    obtain ⟨its, rv, p, hz⟩ := I1.tuple hq
    refine wpAny_pyIter_tuple (show s1.heap.IsTuple a its.toArray from p) ?_
    refine ⟨s1.heap.objs.size, [s1.heap.objs.size], _, _, H1, rfl, I1.kept (t' := s1.toks) fun b o e => Heap.get?_push_of_some _ e, turn_tuple a _, ⟨_, Heap.get?_push_size _ rfl, rfl, rfl⟩, fun b hb => ?_, q⟩
    have e : b = s1.heap.objs.size := by simpa using hb
    subst e
    exact I1.fpOk (Nat.le_refl _) (I1.hok.fresh (Nat.le_refl _))
def wSrc (w : WD) : WA := fun env tk Q => w env tk fun d e t => match d with
  | .lst ds => Q ds e t
  | .tup ds => Q ds e t
  | _ => False
theorem Mon.src {w : WD} (m : Mon w) : Mon (wSrc w) := fun env tk Q Q' h q => m _ _ _ _ (fun d e t z => by cases d <;> first | exact (show False from z).elim | exact h _ _ _ z) q
/-- the content is told by the place alone -/
def OneL (K : PySem.W.Frag) (H : Hp) (a : Addr) : Prop := ∀ xs ys, SqL K H a xs → SqL K H a ys → xs = ys
theorem si_seq {tg : Expr} {w : WD} (hK : c.K = X.K) (h : SD X c e w) : SI X c tg e (iSeq X.K (liftD c w)) (wSrc w) := by
  refine ⟨.src h.mon, pi_seq h.run, fun σ H R ⟨ω, env, tk, ok, q⟩ => ?_⟩
  refine ⟨ω, env, tk, ok, h.mon _ _ _ _ (fun d e1 t1 z v ω' H' st ok' r => ?_) q⟩
  cases d <;> first | exact (show False from z).elim | skip
  · obtain ⟨a, vs, rfl, h1, h2⟩ := Rep.tup_iff.mp r
    refine .inr ⟨a, rfl, ⟨vs, by rw [← hK]; exact sqT_mono ok'.sub h1⟩, z _ ω' H' st ok' fun i ω2 H2 l sub => ?_⟩
    have h3 : SqT X.K H2 a vs := by rw [← hK]; exact sqT_mono (fun b o h => sub b o (l.hd b o h)) h1
    refine ⟨fun hi => ?_, fun hi => ⟨vs, h3, by rw [h2.length]; exact hi⟩, fun x H3 y => ⟨y.1, fun d hd => ?_⟩⟩
    · have hi' : i < vs.length := by rw [h2.length]; exact hi
      exact ⟨vs, vs[i], h3, List.getElem?_eq_getElem hi'⟩
    · obtain ⟨u, hu, ru⟩ := h2.get hd
      have := y.2 vs h3
      rw [hu] at this
      cases this
      exact ru.mono l
  · obtain ⟨a, vs, rfl, h1, h2⟩ := Rep.lst_iff.mp r
    refine .inl ⟨a, rfl, ⟨vs, by rw [← hK]; exact sqL_mono ok'.sub h1⟩, z _ ω' H' st ok' fun i ω2 H2 l sub => ?_⟩
    have h3 : SqL X.K H2 a vs := by rw [← hK]; exact sqL_mono (fun b o h => sub b o (l.hd b o h)) h1
    refine ⟨fun hi => ?_, fun hi => ⟨vs, h3, by rw [h2.length]; exact hi⟩, fun x H3 y => ⟨y.1, fun d hd => ?_⟩⟩
    · have hi' : i < vs.length := by rw [h2.length]; exact hi
      exact ⟨vs, vs[i], h3, List.getElem?_eq_getElem hi'⟩
    · obtain ⟨u, hu, ru⟩ := h2.get hd
      have := y.2 vs h3
      rw [hu] at this
      cases this
      exact ru.mono l
def rngD (lo : Int) (n : Nat) : List D := (List.range n).map fun (i : Nat) => D.int (lo + (i : Int))
theorem src_rng {K : PySem.W.Frag} {ω : Wd} {lo : Int} {n : Nat} : Src K ω (Itr lo n) (rngD lo n) := fun i ω' H l sub => by
  have hl : (rngD lo n).length = n := by unfold rngD; rw [List.length_map, List.length_range]
  rw [hl]
  refine ⟨fun h => h, fun h => h, fun x H' y => ⟨y.1, fun d hd => ?_⟩⟩
  have hi : i < n := by rw [← hl]; exact (List.getElem?_eq_some_iff.mp hd).1
  unfold rngD at hd
  rw [List.getElem?_map, List.getElem?_range hi] at hd
  cases hd
  rw [y.2]
  exact Rep.int_iff.mpr rfl
def wR1 (a : WD) : WA := fun env tk Q => a env tk fun x e t => match x with
  | .int j => -(2 ^ 62) ≤ j ∧ j < 2 ^ 62 ∧ Q (rngD 0 j.toNat) e t
  | _ => False
def wR2 (a b : WD) : WA := fun env tk Q => a env tk fun x e1 t1 => b e1 t1 fun y e2 t2 => match x, y with
  | .int i, .int j => (-(2 ^ 62) ≤ i ∧ i < 2 ^ 62 ∧ -(2 ^ 62) ≤ j ∧ j < 2 ^ 62) ∧ Q (rngD i (j - i).toNat) e2 t2
  | _, _ => False
theorem si_r1 {tg a : Expr} {w : WD} (hg : Gl X "range") (hm : X.mg "range" = none) (h : SP X c a w) (hs : starEach [a] X.env = [(false, eval a X.env)] := by rfl) : SI X c tg (.Call (.Name "range" p) [a] [] pos) (iRng1 (tCons (liftP c w) tNil)) (wR1 w) := by
  refine ⟨fun env tk Q Q' k q => h.mon _ _ _ _ (fun x e t z => by cases x <;> first | exact (show False from z).elim | exact ⟨z.1, z.2.1, k _ _ _ z.2.2⟩) q, pi_range1 hg hm (pa_cons h.run pa_nil hs) hs, fun σ H R ⟨ω, env, tk, ok, q⟩ => ?_⟩
  refine ⟨ω, env, tk, ok, h.mon _ _ _ _ (fun d e1 t1 z v ω' H' st ok' r => ?_) q⟩
  cases d <;> first | exact (show False from z).elim | skip
  exact ⟨_, by rw [r.int], z.1, z.2.1, z.2.2 _ ω' H' st ok' src_rng⟩
theorem si_r2 {tg a b : Expr} {wa wb : WD} (hg : Gl X "range") (hm : X.mg "range" = none) (ha : SP X c a wa) (hb : SP X c b wb) (hs : starEach [a, b] X.env = [(false, eval a X.env), (false, eval b X.env)] := by rfl) (hs2 : starEach [b] X.env = [(false, eval b X.env)] := by rfl) :
    SI X c tg (.Call (.Name "range" p) [a, b] [] pos) (iRng2 (tCons (liftP c wa) (tCons (liftP c wb) tNil))) (wR2 wa wb) := by
  refine ⟨fun env tk Q Q' k q => ha.mon _ _ _ _ (fun x e t z => hb.mon _ _ _ _ (fun y e2 t2 z => by cases x <;> first | exact (show False from z).elim | (cases y <;> first | exact (show False from z).elim | exact ⟨z.1, k _ _ _ z.2⟩)) z) q, pi_range2 hg hm (pa_cons ha.run (pa_cons hb.run pa_nil hs2) (by rw [hs, hs2])) hs hs2, fun σ H R ⟨ω, env, tk, ok, q⟩ => ?_⟩
  refine ⟨ω, env, tk, ok, ha.mon _ _ _ _ (fun d e1 t1 z v ω1 H1 s1 ok1 r1 => ?_) q⟩
  refine ⟨ω1, e1, t1, ok1, hb.mon _ _ _ _ (fun d2 e2 t2 z u ω2 H2 s2 ok2 r2 => ?_) z⟩
  cases d <;> first | exact (show False from z).elim | (cases d2 <;> first | exact (show False from z).elim | skip)
  exact ⟨_, _, by rw [r1.int, r2.int], z.1, z.2 _ ω2 H2 (s1.trans s2) ok2 src_rng⟩

/-! ### for -/
def forGo (g : WG) (b : WS) (P : Post) : List D → En → Tk → Prop
  | [], e, t => P.nx e t
  | d :: ds, e, t => g d e fun e' => b { P with nx := fun e2 t2 => forGo g b P ds e2 t2, ct := fun e2 t2 => forGo g b P ds e2 t2, bk := P.nx } e' t
def wFor (src : WA) (g : WG) (b : WS) : WS := fun P env tk => src env tk fun ds e t => forGo g b P ds e t
theorem forGo_mono {g : WG} {b : WS} (mg : ∀ d env Q Q', (∀ e, Q e → Q' e) → g d env Q → g d env Q') (mb : MonS b) {P P' : Post} (l : P.le P') : ∀ (ds : List D) (e : En) (t : Tk), forGo g b P ds e t → forGo g b P' ds e t
  | [], e, t, h => l.nx _ _ h
  | d :: ds, e, t, h => mg _ _ _ _ (fun e' z => mb { P with nx := fun e2 t2 => forGo g b P ds e2 t2, ct := fun e2 t2 => forGo g b P ds e2 t2, bk := P.nx } _ _ _ ⟨fun e2 t2 z => forGo_mono mg mb l ds e2 t2 z, l.rt, l.nx, fun e2 t2 z => forGo_mono mg mb l ds e2 t2 z⟩ z) h
theorem ss_for {tg it : Expr} {wi : TI} {src : WA} {t : TG} {g : WG} {vs : List Nat} {body : List Stmt} (hp : PassesOwn (model X.prog X.w) X.A X.env X.xe) (hc : X.calm = true) (hi : SI X c tg it wi src) (hg : SG X c tg t g vs) (hb : SSs X c body b)
    (hs : ∀ x, foldedSetIterable it X.env x = pure x := by intro _; rfl) : SS X c (.For tg it body [] pos) (wFor src g b) := by
  refine ⟨fun P P' env tk l q => hi.mon _ _ _ _ (fun ds e t z => forGo_mono hg.mon hb.mon l ds e t z) q, (ps_for hp hc hi.pi hg.pg hb.run hs).wk fun D σ H ⟨ω, env, tk, ok, q⟩ => ?_⟩
  refine hi.run σ H _ ⟨ω, env, tk, ok, hi.mon _ _ _ _ (fun ds e1 t1 z J ω1 H1 st ok1 src => ?_) q⟩
  refine ⟨fun i m σ H => m = ds.length - i ∧ ∃ ω' e t, ω1.le ω' ∧ Ok c ω' H σ e t ∧ forGo g b (postOf c ω D) (ds.drop i) e t, ⟨ds.length, rfl, ω1, e1, t1, .refl _, ok1, z⟩, fun i m σ H ⟨hm, ω2, e2, t2, l2, ok2, z2⟩ => ?_⟩
  obtain ⟨s1, s2, s3⟩ := src i ω2 H l2 ok2.sub
  have l3 : ω.le ω2 := st.le.trans l2
  by_cases hi : i < ds.length
  · refine .inr ⟨s1 hi, fun σ' H' => m = ds.length - i ∧ ∃ ω' e t, ω1.le ω' ∧ Ok c ω' H' σ' e t ∧ forGo g b (postOf c ω D) (ds.drop (i + 1)) e t, fun σ' H' ⟨h1, h2⟩ => ⟨ds.length - (i + 1), by omega, rfl, h2⟩, fun x H' y => ?_⟩
    obtain ⟨rfl, hx⟩ := s3 x H' y
    have hd : ds.drop i = ds[i] :: ds.drop (i + 1) := List.drop_eq_getElem_cons hi
    rw [hd] at z2
    refine hg.run σ H' x _ ω2 e2 t2 ds[i] ok2 (hx _ (List.getElem?_eq_getElem hi)) (hg.mon _ _ _ _ (fun e' z σ' _ ok' => ?_) z2)
    refine ⟨ω2, e', t2, ok', hb.mon { postOf c ω D with nx := fun e2 t2 => forGo g b (postOf c ω D) (ds.drop (i + 1)) e2 t2, ct := fun e2 t2 => forGo g b (postOf c ω D) (ds.drop (i + 1)) e2 t2, bk := (postOf c ω D).nx } _ _ _ ?_ z⟩
    exact ⟨fun e t z σ' ω' H' l ok' => ⟨hm, ω', e, t, l2.trans l, ok', z⟩, fun _ _ z => z, fun e t z => liftN_up l3 z, fun e t z σ' ω' H' l ok' => ⟨hm, ω', e, t, l2.trans l, ok', z⟩⟩
  · refine .inl ⟨s2 (by omega), ?_⟩
    rw [List.drop_eq_nil_of_le (by omega)] at z2
    exact z2 σ ω2 H l3 ok2
end
end DL

namespace DL
open PySem PySem.Spec PyProof.Rows L2

/-! ### a comprehension's block -/
def wipeE (e : En) : List Nat → En
  | [] => e
  | v :: vs => (wipeE e vs).set v none
theorem wipeE_len (e : En) : ∀ vs : List Nat, (wipeE e vs).length = e.length
  | [] => rfl
  | v :: vs => by unfold wipeE; rw [List.length_set, wipeE_len e vs]
theorem wipeE_out {e : En} {i : Nat} : ∀ {vs : List Nat}, i ∉ vs → (wipeE e vs)[i]? = e[i]?
  | [], _ => rfl
  | v :: vs, h => by
    unfold wipeE
    rw [List.getElem?_set_ne (fun q => h (by rw [q]; exact List.mem_cons_self)), wipeE_out fun q => h (List.mem_cons_of_mem _ q)]
theorem wipeE_in {e : En} {i : Nat} : ∀ {vs : List Nat}, i ∈ vs → ∀ x, (wipeE e vs)[i]? ≠ some (some x)
  | v :: vs, h, x, q => by
    unfold wipeE at q
    by_cases hv : v = i
    · subst hv
      by_cases hl : v < (wipeE e vs).length
      · rw [List.getElem?_set_self hl] at q; cases q
      · rw [List.getElem?_eq_none (by rw [List.length_set]; omega)] at q; cases q
    · rw [List.getElem?_set_ne hv] at q
      exact wipeE_in (by rcases List.mem_cons.mp h with z | z; exact absurd z.symm hv; exact z) x q
theorem wipe_in {σ : L2.St} {i : Nat} : ∀ {vs : List Nat}, i ∈ vs → (wipe σ vs)[i]? = if i < σ.length then some none else none
  | v :: vs, h => by
    unfold wipe
    by_cases hv : v = i
    · subst hv
      by_cases hl : v < σ.length
      · rw [List.getElem?_set_self (by rw [wipe_length]; exact hl), if_pos hl]
      · rw [List.getElem?_eq_none (by rw [List.length_set, wipe_length]; omega), if_neg hl]
    · rw [List.getElem?_set_ne hv]
      exact wipe_in (by rcases List.mem_cons.mp h with z | z; exact absurd z.symm hv; exact z)
theorem wipe_off {σ : L2.St} {i : Nat} : ∀ {vs : List Nat}, i ∉ vs → (wipe σ vs)[i]? = σ[i]?
  | [], _ => rfl
  | v :: vs, h => by
    unfold wipe
    rw [List.getElem?_set_ne (fun q => h (by rw [q]; exact List.mem_cons_self)), wipe_off fun q => h (List.mem_cons_of_mem _ q)]
theorem wipe_same {σ σ2 : L2.St} {us vs : List Nat} (h : Off us (wipe σ vs) σ2) (hs : ∀ i ∈ us, i ∈ vs) : wipe σ2 vs = wipe σ vs := by
  refine List.ext_getElem? fun i => ?_
  have hl : σ2.length = σ.length := h.1.trans (wipe_length σ vs)
  by_cases hi : i ∈ vs
  · rw [wipe_in hi, wipe_in hi, hl]
  · rw [wipe_off hi, h.2 i (fun q => hi (hs i q))]
theorem Ok.wipe {c : C} {ω : Wd} {H : Hp} {σ : L2.St} {env : En} {tk : Tk} (ok : Ok c ω H σ env tk) (vs : List Nat) : Ok c ω H (L2.wipe σ vs) (wipeE env vs) tk where
  len := by rw [wipe_length, wipeE_len]; exact ok.len
  sub := ok.sub
  st := ok.st
  slots := fun i e he => by
    by_cases hi : i ∈ vs
    · exact absurd he (wipeE_in hi e)
    · rw [wipeE_out hi] at he
      rw [wipe_off hi]
      exact ok.slots i e he
  dist := fun i j p ds es a b x y => by
    by_cases hi : i ∈ vs
    · exact absurd a (wipeE_in hi _)
    · by_cases hj : j ∈ vs
      · exact absurd b (wipeE_in hj _)
      · rw [wipeE_out hi] at a
        rw [wipeE_out hj] at b
        rw [wipe_off hi] at x
        rw [wipe_off hj] at y
        exact ok.dist i j p ds es a b x y
  new := ok.new
  ng := ok.ng
  fr := ok.fr
  le0 := ok.le0
  pr := ok.pr
/-- back from a block -/
theorem Ok.back {c : C} {ω ω' : Wd} {H H' : Hp} {σ σ2 : L2.St} {env e2 : En} {tk tk' : Tk} (ok : Ok c ω H σ env tk) (ok2 : Ok c ω' H' σ2 e2 tk') (l : ω.le ω') {vs : List Nat} (h1 : ∀ j, j ∉ vs → e2[j]? = env[j]?) (h2 : ∀ j, j ∉ vs → σ2[j]? = σ[j]?)
    (ho : ∀ j ∈ vs, ∀ ds, env[j]? ≠ some (some (.own ds))) : Ok c ω' H' σ env tk' where
  len := ok.len
  sub := ok2.sub
  st := ok2.st
  slots := fun i e he => by
    cases e with
    | val d =>
      obtain ⟨v, g1, g2⟩ := ok.slots i _ he
      exact ⟨v, g1, Rep.mono l g2⟩
    | own ds =>
      have hi : i ∉ vs := fun q => ho i q ds he
      obtain ⟨v, g1, g2⟩ := ok2.slots i (.own ds) (by rw [h1 i hi]; exact he)
      exact ⟨v, by rw [← h2 i hi]; exact g1, g2⟩
  dist := ok.dist
  new := ok2.new
  ng := ok2.ng
  fr := ok2.fr
  le0 := ok2.le0
  pr := ok2.pr
/-- one place is held: it is not given away -/
abbrev C.hold (c : C) (D : Addr) : C := { c with pr := fun b => c.pr b ∨ b = D }
theorem Ok.hold {c : C} {ω : Wd} {H : Hp} {σ : L2.St} {env : En} {tk : Tk} {D : Addr} (ok : Ok c ω H σ env tk) (n : H D = none) (o : HO) : Ok (c.hold D) ω (upd H D o) σ env tk := by
  have ok' := ok.newL n o
  exact {
    len := ok'.len
    sub := ok'.sub
    st := ok'.st
    slots := fun i e he => by
      obtain ⟨v, g1, g2⟩ := ok'.slots i e he
      refine ⟨v, g1, ?_⟩
      cases e with
      | val d => exact g2
      | own ds =>
        obtain ⟨p, rfl, us, a1, a2, a3, a4, a5⟩ := g2
        refine ⟨p, rfl, us, a1, a2, a3, ⟨a4.1, fun q => ?_⟩, a5⟩
        rcases q with q | q
        · exact a4.2 q
        · subst q
          exact ok.noslot (.inl n) i ds he g1
    dist := ok'.dist
    new := ok'.new
    ng := ok'.ng
    fr := ok'.fr
    le0 := ok'.le0
    pr := fun b q => by
      rcases q with q | q
      · exact ok'.pr b q
      · subst q
        exact ⟨by rw [upd_same]; exact fun z => (nomatch z), ok.nohd n, ok.nog n⟩ }
theorem Ok.unhold {c : C} {ω : Wd} {H : Hp} {σ : L2.St} {env : En} {tk : Tk} {D : Addr} (ok : Ok (c.hold D) ω H σ env tk) : Ok c ω H σ env tk where
  len := ok.len
  sub := ok.sub
  st := ok.st
  slots := fun i e he => by
    obtain ⟨v, g1, g2⟩ := ok.slots i e he
    refine ⟨v, g1, ?_⟩
    cases e with
    | val d => exact g2
    | own ds =>
      obtain ⟨p, rfl, us, a1, a2, a3, a4, a5⟩ := g2
      exact ⟨p, rfl, us, a1, a2, a3, ⟨a4.1, fun q => a4.2 (.inl q)⟩, a5⟩
  dist := ok.dist
  new := ok.new
  ng := ok.ng
  fr := ok.fr
  le0 := ok.le0
  pr := fun b q => ok.pr b (.inl q)
/-- the held place may turn -/
theorem Ok.turnP {c : C} {ω : Wd} {H : Hp} {σ : L2.St} {env : En} {tk : Tk} {D : Addr} (ok : Ok (c.hold D) ω H σ env tk) (n0 : c.H0 D = none) (o : HO) : Ok (c.hold D) ω (upd H D o) σ env tk := by
  obtain ⟨p1, p2, p3⟩ := ok.pr D (.inr rfl)
  exact {
    len := ok.len
    sub := fun b u h => by
      rw [upd_ne (fun e => by rw [e, p2] at h; cases h)]
      exact ok.sub b u h
    st := by
      rcases ok.st with z | ⟨a', k, e, e1, e0, nn, ns, e2, r1, r2⟩
      · exact .inl z
      · exact .inr ⟨a', k, e, e1, e0, nn, ns, by rw [upd_ne (fun z => p3 (by rw [e, z]))]; exact e2, r1, r2⟩
    slots := fun i e he => by
      obtain ⟨v, g1, g2⟩ := ok.slots i e he
      refine ⟨v, g1, ?_⟩
      cases e with
      | val d => exact g2
      | own ds =>
        obtain ⟨p, rfl, us, a1, a2, a3, a4, a5⟩ := g2
        exact ⟨p, rfl, us, by rw [upd_ne (fun z => a4.2 (.inr z))]; exact a1, a2, a3, a4, a5⟩
    dist := ok.dist
    new := ok.new
    ng := ok.ng
    fr := fun b u h n => by
      rw [upd_ne (ne_of_none h n0)]
      exact ok.fr b u h n
    le0 := ok.le0
    pr := fun b q => by
      obtain ⟨a1, a2, a3⟩ := ok.pr b q
      refine ⟨?_, a2, a3⟩
      by_cases hb : b = D
      · subst hb
        rw [upd_same]
        exact fun z => nomatch z
      · rw [upd_ne hb]; exact a1 }

/-! ### [elt for tg in it if ..] -/
structure STs (X : Cx) (c : C) (ifs : List Expr) (w : WT) : Prop where
  mon : Mon w
  run : PTs X ifs (liftT c w)
def wYes : WT := fun env tk Q => Q true env tk
theorem _root_.L2.PTs.wk {X : Cx} {e : List Expr} {t t' : TT} (h : PTs X e t) (k : ∀ σ H Q, t' σ H Q → t σ H Q) : PTs X e t' := ⟨fun pins s σ H Q I q => h.run pins s σ H Q I (k _ _ _ q)⟩
theorem sts_nil {X : Cx} {c : C} : STs X c [] wYes := ⟨fun _ _ _ _ h q => h _ _ _ q, pts_nil.wk fun σ H Q ⟨ω, env, tk, ok, h⟩ => h _ ω H (.refl _ _) ok rfl⟩
theorem sts_one {X : Cx} {c : C} {e : Expr} {w : WT} (h : ST X c e w) : STs X c [e] w := ⟨h.mon, pts_one h.run⟩
def lcGo (g : WG) (cond : WT) (elt : WE) (vs : List Nat) (env : En) : List D → List D → Tk → (List D → Tk → Prop) → Prop
  | [], acc, tk, K => K acc tk
  | d :: ds, acc, tk, K => g d (wipeE env vs) fun e1 => cond e1 tk fun b e2 t2 => e2 = e1 ∧
      if b = true then elt e1 t2 fun ev e3 t3 => e3 = e1 ∧ acc.length < sizeLine ∧ lcGo g cond elt vs env ds (acc ++ [ev.d]) t3 K else lcGo g cond elt vs env ds acc t2 K
def noOwn (env : En) (vs : List Nat) : Bool := vs.all fun v => match env[v]? with
  | some (some (.own _)) => false
  | _ => true
theorem noOwn_at {env : En} {vs : List Nat} (h : noOwn env vs = true) : ∀ j ∈ vs, ∀ ds, env[j]? ≠ some (some (.own ds)) := fun j hj ds e => by
  have q := List.all_eq_true.mp h j hj
  rw [e] at q
  cases q
def wLc (src : WA) (g : WG) (cond : WT) (elt : WE) (vs : List Nat) : WE := fun env tk Q => src env tk fun ds e t => noOwn e vs = true ∧ lcGo g cond elt vs e ds [] t fun acc t' => Q (.own acc) e t'
theorem lcGo_mono {g : WG} {cond : WT} {elt : WE} {vs : List Nat} {env : En} (mg : ∀ d env Q Q', (∀ e, Q e → Q' e) → g d env Q → g d env Q') (mc : Mon cond) (me : Mon elt) {K K' : List D → Tk → Prop} (h : ∀ a t, K a t → K' a t) :
    ∀ (ds acc : List D) (tk : Tk), lcGo g cond elt vs env ds acc tk K → lcGo g cond elt vs env ds acc tk K'
  | [], acc, tk, z => h _ _ z
  | d :: ds, acc, tk, z => mg _ _ _ _ (fun e1 z => mc _ _ _ _ (fun b e2 t2 z => ⟨z.1, by
    cases b with
    | true => exact (if_pos rfl).mpr (me _ _ _ _ (fun ev e3 t3 z => ⟨z.1, z.2.1, lcGo_mono mg mc me h ds _ t3 z.2.2⟩) ((if_pos rfl).mp z.2))
    | false => exact (if_neg Bool.false_ne_true).mpr (lcGo_mono mg mc me h ds acc t2 ((if_neg Bool.false_ne_true).mp z.2))⟩) z) z
/-- a reading that may choose -/
theorem pe_ex {X : Cx} {e : Expr} {α : Type} {t : α → TE} (h : ∀ a, PE X e (t a)) : PE X e fun σ H Q => ∃ a, t a σ H Q := ⟨fun pins s σ H Q I ⟨a, q⟩ => (h a).run pins s σ H Q I q⟩
theorem pts_ex {X : Cx} {e : List Expr} {α : Type} {t : α → TT} (h : ∀ a, PTs X e (t a)) : PTs X e fun σ H Q => ∃ a, t a σ H Q := ⟨fun pins s σ H Q I ⟨a, q⟩ => (h a).run pins s σ H Q I q⟩
section
variable {X : Cx} {c : C}
abbrev cxb (X : Cx) (scope : Scope) (s : Shared) (H : Hp) (C : Addr) (cl : List (Str × Addr)) (fp : List Addr) : Cx := X.blk s H scope (compEnvC scope cl C X.env) fp
/-- the turns of one clause; L: the new list -/
theorem lc_turns {J : It} {t : TG} {g : WG} {cond : WT} {elt : WE} {vs us : List Nat} {σ : L2.St} {Qd : Hp → Prop} {ω1 : Wd} {H1 : Hp} {e1 : En} {t1 : Tk} {L : Addr} {ds : List D}
    (ok1 : Ok c ω1 H1 σ e1 t1) (src : Src c.K ω1 J ds) (hL : H1 L = none) (hus : ∀ i ∈ us, i ∈ vs) (hno : noOwn e1 vs = true)
    (mg : ∀ d env Q Q', (∀ e, Q e → Q' e) → g d env Q → g d env Q') (lg : ∀ d env Q, g d env Q → g d env fun e => Offl us env e ∧ Q e)
    (rg : ∀ c' : C, c'.K = c.K → ∀ (σ : L2.St) (H : Hp) (v : V) (Q : L2.St → Hp → Prop) (ω : Wd) (env : En) (tk : Tk) (d : D), Ok c' ω H σ env tk → Rep c'.K ω d v → g d env (fun env' => ∀ σ', Off us σ σ' → Ok c' ω H σ' env' tk → Q σ' H) → t v σ H Q)
    (mc : Mon cond) (me : Mon elt) {K : List D → Tk → Prop} (z : lcGo g cond elt vs e1 ds [] t1 K) (hK : ∀ acc t' ω' H' (us : List V), K acc t' → Stp ω1 H1 ω' H' → Ok (c.hold L) ω' H' σ e1 t' → H' L = some (.lst us) → Reps c.K ω' acc us → Qd H') :
    ∃ W : Nat → Nat → Hp → Prop, (∃ m, W 0 m (upd H1 L (.lst []))) ∧ ∀ i m H, W i m H →
      (J.stop i H ∧ Qd H) ∨ (J.go i H ∧ ∃ Nx : Hp → Prop, (∀ H', Nx H' → ∃ m', m' < m ∧ W (i + 1) m' H') ∧ ∀ x H', J.yld i H x H' → t x (wipe σ vs) H' fun σ2 H2 => wipe σ2 vs = wipe σ vs ∧ (fun σ H Q => ∃ L, liftT (c.hold L) cond σ H Q) σ2 H2 fun b H3 =>
        if b = true then (fun σ H Q => ∃ L, liftE (c.hold L) elt σ H Q) σ2 H3 fun y H4 => ∃ acc, H4 L = some (.lst acc) ∧ acc.length < sizeLine ∧ Nx (upd H4 L (.lst (acc ++ [y]))) else Nx H3) := by
  have n0 : c.H0 L = none := ok1.noH0 hL
  have hown := noOwn_at hno
  refine ⟨fun i m H => m = ds.length - i ∧ ∃ ω' t' acc us, Stp ω1 H1 ω' H ∧ Ok (c.hold L) ω' H σ e1 t' ∧ H L = some (.lst us) ∧ Reps c.K ω' acc us ∧ lcGo g cond elt vs e1 (ds.drop i) acc t' K, ⟨ds.length, rfl, ω1, t1, [], [], .newL hL _, ok1.hold hL _, upd_same, .nil, z⟩, fun i m H ⟨hm, ω2, t2, acc, us2, s2, ok2, hl2, r2, z2⟩ => ?_⟩
  obtain ⟨j1, j2, j3⟩ := src i ω2 H s2.le ok2.sub
  by_cases hi : i < ds.length
  · refine .inr ⟨j1 hi, fun H => m = ds.length - i ∧ ∃ ω' t' acc us, Stp ω1 H1 ω' H ∧ Ok (c.hold L) ω' H σ e1 t' ∧ H L = some (.lst us) ∧ Reps c.K ω' acc us ∧ lcGo g cond elt vs e1 (ds.drop (i + 1)) acc t' K, fun H' ⟨_, h⟩ => ⟨ds.length - (i + 1), by omega, rfl, h⟩, fun x H' y => ?_⟩
    obtain ⟨rfl, hx⟩ := j3 x H' y
    have hd : ds.drop i = ds[i] :: ds.drop (i + 1) := List.drop_eq_getElem_cons hi
    rw [hd] at z2
    refine rg (c.hold L) rfl (wipe σ vs) H' x _ ω2 (wipeE e1 vs) t2 ds[i] (ok2.wipe vs) (hx _ (List.getElem?_eq_getElem hi)) (mg _ _ _ _ (fun e3 ⟨ofl, z3⟩ σ3 off ok3 => ?_) (lg _ _ _ z2))
    have c1 : ∀ j, j ∉ vs → e3[j]? = e1[j]? := fun j h => (ofl.2 j fun q => h (hus j q)).trans (wipeE_out h)
    have c2 : ∀ j, j ∉ vs → σ3[j]? = σ[j]? := fun j h => (off.2 j fun q => h (hus j q)).trans (wipe_off h)
    refine ⟨wipe_same off hus, L, ω2, e3, t2, ok3, mc _ _ _ _ (fun b e4 t4 z4 b' ω4 H4 s4 ok4 hb => ?_) z3⟩
    subst hb
    obtain ⟨rfl, z4⟩ := z4
    have hg2 : ω2.g ≠ some L := (ok2.pr L (.inr rfl)).2.2
    have hl4 : H4 L = some (.lst us2) := s4.fr L _ hl2 hg2
    cases b' with
    | false =>
      refine (if_neg Bool.false_ne_true).mpr ⟨hm, ω4, t4, acc, us2, s2.trans s4, ok2.back ok4 s4.le c1 c2 hown, hl4, r2.mono s4.le, (if_neg Bool.false_ne_true).mp z4⟩
    | true =>
      refine (if_pos rfl).mpr ⟨L, ω4, e4, t4, ok4, me _ _ _ _ (fun ev e5 t5 z5 y ω5 H5 s5 ok5 r5 => ?_) ((if_pos rfl).mp z4)⟩
      obtain ⟨rfl, zl, z5⟩ := z5
      obtain ⟨ω6, ok6, s6, r6⟩ := give ok5 r5
      have hg4 : ω4.g ≠ some L := (ok4.pr L (.inr rfl)).2.2
      have hl5 : H5 L = some (.lst us2) := s5.fr L _ hl4 hg4
      have s26 : Stp ω2 H' ω6 H5 := (s4.trans s5).trans s6
      have ok7 : Ok (c.hold L) ω6 H5 σ e1 t5 := ok2.back ok6 s26.le c1 c2 hown
      refine ⟨us2, hl5, by rw [r2.length]; exact zl, hm, ω6, t5, acc ++ [ev.d], us2 ++ [y], ⟨(s2.trans s26).le, fun b o h n => ?_, (s2.trans s26).ng⟩, ok7.turnP n0 _, upd_same, (r2.mono s26.le).append (Reps.cons r6 Reps.nil), z5⟩
      rw [upd_ne (ne_of_none h hL)]
      exact (s2.trans s26).fr b o h n
  · refine .inl ⟨j2 (by omega), ?_⟩
    rw [List.drop_eq_nil_of_le (by omega)] at z2
    exact hK acc t2 ω2 H us2 z2 s2 ok2 hl2 r2
theorem run_lc {tg it : Expr} {wi : TI} {src : WA} {t : TG} {g : WG} {cond : WT} {elt : WE} {vs us : List Nat} (hi : SI X c tg it wi src) (hus : ∀ i ∈ us, i ∈ vs)
    (mg : ∀ d env Q Q', (∀ e, Q e → Q' e) → g d env Q → g d env Q') (lg : ∀ d env Q, g d env Q → g d env fun e => Offl us env e ∧ Q e)
    (rg : ∀ c' : C, c'.K = c.K → ∀ (σ : L2.St) (H : Hp) (v : V) (Q : L2.St → Hp → Prop) (ω : Wd) (env : En) (tk : Tk) (d : D), Ok c' ω H σ env tk → Rep c'.K ω d v → g d env (fun env' => ∀ σ', Off us σ σ' → Ok c' ω H σ' env' tk → Q σ' H) → t v σ H Q)
    (mc : Mon cond) (me : Mon elt) {σ : L2.St} {H : Hp} {Q : VK} (h : liftE c (wLc src g cond elt vs) σ H Q) : tLc wi t (fun σ H Q => ∃ L, liftT (c.hold L) cond σ H Q) (fun σ H Q => ∃ L, liftE (c.hold L) elt σ H Q) vs σ H Q := by
  obtain ⟨ω, env, tk, ok, q⟩ := h
  refine hi.run σ H _ ⟨ω, env, tk, ok, hi.mon _ _ _ _ (fun ds e1 t1 z J ω1 H1 st ok1 src L hL => ?_) q⟩
  refine lc_turns ok1 src hL hus z.1 mg lg rg mc me z.2 fun acc t' ω' H' us' k s ok' hl r => ?_
  obtain ⟨p1, p2, p3⟩ := ok'.pr L (.inr rfl)
  exact k _ ω' H' (st.trans s) ok'.unhold ⟨L, rfl, ⟨us', hl, p2, p3, ⟨ok1.noH0 hL, ok1.nopr hL⟩, r⟩, fun i es he hp => by
    obtain ⟨v, g1, q, rfl, vs, a1, a2, a3, a4, a5⟩ := ok'.slots i _ he
    rw [hp] at g1
    cases g1
    exact a4.2 (.inr rfl)⟩
structure SLc (X : Cx) (c : C) (scope : Scope) (own : List (Str × Nat)) (tg : Expr) (t : TG) (g : WG) (us : List Nat) (ifs : List Expr) (cond : WT) (elt : Expr) (w : WE) : Prop where
  ok : BlkOk X.N X.env.scope scope own
  tgt : ∀ (c' : C) (hK : c'.K = c.K) (s : Shared) (H : Hp) (C : Addr) (cl : List (Str × Addr)) (fp : List Addr), SG (cxb X scope s H C cl fp) c' tg t g us
  ifs : ∀ (c' : C) (hK : c'.K = c.K) (s : Shared) (H : Hp) (C : Addr) (cl : List (Str × Addr)) (fp : List Addr), STs (cxb X scope s H C cl fp) c' ifs cond
  elt : ∀ (c' : C) (hK : c'.K = c.K) (s : Shared) (H : Hp) (C : Addr) (cl : List (Str × Addr)) (fp : List Addr), SE (cxb X scope s H C cl fp) c' elt w
  sub : ∀ i ∈ us, i ∈ own.map (·.2)
theorem Mon.lc {src : WA} {g : WG} {cond : WT} {elt : WE} {vs : List Nat} (ms : Mon src) (mg : ∀ d env Q Q', (∀ e, Q e → Q' e) → g d env Q → g d env Q') (mc : Mon cond) (me : Mon elt) : Mon (wLc src g cond elt vs) := fun env tk Q Q' h q =>
  ms _ _ _ _ (fun ds e t z => ⟨z.1, lcGo_mono mg mc me (fun a t' z => h _ _ _ z) ds [] t z.2⟩) q
variable {tg it elt : Expr} {ifs : List Expr} {scope : Scope} {own : List (Str × Nat)} {pos : Pos} {wi : TI} {src : WA} {t : TG} {g : WG} {cond : WT} {w : WE} {us : List Nat}
theorem se_lc (s0 : Shared) (hc : X.calm = true) (hN : X.N.Nodup) (hi : SI X c tg it wi src) (h : SLc X c scope own tg t g us ifs cond elt w) (hs : ∀ x, foldedSetIterable it X.env x = pure x := by intro _; rfl) :
    SE X c (.ListComp elt [⟨tg, it, ifs, 0⟩] scope pos) (wLc src g cond w (own.map (·.2))) := by
  have g0 := h.tgt c rfl s0 (fun _ => none) 0 [] []
  have c0 := h.ifs c rfl s0 (fun _ => none) 0 [] []
  have e0 := h.elt c rfl s0 (fun _ => none) 0 [] []
  refine ⟨.lc hi.mon g0.mon c0.mon e0.mon, (pe_lc hc hN hi.pi h.ok (fun s H C cl fp => (h.tgt c rfl s H C cl fp).pg) (fun s H C cl fp => pts_ex fun L => (h.ifs (c.hold L) rfl s H C cl fp).run) (fun s H C cl fp => pe_ex fun L => (h.elt (c.hold L) rfl s H C cl fp).run) hs).wk fun σ H Q q => ?_⟩
  exact run_lc hi h.sub g0.mon g0.loc (fun c' hK => (h.tgt c' hK s0 (fun _ => none) 0 [] []).run) c0.mon e0.mon q
theorem ss_setLc {i : Nat} {y : Str} {py spos : Pos} (s0 : Shared) (hc : X.calm = true) (hN : X.N.Nodup) (hy : X.N[i]? = some y) (hyl : X.env.scope.names.lookup y = some .local)
    (hsw : swapsWith (.ListComp elt [⟨tg, it, ifs, 0⟩] scope pos) (some (.Name y py)) spos.line X.env = pure true) (hi : SI X c tg it wi src) (h : SLc X c scope own tg t g us ifs cond elt w) (hs : ∀ x, foldedSetIterable it X.env x = pure x := by intro _; rfl) :
    SS X c (.Assign [.Name y py] (.ListComp elt [⟨tg, it, ifs, 0⟩] scope pos) spos) (wSet i (wLc src g cond w (own.map (·.2)))) := by
  have g0 := h.tgt c rfl s0 (fun _ => none) 0 [] []
  have c0 := h.ifs c rfl s0 (fun _ => none) 0 [] []
  have e0 := h.elt c rfl s0 (fun _ => none) 0 [] []
  have m : Mon (wLc src g cond w (own.map (·.2))) := .lc hi.mon g0.mon c0.mon e0.mon
  refine ⟨.set m, (ps_setLc hc hN hy hyl hsw hi.pi h.ok (fun s H C cl fp => (h.tgt c rfl s H C cl fp).pg) (fun s H C cl fp => pts_ex fun L => (h.ifs (c.hold L) rfl s H C cl fp).run) (fun s H C cl fp => pe_ex fun L => (h.elt (c.hold L) rfl s H C cl fp).run) hs).wk fun D σ H q => ?_⟩
  exact run_lc hi h.sub g0.mon g0.loc (fun c' hK => (h.tgt c' hK s0 (fun _ => none) 0 [] []).run) c0.mon e0.mon (run_set m q)
end

/-! ### a def -/
def start (n : Nat) (ds : List D) : En := ds.map (fun d => some (.val d)) ++ List.replicate (n - ds.length) none
theorem slots_start {c : C} {ω : Wd} {H : Hp} : ∀ {ds : List D} {vs : List V} {n i : Nat} {e : EV}, Reps c.K ω ds vs → (ds.map (fun d => some (EV.val d)) ++ List.replicate n none)[i]? = some (some e) → ∃ v, (vs.map some ++ List.replicate n none)[i]? = some (some v) ∧ SlotV c ω H e v
  | [], _, n, i, e, r, h => by
    rw [List.map_nil, List.nil_append, List.getElem?_replicate] at h
    split at h <;> cases h
  | d :: ds, _, n, 0, e, r, h => by
    obtain ⟨v, us, rfl, h1, h2⟩ := Reps.cons_iff.mp r
    cases h
    exact ⟨v, rfl, h1⟩
  | d :: ds, _, n, i + 1, e, r, h => by
    obtain ⟨v, us, rfl, h1, h2⟩ := Reps.cons_iff.mp r
    exact slots_start (i := i) h2 h
section
variable {P : Program} {w : World} {K : PySem.W.Frag} {mg : Str → Option Value} {base : Heap} {x qual : Str} {st : Stmt} {f : Addr} {fd : FuncData} {N ps : List Str} {k : Nat} {S : FSpec} {b : WS}
theorem fn_ok (F : Fun K x qual st f fd) (Sc : FnScope N ps (defScope st)) (len : ∀ ds tk Q, S ds tk Q → ds.length = ps.length)
    (hb : ∀ (cdv : Value) (A : Around) (outer : List Env) (s : Shared) (H : Hp) (E : XK) (c : C), c.K = K → Room k (A.deeper (envOfC qual (defScope st) s.heap.objs.size f cdv)) → SSs (cxOf CX0 P w K mg base N qual (defScope st) f cdv A outer s H E).nox c (defBody st) b)
    (hw : ∀ ds tk Q, S ds tk Q → b { nx := fun _ t => Q (.val .non) t, rt := Q } (start N.length ds) tk) : FnOk P w K mg base CX0 (k + 1) f fd ps (spD K S) := by
  refine F.ok Sc (fun vs H Q E h => ?_) (fun cdv A outer s H vs Q E hr h => ?_)
  · obtain ⟨ω, ds, tk, _, _, r, h⟩ := h
    rw [r.length]
    exact len ds tk _ h
  · obtain ⟨ω, ds, tk, sub, st', r, h⟩ := h
    have B := hb cdv A outer s H E ⟨K, ω, H, fun _ => False⟩ rfl hr
    have hNl : ps.length ≤ N.length := by
      have := congrArg List.length Sc.pre
      rw [List.length_take] at this
      omega
    refine ⟨_, B.run, ω, start N.length ds, tk, ?_, B.mon _ _ _ _ ?_ (hw ds tk _ h)⟩
    · have hl : vs.length = ds.length := r.length
      exact {
        len := by unfold L2.start start; simp only [List.length_append, List.length_map, List.length_replicate]; omega
        sub := sub
        st := st'
        slots := fun i e he => by
          unfold L2.start
          unfold start at he
          rw [hl]
          exact slots_start r he
        dist := fun i j p ds' es a b _ _ => by
          obtain ⟨v, h1, h2⟩ := slots_start (c := ⟨K, ω, H, fun _ => False⟩) (H := H) r (show (ds.map (fun d => some (EV.val d)) ++ List.replicate (N.length - ds.length) none)[i]? = some (some (.own ds')) from a)
          obtain ⟨q, rfl, vs', a1, a2, a3, a4, _⟩ := h2
          have a4' : H q = none := a4.1
          rw [a1] at a4'
          cases a4'
        new := fun b h => .inl h
        ng := fun a h => .inl h
        fr := fun b o h _ => h
        le0 := .refl _
        pr := fun b h => h.elim }
    · exact ⟨fun e t z σ' ω' H' l ok => z .non ω' H' (ok.ret (ev := .val .non) (show Rep K ω' .non .non from Rep.non_iff.mpr rfl)), fun ev t z => z, fun _ _ z => z.elim, fun _ _ z => z.elim⟩
theorem fn_in (F : Fun K x qual st f fd) (ok : FnOk P w K mg base CX0 k f fd ps (spD K S)) {y : Str} (hm : mg y = some (.ref f)) (hb : Binds K fd ps []) : FnIn P w K mg base k y S := ⟨f, fd, ps, ok, hm, F.kp, hb⟩
end
theorem hu_room {A : Around} {k : Nat} (hr : Room k A) : A.units + 100 < cLine := by have := hr.un; omega
end DL

namespace DL
open PySem PySem.Spec PyProof.Rows L2

/-! ### the words of the walk over data -/
theorem fAdd_int {i j : Int} {q : EV → Prop} : fAdd (.int i) (.int j) q = q (.val (.int (i + j))) := rfl
theorem fAdd_lst {i j : List D} {q : EV → Prop} : fAdd (.lst i) (.lst j) q = (i.length + j.length ≤ sizeLine ∧ q (.own (i ++ j))) := rfl
theorem fI_int {C : Int → Int → Prop} {g : Int → Int → D} {i j : Int} {q : EV → Prop} : fI C g (.int i) (.int j) q = (C i j ∧ q (.val (g i j))) := rfl
theorem fJ_int {g : Int → Int → D} {i j : Int} {q : EV → Prop} : fJ g (.int i) (.int j) q = q (.val (g i j)) := rfl
theorem fEq_int {i j : Int} {q : EV → Prop} : fEq (.int i) (.int j) q = q (.val (.bl (decide (i = j)))) := rfl
theorem fNe_int {i j : Int} {q : EV → Prop} : fNe (.int i) (.int j) q = q (.val (.bl (!decide (i = j)))) := rfl
theorem wT_bl {w : WE} {env : En} {tk : Tk} {Q : Bool → En → Tk → Prop} : wT w env tk Q = w env tk fun ev e t => match ev with
  | .val (.bl b) => Q b e t
  | _ => False := rfl
theorem start_def {n : Nat} {ds : List D} : start n ds = ds.map (fun d => some (EV.val d)) ++ List.replicate (n - ds.length) none := rfl
theorem fIdx_lst {ds : List D} {i : Int} {q : EV → Prop} : fIdx (.lst ds) (.int i) q = (match atI ds i with | some d => q (.val d) | none => False) := rfl
theorem fIdx_tup {ds : List D} {i : Int} {q : EV → Prop} : fIdx (.tup ds) (.int i) q = (match atI ds i with | some d => q (.val d) | none => False) := rfl
theorem atI_lit {ds : List D} {i : Nat} : atI ds (i : Int) = ds[i]? := by
  unfold atI ixN
  by_cases h : i < ds.length
  · rw [if_pos (Int.natCast_nonneg i), if_pos (by omega)]
    rfl
  · rw [if_pos (Int.natCast_nonneg i), if_neg (by omega), List.getElem?_eq_none (by omega)]
    rfl
theorem atI_some {ds : List D} {i : Int} (h : 0 ≤ i) (h2 : i < ds.length) : ∃ d, atI ds i = some d ∧ ds[i.toNat]? = some d := by
  have e : atI ds i = ds[i.toNat]? := by
    have : i = ((i.toNat : Nat) : Int) := by omega
    conv => lhs; rw [this]
    exact atI_lit
  rw [e, List.getElem?_eq_getElem (by omega)]
  exact ⟨_, rfl, rfl⟩
end DL
local macro_rules | `(tactic| walk_at "dl") => `(tactic| simp (config := { failIfUnchanged := false }) only [↓DL.wSeq, ↓DL.wSet, ↓DL.wIfS, ↓DL.wRet, ↓DL.wRetV, ↓DL.wRetN, ↓DL.wNext, ↓DL.wPk, ↓DL.wV, ↓DL.wC, ↓DL.fz, ↓DL.wOp, ↓DL.w1, ↓DL.EV.d, ↓DL.wT_bl, ↓DL.wAnd, ↓DL.wOr, ↓DL.wNot, ↓DL.wB, ↓DL.wIf, ↓DL.wCons, ↓DL.wNil, ↓DL.wTup, ↓DL.wLst, ↓DL.wPar, ↓DL.wPar3, ↓DL.wAsg, ↓DL.wCall, ↓DL.wDrop, ↓DL.gN, ↓DL.gT, ↓DL.gCs, ↓DL.gNl, ↓DL.wR1, ↓DL.wR2, ↓DL.wSrc, ↓DL.wBrk, ↓DL.wCnt, ↓DL.wApp, ↓DL.wFor, ↓DL.fAdd_int, ↓DL.fI_int, ↓DL.fJ_int, ↓DL.fEq_int, ↓DL.fNe_int, ↓DL.fIdx_lst, ↓DL.fIdx_tup, ↓DL.fNeg, ↓DL.fAbs, ↓DL.fInt, ↓DL.fLen, ↓DL.start_def, List.getElem?_cons_zero, List.getElem?_cons_succ, List.set_cons_zero, List.set_cons_succ, List.map_cons, List.map_nil, List.length_cons, List.length_nil, List.replicate_succ, List.replicate_zero, List.cons_append, List.nil_append, Nat.reduceAdd, Nat.reduceSub, Nat.zero_add, decide_eq_true_eq, true_and, and_true])
namespace DL
open PySem PySem.Spec PyProof.Rows L2
def sp_Lcell : FSpec := fun ds tk Q => ∃ (ns : List Int) (k : Int), ds = [.lst (ns.map D.int), .int k] ∧ 0 ≤ k ∧ ∀ v : Int, Q (.val (.int v)) tk
theorem mon_Lcell : MonFS sp_Lcell := fun ds tk Q Q' h ⟨ns, k, e, h0, q⟩ => ⟨ns, k, e, h0, fun v => h _ _ (q v)⟩
theorem len_Lcell : ∀ ds tk Q, sp_Lcell ds tk Q → ds.length = 2 := fun ds tk Q ⟨ns, k, e, _⟩ => by rw [e]; rfl
abbrev N_Lcell : List Str := ["_law_script", "_law_k"]
def c_Lcell : WS :=
  (wSeq (wIfS (wT (wOp fLt (wPk 1) (fz (w1 fLen (wPk 0))))) (wRet (wOp fIdx (wPk 0) (wPk 1))) wNext)
  (wRet (wC (.int 0))))
theorem map_at {ns : List Int} {k : Int} (h : 0 ≤ k) (h2 : k < (ns.length : Int)) : ∃ v : Int, atI (ns.map D.int) k = some (.int v) ∧ v ∈ ns := by
  obtain ⟨d, h1, h3⟩ := atI_some (ds := ns.map D.int) h (by rw [List.length_map]; exact h2)
  rw [List.getElem?_map] at h3
  cases z : ns[k.toNat]? with
  | none => rw [z] at h3; cases h3
  | some v =>
    rw [z] at h3
    cases h3
    exact ⟨v, h1, List.mem_of_getElem? z⟩
theorem hw_Lcell : ∀ ds tk Q, sp_Lcell ds tk Q → c_Lcell { nx := fun _ t => Q (.val .non) t, rt := Q } (start N_Lcell.length ds) tk := by
  rintro ds tk Q ⟨ns, k, rfl, h0, q⟩
  unfold c_Lcell
  walk_at "dl"
  split
  · rename_i h
    rw [List.length_map] at h
    obtain ⟨v, e, _⟩ := map_at h0 h
    rw [e]
    exact q v
  · exact q 0

def Small (ns : List Int) : Prop := ∀ x ∈ ns, (0 : Int) ≤ x ∧ x < 1000
def sp_Lnumbers : FSpec := fun ds tk Q => ∃ (n m : Int), ds = [.int n, .int m] ∧ 0 ≤ m ∧ m ≤ 1000 ∧ ∀ ns : List Int, ns.length = m.toNat → Small ns → Q (.own (ns.map D.int)) tk
theorem mon_Lnumbers : MonFS sp_Lnumbers := fun ds tk Q Q' h ⟨n, m, e, h0, h1, q⟩ => ⟨n, m, e, h0, h1, fun v a b => h _ _ (q v a b)⟩
theorem len_Lnumbers : ∀ ds tk Q, sp_Lnumbers ds tk Q → ds.length = 2 := fun ds tk Q ⟨n, m, e, _⟩ => by rw [e]; rfl
abbrev N_Lnumbers : List Str := ["_law_cell_here", "_law_many", "_law_rest", "_law_span", "_law_numbers_here", "_law_k", "_law_mixed"]
def c_Lnumbers : WS :=
  (wSeq (wSet 2 (w1 fAbs (wPk 0)))
  (wSeq (wSet 3 (wV 2))
  (wSeq (wSet 4 (wLst wNil))
  (wSeq (wFor (wR1 (wPk 1)) (gN 5) (wIfS (wAnd (wT (wOp fGe (wPk 3) (fz (wOp fPow (fz (wC (.int 10))) (fz (wC (.int 18))))))) (wT (wOp fGt (wPk 2) (fz (wC (.int 0)))))) (wSeq (wApp 4 (fz (wOp fMod (fz (w1 fInt (wPk 2))) (fz (wC (.int 1000))))))
  (wSet 2 (wOp fDiv (wPk 2) (fz (wC (.int 1000)))))) (wSeq (wSet 6 (wOp fMod (fz (w1 fInt (fz (wOp fAdd (fz (wOp fAdd (fz (wOp fMul (wPk 3) (fz (wC (.int 48271))))) (fz (wOp fMul (wPk 5) (fz (wC (.int 69621))))))) (fz (wC (.int 11))))))) (fz (wC (.int 2147483647)))))
  (wSeq (wSet 6 (wOp fMod (fz (w1 fInt (fz (wOp fAdd (fz (wOp fAdd (fz (wOp fMul (wPk 6) (wPk 6))) (fz (wOp fMul (fz (wC (.int 40692))) (wPk 5))))) (fz (wC (.int 3))))))) (fz (wC (.int 2147483629)))))
  (wApp 4 (fz (wOp fMod (fz (w1 fInt (fz (wOp fDiv (wPk 6) (fz (wC (.int 7))))))) (fz (wC (.int 1000))))))))))
  (wRetV 4)))))
theorem fmod_pos {a b : Int} (h : 0 < b) : 0 ≤ a.fmod b ∧ a.fmod b < b := ⟨Int.fmod_nonneg_of_pos a h, Int.fmod_lt_of_pos a h⟩
theorem divOk_lit {i j : Int} (h : j ≠ 0) (h2 : j.natAbs < 1073741824) : DivOk i j := ⟨h, by
  have := (Nat.log2_lt (k := 30) (n := j.natAbs) (by omega)).mpr (by omega)
  omega⟩
theorem mulOk_r {i j : Int} (h : -(2 ^ 64) < j ∧ j < 2 ^ 64) : MulOk i j := .inr (.inr h)
theorem mulOk_l {i j : Int} (h : -(2 ^ 64) < i ∧ i < 2 ^ 64) : MulOk i j := .inr (.inl h)
/-- for over any list, by an invariant -/
theorem forGo_inv {g : WG} {b : WS} {P : Post} (I : Nat → En → Tk → Prop) : ∀ {ds : List D} (hs : ∀ i d e t (R : En → Tk → Prop), ds[i]? = some d → I i e t → (∀ e t, I (i + 1) e t → R e t) → g d e fun e' => b { P with nx := R, ct := R, bk := P.nx } e' t)
    (hd : ∀ e t, I ds.length e t → P.nx e t) {e : En} {t : Tk} (h0 : I 0 e t), forGo g b P ds e t := by
  intro ds
  induction ds generalizing I with
  | nil => intro hs hd e t h0; exact hd e t h0
  | cons d ds ih =>
    intro hs hd e t h0
    exact hs 0 d e t _ rfl h0 fun e2 t2 h2 => ih (fun i => I (i + 1)) (fun i d' e t R hd' hi hR => hs (i + 1) d' e t R hd' hi hR) (fun e t h => hd e t h) h2
/-- for over a range -/
theorem forGo_rng {g : WG} {b : WS} {P : Post} {lo : Int} {n : Nat} (I : Nat → En → Tk → Prop) (hs : ∀ (i : Nat) e t (R : En → Tk → Prop), i < n → I i e t → (∀ e t, I (i + 1) e t → R e t) → g (.int (lo + (i : Int))) e fun e' => b { P with nx := R, ct := R, bk := P.nx } e' t)
    (hd : ∀ e t, I n e t → P.nx e t) {e : En} {t : Tk} (h0 : I 0 e t) : forGo g b P (rngD lo n) e t := by
  have hl : (rngD lo n).length = n := by unfold rngD; rw [List.length_map, List.length_range]
  refine forGo_inv I (fun i d e t R hd' hi hR => ?_) (fun e t h => hd e t (by rw [hl] at h; exact h)) h0
  have hi' : i < n := by rw [← hl]; exact (List.getElem?_eq_some_iff.mp hd').1
  unfold rngD at hd'
  rw [List.getElem?_map, List.getElem?_range hi'] at hd'
  cases hd'
  exact hs i e t R hi' hi hR
theorem sz1000 {n : Nat} (h : n ≤ 1000) : n < sizeLine := small1000 h
theorem hw_Lnumbers : ∀ ds tk Q, sp_Lnumbers ds tk Q → c_Lnumbers { nx := fun _ t => Q (.val .non) t, rt := Q } (start N_Lnumbers.length ds) tk := by
  rintro ds tk Q ⟨n, m, rfl, h0, h1, q⟩
  unfold c_Lnumbers
  walk_at "dl"
  refine ⟨rfl, by omega, by omega, ?_⟩
  refine forGo_rng (fun i e t => t = tk ∧ ∃ (r sp : Int) (ns : List Int) (x5 x6 : Option EV), ns.length = i ∧ Small ns ∧ e = [some (.val (.int n)), some (.val (.int m)), some (.val (.int r)), some (.val (.int sp)), some (.own (ns.map D.int)), x5, x6]) (fun i e t R hi hI hR => ?_) (fun e t hI => ?_) ⟨rfl, _, _, [], none, none, rfl, (fun x h => nomatch h), rfl⟩
  · obtain ⟨rfl, r, sp, ns, x5, x6, hl, hs, rfl⟩ := hI
    have hl' : (ns.map D.int).length < sizeLine := by rw [List.length_map]; exact sz1000 (by omega)
    have push : ∀ (v r' : Int) (y6 : Option EV), 0 ≤ v → v < 1000 → R [some (.val (.int n)), some (.val (.int m)), some (.val (.int r')), some (.val (.int sp)), some (.own (ns.map D.int ++ [.int v])), some (.val (.int (0 + (i : Int)))), y6] t := fun v r' y6 h1 h2 =>
      hR _ _ ⟨rfl, r', sp, ns ++ [v], _, y6, by rw [List.length_append, hl]; rfl, fun x hx => by
        rcases List.mem_append.mp hx with z | z
        · exact hs x z
        · rw [List.mem_singleton] at z; subst z; exact ⟨h1, h2⟩, by rw [List.map_append]; rfl⟩
    have mix : ∀ a : Int, MulOk (a.fmod 2147483647) (a.fmod 2147483647) := fun a => mulOk_r (by have := fmod_pos (a := a) (b := 2147483647) (by decide); omega)
    have mi : MulOk (0 + (i : Int)) 69621 := mulOk_r (by omega)
    have mi2 : MulOk 40692 (0 + (i : Int)) := mulOk_l (by omega)
    have ms : MulOk sp 48271 := mulOk_r (by omega)
    have p : ∀ a : Int, 0 ≤ a.fmod 1000 ∧ a.fmod 1000 < 1000 := fun a => fmod_pos (by decide)
    have slow : ∀ a b d : Int, 1000 ≠ (0 : Int) := fun _ _ _ => by decide
    walk_at "dl"
    refine ⟨⟨by decide, by decide, by decide⟩, ?_⟩
    split
    · split
      · exact ⟨by decide, hl', divOk_lit (by decide) (by decide), push _ _ _ (p _).1 (p _).2⟩
      · exact ⟨ms, mi, by decide, mix _, mi2, by decide, divOk_lit (by decide) (by decide), by decide, hl', push _ _ _ (p _).1 (p _).2⟩
    · split
      · rename_i h; exact absurd h (by decide)
      · exact ⟨ms, mi, by decide, mix _, mi2, by decide, divOk_lit (by decide) (by decide), by decide, hl', push _ _ _ (p _).1 (p _).2⟩
  · obtain ⟨rfl, r, sp, ns, x5, x6, hl, hs, rfl⟩ := hI
    walk_at "dl"
    exact q ns hl hs

/-! ### the law's state -/
def sp_Lstate0 : FSpec := fun ds tk Q => ∃ xs : List Int, ds = [.lst (xs.map D.int)] ∧ ∀ ns : List Int, ns.length = 120 → Small ns → Q (.own [.lst (ns.map D.int), .int 0]) tk
def sp_Lstate : FSpec := fun ds tk Q => ∃ xs : List Int, ds = [.lst (xs.map D.int)] ∧ tk = none ∧ Q (.val .st) (some 0)
theorem mon_Lstate : MonFS sp_Lstate := fun ds tk Q Q' h ⟨xs, e, e2, q⟩ => ⟨xs, e, e2, h _ _ q⟩
theorem len_Lstate0 : ∀ ds tk Q, sp_Lstate0 ds tk Q → ds.length = 1 := fun ds tk Q ⟨n, e, _⟩ => by rw [e]; rfl
abbrev N_Lstate : List Str := ["_law_script", "_law_numbers_here", "_law_k"]
def c_Lstate : WS :=
  (wSeq (wSet 1 (wLst wNil))
  (wSeq (wFor (wR1 (fz (wC (.int 3)))) (gN 2) (wSet 1 (wOp fAdd (wPk 1) (fz (wCall sp_Lnumbers (wCons (fz (wOp fAdd (fz (w1 fAbs (fz (wCall sp_Lcell (wCons (fz (wV 0)) (wCons (fz (wV 2)) wNil)))))) (fz (wOp fMul (fz (wC (.int 7919))) (wPk 2))))) (wCons (fz (wC (.int 40))) wNil)))))))
  (wRet (wLst (wCons (fz (wV 1)) (wCons (fz (wC (.int 0))) wNil))))))
theorem hw_Lstate0 : ∀ ds tk Q, sp_Lstate0 ds tk Q → c_Lstate { nx := fun _ t => Q (.val .non) t, rt := Q } (start N_Lstate.length ds) tk := by
  rintro ds tk Q ⟨xs, rfl, q⟩
  unfold c_Lstate
  walk_at "dl"
  refine ⟨rfl, by decide, by decide, ?_⟩
  refine forGo_rng (fun i e t => t = tk ∧ ∃ (ns : List Int) (x2 : Option EV), ns.length = 40 * i ∧ Small ns ∧ e = [some (.val (.lst (xs.map D.int))), some (.own (ns.map D.int)), x2]) (fun i e t R hi hI hR => ?_) (fun e t hI => ?_) ⟨rfl, [], none, rfl, (fun x h => nomatch h), rfl⟩
  · obtain ⟨rfl, ns, x2, hl, hs, rfl⟩ := hI
    walk_at "dl"
    refine ⟨xs, _, rfl, by omega, fun v => ?_⟩
    walk_at "dl"
    have hi' : i < 3 := hi
    refine ⟨mulOk_l (by decide), _, _, rfl, by decide, by decide, fun ms h1 h2 => ?_⟩
    walk_at "dl"
    simp only [fAdd_lst]
    have h1' : ms.length = 40 := h1
    refine ⟨Nat.le_of_lt (sz1000 (by rw [List.length_map, List.length_map]; omega)), hR _ _ ⟨rfl, ns ++ ms, _, by rw [List.length_append]; omega, fun x hx => ?_, by rw [List.map_append]⟩⟩
    rcases List.mem_append.mp hx with z | z
    · exact hs x z
    · exact h2 x z
  · obtain ⟨rfl, ns, x2, hl, hs, rfl⟩ := hI
    walk_at "dl"
    exact ⟨rfl, q ns hl hs⟩
theorem imp_Lstate {K : PySem.W.Frag} : ∀ vs H Q E, spD K sp_Lstate vs H Q E → spD K sp_Lstate0 vs H Q E := by
  rintro vs H Q E ⟨ω, ds, tk, sub, st, r, xs, rfl, rfl, q⟩
  refine ⟨ω, _, none, sub, st, r, xs, rfl, fun ns hl hs v ω' H' ret => ?_⟩
  obtain ⟨p, rfl, us, a1, a2, a3, a4, a5⟩ := ret.v
  obtain ⟨v0, vr, rfl, b1, b2⟩ := Reps.cons_iff.mp a5
  obtain ⟨v1, vr, rfl, b3, b4⟩ := Reps.cons_iff.mp b2
  rw [Reps.nil_iff] at b4
  subst b4
  rw [Rep.int_iff] at b3
  subst b3
  obtain ⟨n, ws, rfl, c1, c2⟩ := Rep.lst_iff.mp b1
  have e := asInts_reps (asInts_map ns) c2
  subst e
  have hg : ω'.g = none := by
    rcases ret.st with ⟨z, _⟩ | ⟨_, _, _, z, _⟩
    · exact z
    · cases z
  have h0 : H p = none := a4.1
  refine q (.ref p) ⟨some p, ω'.hd⟩ H' ⟨ret.sub, .inr ⟨p, 0, rfl, rfl, a2, n, ns, a1, c1, hl, hs⟩, ret.new, fun a h => ?_, ret.fr, ⟨fun a h => ?_, ret.le0.hd⟩, ?_⟩
  · cases h
    exact .inr h0
  · have := ret.le0.g a h
    rw [hg] at this
    cases this
  · exact (show Rep K ⟨some p, ω'.hd⟩ .st (.ref p) from Rep.st_iff.mpr ⟨p, rfl, rfl⟩)

def sp_Lnext : FSpec := fun ds tk Q => ∃ (m : Int) (c : Nat), ds = [.st, .int m] ∧ tk = some c ∧ 0 < m ∧ c < 2 ^ 50 ∧ ∀ v : Int, 0 ≤ v → v < m → Q (.val (.int v)) (some (c + 1))
theorem mon_Lnext : MonFS sp_Lnext := fun ds tk Q Q' h ⟨m, c, e, e2, h0, h1, q⟩ => ⟨m, c, e, e2, h0, h1, fun v a b => h _ _ (q v a b)⟩
abbrev N_Lnext : List Str := ["_law_state_here", "_law_many", "_law_number"]
theorem ret_Lnext {K : PySem.W.Frag} {ω : Wd} {H : Hp} {a n : Addr} {c : Nat} {ns : List Int} {v : Int} (sub : ∀ b o, ω.hd b = some o → H b = some o) (hg : ω.g = some a) (ha : ω.hd a = none) (e : H a = some (.lst [.ref n, .int (c : Int)])) (hn : SqL K ω.hd n (ns.map V.int)) (hl : ns.length = 120) (hs : ∀ x ∈ ns, (0 : Int) ≤ x ∧ x < 1000) :
    Ret ⟨K, ω, H, fun _ => False⟩ ω (upd H a (.lst [.ref n, .int ((c : Int) + 1)])) (some (c + 1)) (.val (.int v)) (.int v) where
  sub := fun b o h => by
    rw [upd_ne (fun z => by rw [z, ha] at h; cases h)]
    exact sub b o h
  st := .inr ⟨a, c + 1, hg, rfl, ha, n, ns, upd_same, hn, hl, hs⟩
  new := fun b h => .inl h
  ng := fun b h => .inl h
  fr := fun b o h q => by
    rw [upd_ne (fun z => q (by rw [z]; exact hg))]
    exact h
  le0 := .refl _
  v := show Rep K ω (.int v) (.int v) from Rep.int_iff.mpr rfl
def sp_Lwide : FSpec := fun ds tk Q => ∃ (m : Int) (c : Nat), ds = [.st, .int m] ∧ tk = some c ∧ 0 < m ∧ c + 6 < 2 ^ 50 ∧ ∀ v : Int, 0 ≤ v → v < m → Q (.val (.int v)) (some (c + 6))
theorem mon_Lwide : MonFS sp_Lwide := fun ds tk Q Q' h ⟨m, c, e, e2, h0, h1, q⟩ => ⟨m, c, e, e2, h0, h1, fun v a b => h _ _ (q v a b)⟩
theorem len_Lwide : ∀ ds tk Q, sp_Lwide ds tk Q → ds.length = 2 := fun ds tk Q ⟨n, c, e, _⟩ => by rw [e]; rfl
abbrev N_Lwide : List Str := ["_law_state_here", "_law_many", "_law_total", "_law_k"]
def c_Lwide : WS :=
  (wSeq (wSet 2 (wC (.int 0)))
  (wSeq (wFor (wR1 (fz (wC (.int 6)))) (gN 3) (wSet 2 (wOp fAdd (fz (wOp fMul (wPk 2) (fz (wC (.int 1000))))) (fz (wCall sp_Lnext (wCons (fz (wV 0)) (wCons (fz (wC (.int 1000))) wNil)))))))
  (wRet (wOp fMod (wPk 2) (wPk 1)))))
theorem hw_Lwide : ∀ ds tk Q, sp_Lwide ds tk Q → c_Lwide { nx := fun _ t => Q (.val .non) t, rt := Q } (start N_Lwide.length ds) tk := by
  rintro ds tk Q ⟨m, c, rfl, rfl, h0, h1, q⟩
  unfold c_Lwide
  walk_at "dl"
  refine ⟨by decide, by decide, ?_⟩
  refine forGo_rng (fun i e t => t = some (c + i) ∧ ∃ (x : Int) (x3 : Option EV), e = [some (.val .st), some (.val (.int m)), some (.val (.int x)), x3]) (fun i e t R hi hI hR => ?_) (fun e t hI => ?_) ⟨rfl, 0, none, rfl⟩
  · obtain ⟨rfl, x, x3, rfl⟩ := hI
    have hi' : i < 6 := hi
    walk_at "dl"
    refine ⟨mulOk_r (by decide), 1000, c + i, rfl, rfl, by decide, by omega, fun v _ _ => ?_⟩
    walk_at "dl"
    exact hR _ _ ⟨rfl, _, _, rfl⟩
  · obtain ⟨rfl, x, x3, rfl⟩ := hI
    walk_at "dl"
    exact ⟨by omega, q _ (fmod_pos h0).1 (fmod_pos h0).2⟩
end DL

namespace DL
open PySem PySem.Spec PyProof.Rows L2

/-! ### isinstance of a built-in class -/
def tyS : D → Option String
  | .non => some "NoneType"
  | .bl _ => some "bool"
  | .int _ => some "int"
  | .str _ => some "str"
  | .st => none
  | .tup _ => some "tuple"
  | .lst _ => some "list"
theorem RepP.tyX {c : C} {ω : Wd} {H : Hp} {d : D} {v : V} {t : String} (sub : ∀ b o, ω.hd b = some o → H b = some o) (h : RepP c ω H d v) (e : tyS d = some t) : TyX c.K H v (.type t) := by
  cases d with
  | non => cases e; rw [h.non]; exact .base .non
  | bl b => cases e; rw [h.bl]; exact .base (.bl b)
  | int b => cases e; rw [h.int]; exact .base (.int b)
  | str b => cases e; rw [h.str]; exact .base (.str b)
  | st => cases e
  | tup xs =>
    cases e
    obtain ⟨p, vs, rfl, sx, _⟩ := h.tup sub
    rcases sx with (sx | ⟨o, sx⟩) | ⟨o, its, n, sx, sc, _⟩
    · exact .base (.tup sx)
    · exact .fTuple sx
    · exact .kTuple sx sc
  | lst xs =>
    cases e
    obtain ⟨p, vs, rfl, sx, _⟩ := h.lst sub
    rcases sx with (sx | ⟨o, sx⟩) | ⟨o, its, n, sx, sc, _⟩
    · exact .base (.lst sx)
    · exact .base (.frz sx)
    · exact .kList sx sc
def isiB (T : String) (d : D) : Option Bool := (tyS d).bind fun t => if t = T then some true else if T = "int" && t = "bool" then some true else some false
def fIsi (T : String) : F1 := fun d q => match isiB T d with
  | some b => q (.val (.bl b))
  | none => False
theorem MonF1.isi {T : String} : MonF1 (fIsi T) := fun x _ _ h z => by
  unfold fIsi at z ⊢
  split at z
  · exact h _ z
  · exact z.elim
abbrev fIsi_bool := fIsi "bool"
abbrev fIsi_tuple := fIsi "tuple"
abbrev fIsi_list := fIsi "list"
abbrev fIsi_int := fIsi "int"
abbrev fIsi_str := fIsi "str"
/-- the classes that are asked -/
def KitOk (T : String) : Prop := ∀ t ∈ ["NoneType", "bool", "int", "str", "tuple", "list"], kitB t T = some (if t = T then true else if T = "int" && t = "bool" then true else false)
theorem kit_bool : KitOk "bool" := by unfold KitOk; decide +kernel
theorem kit_tuple : KitOk "tuple" := by unfold KitOk; decide +kernel
theorem kit_list : KitOk "list" := by unfold KitOk; decide +kernel
theorem kit_int : KitOk "int" := by unfold KitOk; decide +kernel
theorem kit_str : KitOk "str" := by unfold KitOk; decide +kernel
theorem tyS_mem {d : D} {t : String} (h : tyS d = some t) : t ∈ ["NoneType", "bool", "int", "str", "tuple", "list"] := by
  cases d <;> cases h <;> decide
section
variable {X : Cx} {c : C} {a : Expr} {wa : WD} {pos p p2 : Pos} {x y : Str}
theorem se_isi {T : String} (kt : KitOk T) (hK : c.K = X.K) (hg : Gl X "isinstance") (hm : X.mg "isinstance" = none) (hg2 : Gl X y) (hm2 : X.mg y = none) (hv : bootBuiltins y = some (.type T)) (ha : SP X c a wa) (hn : y ≠ "__name__" := by decide) (hdb : (y == ("__debug__" : Str)) = false := by decide)
    (he : starEach [a, .Name y p2] X.env = [(false, eval a X.env), (false, eval (.Name y p2) X.env)] := by rfl) : SE X c (.Call (.Name "isinstance" p) [a, .Name y p2] [] pos) (w1 (fIsi T) wa) := by
  have hb : PE X (.Name y p2) (tC (.ty T)) := pe_bltn hg2 hm2 hv (show RelV (.ty T) (.type T) from rfl) hn hdb
  have he2 : starEach [(.Name y p2 : Expr)] X.env = [(false, eval (.Name y p2) X.env)] := rfl
  refine ⟨.w1 .isi ha.mon, (pe_callB call_isi hg hm (by decide +kernel) (pa_cons ha.run (pa_cons hb pa_nil he2) (by rw [he, he2])) (by decide) (by decide) (by rw [he, he2]) (by rw [he2]; rfl)).wk fun σ H Q h => ?_⟩
  refine run_1 (r := fun v H Q => rIsi X.K [v, .ty T] H Q) .isi (fun ω H σ env tk x v q Q ok rx h hr => ?_) ha h
  unfold fIsi isiB at h
  cases z : tyS x with
  | none => rw [z] at h; exact h.elim
  | some t =>
    rw [z] at h
    have k := kt t (tyS_mem z)
    have ty := rx.tyX ok.sub z
    rw [hK] at ty
    refine ⟨v, .ty T, .type t, .type T, _, rfl, .ty T, ty, kit_ty k, ?_⟩
    simp only [Option.bind_some] at h
    by_cases e1 : t = T
    · rw [if_pos e1] at h ⊢
      exact hr.bl ok h
    · rw [if_neg e1] at h ⊢
      by_cases e2 : (decide (T = "int") && decide (t = "bool")) = true
      · rw [if_pos e2] at h ⊢
        exact hr.bl ok h
      · rw [if_neg e2] at h ⊢
        exact hr.bl ok h
theorem se_isi_bool (hK : c.K = X.K) (hg : Gl X "isinstance") (hm : X.mg "isinstance" = none) (hg2 : Gl X "bool") (hm2 : X.mg "bool" = none) (ha : SP X c a wa)
    (he : starEach [a, .Name "bool" p2] X.env = [(false, eval a X.env), (false, eval (.Name "bool" p2) X.env)] := by rfl) : SE X c (.Call (.Name "isinstance" p) [a, .Name "bool" p2] [] pos) (w1 fIsi_bool wa) := se_isi kit_bool hK hg hm hg2 hm2 (by decide +kernel) ha (he := he)
theorem se_isi_tuple (hK : c.K = X.K) (hg : Gl X "isinstance") (hm : X.mg "isinstance" = none) (hg2 : Gl X "tuple") (hm2 : X.mg "tuple" = none) (ha : SP X c a wa)
    (he : starEach [a, .Name "tuple" p2] X.env = [(false, eval a X.env), (false, eval (.Name "tuple" p2) X.env)] := by rfl) : SE X c (.Call (.Name "isinstance" p) [a, .Name "tuple" p2] [] pos) (w1 fIsi_tuple wa) := se_isi kit_tuple hK hg hm hg2 hm2 (by decide +kernel) ha (he := he)
theorem se_isi_list (hK : c.K = X.K) (hg : Gl X "isinstance") (hm : X.mg "isinstance" = none) (hg2 : Gl X "list") (hm2 : X.mg "list" = none) (ha : SP X c a wa)
    (he : starEach [a, .Name "list" p2] X.env = [(false, eval a X.env), (false, eval (.Name "list" p2) X.env)] := by rfl) : SE X c (.Call (.Name "isinstance" p) [a, .Name "list" p2] [] pos) (w1 fIsi_list wa) := se_isi kit_list hK hg hm hg2 hm2 (by decide +kernel) ha (he := he)
/-- a constant of the module -/
structure Kon (K : PySem.W.Frag) (mg : Str → Option Value) (x : Str) (d : D) : Prop where
  ex : ∃ v u, mg x = some u ∧ RelV v u ∧ ∀ ω, Rep K ω d v
theorem se_k {d : D} (hK : c.K = X.K) (hg : Gl X x) (k : Kon X.K X.mg x d) (hd : (x == ("__debug__" : Str)) = false := by decide) : SE X c (.Name x pos) (wC d) := by
  obtain ⟨v, u, hm, r, h⟩ := k.ex
  exact se_c (pe_glob hg hm r hd) fun ω => by rw [hK]; exact h ω
end
/-! ### the law's own end -/
def sp_law : FSpec := fun ds tk Q => ∃ xs : List Int, ds = [.lst (xs.map D.int)] ∧ xs.length ≤ 63 ∧ tk = none ∧ ∀ t, Q (.val (.bl true)) t
theorem len_law : ∀ ds tk Q, sp_law ds tk Q → ds.length = 1 := fun ds tk Q ⟨n, e, _⟩ => by rw [e]; rfl
theorem law_in {K : PySem.W.Frag} {H : Hp} {a : Addr} {ns : List Int} (hl : ns.length ≤ 63) (hS : SqL K H a (ns.map V.int)) : spD K sp_law [.ref a] H (fun v _ => v = .bl true) fun _ _ _ => False :=
  ⟨⟨none, H⟩, [.lst (ns.map D.int)], none, fun _ _ h => h, .inl ⟨rfl, rfl⟩, Reps.cons (Rep.lst_iff.mpr ⟨a, _, rfl, hS, reps_ints ns⟩) Reps.nil, ns, rfl, hl, rfl, fun t v ω' H' ret => Rep.bl_iff.mp (show Rep K ω' (.bl true) v from ret.v)⟩
end DL
namespace DL
open PySem PySem.Spec PyProof.Rows L2
/-! ### comprehensions of two clauses -/
def lcGo2 (g : WG) (cond : WT) (src1 : WA) (g1 : WG) (cond1 : WT) (elt : WE) (vs vs1 : List Nat) (env : En) : List D → List D → Tk → (List D → Tk → Prop) → Prop
  | [], acc, tk, K => K acc tk
  | d :: ds, acc, tk, K => g d (wipeE env vs) fun e1 => cond e1 tk fun b e2 t2 => e2 = e1 ∧
      if b = true then src1 e1 t2 fun ds1 e3 t3 => e3 = e1 ∧ noOwn e1 vs1 = true ∧ lcGo g1 cond1 elt vs1 e1 ds1 acc t3 fun acc' t4 => lcGo2 g cond src1 g1 cond1 elt vs vs1 env ds acc' t4 K
      else lcGo2 g cond src1 g1 cond1 elt vs vs1 env ds acc t2 K
def wLc2 (src : WA) (g : WG) (cond : WT) (src1 : WA) (g1 : WG) (cond1 : WT) (elt : WE) (vs vs1 : List Nat) : WE := fun env tk Q => src env tk fun ds e t => noOwn e vs = true ∧ lcGo2 g cond src1 g1 cond1 elt vs vs1 e ds [] t fun acc t' => Q (.own acc) e t'
theorem lcGo2_mono {g g1 : WG} {cond cond1 : WT} {src1 : WA} {elt : WE} {vs vs1 : List Nat} {env : En} (mg : ∀ d env Q Q', (∀ e, Q e → Q' e) → g d env Q → g d env Q') (mg1 : ∀ d env Q Q', (∀ e, Q e → Q' e) → g1 d env Q → g1 d env Q') (mc : Mon cond) (mc1 : Mon cond1) (ms1 : Mon src1) (me : Mon elt) {K K' : List D → Tk → Prop} (h : ∀ a t, K a t → K' a t) :
    ∀ (ds acc : List D) (tk : Tk), lcGo2 g cond src1 g1 cond1 elt vs vs1 env ds acc tk K → lcGo2 g cond src1 g1 cond1 elt vs vs1 env ds acc tk K'
  | [], acc, tk, z => h _ _ z
  | d :: ds, acc, tk, z => mg _ _ _ _ (fun e1 z => mc _ _ _ _ (fun b e2 t2 z => ⟨z.1, by
    cases b with
    | true => exact (if_pos rfl).mpr (ms1 _ _ _ _ (fun ds1 e3 t3 z => ⟨z.1, z.2.1, lcGo_mono mg1 mc1 me (fun a t z => lcGo2_mono mg mg1 mc mc1 ms1 me h ds a t z) ds1 acc t3 z.2.2⟩) ((if_pos rfl).mp z.2))
    | false => exact (if_neg Bool.false_ne_true).mpr (lcGo2_mono mg mg1 mc mc1 ms1 me h ds acc t2 ((if_neg Bool.false_ne_true).mp z.2))⟩) z) z
theorem pi_ex {X : Cx} {tg e : Expr} {α : Type} {t : α → TI} (h : ∀ a, PI X tg e (t a)) : PI X tg e fun σ H R => ∃ a, t a σ H R := ⟨fun pins s σ H R I ⟨a, q⟩ => (h a).run pins s σ H R I q⟩
section
variable {X : Cx} {c : C}
/-- the turns of one clause, the list already held -/
theorem lc_inner {J : It} {t : TG} {g : WG} {cond : WT} {elt : WE} {vs us : List Nat} {σ : L2.St} {Qd : Hp → Prop} {ωb ω1 : Wd} {Hb H1 : Hp} {e1 : En} {t1 : Tk} {L : Addr} {ds acc0 : List D} {us0 : List V}
    (ok1 : Ok (c.hold L) ω1 H1 σ e1 t1) (src : Src c.K ω1 J ds) (n0 : c.H0 L = none) (hLb : Hb L = none) (s0 : Stp ωb Hb ω1 H1) (hl0 : H1 L = some (.lst us0)) (r0 : Reps c.K ω1 acc0 us0) (hus : ∀ i ∈ us, i ∈ vs) (hno : noOwn e1 vs = true)
    (mg : ∀ d env Q Q', (∀ e, Q e → Q' e) → g d env Q → g d env Q') (lg : ∀ d env Q, g d env Q → g d env fun e => Offl us env e ∧ Q e)
    (rg : ∀ c' : C, c'.K = c.K → ∀ (σ : L2.St) (H : Hp) (v : V) (Q : L2.St → Hp → Prop) (ω : Wd) (env : En) (tk : Tk) (d : D), Ok c' ω H σ env tk → Rep c'.K ω d v → g d env (fun env' => ∀ σ', Off us σ σ' → Ok c' ω H σ' env' tk → Q σ' H) → t v σ H Q)
    (mc : Mon cond) (me : Mon elt) {K : List D → Tk → Prop} (z : lcGo g cond elt vs e1 ds acc0 t1 K)
    (hK : ∀ acc t' ω' H' (us : List V), K acc t' → ω1.le ω' → Stp ωb Hb ω' H' → Ok (c.hold L) ω' H' σ e1 t' → H' L = some (.lst us) → Reps c.K ω' acc us → Qd H') :
    ∃ W : Nat → Nat → Hp → Prop, (∃ m, W 0 m H1) ∧ ∀ i m H, W i m H →
      (J.stop i H ∧ Qd H) ∨ (J.go i H ∧ ∃ Nx : Hp → Prop, (∀ H', Nx H' → ∃ m', m' < m ∧ W (i + 1) m' H') ∧ ∀ x H', J.yld i H x H' → t x (wipe σ vs) H' fun σ2 H2 => wipe σ2 vs = wipe σ vs ∧ (fun σ H Q => ∃ L, liftT (c.hold L) cond σ H Q) σ2 H2 fun b H3 =>
        if b = true then (fun σ H Q => ∃ L, liftE (c.hold L) elt σ H Q) σ2 H3 fun y H4 => ∃ acc, H4 L = some (.lst acc) ∧ acc.length < sizeLine ∧ Nx (upd H4 L (.lst (acc ++ [y]))) else Nx H3) := by
  have hown := noOwn_at hno
  refine ⟨fun i m H => m = ds.length - i ∧ ∃ ω' t' acc us, ω1.le ω' ∧ Stp ωb Hb ω' H ∧ Ok (c.hold L) ω' H σ e1 t' ∧ H L = some (.lst us) ∧ Reps c.K ω' acc us ∧ lcGo g cond elt vs e1 (ds.drop i) acc t' K, ⟨ds.length, rfl, ω1, t1, acc0, us0, .refl _, s0, ok1, hl0, r0, z⟩, fun i m H ⟨hm, ω2, t2, acc, us2, le2, s2, ok2, hl2, r2, z2⟩ => ?_⟩
  obtain ⟨j1, j2, j3⟩ := src i ω2 H le2 ok2.sub
  by_cases hi : i < ds.length
  · refine .inr ⟨j1 hi, fun H => m = ds.length - i ∧ ∃ ω' t' acc us, ω1.le ω' ∧ Stp ωb Hb ω' H ∧ Ok (c.hold L) ω' H σ e1 t' ∧ H L = some (.lst us) ∧ Reps c.K ω' acc us ∧ lcGo g cond elt vs e1 (ds.drop (i + 1)) acc t' K, fun H' ⟨_, h⟩ => ⟨ds.length - (i + 1), by omega, rfl, h⟩, fun x H' y => ?_⟩
    obtain ⟨rfl, hx⟩ := j3 x H' y
    have hd : ds.drop i = ds[i] :: ds.drop (i + 1) := List.drop_eq_getElem_cons hi
    rw [hd] at z2
    refine rg (c.hold L) rfl (wipe σ vs) H' x _ ω2 (wipeE e1 vs) t2 ds[i] (ok2.wipe vs) (hx _ (List.getElem?_eq_getElem hi)) (mg _ _ _ _ (fun e3 ⟨ofl, z3⟩ σ3 off ok3 => ?_) (lg _ _ _ z2))
    have c1 : ∀ j, j ∉ vs → e3[j]? = e1[j]? := fun j h => (ofl.2 j fun q => h (hus j q)).trans (wipeE_out h)
    have c2 : ∀ j, j ∉ vs → σ3[j]? = σ[j]? := fun j h => (off.2 j fun q => h (hus j q)).trans (wipe_off h)
    refine ⟨wipe_same off hus, L, ω2, e3, t2, ok3, mc _ _ _ _ (fun b e4 t4 z4 b' ω4 H4 s4 ok4 hb => ?_) z3⟩
    subst hb
    obtain ⟨rfl, z4⟩ := z4
    have hg2 : ω2.g ≠ some L := (ok2.pr L (.inr rfl)).2.2
    have hl4 : H4 L = some (.lst us2) := s4.fr L _ hl2 hg2
    cases b' with
    | false =>
      refine (if_neg Bool.false_ne_true).mpr ⟨hm, ω4, t4, acc, us2, le2.trans s4.le, s2.trans s4, ok2.back ok4 s4.le c1 c2 hown, hl4, r2.mono s4.le, (if_neg Bool.false_ne_true).mp z4⟩
    | true =>
      refine (if_pos rfl).mpr ⟨L, ω4, e4, t4, ok4, me _ _ _ _ (fun ev e5 t5 z5 y ω5 H5 s5 ok5 r5 => ?_) ((if_pos rfl).mp z4)⟩
      obtain ⟨rfl, zl, z5⟩ := z5
      obtain ⟨ω6, ok6, s6, r6⟩ := give ok5 r5
      have hg4 : ω4.g ≠ some L := (ok4.pr L (.inr rfl)).2.2
      have hl5 : H5 L = some (.lst us2) := s5.fr L _ hl4 hg4
      have s26 : Stp ω2 H' ω6 H5 := (s4.trans s5).trans s6
      have ok7 : Ok (c.hold L) ω6 H5 σ e1 t5 := ok2.back ok6 s26.le c1 c2 hown
      refine ⟨us2, hl5, by rw [r2.length]; exact zl, hm, ω6, t5, acc ++ [ev.d], us2 ++ [y], le2.trans s26.le, ⟨(s2.trans s26).le, fun b o h n => ?_, (s2.trans s26).ng⟩, ok7.turnP n0 _, upd_same, (r2.mono s26.le).append (Reps.cons r6 Reps.nil), z5⟩
      rw [upd_ne (ne_of_none h hLb)]
      exact (s2.trans s26).fr b o h n
  · refine .inl ⟨j2 (by omega), ?_⟩
    rw [List.drop_eq_nil_of_le (by omega)] at z2
    exact hK acc t2 ω2 H us2 z2 le2 s2 ok2 hl2 r2
theorem run_lc2 {tg it tg1 it1 : Expr} {X' : Cx} {wi : TI} {wi1 : C → TI} {src src1 : WA} {t t1 : TG} {g g1 : WG} {cond cond1 : WT} {elt : WE} {vs us vs1 us1 : List Nat} (hi : SI X c tg it wi src) (hi1 : ∀ c' : C, c'.K = c.K → SI X' c' tg1 it1 (wi1 c') src1) (hus : ∀ i ∈ us, i ∈ vs) (hus1 : ∀ i ∈ us1, i ∈ vs1)
    (mg : ∀ d env Q Q', (∀ e, Q e → Q' e) → g d env Q → g d env Q') (lg : ∀ d env Q, g d env Q → g d env fun e => Offl us env e ∧ Q e)
    (rg : ∀ c' : C, c'.K = c.K → ∀ (σ : L2.St) (H : Hp) (v : V) (Q : L2.St → Hp → Prop) (ω : Wd) (env : En) (tk : Tk) (d : D), Ok c' ω H σ env tk → Rep c'.K ω d v → g d env (fun env' => ∀ σ', Off us σ σ' → Ok c' ω H σ' env' tk → Q σ' H) → t v σ H Q)
    (mg1 : ∀ d env Q Q', (∀ e, Q e → Q' e) → g1 d env Q → g1 d env Q') (lg1 : ∀ d env Q, g1 d env Q → g1 d env fun e => Offl us1 env e ∧ Q e)
    (rg1 : ∀ c' : C, c'.K = c.K → ∀ (σ : L2.St) (H : Hp) (v : V) (Q : L2.St → Hp → Prop) (ω : Wd) (env : En) (tk : Tk) (d : D), Ok c' ω H σ env tk → Rep c'.K ω d v → g1 d env (fun env' => ∀ σ', Off us1 σ σ' → Ok c' ω H σ' env' tk → Q σ' H) → t1 v σ H Q)
    (mc : Mon cond) (mc1 : Mon cond1) (me : Mon elt) {σ : L2.St} {H : Hp} {Q : VK} (h : liftE c (wLc2 src g cond src1 g1 cond1 elt vs vs1) σ H Q) :
    tLc2 wi t (fun σ H Q => ∃ L, liftT (c.hold L) cond σ H Q) (fun σ H R => ∃ L, wi1 (c.hold L) σ H R) t1 (fun σ H Q => ∃ L, liftT (c.hold L) cond1 σ H Q) (fun σ H Q => ∃ L, liftE (c.hold L) elt σ H Q) vs vs1 σ H Q := by
  obtain ⟨ω, env, tk, ok, q⟩ := h
  refine hi.run σ H _ ⟨ω, env, tk, ok, hi.mon _ _ _ _ (fun ds e1 tk1 z J ω1 H1 st ok1 srcJ L hL => ?_) q⟩
  obtain ⟨hno, z⟩ := z
  have n0 : c.H0 L = none := ok1.noH0 hL
  have hown := noOwn_at hno
  refine ⟨fun i m Hz => m = ds.length - i ∧ ∃ ω' t' acc us, Stp ω1 H1 ω' Hz ∧ Ok (c.hold L) ω' Hz σ e1 t' ∧ Hz L = some (.lst us) ∧ Reps c.K ω' acc us ∧ lcGo2 g cond src1 g1 cond1 elt vs vs1 e1 (ds.drop i) acc t' (fun acc t' => ∀ v ω' H', Stp ω H ω' H' → Ok c ω' H' σ e1 t' → RepE c ω' H' σ e1 (.own acc) v → Q v H'), ⟨ds.length, rfl, ω1, tk1, [], [], .newL hL _, ok1.hold hL _, upd_same, .nil, ?_⟩, fun i m H2 ⟨hm, ω2, t2, acc, us2, s2, ok2, hl2, r2, z2⟩ => ?_⟩
  · exact z
  obtain ⟨j1, j2, j3⟩ := srcJ i ω2 H2 s2.le ok2.sub
  by_cases hlt : i < ds.length
  · refine .inr ⟨j1 hlt, fun Hz => m = ds.length - i ∧ ∃ ω' t' acc us, Stp ω1 H1 ω' Hz ∧ Ok (c.hold L) ω' Hz σ e1 t' ∧ Hz L = some (.lst us) ∧ Reps c.K ω' acc us ∧ lcGo2 g cond src1 g1 cond1 elt vs vs1 e1 (ds.drop (i + 1)) acc t' _, fun H' ⟨_, h⟩ => ⟨ds.length - (i + 1), by omega, rfl, h⟩, fun x H' y => ?_⟩
    obtain ⟨rfl, hx⟩ := j3 x H' y
    have hd : ds.drop i = ds[i] :: ds.drop (i + 1) := List.drop_eq_getElem_cons hlt
    rw [hd] at z2
    refine rg (c.hold L) rfl (wipe σ vs) H' x _ ω2 (wipeE e1 vs) t2 ds[i] (ok2.wipe vs) (hx _ (List.getElem?_eq_getElem hlt)) (mg _ _ _ _ (fun e3 ⟨ofl, z3⟩ σ3 off ok3 => ?_) (lg _ _ _ z2))
    have c1 : ∀ j, j ∉ vs → e3[j]? = e1[j]? := fun j h => (ofl.2 j fun q => h (hus j q)).trans (wipeE_out h)
    have c2 : ∀ j, j ∉ vs → σ3[j]? = σ[j]? := fun j h => (off.2 j fun q => h (hus j q)).trans (wipe_off h)
    refine ⟨wipe_same off hus, L, ω2, e3, t2, ok3, mc _ _ _ _ (fun b e4 t4 z4 b' ω4 H4 s4 ok4 hb => ?_) z3⟩
    subst hb
    obtain ⟨rfl, z4⟩ := z4
    have hg2 : ω2.g ≠ some L := (ok2.pr L (.inr rfl)).2.2
    have hl4 : H4 L = some (.lst us2) := s4.fr L _ hl2 hg2
    cases b' with
    | false =>
      refine (if_neg Bool.false_ne_true).mpr ⟨hm, ω4, t4, acc, us2, s2.trans s4, ok2.back ok4 s4.le c1 c2 hown, hl4, r2.mono s4.le, (if_neg Bool.false_ne_true).mp z4⟩
    | true =>
      refine (if_pos rfl).mpr ⟨L, (hi1 (c.hold L) rfl).run σ3 H4 _ ⟨ω4, e4, t4, ok4, (hi1 (c.hold L) rfl).mon _ _ _ _ (fun ds1 e5 t5 z5 J1 ω5 H5 s5 ok5 src5 => ?_) ((if_pos rfl).mp z4)⟩⟩
      obtain ⟨rfl, hno1, z5⟩ := z5
      have hg4 : ω4.g ≠ some L := (ok4.pr L (.inr rfl)).2.2
      have hl5 : H5 L = some (.lst us2) := s5.fr L _ hl4 hg4
      have s25 : Stp ω1 H1 ω5 H5 := (s2.trans s4).trans s5
      refine lc_inner (c := c) ok5 src5 n0 hL s25 hl5 (r2.mono (s4.le.trans s5.le)) hus1 hno1 mg1 lg1 rg1 mc1 me z5 fun acc' t6 ω6 H6 us6 k6 le6 s6 ok6 hl6 r6 => ?_
      exact ⟨hm, ω6, t6, acc', us6, s6, ok2.back ok6 ((s4.le.trans s5.le).trans le6) c1 c2 hown, hl6, r6, k6⟩
  · refine .inl ⟨j2 (by omega), ?_⟩
    rw [List.drop_eq_nil_of_le (by omega)] at z2
    obtain ⟨p1, p2, p3⟩ := ok2.pr L (.inr rfl)
    exact z2 _ ω2 H2 (st.trans s2) ok2.unhold ⟨L, rfl, ⟨us2, hl2, p2, p3, ⟨ok1.noH0 hL, ok1.nopr hL⟩, r2⟩, fun i es he hp => by
      obtain ⟨v, g1, q, rfl, vs, a1, a2, a3, a4, a5⟩ := ok2.slots i _ he
      rw [hp] at g1
      cases g1
      exact a4.2 (.inr rfl)⟩
structure SLc2 (X : Cx) (c : C) (scope : Scope) (own : List (Str × Nat)) (vs1 : List Nat) (tg : Expr) (t : TG) (g : WG) (us : List Nat) (ifs : List Expr) (cond : WT) (tg1 it1 : Expr) (wi1 : C → TI) (src1 : WA) (t1 : TG) (g1 : WG) (us1 : List Nat) (ifs1 : List Expr) (cond1 : WT) (elt : Expr) (w : WE) : Prop where
  ok : BlkOk X.N X.env.scope scope own
  tgt : ∀ (c' : C) (hK : c'.K = c.K) (s : Shared) (H : Hp) (C : Addr) (cl : List (Str × Addr)) (fp : List Addr), SG (cxb X scope s H C cl fp) c' tg t g us
  ifs : ∀ (c' : C) (hK : c'.K = c.K) (s : Shared) (H : Hp) (C : Addr) (cl : List (Str × Addr)) (fp : List Addr), STs (cxb X scope s H C cl fp) c' ifs cond
  src : ∀ (c' : C) (hK : c'.K = c.K) (s : Shared) (H : Hp) (C : Addr) (cl : List (Str × Addr)) (fp : List Addr), SI (cxb X scope s H C cl fp) c' tg1 it1 (wi1 c') src1
  tgt1 : ∀ (c' : C) (hK : c'.K = c.K) (s : Shared) (H : Hp) (C : Addr) (cl : List (Str × Addr)) (fp : List Addr), SG (cxb X scope s H C cl fp) c' tg1 t1 g1 us1
  ifs1 : ∀ (c' : C) (hK : c'.K = c.K) (s : Shared) (H : Hp) (C : Addr) (cl : List (Str × Addr)) (fp : List Addr), STs (cxb X scope s H C cl fp) c' ifs1 cond1
  elt : ∀ (c' : C) (hK : c'.K = c.K) (s : Shared) (H : Hp) (C : Addr) (cl : List (Str × Addr)) (fp : List Addr), SE (cxb X scope s H C cl fp) c' elt w
  sub : ∀ i ∈ us, i ∈ own.map (·.2)
  sub1 : ∀ i ∈ us1, i ∈ vs1
  subv : ∀ i ∈ vs1, i ∈ own.map (·.2)
theorem Mon.lc2 {src src1 : WA} {g g1 : WG} {cond cond1 : WT} {elt : WE} {vs vs1 : List Nat} (ms : Mon src) (mg : ∀ d env Q Q', (∀ e, Q e → Q' e) → g d env Q → g d env Q') (mg1 : ∀ d env Q Q', (∀ e, Q e → Q' e) → g1 d env Q → g1 d env Q') (mc : Mon cond) (mc1 : Mon cond1) (ms1 : Mon src1) (me : Mon elt) : Mon (wLc2 src g cond src1 g1 cond1 elt vs vs1) := fun env tk Q Q' h q =>
  ms _ _ _ _ (fun ds e t z => ⟨z.1, lcGo2_mono mg mg1 mc mc1 ms1 me (fun a t' z => h _ _ _ z) ds [] t z.2⟩) q
variable {tg it tg1 it1 elt : Expr} {ifs ifs1 : List Expr} {scope : Scope} {own : List (Str × Nat)} {vs1 : List Nat} {pos : Pos} {wi : TI} {wi1 : C → TI} {src src1 : WA} {t t1 : TG} {g g1 : WG} {cond cond1 : WT} {w : WE} {us us1 : List Nat}
theorem se_lc2 (s0 : Shared) (hc : X.calm = true) (hN : X.N.Nodup) (hi : SI X c tg it wi src) (h : SLc2 X c scope own vs1 tg t g us ifs cond tg1 it1 wi1 src1 t1 g1 us1 ifs1 cond1 elt w) (hs : ∀ x, foldedSetIterable it X.env x = pure x := by intro _; rfl) (hs1 : ∀ env x, foldedSetIterable it1 env x = pure x := by intro _ _; rfl) :
    SE X c (.ListComp elt [⟨tg, it, ifs, 0⟩, ⟨tg1, it1, ifs1, 0⟩] scope pos) (wLc2 src g cond src1 g1 cond1 w (own.map (·.2)) vs1) := by
  have g0 := h.tgt c rfl s0 (fun _ => none) 0 [] []
  have c0 := h.ifs c rfl s0 (fun _ => none) 0 [] []
  have e0 := h.elt c rfl s0 (fun _ => none) 0 [] []
  have g10 := h.tgt1 c rfl s0 (fun _ => none) 0 [] []
  have c10 := h.ifs1 c rfl s0 (fun _ => none) 0 [] []
  have i10 := h.src c rfl s0 (fun _ => none) 0 [] []
  refine ⟨.lc2 hi.mon g0.mon g10.mon c0.mon c10.mon i10.mon e0.mon, (pe_lc2 hc hN hi.pi h.ok h.subv (fun s H C cl fp => (h.tgt c rfl s H C cl fp).pg) (fun s H C cl fp => pts_ex fun L => (h.ifs (c.hold L) rfl s H C cl fp).run) (fun s H C cl fp => pi_ex fun L => (h.src (c.hold L) rfl s H C cl fp).pi) (fun s H C cl fp => (h.tgt1 c rfl s H C cl fp).pg) (fun s H C cl fp => pts_ex fun L => (h.ifs1 (c.hold L) rfl s H C cl fp).run) (fun s H C cl fp => pe_ex fun L => (h.elt (c.hold L) rfl s H C cl fp).run) hs hs1).wk fun σ H Q q => ?_⟩
  exact run_lc2 hi (fun c' hK => h.src c' hK s0 (fun _ => none) 0 [] []) h.sub h.sub1 g0.mon g0.loc (fun c' hK => (h.tgt c' hK s0 (fun _ => none) 0 [] []).run) g10.mon g10.loc (fun c' hK => (h.tgt1 c' hK s0 (fun _ => none) 0 [] []).run) c0.mon c10.mon e0.mon q
theorem ss_setLc2 {i : Nat} {y : Str} {py spos : Pos} (s0 : Shared) (hc : X.calm = true) (hN : X.N.Nodup) (hy : X.N[i]? = some y) (hyl : X.env.scope.names.lookup y = some .local)
    (hsw : swapsWith (.ListComp elt [⟨tg, it, ifs, 0⟩, ⟨tg1, it1, ifs1, 0⟩] scope pos) (some (.Name y py)) spos.line X.env = pure true) (hi : SI X c tg it wi src) (h : SLc2 X c scope own vs1 tg t g us ifs cond tg1 it1 wi1 src1 t1 g1 us1 ifs1 cond1 elt w) (hs : ∀ x, foldedSetIterable it X.env x = pure x := by intro _; rfl) (hs1 : ∀ env x, foldedSetIterable it1 env x = pure x := by intro _ _; rfl) :
    SS X c (.Assign [.Name y py] (.ListComp elt [⟨tg, it, ifs, 0⟩, ⟨tg1, it1, ifs1, 0⟩] scope pos) spos) (wSet i (wLc2 src g cond src1 g1 cond1 w (own.map (·.2)) vs1)) := by
  have g0 := h.tgt c rfl s0 (fun _ => none) 0 [] []
  have c0 := h.ifs c rfl s0 (fun _ => none) 0 [] []
  have e0 := h.elt c rfl s0 (fun _ => none) 0 [] []
  have g10 := h.tgt1 c rfl s0 (fun _ => none) 0 [] []
  have c10 := h.ifs1 c rfl s0 (fun _ => none) 0 [] []
  have i10 := h.src c rfl s0 (fun _ => none) 0 [] []
  have m : Mon (wLc2 src g cond src1 g1 cond1 w (own.map (·.2)) vs1) := .lc2 hi.mon g0.mon g10.mon c0.mon c10.mon i10.mon e0.mon
  refine ⟨.set m, (ps_setLc2 hc hN hy hyl hsw hi.pi h.ok h.subv (fun s H C cl fp => (h.tgt c rfl s H C cl fp).pg) (fun s H C cl fp => pts_ex fun L => (h.ifs (c.hold L) rfl s H C cl fp).run) (fun s H C cl fp => pi_ex fun L => (h.src (c.hold L) rfl s H C cl fp).pi) (fun s H C cl fp => (h.tgt1 c rfl s H C cl fp).pg) (fun s H C cl fp => pts_ex fun L => (h.ifs1 (c.hold L) rfl s H C cl fp).run) (fun s H C cl fp => pe_ex fun L => (h.elt (c.hold L) rfl s H C cl fp).run) hs hs1).wk fun D σ H q => ?_⟩
  exact run_lc2 hi (fun c' hK => h.src c' hK s0 (fun _ => none) 0 [] []) h.sub h.sub1 g0.mon g0.loc (fun c' hK => (h.tgt c' hK s0 (fun _ => none) 0 [] []).run) g10.mon g10.loc (fun c' hK => (h.tgt1 c' hK s0 (fun _ => none) 0 [] []).run) c0.mon c10.mon e0.mon (run_set m q)
end
end DL
namespace DL
open PySem PySem.Spec PyProof.Rows L2
section
variable {X : Cx} {c : C} {a b d e : Expr} {wa wb wd we : WD} {pos p p2 : Pos}
/-! ### a op b op d op e -/
def tChain3 (r r' r2 : R2) (ta tb tc td : TE) : TE := fun σ H Q => ta σ H fun x H1 => tb σ H1 fun y H2 => r x y H2 fun z H3 => ∃ k, z = .bl k ∧
  (if k = true then tc σ H3 fun y' H4 => r' y y' H4 fun z' H5 => ∃ k', z' = .bl k' ∧ (if k' = true then td σ H5 fun w' H6 => r2 y' w' H6 Q else Q (.bl false) H5) else Q (.bl false) H3)
theorem pe_chain3 {op op' op2 : CmpOp} {r r' r2 : R2} {ta tb tc td : TE} (ho : OpR X (compareOp op) r) (ho' : OpR X (compareOp op') r') (ho2 : OpR X (compareOp op2) r2) (ha : PE X a ta) (hb : PE X b tb) (hc : PE X d tc) (hd : PE X e td)
    (hm : lastMarks [op, op', op2] [b, d, e] = false := by with_unfolding_all rfl) : PE X (.Compare a [op, op', op2] [b, d, e] pos) (tChain3 r r' r2 ta tb tc td) := by
  refine ⟨fun pins s σ H Q I h => ?_⟩
  refine Compare_chain (thn (ha.run pins s σ H _ I h) fun v s1 ⟨x, H1, I1, r1, q1⟩ => chain_link (thn (hb.run pins s1 σ H1 _ I1 q1) fun u s2 ⟨y, H2, I2, rr2, q2⟩ =>
    thn (ho pins s2 σ H2 x y v u _ I2 r1 rr2 q2) fun _ s3 ⟨z, H3, I3, r3, k, ek, q3⟩ => ?_)) hm
  subst ek
  cases r3
  refine wpAny_truthy_bool ?_
  cases k with
  | false => exact ite_ff ⟨.bl false, H3, I3, rfl, q3⟩
  | true =>
    refine ite_tt (chain_link (thn (hc.run pins s3 σ H3 _ I3 q3) fun u' s4 ⟨y', H4, I4, r4, q4⟩ => thn (ho' pins s4 σ H4 y y' u u' _ I4 rr2 r4 q4) fun _ s5 ⟨z', H5, I5, r5, k', ek', q5⟩ => ?_))
    subst ek'
    cases r5
    refine wpAny_truthy_bool ?_
    cases k' with
    | false => exact ite_ff ⟨.bl false, H5, I5, rfl, q5⟩
    | true => exact ite_tt (chain_last (thn (hd.run pins s5 σ H5 _ I5 q5) fun w' s6 ⟨z', H6, I6, r6, q6⟩ => ho2 pins s6 σ H6 y' z' u' w' Q I6 r4 r6 q6))
theorem pt_chain3 {op op' op2 : CmpOp} {r r' r2 : R2} {ta tb tc td : TE} (ho : OpR X (compareOp op) r) (ho' : OpR X (compareOp op') r') (ho2 : OpR X (compareOp op2) r2) (ha : PE X a ta) (hb : PE X b tb) (hc : PE X d tc) (hd : PE X e td)
    (hm : lastMarks [op, op', op2] [b, d, e] = false := by with_unfolding_all rfl) : PT X (.Compare a [op, op', op2] [b, d, e] pos) (tTest (tChain3 r r' r2 ta tb tc td)) := by
  refine ⟨fun pins s σ H Q I h => ?_⟩
  refine isTrue_chain (thn (ha.run pins s σ H _ I h) fun v s1 ⟨x, H1, I1, r1, q1⟩ => test_link (thn (hb.run pins s1 σ H1 _ I1 q1) fun u s2 ⟨y, H2, I2, rr2, q2⟩ =>
    thn (ho pins s2 σ H2 x y v u _ I2 r1 rr2 q2) fun _ s3 ⟨z, H3, I3, r3, k, ek, q3⟩ => ?_)) hm
  subst ek
  cases r3
  refine wpAny_truthy_bool ?_
  cases k with
  | false =>
    obtain ⟨k', e', q'⟩ := q3
    cases e'
    exact ite_ff ⟨H3, I3, q'⟩
  | true =>
    refine ite_tt (test_link (thn (hc.run pins s3 σ H3 _ I3 q3) fun u' s4 ⟨y', H4, I4, r4, q4⟩ => thn (ho' pins s4 σ H4 y y' u u' _ I4 rr2 r4 q4) fun _ s5 ⟨z', H5, I5, r5, k', ek', q5⟩ => ?_))
    subst ek'
    cases r5
    refine wpAny_truthy_bool ?_
    cases k' with
    | false =>
      obtain ⟨k', e', q'⟩ := q5
      cases e'
      exact ite_ff ⟨H5, I5, q'⟩
    | true =>
      refine ite_tt (test_last (thn (hd.run pins s5 σ H5 _ I5 q5) fun w' s6 ⟨z', H6, I6, r6, q6⟩ => thn (ho2 pins s6 σ H6 y' z' u' w' _ I6 r4 r6 q6) fun _ s7 ⟨z2, H7, I7, r7, k2, e2, q7⟩ => ?_))
      subst e2
      cases r7
      exact wpAny_truthy_bool ⟨H7, I7, q7⟩
def wChain3 (f g h : FOp) (a b d e : WD) : WE := fun env tk Q => a env tk fun x e1 t1 => b e1 t1 fun y e2 t2 => f x y fun ev => match ev with
  | .val (.bl k) => if k = true then d e2 t2 fun z e3 t3 => g y z fun ev => (match ev with
      | .val (.bl k) => if k = true then e e3 t3 fun w e4 t4 => h z w fun ev => Q ev e4 t4 else Q (.val (.bl false)) e3 t3
      | _ => False) else Q (.val (.bl false)) e2 t2
  | _ => False
theorem Mon.chain3 {f g h : FOp} {a b d e : WD} (mf : MonF f) (mg : MonF g) (mh : MonF h) (ma : Mon a) (mb : Mon b) (md : Mon d) (me : Mon e) : Mon (wChain3 f g h a b d e) := fun env tk Q Q' hh q =>
  ma _ _ _ _ (fun x e1 t1 h1 => mb _ _ _ _ (fun y e2 t2 h2 => mf _ _ _ _ (fun ev z => by
    cases ev with
    | own ds => exact z
    | val v => cases v <;> first | exact (show False from z).elim | (rename_i k; cases k with
      | true =>
        refine (if_pos rfl).mpr (md _ _ _ _ (fun w e3 t3 h3 => mg _ _ _ _ (fun ev z => ?_) h3) ((if_pos rfl).mp z))
        cases ev with
        | own ds => exact z
        | val v => cases v <;> first | exact (show False from z).elim | (rename_i k; cases k with
          | true => exact (if_pos rfl).mpr (me _ _ _ _ (fun w e4 t4 h4 => mh _ _ _ _ (fun ev => hh ev e4 t4) h4) ((if_pos rfl).mp z))
          | false => exact (if_neg Bool.false_ne_true).mpr (hh _ _ _ ((if_neg Bool.false_ne_true).mp z)))
      | false => exact (if_neg Bool.false_ne_true).mpr (hh _ _ _ ((if_neg Bool.false_ne_true).mp z)))) h2) h1) q
theorem run_chain3 {r r' r2 : R2} {f g h : FOp} (mf : MonF f) (mg : MonF g) (mh : MonF h) (od : OpD c r f) (od' : OpD c r' g) (od2 : OpD c r2 h) (ha : SP X c a wa) (hb : SP X c b wb) (hd : SP X c d wd) (he : SP X c e we) {σ : L2.St} {H : Hp} {Q : VK} (h0 : liftE c (wChain3 f g h wa wb wd we) σ H Q) :
    tChain3 r r' r2 (liftP c wa) (liftP c wb) (liftP c wd) (liftP c we) σ H Q := by
  obtain ⟨ω, env, tk, ok, h0⟩ := h0
  refine ⟨ω, env, tk, ok, ha.mon _ _ _ _ (fun x e1 t1 h1 v ω1 H1 s1 ok1 r1 => ?_) h0⟩
  refine ⟨ω1, e1, t1, ok1, hb.mon _ _ _ _ (fun y e2 t2 h2 u ω2 H2 s2 ok2 r2 => ?_) h1⟩
  refine od ω2 H2 σ e2 t2 x y v u _ _ ok2 (r1.step s2) r2 h2 fun ev v' ω' H' q st ok' r' => ?_
  cases ev with
  | own ds => exact (show False from q).elim
  | val dd => cases dd <;> first
      | exact (show False from q).elim
      | (have r'' := r'.bl
         subst r''
         rename_i k
         refine ⟨k, rfl, ?_⟩
         cases k with
         | false => exact (if_neg Bool.false_ne_true).mpr (((if_neg Bool.false_ne_true).mp q) _ ω' H' ((s1.trans s2).trans st) ok' RepE.mkbl)
         | true =>
           refine (if_pos rfl).mpr ⟨ω', e2, t2, ok', hd.mon _ _ _ _ (fun z e3 t3 h3 w ω3 H3 s3 ok3 r3 => ?_) ((if_pos rfl).mp q)⟩
           refine od' ω3 H3 σ e3 t3 y z u w _ _ ok3 ((r2.step st).step s3) r3 h3 fun ev2 v2 ω4 H4 q4 st4 ok4 r4 => ?_
           cases ev2 with
           | own ds => exact (show False from q4).elim
           | val dd2 => cases dd2 <;> first
               | exact (show False from q4).elim
               | (have r4' := r4.bl
                  subst r4'
                  rename_i k4
                  refine ⟨k4, rfl, ?_⟩
                  cases k4 with
                  | false => exact (if_neg Bool.false_ne_true).mpr (((if_neg Bool.false_ne_true).mp q4) _ ω4 H4 ((((s1.trans s2).trans st).trans s3).trans st4) ok4 RepE.mkbl)
                  | true =>
                    refine (if_pos rfl).mpr ⟨ω4, e3, t3, ok4, he.mon _ _ _ _ (fun z5 e5 t5 h5 w5 ω5 H5 s5 ok5 r5 => ?_) ((if_pos rfl).mp q4)⟩
                    exact od2 ω5 H5 σ e5 t5 z z5 w w5 _ Q ok5 ((r3.step st4).step s5) r5 h5 fun ev v' ω' H' q st' ok' r' => q v' ω' H' ((((((s1.trans s2).trans st).trans s3).trans st4).trans s5).trans st') ok' r'))
theorem se_chain3 {op op' op2 : CmpOp} {r r' r2 : R2} {f g h : FOp} (ho : OpR X (compareOp op) r) (ho' : OpR X (compareOp op') r') (ho2 : OpR X (compareOp op2) r2) (mf : MonF f) (mg : MonF g) (mh : MonF h) (od : OpD c r f) (od' : OpD c r' g) (od2 : OpD c r2 h) (ha : SP X c a wa) (hb : SP X c b wb) (hd : SP X c d wd) (he : SP X c e we)
    (hm : lastMarks [op, op', op2] [b, d, e] = false := by with_unfolding_all rfl) : SE X c (.Compare a [op, op', op2] [b, d, e] pos) (wChain3 f g h wa wb wd we) :=
  ⟨.chain3 mf mg mh ha.mon hb.mon hd.mon he.mon, (pe_chain3 ho ho' ho2 ha.run hb.run hd.run he.run hm).wk fun _ _ _ q => run_chain3 mf mg mh od od' od2 ha hb hd he q⟩
theorem st_chain3 {op op' op2 : CmpOp} {r r' r2 : R2} {f g h : FOp} (ho : OpR X (compareOp op) r) (ho' : OpR X (compareOp op') r') (ho2 : OpR X (compareOp op2) r2) (mf : MonF f) (mg : MonF g) (mh : MonF h) (od : OpD c r f) (od' : OpD c r' g) (od2 : OpD c r2 h) (ha : SP X c a wa) (hb : SP X c b wb) (hd : SP X c d wd) (he : SP X c e we)
    (hm : lastMarks [op, op', op2] [b, d, e] = false := by with_unfolding_all rfl) : ST X c (.Compare a [op, op', op2] [b, d, e] pos) (wT (wChain3 f g h wa wb wd we)) :=
  ⟨(Mon.chain3 mf mg mh ha.mon hb.mon hd.mon he.mon).t, (pt_chain3 ho ho' ho2 ha.run hb.run hd.run he.run hm).wk fun _ _ _ q => run_chain3 mf mg mh od od' od2 ha hb hd he (liftE_bl (.chain3 mf mg mh ha.mon hb.mon hd.mon he.mon) q)⟩

/-! ### a list just made, appended to and dropped -/
theorem Ok.holdOwn {ω : Wd} {H : Hp} {σ : L2.St} {env : En} {tk : Tk} {q : Addr} {ds : List D} (ok : Ok c ω H σ env tk) (o : OwnAt c ω H q ds) (hn : ∀ (i : Nat) (es : List D), env[i]? = some (some (.own es)) → σ[i]? ≠ some (some (.ref q))) : Ok (c.hold q) ω H σ env tk where
  len := ok.len
  sub := ok.sub
  st := ok.st
  slots := fun i e he => by
    obtain ⟨v, g1, g2⟩ := ok.slots i e he
    refine ⟨v, g1, ?_⟩
    cases e with
    | val d => exact g2
    | own ds =>
      obtain ⟨t, rfl, us, a1, a2, a3, a4, a5⟩ := g2
      refine ⟨t, rfl, us, a1, a2, a3, ⟨a4.1, fun z => ?_⟩, a5⟩
      rcases z with z | z
      · exact a4.2 z
      · subst z
        exact hn i ds he g1
  dist := ok.dist
  new := ok.new
  ng := ok.ng
  fr := ok.fr
  le0 := ok.le0
  pr := fun b z => by
    rcases z with z | z
    · exact ok.pr b z
    · subst z
      obtain ⟨us, a1, a2, a3, a4, a5⟩ := o
      exact ⟨by rw [a1]; exact fun z => (nomatch z), a2, a3⟩
def wAppX (w : WE) (u : WD) : WS := fun P env tk => w env tk fun ev e t => match ev with
  | .own ds => ds.length < sizeLine ∧ u e t fun _ e' t' => P.nx e' t'
  | _ => False
theorem ss_appX {apos : Pos} {w : WE} {u : WD} (hw : SE X c e w) (hv : ∀ c' : C, c'.K = c.K → SD X c' a u) (hline : (apos.endLine == pos.line) = true := by rfl) (hs : starEach [a] X.env = [(false, eval a X.env)] := by rfl)
    (hsw : swapsWith (.Call (.Attribute e "append" apos) [a] [] pos) none p2.line X.env = pure false := by rfl) (hbase : attributeBase e "append" X.env (eval e X.env) = eval e X.env := by rfl)
    (hfew : ((backTo pos (starEach [a] X.env)).all (fun x => !x.1) && (backToKw pos (keywordEach [] X.env)).all (fun x => x.1.isSome)
      && decide (([a] : List Expr).length + ([] : List Keyword).length + (if ([] : List Keyword).isEmpty then 0 else 1) < 30)) = true := by rfl) : SS X c (.Expr (.Call (.Attribute e "append" apos) [a] [] pos) p2) (wAppX w u) := by
  have m1 := (hv c rfl).mon
  have hv' : PE X a fun σ H Q => ∃ q, liftD (c.hold q) u σ H Q := pe_ex fun q => (hv (c.hold q) rfl).run
  refine ⟨fun P P' env tk l q => hw.mon _ _ _ _ (fun ev e t z => by cases ev <;> first | exact (show False from z).elim | exact ⟨z.1, m1 _ _ _ _ (fun _ _ _ z => l.nx _ _ z) z.2⟩) q, (ps_expr (pe_bm PySem.F.plainAttrs_list PySem.F.slot_list_append PySem.F.type_list_append mt_append hw.run (pa_cons hv' pa_nil hs) hbase hfew hline hs rfl) hsw).wk fun D σ H ⟨ω, env, tk, ok, q⟩ => ?_⟩
  refine ⟨ω, env, tk, ok, hw.mon _ _ _ _ (fun ev e1 t1 z u1 ω' H' st ok' r => ?_) q⟩
  cases ev with
  | val d => exact (show False from z).elim
  | own ds =>
    obtain ⟨q1, rfl, o, hn⟩ := r
    have o' := o
    obtain ⟨vs, b1, b2, b3, b4, b5⟩ := o
    obtain ⟨z1, z2⟩ := z
    refine ⟨.inl ⟨rfl, _, .of b1⟩, q1, ω', e1, t1, ok'.holdOwn o' hn, m1 _ _ _ _ (fun d e2 t2 z v ω2 H2 s2 ok2 r2 => ?_) z2⟩
    obtain ⟨p1, p2, p3⟩ := ok2.pr q1 (.inr rfl)
    have hl2 : H2 q1 = some (.lst vs) := s2.fr q1 _ b1 b3
    refine ⟨q1, vs, v, rfl, rfl, hl2, by rw [b5.length]; exact z1, z σ ω2 _ (st.le.trans s2.le) ?_⟩
    exact (ok2.turnP b4.1 _).unhold
end
end DL
namespace DL
open PySem PySem.Spec PyProof.Rows L2
/-! ### a, b = x, a tuple or a list -/
def gU (n : Nat) (g : WGs) : WG := fun d env Q => match d with
  | .tup ds => ds.length = n ∧ g ds env Q
  | .lst ds => ds.length = n ∧ g ds env Q
  | _ => False
section
variable {X : Cx} {c : C} {pos : Pos}
theorem sg_any {es : List Expr} {k n : Nat} {t : TGs} {g : WGs} {vs : List Nat} (hK : c.K = X.K) (hc : X.calm = true) (hg : SGs X c es t g vs) (hn : (assignEach es X.env).length = n := by rfl) (hst : (assignEach es X.env).findIdx? (·.1) = none := by rfl) : SG X c (.Tuple es k pos) (fun v σ H Q => gTup X.K n t v σ H Q ∨ gLst X.K n t v σ H Q) (gU n g) vs where
  mon := fun d env Q Q' k q => by cases d <;> first | exact (show False from q).elim | exact ⟨q.1, hg.mon _ _ _ _ k q.2⟩
  loc := fun d env Q q => by cases d <;> first | exact (show False from q).elim | exact ⟨q.1, hg.loc _ _ _ q.2⟩
  pg := ⟨fun pins s σ H v u Q I r hw => hw.elim (fun h => (pg_tup hc hg.pg hn hst).run pins s σ H v u Q I r h) (fun h => (pg_lst hc hg.pg hn hst).run pins s σ H v u Q I r h)⟩
  run := fun σ H v Q ω env tk d ok r q => by
    cases d <;> first | exact (show False from q).elim | skip
    · obtain ⟨a, vs, rfl, h1, h2⟩ := Rep.tup_iff.mp r
      rw [hK] at h1
      exact .inl ⟨a, vs, rfl, sqT_mono ok.sub h1, by rw [h2.length]; exact q.1, hg.run σ H vs Q ω env tk _ ok h2 q.2⟩
    · obtain ⟨a, vs, rfl, h1, h2⟩ := Rep.lst_iff.mp r
      rw [hK] at h1
      exact .inr ⟨a, vs, rfl, sqL_mono ok.sub h1, by rw [h2.length]; exact q.1, hg.run σ H vs Q ω env tk _ ok h2 q.2⟩
end
end DL
namespace DL
open PySem PySem.Spec PyProof.Rows L2
/-! ### sorted, of data of any make -/
section
variable {β : Type} {K : PySem.W.Frag} {H : Hp}
/-- what the items stand for -/
structure Pz (K : PySem.W.Frag) (H : Hp) (val : β → V) (enc : β → PyData) (bs : List β) : Prop where
  dp : ∀ b ∈ bs, Dp K H (val b) (enc b)
theorem each_vals {val : β → V} : ∀ {bs : List β} {us : List Value}, Vals (bs.map val) us → PySem.W.EachIs (fun u b => RelV (val b) u) us bs
  | [], _, .nil => .nil
  | _ :: _, _, .cons r t => .cons r (each_vals t)
theorem vals_each {val : β → V} : ∀ {bs : List β} {us : List Value}, PySem.W.EachIs (fun u b => RelV (val b) u) us bs → Vals (bs.map val) us
  | _, _, .nil => .nil
  | _, _, .cons r t => .cons r (vals_each t)
variable {X : Cx}
theorem each_reads {pins : List (Addr × Obj)} {s : Shared} {σ : L2.St} {H : Hp} (I : Inv X pins σ H s) {val : β → V} {enc : β → PyData} : ∀ {bs : List β} {us : List Value}, (∀ b ∈ bs, Dp X.K H (val b) (enc b)) → Vals (bs.map val) us → PySem.W.EachIs (fun u b => ∃ as, Reads s.heap u (enc b) as) us bs
  | [], _, _, .nil => .nil
  | b :: _, _, h, .cons r t => .cons (Dp.reads I _ _ _ (h b List.mem_cons_self) r) (each_reads I (fun b hb => h b (List.mem_cons_of_mem _ hb)) t)
def rSortedD (β : Type) (K : PySem.W.Frag) : List V → Hp → VK → Prop := fun xs H Q => ∃ (l : Addr) (bs : List β) (val : β → V) (enc : β → PyData), xs = [V.ref l] ∧ SqL K H l (bs.map val) ∧ (∀ b ∈ bs, Dp K H (val b) (enc b)) ∧ PySem.W.AllAlike (bs.map enc) ∧ PySem.W.Sortable (bs.map enc) ∧ (∀ b ∈ bs, (enc b).depth ≤ 60) ∧
  ∀ p, H p = none → Q (.ref p) (upd H p (.lst ((bs.mergeSort (PySem.W.dataLe false enc)).map val)))
theorem cr_sortedD (hu : X.A.units + 100 < cLine) : CallR X (.builtin "sorted") (rSortedD β X.K) := by
  intro pins s σ H xs us Q I r h
  obtain ⟨l, bs, val, enc, rfl, hl, hd, hal, hk, hdep, q⟩ := h
  rw [Vals.ref1 r]
  obtain ⟨its, rv, p, hz⟩ := I.list hl
  rw [List.length_map] at hz
  refine PySem.W.sorted_data (enc := enc) p.isList (each_vals rv) (each_reads I hd rv) hal hk hz (fun b hb => by have := hdep b hb; omega) fun out ho he => ?_
  obtain ⟨ep, he'⟩ := PyProof.Rows.sortedAll_at s.heap its out.toArray
  refine ⟨.ref _, upd H (s.heap.objs.size + 1) (.lst ((bs.mergeSort (PySem.W.dataLe false enc)).map val)), I.laid (t' := s.toks) (fun _ _ => PyProof.Rows.sortedAll_old) (Nat.le_succ _) ⟨?_, out, ep, vals_each he, he'⟩, rfl, q _ (I.hok.fresh (Nat.le_succ _))⟩
  rw [List.length_map, List.length_mergeSort]
  exact hz
end
end DL
namespace DL
open PySem PySem.Spec PyProof.Rows L2
/-! ### sorted, of whatever has been gathered -/
theorem each_perm {α β : Type} {R : α → β → Prop} : ∀ {vs us : List α}, us.Perm vs → ∀ {bs : List β}, PySem.W.EachIs R vs bs → ∃ cs : List β, cs.Perm bs ∧ PySem.W.EachIs R us cs := by
  intro vs us h
  induction h with
  | nil => intro bs e; exact ⟨bs, .refl _, e⟩
  | cons x p ih =>
    intro bs e
    cases e with
    | cons r t =>
      obtain ⟨cs, hp, he⟩ := ih t
      exact ⟨_ :: cs, hp.cons _, .cons r he⟩
  | swap x y l =>
    intro bs e
    cases e with
    | cons r t =>
      cases t with
      | cons r2 t2 => exact ⟨_ :: _ :: _, .swap _ _ _, .cons r2 (.cons r t2)⟩
  | trans p1 p2 ih1 ih2 =>
    intro bs e
    obtain ⟨cs, hp, he⟩ := ih2 e
    obtain ⟨ds, hp2, he2⟩ := ih1 he
    exact ⟨ds, hp2.trans hp, he2⟩
section
variable {prog : Program} {w : World} {A : Around} {E : Value → Shared → Prop} {s : Shared} {β : Type} {bs : List β} {enc : β → PyData} {R : Value → β → Prop}
/-- s' has grown out of s -/
structure Grown (s s' : Shared) : Prop where
  old : ∀ b o, s.heap.get? b = some o → s'.heap.get? b = some o
  size : s.heap.objs.size ≤ s'.heap.objs.size
  gens : s'.gens = s.gens
  os : s'.os = s.os
theorem sort_got {src : Addr} {Q : Value → Shared → Prop} (hal : PySem.W.AllAlike (bs.map enc)) (hk : PySem.W.Sortable (bs.map enc)) (hL : bs.length ≤ sizeLine) (hu : ∀ b ∈ bs, A.units + 10 + (enc b).depth < cLine)
    (col : ∀ Q' : List Value → Shared → Prop, (∀ s1 vs cs, Grown s s1 → cs.Perm bs → PySem.W.EachIs R vs cs → PySem.W.EachIs (fun v b => ∃ as, Reads s1.heap v (enc b) as) vs cs → Q' vs s1) → wpAny (model prog w) A.in1 (collect (.ref src)) Q' E s)
    (hQ : ∀ s' p c (out : List Value) (cs : List β), Grown s s' → s.heap.objs.size ≤ p → s'.heap.get? p = some (seqObj "list" out.toArray c) → cs.Perm bs → PySem.W.EachIs R out (cs.mergeSort (PySem.W.dataLe false enc)) → Q (.ref p) s') :
    wpAny (model prog w) A (call (.builtin "sorted") [.ref src]) Q E s := by
  refine Calls.call_function_entry kind_sorted plain_sorted entry_sorted (args_sorted1 _) ?_
  unfold Builtin.«sorted»
  refine wpAny_bind (m := checkCount "sorted" 1 1 _) (wpAny_pure ?_)
  refine wpAny_bind (col _ fun s1 vs cs g pm e er => ?_)
  have vl : vs.length = bs.length := by rw [e.length, pm.length_eq]
  refine wpAny_bind (wpAny_newList ?_ (by rw [vl]; exact hL))
  have there : (s1.heap.push (seqObj "list" vs.toArray 0)).get? s1.heap.objs.size = some (seqObj "list" vs.toArray 0) := Heap.get?_push_size _ rfl
  have keep : ∀ b o, s1.heap.get? b = some o → (PySem.W.sortingHeap (s1.heap.push (seqObj "list" vs.toArray 0)) s1.heap.objs.size vs).get? b = some o := fun b o h =>
    PySem.W.sortingHeap_old (Nat.ne_of_lt (Heap.lt_size h)) (Heap.get?_push_of_some _ h)
  have er2 : PySem.W.EachIs (fun v b => ∃ as, Reads (PySem.W.sortingHeap (s1.heap.push (seqObj "list" vs.toArray 0)) s1.heap.objs.size vs) v (enc b) as) vs cs := er.mono fun _ _ ⟨as, r⟩ => ⟨as, PyProof.Rows.Reads.keeps keep r⟩
  have hal2 : PySem.W.AllAlike (cs.map enc) := fun d hd d' hd' => hal d ((pm.map enc).mem_iff.mp hd) d' ((pm.map enc).mem_iff.mp hd')
  have hk2 : PySem.W.Sortable (cs.map enc) := hk.imp (fun h d hd => h d ((pm.map enc).mem_iff.mp hd)) fun h d hd => h d ((pm.map enc).mem_iff.mp hd)
  refine wpAny_bind (wpAny_holding (wpAny_call_entry slot_list_sort ⟨_, there, rfl⟩ entry_list_sort (PySem.W.list_sort_vals (κ := PySem.W.dataKind (PySem.W.sortingHeap (s1.heap.push (seqObj "list" vs.toArray 0)) s1.heap.objs.size vs) (cs.map enc)) there
    (PySem.W.SortsAt.data (s := { s1 with heap := PySem.W.sortingHeap (s1.heap.push (seqObj "list" vs.toArray 0)) s1.heap.objs.size vs }) (PySem.W.each_map (R := fun v d => ∃ as, Reads (PySem.W.sortingHeap (s1.heap.push (seqObj "list" vs.toArray 0)) s1.heap.objs.size vs) v d as) enc er2) hal2 hk2 (PySem.W.bound_map fun b hb => ?_)) (by rw [vl]; exact hL) ⟨.none, rfl, ?_⟩) (args_list_sort _)))
  · have := hu b (pm.mem_iff.mp hb)
    show A.in1.in1.units + _ < _
    simp only [Around.in1]
    omega
  · have sv := PySem.W.sortVals_data false e er2 hal2
    obtain ⟨c, hc⟩ := sortedHeap_at (out := (PySem.W.sortVals (PySem.W.dataKind (PySem.W.sortingHeap (s1.heap.push (seqObj "list" vs.toArray 0)) s1.heap.objs.size vs) (cs.map enc)) false vs vs).toArray) there
    refine wpAny_pure ⟨_, rfl, hQ _ s1.heap.objs.size c _ cs ⟨fun b o h => ?_, ?_, g.gens, g.os⟩ g.size hc pm sv⟩
    · have h1 := g.old b o h
      have lt := Heap.lt_size h1
      show (sortedHeap (s1.heap.push (seqObj "list" vs.toArray 0)) s1.heap.objs.size vs _).get? b = some o
      rw [sortedHeap_old (Nat.ne_of_lt lt) (by rw [size_push']; exact Nat.lt_succ_of_lt lt)]
      exact Heap.get?_push_of_some _ h1
    · have := Heap.lt_size hc
      exact Nat.le_trans g.size (Nat.le_of_lt this)
end
section
variable {prog : Program} {w : World} {A : Around} {E : Value → Shared → Prop} {s : Shared}
theorem col_tup {Q : List Value → Shared → Prop} {a : Addr} {o : Obj} {items : Array Value} {n : Nat} (ho : s.heap.get? a = some o) (hc : o.cls = .type "tuple") (hd : o.data = .seq items n) (hz : items.size ≤ sizeLine)
    (k : ∀ s1, Grown s s1 → Q items.toList s1) : wpAny (model prog w) A (collect (.ref a)) Q E s := by
  have new : (s.heap.push { cls := .type "list", data := .seq ([] : List Value).toArray }).get? s.heap.objs.size = some { cls := .type "list", data := .seq #[] 0 } := Heap.get?_push_size _ rfl
  have new2 := Heap.get?_update_self (Obj.mapSeq (· ++ items)) new rfl
  have grown : Grown s { s with heap := (s.heap.push { cls := .type "list", data := .seq ([] : List Value).toArray }).update s.heap.objs.size (Obj.mapSeq (· ++ items)) } :=
    ⟨fun b u hb => (Heap.get?_update_other _ _ (Nat.ne_of_gt (Heap.lt_size hb))).trans (Heap.get?_push_of_some _ hb), by
      show s.heap.objs.size ≤ (Heap.update _ _ _).objs.size
      rw [Heap.size_update, size_push']
      exact Nat.le_succ _, rfl, rfl⟩
  have last : wpAny (model prog w) A (match Value.ref s.heap.objs.size with
      | Value.ref a => do
        match (← load a).data with
          | Data.seq xs _ => pure xs.toList
          | _ => unsupported "internal:collect"
      | _ => unsupported "internal:collect") Q E
      { s with heap := (s.heap.push { cls := .type "list", data := .seq ([] : List Value).toArray }).update s.heap.objs.size (Obj.mapSeq (· ++ items)) } := by
    refine wpAny_bind (m := load s.heap.objs.size) (wpAny_load new2 (wpAny_pure ?_))
    have e2 : ((#[] : Array Value) ++ items).toList = items.toList := by simp
    have k2 := k _ grown
    rw [← e2] at k2
    exact k2
  unfold collect
  refine wpAny_bind (wpAny_runValue (codeAny_builtin F.entry_proto_collect ?_))
  rw [Around.under_plainId F.plain_proto_collect _]
  refine wpAny_bind (m := newList []) (wpAny_newObj_type ?_)
  refine wpAny_pure ⟨plainId_quiet F.plain_list_iadd _, codeAny_builtin F.entry_list_iadd ?_⟩
  rw [Around.under_plainId F.plain_list_iadd _]
  refine wpAny_mono (t := Builtin.List.listExtendWith (.ref s.heap.objs.size) (.ref a) (.ref s.heap.objs.size)) (wpAny_extend_seq (hsz := hz) (A := A) (R := fun r s' => r = .ok (.ret (.ref s.heap.objs.size)) ∧
      s' = { s with heap := (s.heap.push { cls := .type "list", data := .seq ([] : List Value).toArray }).update s.heap.objs.size (Obj.mapSeq (· ++ items)) })
    (s := { s with heap := s.heap.push { cls := .type "list", data := .seq ([] : List Value).toArray } }) _ a _ 0 (.inr rfl) new (Heap.get?_push_of_some _ ho) hc hd ⟨rfl, rfl⟩) (fun fin s' h => ?_) fun e s' h => absurd h.1 (by simp)
  cases fin with
  | done f => obtain ⟨e, rfl⟩ := h; cases e; exact last
  | again c' => exact ⟨h.1, codeAny_mono h.2 fun r s2 hr => by obtain ⟨rfl, rfl⟩ := hr; exact last⟩
end
def rSortedDT (β : Type) (K : PySem.W.Frag) : List V → Hp → VK → Prop := fun xs H Q => ∃ (l : Addr) (bs : List β) (val : β → V) (enc : β → PyData), xs = [V.ref l] ∧ SqT K H l (bs.map val) ∧ (∀ b ∈ bs, Dp K H (val b) (enc b)) ∧ PySem.W.AllAlike (bs.map enc) ∧ PySem.W.Sortable (bs.map enc) ∧ (∀ b ∈ bs, (enc b).depth ≤ 60) ∧
  ∀ (p : Addr) (cs : List β), cs.Perm bs → H p = none → Q (.ref p) (upd H p (.lst ((cs.mergeSort (PySem.W.dataLe false enc)).map val)))
theorem inv_grown {X : Cx} {pins : List (Addr × Obj)} {σ : L2.St} {H : Hp} {s s' : Shared} (I : Inv X pins σ H s) (g : Grown s s') {p : Addr} {o : HO} (hp : s.heap.objs.size ≤ p) (ho : ObjOk X.prog X.w (upd H p o) s'.heap p o) : Inv X pins σ (upd H p o) s' := by
  have hn : H p = none := I.hok.fresh hp
  have J : Inv X pins σ (upd H p o) { s with heap := s'.heap, gens := s'.gens, drawn := s'.drawn, toks := s'.toks } :=
    I.call (ch := []) (Un.laid g.old hp hn) (I.hok.laid g.old hp ho) (by rw [g.gens]; exact I.bare) (fun _ z => nomatch z)
  have e : s' = { s with heap := s'.heap, gens := s'.gens, drawn := s'.drawn, toks := s'.toks } := by
    have := g.os
    cases s'
    cases s
    cases this
    rfl
  rw [e]
  exact J
theorem cr_sortedDT {X : Cx} {β : Type} (hu : X.A.units + 100 < cLine) : CallR X (.builtin "sorted") (rSortedDT β X.K) := by
  intro pins s σ H xs us Q I r h
  obtain ⟨l, bs, val, enc, rfl, hl, hd, hal, hk, hdep, q⟩ := h
  rw [Vals.ref1 r]
  obtain ⟨its, rv, ⟨o, ho, hc, ⟨n, hd'⟩⟩, hz⟩ := I.tuple hl
  rw [List.length_map] at hz
  refine sort_got (R := fun u b => RelV (val b) u) (bs := bs) (enc := enc) hal hk hz (fun b hb => by have := hdep b hb; omega) (fun Q' k => ?_) fun s' p c out cs g hp hg pm e => ?_
  · have len : its.length = bs.length := by rw [← rv.length, List.length_map]
    refine col_tup ho hc hd' (by rw [List.size_toArray, len]; exact hz) fun s1 g => ?_
    exact k s1 its bs g (.refl _) (each_vals rv) ((each_reads I hd rv).mono fun _ _ ⟨as, r⟩ => ⟨as, PyProof.Rows.Reads.keeps g.old r⟩)
  · have vl := vals_each e
    exact ⟨.ref p, _, inv_grown I g hp (o := .lst ((cs.mergeSort (PySem.W.dataLe false enc)).map val)) ⟨by rw [List.length_map, List.length_mergeSort, pm.length_eq]; exact hz, out, c, vl, hg⟩, rfl, q p cs pm (I.hok.fresh hp)⟩
end DL
namespace DL
open PySem PySem.Spec PyProof.Rows L2
/-! #### over D -/
def dLt (x y : D) : Bool := PySem.W.dataLt x.p y.p
def alikeD (x y : D) : Bool := PySem.W.alike x.p y.p
/-- what may be sorted: alike, not too deep, all tuples or no tuple -/
def SortOk (ds : List D) : Prop := (∀ x ∈ ds, D.ok x = true) ∧ (∀ x ∈ ds, ∀ y ∈ ds, alikeD x y = true) ∧ ((∀ x ∈ ds, ∃ y r, x = .tup (y :: r)) ∨ ∀ x ∈ ds, x ≠ .non ∧ ∀ r, x ≠ .tup r)
def fSorted : F1
  | .lst ds, q => SortOk ds ∧ ∀ ds', List.Perm ds' ds → ds'.Pairwise (fun a b => dLt b a = false) → q (.own ds')
  | .tup ds, q => SortOk ds ∧ ∀ ds', List.Perm ds' ds → ds'.Pairwise (fun a b => dLt b a = false) → q (.own ds')
  | _, _ => False
theorem MonF1.sorted : MonF1 fSorted := fun x _ _ h z => by
  cases x <;> first | exact (show False from z).elim | exact ⟨z.1, fun ds' a b => h _ (z.2 ds' a b)⟩
theorem reps_zip {K : PySem.W.Frag} {ω : Wd} : ∀ {ds : List D} {vs : List V}, Reps K ω ds vs → (vs.zip ds).map Prod.fst = vs ∧ (vs.zip ds).map Prod.snd = ds ∧ ∀ b ∈ vs.zip ds, Rep K ω b.2 b.1
  | [], _, h => by rw [Reps.nil_iff] at h; subst h; exact ⟨rfl, rfl, fun b hb => nomatch hb⟩
  | d :: ds, _, h => by
    obtain ⟨v, r, rfl, h1, h2⟩ := Reps.cons_iff.mp h
    obtain ⟨a, b, c⟩ := reps_zip h2
    refine ⟨by rw [List.zip_cons_cons, List.map_cons, a], by rw [List.zip_cons_cons, List.map_cons, b], fun x hx => ?_⟩
    rw [List.zip_cons_cons] at hx
    rcases List.mem_cons.mp hx with z | z
    · subst z; exact h1
    · exact c x z
theorem reps_pairs {K : PySem.W.Frag} {ω : Wd} : ∀ {bs : List (V × D)}, (∀ b ∈ bs, Rep K ω b.2 b.1) → Reps K ω (bs.map Prod.snd) (bs.map Prod.fst)
  | [], _ => Reps.nil
  | b :: bs, h => Reps.cons (h b List.mem_cons_self) (reps_pairs fun x hx => h x (List.mem_cons_of_mem _ hx))
theorem ok_shape {d : D} (h : d.ok = true) : d.p.depth ≤ 60 := (okN_lay d 60 h).2
theorem p_tup {y : D} {r : List D} : D.p (.tup (y :: r)) = .tuple (y.p :: D.ps r) := by conv => lhs; unfold D.p; unfold D.ps
theorem p_non {d : D} (h : d ≠ .non) (h2 : d ≠ .st) : d.p ≠ .none := by
  cases d <;> first | exact absurd rfl h | (unfold D.p; exact fun z => nomatch z)
theorem p_ntup {d : D} (h : ∀ r, d ≠ .tup r) : ∀ xs, d.p ≠ .tuple xs := fun xs z => by
  cases d with
  | tup r => exact absurd rfl (h r)
  | non => unfold D.p at z; cases z
  | bl b => unfold D.p at z; cases z
  | int b => unfold D.p at z; cases z
  | str b => unfold D.p at z; cases z
  | st => unfold D.p at z; cases z
  | lst b => unfold D.p at z; cases z
section
variable {X : Cx} {c : C} {a : Expr} {wa : WD} {pos p : Pos}
/-- what sorting asks of the pairs of a value and its data, and what it leaves -/
theorem sort_pairs {K : PySem.W.Frag} {ω : Wd} {ds : List D} {vs : List V} (qx : Reps K ω ds vs) (h : SortOk ds) : (∀ b ∈ vs.zip ds, Rep K ω b.2 b.1 ∧ b.2.ok = true) ∧ PySem.W.AllAlike ((vs.zip ds).map fun b => b.2.p) ∧ PySem.W.Sortable ((vs.zip ds).map fun b => b.2.p) ∧ (∀ b ∈ vs.zip ds, b.2.p.depth ≤ 60) ∧
    ∀ cs : List (V × D), cs.Perm (vs.zip ds) → Reps K ω ((cs.mergeSort (PySem.W.dataLe false fun b : V × D => b.2.p)).map Prod.snd) ((cs.mergeSort (PySem.W.dataLe false fun b : V × D => b.2.p)).map Prod.fst) ∧
      ((cs.mergeSort (PySem.W.dataLe false fun b : V × D => b.2.p)).map Prod.snd).Perm ds ∧ ((cs.mergeSort (PySem.W.dataLe false fun b : V × D => b.2.p)).map Prod.snd).Pairwise (fun a b => dLt b a = false) := by
  obtain ⟨h1, h2, h3⟩ := h
  obtain ⟨z1, z2, z3⟩ := reps_zip qx
  have hmem : ∀ b ∈ vs.zip ds, b.2 ∈ ds := fun b hb => by
    have : b.2 ∈ (vs.zip ds).map Prod.snd := List.mem_map.mpr ⟨b, hb, rfl⟩
    rw [z2] at this
    exact this
  refine ⟨fun b hb => ⟨z3 b hb, h1 _ (hmem b hb)⟩, ?_, ?_, fun b hb => ok_shape (h1 _ (hmem b hb)), fun cs hp => ?_⟩
  · intro d hd d' hd'
    obtain ⟨b, hb, rfl⟩ := List.mem_map.mp hd
    obtain ⟨b', hb', rfl⟩ := List.mem_map.mp hd'
    exact h2 _ (hmem b hb) _ (hmem b' hb')
  · rcases h3 with h3 | h3
    · refine .inl fun d hd => ?_
      obtain ⟨b, hb, rfl⟩ := List.mem_map.mp hd
      obtain ⟨y, r, e⟩ := h3 _ (hmem b hb)
      exact ⟨y.p, D.ps r, by show b.2.p = _; rw [e]; exact p_tup⟩
    · refine .inr fun d hd => ?_
      obtain ⟨b, hb, rfl⟩ := List.mem_map.mp hd
      obtain ⟨k1, k2⟩ := h3 _ (hmem b hb)
      exact ⟨p_non k1 (fun e => by have := h1 _ (hmem b hb); rw [e] at this; unfold D.ok okN at this; cases this), p_ntup k2⟩
  · have pm : (cs.mergeSort (PySem.W.dataLe false fun b : V × D => b.2.p)).Perm cs := List.mergeSort_perm _ _
    have pw := PySem.W.sort_pairwise (PySem.W.sortLe_total (PyProof.Rows.listOrd PyProof.Rows.itemOrd) false fun b : V × D => PySem.W.keyToks b.2.p) cs
    refine ⟨reps_pairs fun b hb => z3 b (hp.mem_iff.mp (pm.mem_iff.mp hb)), ?_, ?_⟩
    · have := (pm.trans hp).map Prod.snd
      rw [z2] at this
      exact this
    · refine List.pairwise_map.mpr (pw.imp fun {x y} e => ?_)
      have e : (!dLt y.2 x.2) = true := e
      rw [Bool.not_eq_true'] at e
      exact e
/-- one less deep than what == may meet -/
theorem se_sorted (hK : c.K = X.K) (hu : X.A.units + 100 < cLine) (hg : Gl X "sorted") (hm : X.mg "sorted" = none) (ha : SP X c a wa) (he : starEach [a] X.env = [(false, eval a X.env)] := by rfl) : SE X c (.Call (.Name "sorted" p) [a] [] pos) (w1 fSorted wa) :=
  se_b1 ((cr_sortedD (β := V × D) hu).or (cr_sortedDT (β := V × D) hu)) hg hm (by decide +kernel) .sorted (by
    rw [← hK]
    exact fun ω H σ env tk x v q Q ok rx h hr => by
      cases x <;> first | exact (show False from h).elim | skip
      · rename_i ds
        obtain ⟨t, vs, rfl, sx, qx⟩ := rx.tup ok.sub
        obtain ⟨z1, z2, z3⟩ := reps_zip qx
        obtain ⟨k1, k2, k3, k4, k5⟩ := sort_pairs qx h.1
        refine .inr ⟨t, vs.zip ds, Prod.fst, fun b => b.2.p, rfl, by rw [z1]; exact sx, fun b hb => Rep.dp ok.sub b.2 60 b.1 (k1 b hb).2 (k1 b hb).1, k2, k3, k4, fun l cs hp n => ?_⟩
        obtain ⟨a1, a2, a3⟩ := k5 cs hp
        exact hr.lst ok (h.2 _ a2 a3) a1 n
      · rename_i ds
        obtain ⟨t, vs, rfl, sx, qx⟩ := rx.lst ok.sub
        obtain ⟨z1, z2, z3⟩ := reps_zip qx
        obtain ⟨k1, k2, k3, k4, k5⟩ := sort_pairs qx h.1
        refine .inl ⟨t, vs.zip ds, Prod.fst, fun b => b.2.p, rfl, by rw [z1]; exact sx, fun b hb => Rep.dp ok.sub b.2 60 b.1 (k1 b hb).2 (k1 b hb).1, k2, k3, k4, fun l n => ?_⟩
        obtain ⟨a1, a2, a3⟩ := k5 _ (.refl _)
        exact hr.lst ok (h.2 _ a2 a3) a1 n) ha (he := he)
end
end DL
namespace DL
open PySem PySem.Spec PyProof.Rows L2
/-! ### min, of data of any make -/
theorem minD_least : ∀ (xs : List PyData) (x : PyData), PySem.W.minD x xs ∈ x :: xs ∧ ∀ y ∈ x :: xs, PySem.W.dataLt y (PySem.W.minD x xs) = false := by
  have T : PySem.W.TotalLe (PySem.W.dataLe false fun b : PyData => b) := PySem.W.sortLe_total (PyProof.Rows.listOrd PyProof.Rows.itemOrd) false fun b : PyData => PySem.W.keyToks b
  have le_iff : ∀ a b : PyData, PySem.W.dataLe false (fun b : PyData => b) a b = true ↔ PySem.W.dataLt b a = false := fun a b => by
    show (!PySem.W.dataLt b a) = true ↔ _
    rw [Bool.not_eq_true']
  have tr : ∀ a b c : PyData, PySem.W.dataLt b a = false → PySem.W.dataLt c b = false → PySem.W.dataLt c a = false := fun a b c h1 h2 => (le_iff _ _).mp (T.trans a b c ((le_iff _ _).mpr h1) ((le_iff _ _).mpr h2))
  have as : ∀ a b : PyData, PySem.W.dataLt a b = true → PySem.W.dataLt b a = false := fun a b h => by
    rcases T.total a b with z | z
    · exact (le_iff _ _).mp z
    · rw [le_iff, h] at z; cases z
  have rf : ∀ a : PyData, PySem.W.dataLt a a = false := fun a => by
    rcases T.total a a with z | z <;> exact (le_iff _ _).mp z
  intro xs
  induction xs with
  | nil =>
    intro x
    refine ⟨List.mem_cons_self, fun y hy => ?_⟩
    rw [List.mem_singleton] at hy
    subst hy
    exact rf y
  | cons z xs ih =>
    intro x
    by_cases h : PySem.W.dataLt z x = true
    · have e : PySem.W.minD x (z :: xs) = PySem.W.minD z xs := by
        show List.foldl _ (if PySem.W.dataLt z x then z else x) xs = _
        rw [if_pos h]; rfl
      rw [e]
      obtain ⟨i1, i2⟩ := ih z
      refine ⟨List.mem_cons_of_mem _ i1, fun y hy => ?_⟩
      rcases List.mem_cons.mp hy with rfl | hy
      · exact tr _ _ _ (i2 z List.mem_cons_self) (as _ _ h)
      · exact i2 y hy
    · have h' : PySem.W.dataLt z x = false := Bool.eq_false_iff.mpr h
      have e : PySem.W.minD x (z :: xs) = PySem.W.minD x xs := by
        show List.foldl _ (if PySem.W.dataLt z x then z else x) xs = _
        rw [if_neg h]; rfl
      rw [e]
      obtain ⟨i1, i2⟩ := ih x
      refine ⟨?_, fun y hy => ?_⟩
      · rcases List.mem_cons.mp i1 with z | z
        · rw [z]; exact List.mem_cons_self
        · exact List.mem_cons_of_mem _ (List.mem_cons_of_mem _ z)
      · rcases List.mem_cons.mp hy with rfl | hy
        · exact i2 y List.mem_cons_self
        · rcases List.mem_cons.mp hy with rfl | hy
          · exact tr _ _ _ (i2 x List.mem_cons_self) h'
          · exact i2 y (List.mem_cons_of_mem _ hy)
theorem depthAll_le {n : Nat} : ∀ xs : List PyData, (∀ x ∈ xs, x.depth ≤ n) → PyData.depthAll xs ≤ n
  | [], _ => by unfold PyData.depthAll; exact Nat.zero_le n
  | x :: xs, h => by
    unfold PyData.depthAll
    exact Nat.max_le.mpr ⟨h x List.mem_cons_self, depthAll_le xs fun y hy => h y (List.mem_cons_of_mem _ hy)⟩
section
variable {β : Type} {X : Cx}
theorem dpAll_of {K : PySem.W.Frag} {H : Hp} {val : β → V} {enc : β → PyData} : ∀ {bs : List β}, (∀ b ∈ bs, Dp K H (val b) (enc b)) → DpAll K H (bs.map val) (bs.map enc)
  | [], _ => .nil
  | b :: _, h => .cons (h b List.mem_cons_self) (dpAll_of fun b hb => h b (List.mem_cons_of_mem _ hb))
theorem vals_at {val : β → V} : ∀ {bs : List β} {us : List Value} {i : Nat} {u : Value}, Vals (bs.map val) us → us[i]? = some u → ∃ b ∈ bs, RelV (val b) u
  | [], _, _, _, .nil, h => by simp at h
  | b :: _, _, 0, u, .cons r _, h => by
    have e := Option.some.inj h
    subst e
    exact ⟨b, List.mem_cons_self, r⟩
  | b :: _, _, i + 1, u, .cons _ t, h => by
    obtain ⟨b', m, r⟩ := vals_at t h
    exact ⟨b', List.mem_cons_of_mem _ m, r⟩
def rMinD (β : Type) (K : PySem.W.Frag) : List V → Hp → VK → Prop := fun xs H Q => ∃ (l : Addr) (bs : List β) (val : β → V) (enc : β → PyData), xs = [V.ref l] ∧ SqL K H l (bs.map val) ∧ bs ≠ [] ∧ (∀ b ∈ bs, Dp K H (val b) (enc b)) ∧ PySem.W.AlikeAll (bs.map enc) ∧ (∀ b ∈ bs, (enc b).canLay0 = true ∧ (enc b).depth ≤ 60) ∧
  ∀ b ∈ bs, (∀ y ∈ bs, PySem.W.dataLt (enc y) (enc b) = false) → Q (val b) H
theorem cr_minD (hc : X.calm = true) (hu : X.A.units + 100 < cLine) : CallR X (.builtin "min") (rMinD β X.K) := by
  intro pins s σ H xs us Q I r h
  obtain ⟨l, bs, val, enc, rfl, hl, hne, hd, hal, hk, q⟩ := h
  rw [Vals.ref1 r]
  obtain ⟨its, rv, p, hz⟩ := I.list hl
  obtain ⟨as, hr⟩ := Dp.readsAll I (bs.map enc) (bs.map val) its (dpAll_of hd) rv
  obtain ⟨b0, bs', rfl⟩ := List.exists_cons_of_ne_nil hne
  have hdep : PyData.depthAll (enc b0 :: bs'.map enc) ≤ 60 := depthAll_le _ fun x hx => by
    have hx : x ∈ (b0 :: bs').map enc := hx
    obtain ⟨b, hb, rfl⟩ := List.mem_map.mp hx
    exact (hk b hb).2
  refine PySem.W.min_list_data (x := enc b0) (xs := bs'.map enc) (I.ok.hd hc) p.isList hr hal (by omega) fun i v h' tk as' hv hread hkeep => ?_
  have hv : its[i]? = some v := by
    rw [List.getElem?_toArray] at hv
    exact hv
  obtain ⟨b, hb, rb⟩ := vals_at rv hv
  obtain ⟨as2, r2⟩ := Dp.reads I _ _ _ (hd b hb) rb
  have e : enc b = PySem.W.minD (enc b0) (bs'.map enc) := ((Reads.unique (PySem.W.reads_keeps hkeep r2)) _ _ hread).1
  refine ⟨val b, H, I.kept hkeep, rb, q b hb fun y hy => ?_⟩
  rw [e]
  exact (minD_least _ _).2 _ (List.mem_map.mpr ⟨y, hy, rfl⟩ : enc y ∈ (b0 :: bs').map enc)
end
/-- what a least one may be asked of: alike, not too deep, no None -/
def MinOk (ds : List D) : Prop := ds ≠ [] ∧ (∀ x ∈ ds, D.ok x = true) ∧ (∀ x ∈ ds, ∀ y ∈ ds, alikeD x y = true) ∧ ∀ x ∈ ds, x ≠ .non
def fMin1 : F1
  | .lst ds, q => MinOk ds ∧ ∀ d ∈ ds, (∀ y ∈ ds, dLt y d = false) → q (.val d)
  | _, _ => False
theorem MonF1.min1 : MonF1 fMin1 := fun x _ _ h z => by
  cases x <;> first | exact (show False from z).elim | skip
  exact ⟨z.1, fun d hd hm => h _ (z.2 d hd hm)⟩
section
variable {X : Cx} {c : C} {a : Expr} {wa : WD} {pos p : Pos}
theorem se_min1 (hK : c.K = X.K) (hu : X.A.units + 100 < cLine) (hc : X.calm = true) (hg : Gl X "min") (hm : X.mg "min" = none) (ha : SP X c a wa) (he : starEach [a] X.env = [(false, eval a X.env)] := by rfl) : SE X c (.Call (.Name "min" p) [a] [] pos) (w1 fMin1 wa) :=
  se_b1 (cr_minD (β := V × D) hc hu) hg hm (by decide +kernel) .min1 (by
    rw [← hK]
    exact fun ω H σ env tk x v q Q ok rx h hr => by
      cases x <;> first | exact (show False from h).elim | skip
      rename_i ds
      obtain ⟨⟨h0, h1, h2, h3⟩, h4⟩ := h
      obtain ⟨t, vs, rfl, sx, qx⟩ := rx.lst ok.sub
      obtain ⟨z1, z2, z3⟩ := reps_zip qx
      have hmem : ∀ b ∈ vs.zip ds, b.2 ∈ ds := fun b hb => by
        have : b.2 ∈ (vs.zip ds).map Prod.snd := List.mem_map.mpr ⟨b, hb, rfl⟩
        rw [z2] at this
        exact this
      refine ⟨t, vs.zip ds, Prod.fst, fun b => b.2.p, rfl, by rw [z1]; exact sx, ?_, fun b hb => Rep.dp ok.sub b.2 60 b.1 (h1 _ (hmem b hb)) (z3 b hb), ⟨?_, ?_⟩, fun b hb => okN_lay b.2 60 (h1 _ (hmem b hb)), fun b hb hl => ?_⟩
      · intro e
        rw [e] at z2
        exact h0 z2.symm
      · intro d hd d' hd'
        obtain ⟨b, hb, rfl⟩ := List.mem_map.mp hd
        obtain ⟨b', hb', rfl⟩ := List.mem_map.mp hd'
        exact h2 _ (hmem b hb) _ (hmem b' hb')
      · intro d hd
        obtain ⟨b, hb, rfl⟩ := List.mem_map.mp hd
        exact p_non (h3 _ (hmem b hb)) (fun e => by have := h1 _ (hmem b hb); rw [e] at this; unfold D.ok okN at this; cases this)
      · have k : q (.val b.2) := h4 b.2 (hmem b hb) fun y hy => by
          rw [← z2] at hy
          obtain ⟨b', hb', rfl⟩ := List.mem_map.mp hy
          exact hl b' hb'
        exact hr.val ok k (z3 b hb)) ha (he := he)
end
end DL
namespace DL
open PySem PySem.Spec PyProof.Rows L2
/-! ### x in a tuple of ints -/
def fInT : FOp
  | .int i, .tup ds, q => ∃ ns, asInts ds = some ns ∧ q (.val (.bl (decide (i ∈ ns))))
  | _, _, _ => False
theorem MonF.inT : MonF fInT := fun x y _ _ h z => by
  cases x <;> first | exact (show False from z).elim | (cases y <;> first | exact (show False from z).elim | exact ⟨z.choose, z.choose_spec.1, h _ z.choose_spec.2⟩)
theorem inV_ints (i : Int) : ∀ ns : List Int, inV (.int i) (ns.map V.int) = decide (i ∈ ns)
  | [] => rfl
  | n :: ns => by
    have ih := inV_ints i ns
    unfold inV at ih ⊢
    rw [List.map_cons, List.any_cons, ih]
    have e : eqV (.int n) (.int i) = decide (n = i) := by
      by_cases h : n = i
      · subst h; rw [decide_eq_true rfl]; exact (beq_self_eq_true n)
      · rw [decide_eq_false h]; exact beq_eq_false_iff_ne.mpr h
    rw [e]
    by_cases h : n = i <;> by_cases h2 : i ∈ ns <;> first | (simp [h, h2]; done) | (simp [h, h2]; exact fun z => h z.symm)
theorem flat_ints : ∀ ns : List Int, (ns.map V.int).all flatV = true
  | [] => rfl
  | _ :: ns => by rw [List.map_cons, List.all_cons, flat_ints ns]; rfl
theorem od_inT {c : C} : OpD c (rIn c.K false) fInT := fun ω H σ env tk x y v u q Q ok rx ry h hr => by
  cases x <;> first | exact (show False from h).elim | skip
  cases y <;> first | exact (show False from h).elim | skip
  rename_i i ds
  obtain ⟨ns, e, k⟩ := h
  obtain ⟨p, vs, rfl, sx, qx⟩ := ry.tup ok.sub
  have ev := asInts_reps e qx
  subst ev
  rw [rx.int]
  refine ⟨p, ns.map V.int, rfl, .inr sx, rfl, flat_ints ns, ?_⟩
  show Q (.bl (inV (.int i) (ns.map V.int))) _
  rw [inV_ints]
  exact hr.bl ok k
section
variable {X : Cx} {c : C} {a b : Expr} {wa wb : WD} {pos : Pos}
theorem se_inT (hK : c.K = X.K) (ha : SP X c a wa) (hb : SP X c b wb) (hm : behindInMarks .In b = false) : SE X c (.Compare a [.In] [b] pos) (wOp fInT wa wb) := se_cmp op_in_seq .inT (by rw [← hK]; exact od_inT) ha hb hm
theorem st_inT (hK : c.K = X.K) (ha : SP X c a wa) (hb : SP X c b wb) (hm : behindInMarks .In b = false) : ST X c (.Compare a [.In] [b] pos) (wT (wOp fInT wa wb)) := run_cmp op_in_seq .inT (by rw [← hK]; exact od_inT) ha hb hm
end
/-- a tuple as a comprehension's target: the frame is named, so that nothing of the inner place stands in it -/
theorem sg_tupK {X : Cx} {c : C} {K' : PySem.W.Frag} {es : List Expr} {k n : Nat} {t : TGs} {g : WGs} {vs : List Nat} {pos : Pos} (hX : X.K = K') (hK : c.K = K') (hc : X.calm = true) (hg : SGs X c es t g vs) (hn : (assignEach es X.env).length = n := by rfl) (hst : (assignEach es X.env).findIdx? (·.1) = none := by rfl) : SG X c (.Tuple es k pos) (gTup K' n t) (gT n g) vs := by
  subst hX
  exact sg_tup hK hc hg hn hst
end DL
namespace L2
open PySem PySem.Spec PyProof.Rows
section
variable {X : Cx}
/-- a choice by a text: the first case of that text -/
def tMc (z : Str) : List (Str × TS) → TS
  | [] => fun D σ H => D.nx σ H
  | (x, t) :: cs => fun D σ H => if z = x then t D σ H else tMc z cs D σ H
def tMatch (te : TE) (cs : List (Str × TS)) : TS := fun D σ H => te σ H fun v H1 => ∃ z, v = .str z ∧ tMc z cs D σ H1
inductive PMs (X : Cx) : List MatchCase → List (Str × TS) → Prop
  | nil : PMs X [] []
  | cons {x : Str} {j : Nat} {p pos : Pos} {body : List Stmt} {rest : List MatchCase} {t : TS} {cs : List (Str × TS)} : PSs X body t → PMs X rest cs → PMs X (⟨.MatchValue (.Constant (.str x) j p) pos, none, body⟩ :: rest) ((x, t) :: cs)
theorem mc_run {pins : List (Addr × Obj)} {σ : St} {D : Ends} {z : Str} : ∀ {cases : List MatchCase} {cs : List (Str × TS)}, PMs X cases cs → ∀ {s : Shared} {H : Hp} {u : Value} {first : Bool}, Inv X pins σ H s → RelV (.str z) u → tMc z cs D σ H →
    wpAny (model X.prog X.w) X.A (matchCases cases X.env u first) (SP X pins D) X.xe s
  | _, _, .nil, s, H, u, first, I, r, q => wpAny_matchCases_nil ⟨σ, H, I, q⟩
  | _, _, .cons (x := x) (t := t) (cs := cs) hb hr, s, H, u, first, I, r, q => by
    refine wpAny_matchCases_cons (wpAny_matchPattern_Value ?_)
    refine thn (pe_str.run pins s σ H (fun v H1 => v = .str x ∧ H1 = H) I ⟨rfl, rfl⟩) fun w s1 ⟨v, H1, I1, r1, e1, e2⟩ => ?_
    subst e1 e2
    refine thn (op_eq pins s1 σ H1 (.str z) (.str x) u w (fun v H2 => v = .bl (decide (z = x)) ∧ H2 = H1) I1 r r1 ⟨rfl, ?_, rfl⟩) fun w2 s2 ⟨v, H2, I2, r2, e3, e4⟩ => ?_
    · show V.bl _ = V.bl _
      exact congrArg V.bl (decide_eq_decide.mpr ⟨fun e => by injection e, fun e => by rw [e]⟩)
    subst e3 e4
    cases r2
    refine wpAny_truthy_bool ?_
    by_cases h : z = x
    · have q : t D σ H2 := (if_pos h).mp q
      rw [decide_eq_true h]
      exact wpAny_assignInOrder_none (hb.run pins s2 σ H2 D I2 q)
    · have q : tMc z cs D σ H2 := (if_neg h).mp q
      rw [decide_eq_false h]
      exact mc_run hr I2 r q
theorem ps_match {e : Expr} {te : TE} {cases : List MatchCase} {cs : List (Str × TS)} {pos : Pos} (he : PE X e te) (hc : PMs X cases cs) : PS X (.Match e cases pos) (tMatch te cs) := by
  refine ⟨fun pins s σ H D I h => ?_⟩
  exact wpAny_Match (thn (he.run pins s σ H _ I h) fun v s1 ⟨x, H1, I1, r1, z, e1, q1⟩ => mc_run hc I1 (e1 ▸ r1) q1)
end
end L2
namespace DL
open PySem PySem.Spec PyProof.Rows L2
def mcGo (z : Str) : List (Str × WS) → WS
  | [], P, e, t => P.nx e t
  | (x, w) :: cs, P, e, t => if z = x then w P e t else mcGo z cs P e t
def wMatch (w : WE) (cs : List (Str × WS)) : WS := fun P env tk => w env tk fun ev e t => match ev with
  | .val (.str z) => mcGo z cs P e t
  | _ => False
section
variable {X : Cx} {c : C} {e : Expr} {pos : Pos}
structure SMs (X : Cx) (c : C) (cases : List MatchCase) (cs : List (Str × WS)) : Prop where
  mon : ∀ z, MonS (mcGo z cs)
  run : PMs X cases (cs.map fun p => (p.1, liftS c p.2))
  up : ∀ p ∈ cs, MonS p.2
theorem sm_nil : SMs X c [] [] := ⟨fun z P P' env tk l q => l.nx _ _ q, .nil, fun p h => by cases h⟩
theorem sm_cons {x : Str} {j : Nat} {p pos : Pos} {body : List Stmt} {rest : List MatchCase} {w : WS} {cs : List (Str × WS)} (hb : SSs X c body w) (hr : SMs X c rest cs) : SMs X c (⟨.MatchValue (.Constant (.str x) j p) pos, none, body⟩ :: rest) ((x, w) :: cs) :=
  ⟨fun z P P' env tk l q => by
    by_cases h : z = x
    · exact (if_pos h).mpr (hb.mon _ _ _ _ l ((if_pos h).mp q))
    · exact (if_neg h).mpr (hr.mon z _ _ _ _ l ((if_neg h).mp q)), .cons hb.run hr.run, fun p hp => by
    rcases List.mem_cons.mp hp with rfl | hp
    · exact hb.mon
    · exact hr.up p hp⟩
theorem mc_up {z : Str} {ω ω' : Wd} {D : Ends} {σ : L2.St} {H' : Hp} {e1 : En} {t1 : Tk} (le : ω.le ω') (ok : Ok c ω' H' σ e1 t1) : ∀ {cs : List (Str × WS)}, (∀ p ∈ cs, MonS p.2) → mcGo z cs (postOf c ω D) e1 t1 → tMc z (cs.map fun p => (p.1, liftS c p.2)) D σ H'
  | [], _, q => q σ ω' H' le ok
  | (x, w) :: cs, h, q => by
    by_cases hz : z = x
    · exact (if_pos hz).mpr ⟨ω', e1, t1, ok, h (x, w) List.mem_cons_self _ _ _ _ (postOf_up le D) ((if_pos hz).mp q)⟩
    · exact (if_neg hz).mpr (mc_up le ok (fun p hp => h p (List.mem_cons_of_mem _ hp)) ((if_neg hz).mp q))
theorem ss_match {w : WE} {cases : List MatchCase} {cs : List (Str × WS)} (h : SE X c e w) (hc : SMs X c cases cs) : SS X c (.Match e cases pos) (wMatch w cs) :=
  ⟨fun P P' env tk l q => h.mon _ _ _ _ (fun ev e t z => by
    cases ev with
    | val d => cases d <;> first | exact (show False from z).elim | exact hc.mon _ _ _ _ _ l z
    | own ds => exact (show False from z).elim) q, (ps_match h.run hc.run).wk fun D σ H ⟨ω, env, tk, ok, q⟩ =>
    ⟨ω, env, tk, ok, h.mon _ _ _ _ (fun ev e t z v ω' H' st ok' r => by
      cases ev with
      | val d =>
        cases d <;> first | exact (show False from z).elim | skip
        rename_i x
        exact ⟨x, r, mc_up st.le ok' hc.up z⟩
      | own ds => exact (show False from z).elim) q⟩⟩
end
end DL
namespace DL
open PySem PySem.Spec PyProof.Rows L2
/-! ### sets made of lists -/
abbrev newSet (w : World) : Obj := { cls := .type "set", dict := none, data := .set #[] 0 (.fresh 0 0 (!w.params.followText "set-order")) }
section
variable {P : Program} {w : World} {A : Around} {E : Value → Shared → Prop} {s : Shared}
/-- what set.update's loop leaves of a walk over these items -/
def Loops (P : Program) (w : World) (items : Array Value) (h0 : Heap) (u : Nat) (Done : Heap → Addr → Prop) : Prop :=
  ∀ (B : Around) (I S : Addr) (fp wr : List Addr) (G : Array GenState → Array GenState → Prop) (Pv : Nat → Value → Prop) (St : Nat → Shared → Prop) (R : Result → Shared → Prop) (s0 : Shared),
    WalksS P w B.in1 I fp wr G items.size Pv St → B.units ≤ u → S ∉ fp → (∀ i v, Pv i v → items[i]? = some v) → h0.get? S = none → (∀ b ∈ wr, h0.get? b = none) → St 0 s0 → (∀ b o, h0.get? b = some o → s0.heap.get? b = some o) → s0.heap.get? S = some (newSet w) →
    (∀ s', Moved (S :: wr) G s0 s' → Done s'.heap S → R (.ok (.ret .none)) s') → codeAny (model P w) B (.builtin "set.update.loop" ⟨[.ref S, .ref I], []⟩) R s0
theorem set_of_list {l : Addr} {items : Array Value} {Done : Heap → Addr → Prop} {Q : Value → Shared → Prop} (hh : A.handled = none) (hl : s.heap.IsList l items) (loop : Loops P w items s.heap (A.units + 10) Done)
    (k : ∀ (h' : Heap) (tk : Nat), Done h' s.heap.objs.size → (∀ b o, s.heap.get? b = some o → h'.get? b = some o) → Q (.ref s.heap.objs.size) { s with heap := h', toks := tk }) :
    wpAny (model P w) A (call (.type "set") [.ref l]) Q E s := by
  obtain ⟨c, tl, mro⟩ := F.called_set.mro
  have f1 := F.called_set.made
  have f2 := F.called_set.sub
  have f3 := F.called_set.notType
  have f4 := F.called_set.canCreate
  have f5 := F.typeCall_set_1 (.ref l)
  refine wpAny_call (codeAny_of_tree (wpAny_pure ⟨Code.quiet_builtin _ (by decide +kernel), codeAny_builtin F.entry_type_call ?_⟩))
  rw [Around.under_plain (weight_type_call_type "set" [.ref l] []) rfl]
  repeat (any_goals (first | assumption | wp_step))
  refine codeAny_mono (code_set_led1 (.ref l) (E := E) (Q₁ := fun v s1 => v = .ref s.heap.objs.size ∧ s1 = { s with heap := s.heap.push (newSet w) }) ⟨rfl, rfl⟩) fun r s1 hr => ?_
  cases r with
  | error e => exact hr
  | ok fl => cases fl with
    | ret v =>
      obtain ⟨rfl, rfl⟩ := hr
      have there : (s.heap.push (newSet w)).get? s.heap.objs.size = some (newSet w) := Heap.get?_push_size _ rfl
      have isSet : Shared.TypeIs { s with heap := s.heap.push (newSet w) } (.ref s.heap.objs.size) "set" := ⟨_, there, rfl⟩
      have f6 := F.called_set.init.lookup
      have f7 := F.called_set.init.bind (.ref s.heap.objs.size)
      repeat (any_goals (first | assumption | wp_step))
      refine codeAny_mono (codeAny_call_builtin (R := wants (fun v s2 => v = .none ∧ ∃ h' tk, s2 = { s with heap := h', toks := tk } ∧ Done h' s.heap.objs.size ∧ ∀ b o, s.heap.get? b = some o → h'.get? b = some o) E)
        F.called_set.init.plain F.entry_set_init (check_set_init_1 isSet ?_)) fun r2 s2 hr2 => ?_
      · obtain ⟨⟨ocls, odict, odata, oslots⟩, hol, hcl, nl, hdl⟩ := hl
        simp only at hcl hdl
        subst hcl; subst hdl
        have hol2 : (s.heap.push (newSet w)).get? l = some { cls := .type "list", dict := odict, data := .seq items nl, slots := oslots } := Heap.get?_push_of_some _ hol
        have lst : (s.heap.push (newSet w)).IsList l items := ⟨_, hol2, rfl, nl, rfl⟩
        have g1 := F.sub_list_set
        have g2 := F.sub_list_frozenset
        have g3 : (Value.type "list" == Value.type "dict") = false := by decide
        unfold Builtin.«set.__init__» noKeywords Builtin.Frozenset.updateFrom
        generalize hit : pyIter = it
        wp_walk
        subst hit
        refine wpAny_pyIter_list lst (wpAny_bind (wpAny_runValue ?_))
        have lS : l < s.heap.objs.size := Heap.lt_size hol
        have sz : (s.heap.push (newSet w)).objs.size = s.heap.objs.size + 1 := Heap.size_push ..
        have free : ∀ b, s.heap.objs.size ≤ b → s.heap.get? b = none := fun b hb => by
          cases z : s.heap.get? b with
          | none => rfl
          | some o => exact absurd (Nat.lt_of_lt_of_le (Heap.lt_size z) hb) (Nat.lt_irrefl _)
        have neI : l ≠ (s.heap.push (newSet w)).objs.size := by rw [sz]; exact Nat.ne_of_lt (Nat.lt_succ_of_lt lS)
        have h3 : A.in1.in1.in1.handled = none := by simp [hh]
        refine loop _ _ s.heap.objs.size _ _ _ _ _ _ _ ((Walks.list h3 _ l neI items).toS) ?_ ?_ (fun i v h => h) (free _ (Nat.le_refl _)) (fun b hb => free b ?_) ⟨⟨_, Heap.get?_push_size _ rfl, rfl, rfl⟩, lst.push _⟩ (fun b o e => Heap.get?_push_of_some _ (Heap.get?_push_of_some _ e)) (Heap.get?_push_of_some _ there) fun s' hm hd => ?_
        · simp only [Around.in1]; omega
        · simp only [List.mem_cons, List.mem_singleton, List.not_mem_nil, or_false, not_or]
          exact ⟨by rw [sz]; exact Nat.ne_of_lt (Nat.lt_succ_self _), Nat.ne_of_gt lS⟩
        · rw [List.mem_singleton.mp hb, sz]; exact Nat.le_succ _
        · obtain ⟨h', g', d', tk', os'⟩ := s'
          have e1 : g' = s.gens := hm.gens
          have e2 : d' = s.drawn := hm.drawn
          have e3 : os' = s.os := hm.os
          subst e1; subst e2; subst e3
          refine wpAny_pure (wpAny_pure ⟨rfl, h', tk', rfl, hd, fun b o e => ?_⟩)
          have hb := Heap.lt_size e
          refine hm.heap b o ?_ (Heap.get?_push_of_some _ (Heap.get?_push_of_some _ e))
          simp only [List.mem_cons, List.mem_singleton, List.not_mem_nil, or_false, not_or]
          exact ⟨Nat.ne_of_lt hb, by rw [sz]; exact Nat.ne_of_lt (Nat.lt_succ_of_lt hb)⟩
      · cases r2 with
        | error e => exact hr2
        | ok fl2 => cases fl2 with
          | ret v =>
            obtain ⟨rfl, h', tk, rfl, hd, hk⟩ := hr2
            repeat (any_goals (first | assumption | wp_step))
            exact k _ _ hd hk
          | _ => exact hr2.elim
    | _ => exact hr.elim
theorem loops_ints {items : Array Value} (ns : List Int) (h0 : Heap) (u : Nat) (hit : IntsAre items.toList ns) (hb : ns.length + 1 < scanBound) : Loops P w items h0 u fun h S => ∃ c, c ≤ ns.length ∧ SetR w h S (fun j => decide (j ∈ ns)) c := by
  intro B I S fp wr G Pv St R s0 W _ hS hv _ _ h1 _ hnew k
  have len : items.size = ns.length := by
    have := IntsAre.length hit
    rwa [Array.length_toList] at this
  refine set_update_ints W S hS ns len hb (fun i v hp => ?_) (items.size - 0) 0 s0 (by omega) (Nat.zero_le _) h1 ⟨0, Nat.le_refl 0, setR_new_at hnew⟩ fun s' c hm hc hR => k s' hm ⟨c, by omega, hR⟩
  have hi := hv i v hp
  have lt : i < ns.length := by rw [← len]; exact (Array.getElem?_eq_some_iff.mp hi).1
  obtain ⟨t, e⟩ := PyProof.Rows.IntsAre.int_at hit i v (by rw [Array.getElem?_toList]; exact hi)
  refine ⟨ns[i], t, List.getElem?_eq_getElem lt, ?_⟩
  rw [e, List.getD_eq_getElem?_getD, List.getElem?_eq_getElem lt]
  rfl
end
end DL
namespace DL
open PySem PySem.Spec PyProof.Rows L2
/-! ### sorted(set(xs)) -/
section
variable {P : Program} {w : World} {A : Around} {E : Value → Shared → Prop} {s : Shared} {β : Type} {R : Value → β → Prop} {enc : β → PyData}
theorem sort_set {a : Addr} {es : Array (Int × Value)} {ep : Nat} {t : SetTable} {bs : List β} {Q : Value → Shared → Prop} (hh : A.handled = none) (ha : SetAt s.heap a es ep t) (hf : t.fits es.size = true) (hz : es.size < scanBound) (ris : Ris t.place.toList) (led : w.params.followText "set-order" = true ∨ t.led = true)
    (e : PySem.W.EachIs R (es.toList.map (·.2)) bs) (er : PySem.W.EachIs (fun v b => ∃ as, Reads s.heap v (enc b) as) (es.toList.map (·.2)) bs) (hal : PySem.W.AllAlike (bs.map enc)) (hk : PySem.W.Sortable (bs.map enc)) (hu : ∀ b ∈ bs, A.units + 10 + (enc b).depth < cLine)
    (hQ : ∀ s' p c (out : List Value) (cs : List β), Grown s s' → s.heap.objs.size ≤ p → s'.heap.get? p = some (seqObj "list" out.toArray c) → cs.Perm bs → PySem.W.EachIs R out (cs.mergeSort (PySem.W.dataLe false enc)) → Q (.ref p) s') :
    wpAny (model P w) A (call (.builtin "sorted") [.ref a]) Q E s := by
  have lb : bs.length = es.size := by rw [← e.length, List.length_map, Array.length_toList]
  refine sort_got (R := R) (bs := bs) (enc := enc) hal hk (by rw [lb]; exact fits_of_scanBound hz) hu (fun Q' k => ?_) hQ
  refine collect_set (A := A.in1) (by simpa using hh) ha hf hz ris led fun s1 out k1 z1 g1 o1 pm => ?_
  -- both at once through the permutation
  have both : PySem.W.EachIs (fun v b => R v b ∧ ∃ as, Reads s.heap v (enc b) as) (es.toList.map (·.2)) bs := by
    clear hQ k lb hal hk hu pm
    generalize es.toList.map (·.2) = vs at e er
    induction e with
    | nil => exact .nil
    | cons r t ih =>
      cases er with
      | cons r2 t2 => exact .cons ⟨r, r2⟩ (ih t2)
  obtain ⟨cs, hp, he⟩ := each_perm pm.symm.symm both
  exact k s1 out cs ⟨k1, z1, g1, o1⟩ hp (he.mono fun _ _ h => h.1) (he.mono fun _ _ ⟨_, as, h⟩ => ⟨as, PyProof.Rows.Reads.keeps k1 h⟩)
end
theorem each_of_map {α β γ : Type} {R : β → γ → Prop} {f : α → β} {g : α → γ} : ∀ (l : List α), (∀ x ∈ l, R (f x) (g x)) → PySem.W.EachIs R (l.map f) (l.map g)
  | [], _ => .nil
  | x :: l, h => .cons (h x List.mem_cons_self) (each_of_map l fun y hy => h y (List.mem_cons_of_mem _ hy))
/-- sorted(set(xs)): xs a list of ints, or of tuples of ints -/
def tSortSet (K : PySem.W.Frag) (ta : TE) : TE := fun σ H Q => ta σ H fun x H1 => ∃ l, x = V.ref l ∧
  ((∃ ns : List Int, SqL K H1 l (ns.map V.int) ∧ ns.length < 4000 ∧ ∀ (ms : List Int) p, ms.Pairwise (fun a b => PySem.W.dataLt (.int b) (.int a) = false) → ms.Nodup → (∀ k, k ∈ ms ↔ k ∈ ns) → H1 p = none → Q (.ref p) (upd H1 p (.lst (ms.map V.int)))) ∨
   ∃ ks : List (Addr × List Int), SqL K H1 l (ks.map fun p => V.ref p.1) ∧ (∀ p ∈ ks, SqT K H1 p.1 (p.2.map V.int)) ∧ ks.length < 64 ∧ (∀ p ∈ ks, p.2 ≠ []) ∧
     ∀ (L : List (Addr × List Int)) p, (L.map (·.2)).Pairwise (fun a b => PySem.W.dataLt (.tuple (b.map .int)) (.tuple (a.map .int)) = false) → (L.map (·.2)).Nodup → (∀ k, k ∈ L.map (·.2) ↔ k ∈ ks.map (·.2)) → (∀ q ∈ L, q ∈ ks) → H1 p = none → Q (.ref p) (upd H1 p (.lst (L.map fun q => V.ref q.1))))
theorem dpAll_ints {K : PySem.W.Frag} {H : Hp} : ∀ ns : List Int, DpAll K H (ns.map V.int) (ns.map PyData.int)
  | [] => .nil
  | n :: ns => .cons (.int n) (dpAll_ints ns)
theorem dp_tup {K : PySem.W.Frag} {H : Hp} {a : Addr} {ns : List Int} (h : SqT K H a (ns.map V.int)) : Dp K H (.ref a) (.tuple (ns.map PyData.int)) := .tup h (dpAll_ints ns)
theorem alike_tups (xs ys : List Int) : PySem.W.alike (.tuple (xs.map .int)) (.tuple (ys.map .int)) = true := by
  unfold PySem.W.alike
  exact PySem.W.alike_ints xs ys
theorem sort_pw {β : Type} (enc : β → PyData) (cs : List β) : (cs.mergeSort (PySem.W.dataLe false enc)).Pairwise (fun a b => PySem.W.dataLt (enc b) (enc a) = false) := by
  have pw := PySem.W.sort_pairwise (PySem.W.sortLe_total (PyProof.Rows.listOrd PyProof.Rows.itemOrd) false fun b : β => PySem.W.keyToks (enc b)) cs
  refine pw.imp fun {x y} e => ?_
  have e : (!PySem.W.dataLt (enc y) (enc x)) = true := e
  rwa [Bool.not_eq_true'] at e
theorem pe_sortSet {X : Cx} {a : Expr} {ta : TE} {p p2 q pos : Pos} (hc : X.calm = true) (hu : X.A.units + 100 < cLine) (hg : Gl X "sorted") (hm : X.mg "sorted" = none) (hg2 : Gl X "set") (hm2 : X.mg "set" = none) (ha : PE X a ta)
    (na : starEach [a] X.env = (false, eval a X.env) :: starEach [] X.env := by rfl) : PE X (.Call (.Name "sorted" p) [.Call (.Name "set" p2) [a] [] q] [] pos) (tSortSet X.K ta) := by
  refine ⟨fun pins s σ H Q I h => ?_⟩
  refine Call_ (ld_blt I hg hm (u := .builtin "sorted") (by decide +kernel) ?_)
  refine PyProof.Rows.callWith_builtin1 (PyProof.Rows.args_cons ?_ rfl) rfl rfl
  refine Call_ (ld_blt I hg2 hm2 PyProof.Rows.boot_set ?_)
  refine PyProof.Rows.callWith_type1 (PyProof.Rows.args_cons (thn (ha.run pins s σ H _ I h) fun v s1 ⟨x, H1, I1, r1, q1⟩ => PyProof.Rows.args_nil ?_) na) na rfl
  obtain ⟨l, rfl, q1⟩ := q1
  cases r1
  have hh := I1.ok.hd hc
  rcases q1 with ⟨ns, hs, len, q1⟩ | ⟨ks, hs, hk, len, hne, q1⟩
  · obtain ⟨its, r, pl, hz⟩ := I1.list hs
    have ia : IntsAre its.toArray.toList ns := by simpa using r.ints
    refine set_of_list hh pl.isList (loops_ints (P := X.prog) (w := X.w) ns _ _ ia (by unfold scanBound; omega)) fun h' tk hd hk => ?_
    obtain ⟨c, hc1, o, es, ep, t, ho, hex, hdd, g, nd, hmm, hb, hf, hn, hr, hl⟩ := hd
    refine PyProof.Rows.args_nil ?_
    have I2 : Inv X pins σ H1 { s1 with heap := h', toks := tk } := I1.kept hk
    have ev : ∀ e ∈ es.toList, RelV (.int (keyOf e)) e.2 ∧ ∃ as, Reads h' e.2 (.int (keyOf e)) as := fun e he => by
      obtain ⟨k, t', e1, _⟩ := g e he
      have e2 : keyOf e = k := by unfold keyOf; rw [e1]
      rw [e2, e1]
      exact ⟨⟨t', rfl⟩, [], .int k t'⟩
    refine sort_set (β := Int) (R := fun u k => RelV (.int k) u) (enc := PyData.int) (bs := es.toList.map keyOf) (by exact hh) ⟨o, ho, hex.1, hdd⟩ hf hb hr hl (each_of_map _ fun e he => (ev e he).1) (each_of_map _ fun e he => (ev e he).2) ?_ ?_ (fun b _ => ?_) fun s' p' c' out cs gr hp hg' pm e => ?_
    · intro d hd d' hd'
      obtain ⟨b, _, rfl⟩ := List.mem_map.mp hd
      obtain ⟨b', _, rfl⟩ := List.mem_map.mp hd'
      rfl
    · refine .inr fun d hd => ?_
      obtain ⟨b, _, rfl⟩ := List.mem_map.mp hd
      exact ⟨(fun z => nomatch z), fun xs z => nomatch z⟩
    · show X.A.units + 10 + PyData.depth (.int b) < cLine
      have : PyData.depth (.int b) = 0 := by unfold PyData.depth; rfl
      omega
    · have pm2 := (List.mergeSort_perm cs (PySem.W.dataLe false PyData.int)).trans pm
      have lz : (cs.mergeSort (PySem.W.dataLe false PyData.int)).length ≤ sizeLine := by
        rw [pm2.length_eq, List.length_map, Array.length_toList]; exact fits_of_scanBound hb
      refine ⟨.ref p', _, inv_grown I2 gr hp (o := .lst ((cs.mergeSort (PySem.W.dataLe false PyData.int)).map V.int)) ⟨by rw [List.length_map]; exact lz, out, c', vals_each e, hg'⟩, rfl, q1 _ p' (sort_pw PyData.int cs) (pm2.nodup_iff.mpr nd) (fun k => ?_) (I2.hok.fresh hp)⟩
      rw [pm2.mem_iff, ← hmm k, decide_eq_true_eq]
  · obtain ⟨its, r, pl, hz⟩ := I1.list hs
    refine call_set_tups (P := X.prog) (w := X.w) ks hh pl.isList (by simpa using refs_of_vals r) (fun p hp => I1.isT (hk p hp)) len (by omega) fun h' tk L es ep t R g keep => ?_
    refine PyProof.Rows.args_nil ?_
    have I2 : Inv X pins σ H1 { s1 with heap := h', toks := tk } := I1.kept keep
    obtain ⟨o, ho, hex, hdd⟩ := R.ob
    have sub : ∀ q ∈ L, q ∈ ks := fun q hq => List.mem_of_mem_take (g.sub q hq)
    have es2 : es.toList.map (·.2) = L.map fun q => Value.ref q.1 := by
      rw [R.rows]; unfold rowsOf; rw [List.map_map]; rfl
    have hsz := R.size (s := { s1 with heap := h' })
    refine sort_set (β := Addr × List Int) (R := fun u q => RelV (.ref q.1) u) (enc := fun q => PyData.tuple (q.2.map .int)) (bs := L) (by exact hh) ⟨o, ho, hex.1, hdd⟩ (R.fits (s := { s1 with heap := h' })) (by have := R.few; unfold scanBound; omega) R.tab.ris R.led ?_ ?_ ?_ ?_ (fun b _ => ?_) fun s' p' c' out cs gr hp hg' pm e => ?_
    · rw [es2]
      have := each_of_map (R := fun u (q : Addr × List Int) => RelV (.ref q.1) u) (f := fun q : Addr × List Int => Value.ref q.1) (g := fun q => q) L fun q _ => rfl
      rwa [List.map_id'] at this
    · rw [es2]
      have := each_of_map (R := fun u (q : Addr × List Int) => ∃ as, Reads h' u (PyData.tuple (q.2.map .int)) as) (f := fun q : Addr × List Int => Value.ref q.1) (g := fun q => q) L fun q hq => Dp.reads I2 _ _ _ (dp_tup (hk q (sub q hq))) rfl
      rwa [List.map_id'] at this
    · intro d hd d' hd'
      obtain ⟨b, _, rfl⟩ := List.mem_map.mp hd
      obtain ⟨b', _, rfl⟩ := List.mem_map.mp hd'
      exact alike_tups _ _
    · refine .inl fun d hd => ?_
      obtain ⟨b, hb, rfl⟩ := List.mem_map.mp hd
      have := hne b (sub b hb)
      cases e : b.2 with
      | nil => exact absurd e this
      | cons x xs => exact ⟨.int x, xs.map .int, rfl⟩
    · show X.A.units + 10 + PyData.depth (.tuple (b.2.map .int)) < cLine
      have : PyData.depth (.tuple (b.2.map .int)) = 1 := by
        unfold PyData.depth
        rw [PySem.W.depth_ints]
      omega
    · have pm2 := (List.mergeSort_perm cs (PySem.W.dataLe false fun q : Addr × List Int => PyData.tuple (q.2.map .int))).trans pm
      have lz : (cs.mergeSort (PySem.W.dataLe false fun q : Addr × List Int => PyData.tuple (q.2.map .int))).length ≤ sizeLine := by
        have := R.few
        rw [pm2.length_eq, sizeLine_eq]; omega
      refine ⟨.ref p', _, inv_grown I2 gr hp (o := .lst ((cs.mergeSort (PySem.W.dataLe false fun q : Addr × List Int => PyData.tuple (q.2.map .int))).map fun q => V.ref q.1)) ⟨by rw [List.length_map]; exact lz, out, c', vals_each e, hg'⟩, rfl, q1 _ p' ?_ ((pm2.map _).nodup_iff.mpr R.nd) (fun k => ?_) (fun q hq => sub q (pm2.mem_iff.mp hq)) (I2.hok.fresh hp)⟩
      · exact List.pairwise_map.mpr (sort_pw (fun q : Addr × List Int => PyData.tuple (q.2.map .int)) cs)
      · rw [(pm2.map _).mem_iff]
        constructor
        · intro hk'
          obtain ⟨q, hq, rfl⟩ := List.mem_map.mp hk'
          exact List.mem_map.mpr ⟨q, sub q hq, rfl⟩
        · intro hk'
          obtain ⟨q, hq, rfl⟩ := List.mem_map.mp hk'
          exact g.all q (by rw [List.take_length]; exact hq)
/-! #### over D -/
def SetOk (ds : List D) : Prop := (∃ ns : List Int, ds = ns.map D.int ∧ ns.length < 4000) ∨ ∃ kss : List (List Int), ds = kss.map (fun k => D.tup (k.map D.int)) ∧ kss.length < 64 ∧ ∀ k ∈ kss, k ≠ []
def fSortSet : F1
  | .lst ds, q => SetOk ds ∧ ∀ ds', ds'.Pairwise (fun a b => dLt b a = false) → ds'.Nodup → (∀ x, x ∈ ds' ↔ x ∈ ds) → q (.own ds')
  | _, _ => False
theorem MonF1.sortSet : MonF1 fSortSet := fun x _ _ h z => by
  cases x <;> first | exact (show False from z).elim | exact ⟨z.1, fun ds' a b c => h _ (z.2 ds' a b c)⟩
theorem reps_iffI {K : PySem.W.Frag} {ω : Wd} : ∀ {ns : List Int} {vs : List V}, Reps K ω (ns.map D.int) vs ↔ vs = ns.map V.int
  | [], vs => Reps.nil_iff
  | n :: ns, vs => by
    rw [List.map_cons, Reps.cons_iff]
    constructor
    · rintro ⟨v, r, rfl, h1, h2⟩
      rw [Rep.int_iff.mp h1, reps_iffI.mp h2]
      rfl
    · rintro rfl
      exact ⟨_, _, rfl, Rep.int_iff.mpr rfl, reps_iffI.mpr rfl⟩
theorem reps_tups {K : PySem.W.Frag} {ω : Wd} : ∀ {kss : List (List Int)} {vs : List V}, Reps K ω (kss.map fun k => D.tup (k.map D.int)) vs → ∃ ks : List (Addr × List Int), vs = ks.map (fun p => V.ref p.1) ∧ ks.map (·.2) = kss ∧ ∀ p ∈ ks, SqT K ω.hd p.1 (p.2.map V.int)
  | [], vs, h => ⟨[], Reps.nil_iff.mp h, rfl, fun p hp => nomatch hp⟩
  | k :: kss, vs, h => by
    rw [List.map_cons, Reps.cons_iff] at h
    obtain ⟨v, r, rfl, h1, h2⟩ := h
    obtain ⟨a, us, rfl, h3, h4⟩ := Rep.tup_iff.mp h1
    obtain ⟨ks, rfl, e2, h5⟩ := reps_tups h2
    rw [reps_iffI.mp h4] at h3
    refine ⟨(a, k) :: ks, rfl, by rw [List.map_cons, e2], fun p hp => ?_⟩
    rcases List.mem_cons.mp hp with z | z
    · rw [z]; exact h3
    · exact h5 p z
theorem reps_of {K : PySem.W.Frag} {ω : Wd} : ∀ {L : List (Addr × List Int)}, (∀ p ∈ L, SqT K ω.hd p.1 (p.2.map V.int)) → Reps K ω (L.map fun p => D.tup (p.2.map D.int)) (L.map fun p => V.ref p.1)
  | [], _ => Reps.nil
  | p :: L, h => Reps.cons (Rep.tup_iff.mpr ⟨p.1, _, rfl, h p List.mem_cons_self, reps_iffI.mpr rfl⟩) (reps_of fun q hq => h q (List.mem_cons_of_mem _ hq))
theorem p_int {i : Int} : (D.int i).p = .int i := by unfold D.p; rfl
theorem ps_ints : ∀ ns : List Int, D.ps (ns.map D.int) = ns.map PyData.int
  | [] => by unfold D.ps; rfl
  | n :: ns => by
    rw [List.map_cons]
    unfold D.ps
    rw [p_int, ps_ints ns]
    rfl
theorem p_tups {k : List Int} : (D.tup (k.map D.int)).p = .tuple (k.map .int) := by
  conv => lhs; unfold D.p
  rw [ps_ints]
section
variable {X : Cx} {c : C} {a : Expr} {wa : WD} {pos p p2 q : Pos}
theorem se_sortSet (hK : c.K = X.K) (hu : X.A.units + 100 < cLine) (hc : X.calm = true) (hg : Gl X "sorted") (hm : X.mg "sorted" = none) (hg2 : Gl X "set") (hm2 : X.mg "set" = none) (ha : SP X c a wa)
    (na : starEach [a] X.env = (false, eval a X.env) :: starEach [] X.env := by rfl) : SE X c (.Call (.Name "sorted" p) [.Call (.Name "set" p2) [a] [] q] [] pos) (w1 fSortSet wa) := by
  refine ⟨.w1 .sortSet ha.mon, (pe_sortSet hc hu hg hm hg2 hm2 ha.run na).wk fun σ H Q h => ?_⟩
  refine run_1 (c := c) (f := fSortSet) (r := fun x H1 Q => ∃ l, x = V.ref l ∧
    ((∃ ns : List Int, SqL X.K H1 l (ns.map V.int) ∧ ns.length < 4000 ∧ ∀ (ms : List Int) p, ms.Pairwise (fun a b => PySem.W.dataLt (.int b) (.int a) = false) → ms.Nodup → (∀ k, k ∈ ms ↔ k ∈ ns) → H1 p = none → Q (.ref p) (upd H1 p (.lst (ms.map V.int)))) ∨
     ∃ ks : List (Addr × List Int), SqL X.K H1 l (ks.map fun p => V.ref p.1) ∧ (∀ p ∈ ks, SqT X.K H1 p.1 (p.2.map V.int)) ∧ ks.length < 64 ∧ (∀ p ∈ ks, p.2 ≠ []) ∧
       ∀ (L : List (Addr × List Int)) p, (L.map (·.2)).Pairwise (fun a b => PySem.W.dataLt (.tuple (b.map .int)) (.tuple (a.map .int)) = false) → (L.map (·.2)).Nodup → (∀ k, k ∈ L.map (·.2) ↔ k ∈ ks.map (·.2)) → (∀ q ∈ L, q ∈ ks) → H1 p = none → Q (.ref p) (upd H1 p (.lst (L.map fun q => V.ref q.1))))) .sortSet ?_ ha h
  rw [← hK]
  intro ω H σ env tk x v q Q ok rx h hr
  cases x <;> first | exact (show False from h).elim | skip
  rename_i ds
  obtain ⟨t, vs, rfl, sx, qx⟩ := rx.lst ok.sub
  obtain ⟨so, h⟩ := h
  refine ⟨t, rfl, ?_⟩
  rcases so with ⟨ns, rfl, len⟩ | ⟨kss, rfl, len, hne⟩
  · have e := reps_iffI.mp qx
    subst e
    refine .inl ⟨ns, sx, len, fun ms p pw nd mem n => ?_⟩
    refine hr.lst ok (h (ms.map D.int) ?_ ?_ fun x => ?_) (reps_iffI.mpr rfl) n
    · refine List.pairwise_map.mpr (pw.imp fun {a b} e => ?_)
      unfold dLt
      rw [p_int, p_int]
      exact e
    · exact List.pairwise_map.mpr (nd.imp fun {a b} ne e => ne (by injection e))
    · constructor
      · intro hx
        obtain ⟨k, hk, rfl⟩ := List.mem_map.mp hx
        exact List.mem_map.mpr ⟨k, (mem k).mp hk, rfl⟩
      · intro hx
        obtain ⟨k, hk, rfl⟩ := List.mem_map.mp hx
        exact List.mem_map.mpr ⟨k, (mem k).mpr hk, rfl⟩
  · obtain ⟨ks, rfl, e2, h5⟩ := reps_tups qx
    refine .inr ⟨ks, sx, fun p hp => sqT_mono ok.sub (h5 p hp), by rw [← List.length_map (f := (·.2)), e2]; exact len, fun p hp => hne _ (by rw [← e2]; exact List.mem_map.mpr ⟨p, hp, rfl⟩), fun L p pw nd mem sub n => ?_⟩
    have eL : (L.map fun p => D.tup (p.2.map D.int)) = (L.map (·.2)).map fun k => D.tup (k.map D.int) := by rw [List.map_map]; rfl
    have inj : ∀ k k' : List Int, D.tup (k.map D.int) = D.tup (k'.map D.int) → k = k' := fun k k' e => by
      have := congrArg D.p e
      rw [p_tups, p_tups] at this
      injection this with this
      exact (List.map_inj_right fun a b e => by injection e).mp this
    refine hr.lst ok (h (L.map fun p => D.tup (p.2.map D.int)) ?_ ?_ fun x => ?_) (reps_of fun q hq => h5 q (sub q hq)) n
    · rw [eL]
      refine List.pairwise_map.mpr (pw.imp fun {a b} e => ?_)
      unfold dLt
      rw [p_tups, p_tups]
      exact e
    · rw [eL]
      exact List.pairwise_map.mpr (nd.imp fun {a b} ne e => ne (inj _ _ e))
    · rw [eL, ← e2]
      constructor
      · intro hx
        obtain ⟨k, hk, rfl⟩ := List.mem_map.mp hx
        exact List.mem_map.mpr ⟨k, (mem k).mp hk, rfl⟩
      · intro hx
        obtain ⟨k, hk, rfl⟩ := List.mem_map.mp hx
        exact List.mem_map.mpr ⟨k, (mem k).mpr hk, rfl⟩
end
end DL
namespace DL
open PySem PySem.Spec PyProof.Rows L2
@[irreducible] def sp_floor_root : FSpec := fun ds tk Q => ∃ (n : Int), ds = [.int n] ∧ (0 ≤ n) ∧ (n < 2 ^ 13000) ∧ ∀ (r : Int), ∀ (a : 0 ≤ r), ∀ (b : r * r ≤ n), ∀ (d : n < (r + 1) * (r + 1)), Q (.val (.int r)) tk
theorem op_floor_root {ds : List D} {tk : Tk} {Q : EV → Tk → Prop} (h : sp_floor_root ds tk Q) : ∃ (n : Int), ds = [.int n] ∧ (0 ≤ n) ∧ (n < 2 ^ 13000) ∧ ∀ (r : Int), ∀ (a : 0 ≤ r), ∀ (b : r * r ≤ n), ∀ (d : n < (r + 1) * (r + 1)), Q (.val (.int r)) tk := by unfold sp_floor_root at h; exact h
theorem mon_floor_root : MonFS sp_floor_root := fun ds tk Q Q' hq_ hs_ => by
  obtain ⟨n, e_, h0, h1, q_⟩ := op_floor_root hs_
  unfold sp_floor_root
  exact ⟨n, e_, h0, h1, fun r a b d => hq_ _ _ (q_ r a b d)⟩
theorem len_floor_root : ∀ ds tk Q, sp_floor_root ds tk Q → ds.length = 1 := fun ds tk Q hs_ => by
  obtain ⟨n, e_, h0, h1, q_⟩ := op_floor_root hs_
  rw [e_]; rfl
theorem cl_floor_root {tk : Tk} {Q : EV → Tk → Prop} {n : Int} (h0 : 0 ≤ n) (h1 : n < 2 ^ 13000) (q_ : ∀ (r : Int), ∀ (a : 0 ≤ r), ∀ (b : r * r ≤ n), ∀ (d : n < (r + 1) * (r + 1)), Q (.val (.int r)) tk) : sp_floor_root [.int n] tk Q := by
  unfold sp_floor_root
  exact ⟨n, rfl, h0, h1, q_⟩
theorem ce_floor_root {ds_ : List D} {tk : Tk} {Q : EV → Tk → Prop} {n : Int} (h0 : 0 ≤ n) (h1 : n < 2 ^ 13000) (e_ : ds_ = [.int n]) (q_ : ∀ (r : Int), ∀ (a : 0 ≤ r), ∀ (b : r * r ≤ n), ∀ (d : n < (r + 1) * (r + 1)), Q (.val (.int r)) tk) : sp_floor_root ds_ tk Q := by
  subst e_
  unfold sp_floor_root
  exact ⟨n, rfl, h0, h1, q_⟩
abbrev N_floor_root : List Str := ["n"]
def c_floor_root : WS :=
  (wRet (w1 fSqrt (wPk 0)))
theorem isq_spec {n : Int} (h : 0 ≤ n) : (0 : Int) ≤ ((Float64.isqrt n.toNat : Nat) : Int) ∧ ((Float64.isqrt n.toNat : Nat) : Int) * ((Float64.isqrt n.toNat : Nat) : Int) ≤ n ∧ n < (((Float64.isqrt n.toNat : Nat) : Int) + 1) * (((Float64.isqrt n.toNat : Nat) : Int) + 1) := by
  obtain ⟨a, b⟩ := Float64.isqrt_spec n.toNat
  generalize Float64.isqrt n.toNat = r at a b
  have e : ((n.toNat : Nat) : Int) = n := by omega
  refine ⟨Int.natCast_nonneg _, ?_, ?_⟩
  · have := Int.ofNat_le.mpr a
    rw [Int.natCast_mul, e] at this
    exact this
  · have := Int.ofNat_lt.mpr b
    rw [Int.natCast_mul, e] at this
    exact this
theorem log2_lt {n : Int} {k : Nat} (hk : 0 < k) (h0 : 0 ≤ n) (h : n < 2 ^ k) : n.toNat.log2 < k := by
  have h' : n.toNat < 2 ^ k := by
    have : (n.toNat : Int) < ((2 ^ k : Nat) : Int) := by
      rw [Int.natCast_pow, show (n.toNat : Int) = n by omega]
      exact h
    exact Int.ofNat_lt.mp this
  exact PySem.Flt.log2_lt_of hk h'
theorem hw_floor_root : ∀ ds tk Q, sp_floor_root ds tk Q → c_floor_root { nx := fun _ t => Q (.val .non) t, rt := Q } (start N_floor_root.length ds) tk := by
  intro ds tk Q h_
  obtain ⟨n, rfl, h0, h1, q⟩ := op_floor_root h_
  unfold c_floor_root
  walk_at "dl"
  obtain ⟨a, b, d⟩ := isq_spec h0
  exact ⟨h0, Nat.lt_of_lt_of_le (log2_lt (by decide) h0 h1) (by decide), q _ a b d⟩
/-- a root's square is the number exactly if it is a square -/
theorem root_sq {n r : Int} (h0 : 0 ≤ r) (h1 : r * r ≤ n) (h2 : n < (r + 1) * (r + 1)) : (r * r = n) ↔ ∃ s : Int, s * s = n := by
  constructor
  · intro h; exact ⟨r, h⟩
  · rintro ⟨s, rfl⟩
    have key : ∀ s : Int, 0 ≤ s → r * r ≤ s * s → s * s < (r + 1) * (r + 1) → r * r = s * s := by
      intro s hs a b
      have l1 : r ≤ s := by
        rcases Int.lt_or_le s r with z | z
        · exfalso
          have := Int.mul_le_mul (show s ≤ r by omega) (show s + 1 ≤ r by omega) (by omega) h0
          have e2 : s * (s + 1) = s * s + s := by rw [Int.mul_add, Int.mul_one]
          have := Int.mul_le_mul (show s + 1 ≤ r by omega) (show s + 1 ≤ r by omega) (by omega) h0
          have e3 : (s + 1) * (s + 1) = s * s + 2 * s + 1 := by rw [Int.add_mul, Int.mul_add, Int.mul_one, Int.one_mul]; omega
          omega
        · exact z
      have l2 : s < r + 1 := by
        rcases Int.lt_or_le s (r + 1) with z | z
        · exact z
        · have := Int.mul_le_mul z z (by omega) (by omega)
          omega
      have : s = r := by omega
      rw [this]
    rcases Int.lt_or_le s 0 with z | z
    · have e : s * s = (-s) * (-s) := by rw [Int.neg_mul_neg]
      rw [e] at h1 h2 ⊢
      exact key (-s) (by omega) h1 h2
    · exact key s z h1 h2
def IsSq (n : Int) : Prop := ∃ s : Int, s * s = n
def isSqB (n : Int) : Bool := decide (0 ≤ n) && decide (((Float64.isqrt n.toNat : Nat) : Int) * ((Float64.isqrt n.toNat : Nat) : Int) = n)
theorem isSqB_iff {n : Int} : isSqB n = true ↔ IsSq n := by
  unfold isSqB
  rw [Bool.and_eq_true, decide_eq_true_eq, decide_eq_true_eq]
  constructor
  · rintro ⟨_, h⟩; exact ⟨_, h⟩
  · intro h
    have h0 : 0 ≤ n := by
      obtain ⟨s, rfl⟩ := h
      rcases Int.le_total 0 s with z | z
      · exact Int.mul_nonneg z z
      · exact Int.mul_nonneg_of_nonpos_of_nonpos z z
    obtain ⟨a, b, d⟩ := isq_spec h0
    exact ⟨h0, (root_sq a b d).mpr h⟩
@[irreducible] def sp_is_square : FSpec := fun ds tk Q => ∃ (n : Int), ds = [.int n] ∧ (n < 2 ^ 13000) ∧ Q (.val (.bl (isSqB n))) tk
theorem op_is_square {ds : List D} {tk : Tk} {Q : EV → Tk → Prop} (h : sp_is_square ds tk Q) : ∃ (n : Int), ds = [.int n] ∧ (n < 2 ^ 13000) ∧ Q (.val (.bl (isSqB n))) tk := by unfold sp_is_square at h; exact h
theorem mon_is_square : MonFS sp_is_square := fun ds tk Q Q' hq_ hs_ => by
  obtain ⟨n, e_, h1, q_⟩ := op_is_square hs_
  unfold sp_is_square
  exact ⟨n, e_, h1, hq_ _ _ q_⟩
theorem len_is_square : ∀ ds tk Q, sp_is_square ds tk Q → ds.length = 1 := fun ds tk Q hs_ => by
  obtain ⟨n, e_, h1, q_⟩ := op_is_square hs_
  rw [e_]; rfl
theorem cl_is_square {tk : Tk} {Q : EV → Tk → Prop} {n : Int} (h1 : n < 2 ^ 13000) (q_ : Q (.val (.bl (isSqB n))) tk) : sp_is_square [.int n] tk Q := by
  unfold sp_is_square
  exact ⟨n, rfl, h1, q_⟩
theorem ce_is_square {ds_ : List D} {tk : Tk} {Q : EV → Tk → Prop} {n : Int} (h1 : n < 2 ^ 13000) (e_ : ds_ = [.int n]) (q_ : Q (.val (.bl (isSqB n))) tk) : sp_is_square ds_ tk Q := by
  subst e_
  unfold sp_is_square
  exact ⟨n, rfl, h1, q_⟩
abbrev N_is_square : List Str := ["n"]
def c_is_square : WS :=
  (wRet (wB (wAnd (wT (wOp fGe (wPk 0) (fz (wC (.int 0))))) (wT (wOp fEq (fz (wOp fMul (fz (w1 fSqrt (wPk 0))) (fz (w1 fSqrt (wPk 0))))) (wPk 0))))))
theorem isSqB_true {n : Int} (h : IsSq n) : isSqB n = true := isSqB_iff.mpr h
theorem isSqB_false {n : Int} (h : ¬ IsSq n) : isSqB n = false := Bool.eq_false_iff.mpr fun e => h (isSqB_iff.mp e)
theorem isSqB_neg {n : Int} (h : n < 0) : isSqB n = false := isSqB_false fun ⟨s, e⟩ => by
  have : 0 ≤ s * s := by
    rcases Int.le_total 0 s with z | z
    · exact Int.mul_nonneg z z
    · exact Int.mul_nonneg_of_nonpos_of_nonpos z z
  omega
theorem hw_is_square : ∀ ds tk Q, sp_is_square ds tk Q → c_is_square { nx := fun _ t => Q (.val .non) t, rt := Q } (start N_is_square.length ds) tk := by
  intro ds tk Q h_
  obtain ⟨n, rfl, h1, q⟩ := op_is_square h_
  unfold c_is_square
  walk_at "dl"
  simp only [fSqrt]
  walk_at "dl"
  have sq : isSqB n = if 0 ≤ n then decide (((Float64.isqrt n.toNat : Nat) : Int) * ((Float64.isqrt n.toNat : Nat) : Int) = n) else false := by
    unfold isSqB
    split
    · rename_i h; rw [decide_eq_true h, Bool.true_and]
    · rename_i h; rw [decide_eq_false h, Bool.false_and]
  rw [sq] at q
  split
  · rename_i h0
    rw [if_pos h0] at q
    have hl : n.toNat.log2 < 13400 := Nat.lt_of_lt_of_le (log2_lt (by decide) h0 h1) (by decide)
    obtain ⟨a, b, d⟩ := isq_spec h0
    refine ⟨h0, hl, h0, hl, .inl ?_, q⟩
    have e : ((Float64.isqrt n.toNat : Nat) : Int).natAbs = Float64.isqrt n.toNat := rfl
    have hb : Float64.isqrt n.toNat ≤ n.toNat := by
      obtain ⟨a, _⟩ := Float64.isqrt_spec n.toNat
      refine Nat.le_trans ?_ a
      rcases Nat.eq_zero_or_pos (Float64.isqrt n.toNat) with z | z
      · rw [z]; exact Nat.le_refl 0
      · exact Nat.le_mul_of_pos_left _ z
    have hlog : (Float64.isqrt n.toNat).log2 ≤ n.toNat.log2 := by
      rcases Nat.eq_zero_or_pos (Float64.isqrt n.toNat) with z | z
      · rw [z, Nat.log2_zero]; exact Nat.zero_le _
      · exact (Nat.le_log2 (by omega)).mpr (Nat.le_trans (Nat.log2_self_le (by omega)) hb)
    unfold CMulW
    rw [e]
    omega
  · rename_i h0
    rw [if_neg h0] at q
    exact q
end DL
namespace DL
open PySem PySem.Spec PyProof.Rows L2
/-! ### rows for the walks of the laws -/
theorem eqv_bl {i j : Bool} : D.eqv (.bl i) (.bl j) = (i == j) := rfl
theorem ok_bl {i : Bool} : D.ok (.bl i) = true := by unfold D.ok okN; rfl
theorem fEq_bl {i j : Bool} {q : EV → Prop} (h : q (.val (.bl (i == j)))) : fEq (.bl i) (.bl j) q := ⟨ok_bl, ok_bl, h⟩
theorem mulOk_big {i j : Int} {a b : Nat} (ha : i.natAbs < 2 ^ a) (hb : j.natAbs < 2 ^ b) (h0 : 0 < a) (h1 : 0 < b) (h : a + b ≤ 1000000) : MulOk i j := .inl (wide_mul ha hb h0 h1 h)
theorem fIdx_of {ds : List D} {i : Int} {q : EV → Prop} (P : D → Prop) (h0 : 0 ≤ i) (h1 : i < (ds.length : Int)) (hp : ∀ d ∈ ds, P d) (k : ∀ d, P d → q (.val d)) : fIdx (.lst ds) (.int i) q := by
  obtain ⟨d, e, e2⟩ := atI_some h0 h1
  show (match atI ds i with | some d => q (.val d) | none => False)
  rw [e]
  exact k d (hp d (List.mem_of_getElem? e2))
theorem all1 {P : D → Prop} {a : D} (h1 : P a) : ∀ d ∈ [a], P d := fun d h => by rw [List.mem_singleton] at h; subst h; exact h1
theorem allc {P : D → Prop} {a : D} {l : List D} (h1 : P a) (h2 : ∀ d ∈ l, P d) : ∀ d ∈ a :: l, P d := fun d h => by
  rcases List.mem_cons.mp h with rfl | h
  · exact h1
  · exact h2 d h
theorem all2 {P : D → Prop} {a b : D} (h1 : P a) (h2 : P b) : ∀ d ∈ [a, b], P d := allc h1 (all1 h2)
theorem all3 {P : D → Prop} {a b e : D} (h1 : P a) (h2 : P b) (h3 : P e) : ∀ d ∈ [a, b, e], P d := allc h1 (all2 h2 h3)
/-- what holds between two statements -/
theorem seq_cut {a b : WS} {P : Post} {env : En} {tk : Tk} (I : En → Tk → Prop) (h1 : ∀ R : En → Tk → Prop, (∀ e t, I e t → R e t) → a { P with nx := R } env tk) (h2 : ∀ e t, I e t → b P e t) : wSeq a b P env tk := h1 _ h2
theorem ifT {c A B : Prop} [Decidable c] (h : c) (k : A) : if decide c = true then A else B := by rw [if_pos (decide_eq_true h)]; exact k
theorem ifF {c A B : Prop} [Decidable c] (h : ¬ c) (k : B) : if decide c = true then A else B := by rw [if_neg (by rw [decide_eq_true_eq]; exact h)]; exact k
theorem if2 {c A B : Prop} [Decidable c] (h : c → A) (k : ¬ c → B) : if decide c = true then A else B := by
  by_cases z : c
  · exact ifT z (h z)
  · exact ifF z (k z)
theorem ifB {b : Bool} {A B : Prop} (h : b = true) (k : A) : if b = true then A else B := by rw [if_pos h]; exact k
theorem ifBF {b : Bool} {A B : Prop} (h : b = false) (k : B) : if b = true then A else B := by rw [h]; exact k
theorem ifN {c A B : Prop} [Decidable c] (h : c) (k : B) : if (!decide c) = true then A else B := by rw [decide_eq_true h]; exact k
theorem ifNT {c A B : Prop} [Decidable c] (h : ¬ c) (k : A) : if (!decide c) = true then A else B := by rw [decide_eq_false h]; exact k
theorem ifN2 {c A B : Prop} [Decidable c] (h : ¬ c → A) (k : c → B) : if (!decide c) = true then A else B := by
  by_cases z : c
  · exact ifN z (k z)
  · exact ifNT z (h z)
/-- a test of != on equal data -/
theorem ifNB {b : Bool} {A B : Prop} (h : b = true) (k : B) : if (!b) = true then A else B := by rw [h]; exact k
theorem natAbs_lt {n : Int} {k : Nat} (h0 : 0 ≤ n) (h : n < 2 ^ k) : n.natAbs < 2 ^ k := by
  have : (n.natAbs : Int) < ((2 ^ k : Nat) : Int) := by
    rw [Int.natCast_pow, show (n.natAbs : Int) = n by omega]
    exact h
  exact Int.ofNat_lt.mp this
theorem int_lt_pow {n m : Nat} (h : n < m) {k : Nat} (hm : m ≤ 2 ^ k) : (n : Int) < 2 ^ k := by
  have : (n : Int) < ((2 ^ k : Nat) : Int) := Int.ofNat_lt.mpr (Nat.lt_of_lt_of_le h hm)
  rw [Int.natCast_pow] at this
  exact this
theorem pow_mono {m j k : Nat} (hm : 0 < m) (h : j ≤ k) : m ^ j ≤ m ^ k := Nat.pow_le_pow_right hm h
theorem ok_tup {xs : List D} (h : okNs 59 xs = true) : D.ok (.tup xs) = true := by unfold D.ok okN; exact h
theorem okNs_int {n : Nat} {i : Int} {l : List D} (h : okNs n l = true) : okNs n (.int i :: l) = true := by unfold okNs okN; exact h
theorem okNs_nil {n : Nat} : okNs n [] = true := by unfold okNs; rfl
theorem ok_t4 {a b c d : Int} : D.ok (.tup [.int a, .int b, .int c, .int d]) = true := ok_tup (okNs_int (okNs_int (okNs_int (okNs_int okNs_nil))))
theorem ok_t3 {a b c : Int} : D.ok (.tup [.int a, .int b, .int c]) = true := ok_tup (okNs_int (okNs_int (okNs_int okNs_nil)))
theorem ok_t2 {a b : Int} : D.ok (.tup [.int a, .int b]) = true := ok_tup (okNs_int (okNs_int okNs_nil))
theorem eqv_self {d : D} (h : d.ok = true) : d.eqv d = true := PySem.SeqAt.eqv_refl _ (okN_lay d 60 h).1
theorem eqv_eq {x y : D} (e : x = y) (h : x.ok = true) : x.eqv y = true := by subst e; exact eqv_self h
/-- equal: == tells True -/
theorem fEq_t {x y : D} {q : EV → Prop} (e : x = y) (h : x.ok = true) (k : q (.val (.bl true))) : fEq x y q := by
  subst e
  cases x <;> first | exact ⟨h, h, by rw [eqv_self h]; exact k⟩ | skip
  next i =>
    have z : decide (i = i) = true := decide_eq_true rfl
    show q (.val (.bl (decide (i = i))))
    rw [z]; exact k
/-- equal: != tells False -/
theorem fNe_f {x y : D} {q : EV → Prop} (e : x = y) (h : x.ok = true) (k : q (.val (.bl false))) : fNe x y q := by
  subst e
  cases x <;> first | exact ⟨h, h, by rw [eqv_self h]; exact k⟩ | skip
  next i =>
    have z : decide (i = i) = true := decide_eq_true rfl
    show q (.val (.bl (!decide (i = i))))
    rw [z]; exact k
theorem kon_t4 {K : PySem.W.Frag} {mg : Str → Option Value} {x : Str} {u : Addr} {a b c d : Int} {od : Option Addr} {t1 t2 t3 t4 : Tok} {n : Nat} {sl : Array (Option Value)} (hm : mg x = some (.ref u)) (l : K.lookup u = some ⟨.type "tuple", od, .seq #[.int a t1, .int b t2, .int c t3, .int d t4] n, sl⟩) : Kon K mg x (.tup [.int a, .int b, .int c, .int d]) :=
  ⟨.ref u, .ref u, hm, rfl, fun ω => Rep.tup_iff.mpr ⟨u, [.int a, .int b, .int c, .int d], rfl, .inr ⟨_, _, n, l, rfl, rfl, (show 4 ≤ sizeLine by decide), .cons ⟨t1, rfl⟩ (.cons ⟨t2, rfl⟩ (.cons ⟨t3, rfl⟩ (.cons ⟨t4, rfl⟩ .nil)))⟩, .cons (Rep.int_iff.mpr rfl) (.cons (Rep.int_iff.mpr rfl) (.cons (Rep.int_iff.mpr rfl) (.cons (Rep.int_iff.mpr rfl) .nil)))⟩⟩
/-! ### sizes -/
/-- a size that every product of a few such numbers still has room for -/
def Sm (k : Nat) (x : Int) : Prop := x.natAbs < 2 ^ k
theorem Sm.mulOk {x y : Int} {k j : Nat} (h : Sm k x) (h' : Sm j y) (hk : k ≤ 400000) (hj : j ≤ 400000) : MulOk x y := by
  refine .inl (wide_mul (a := k + 1) (b := j + 1) (Nat.lt_of_lt_of_le h (Nat.pow_le_pow_right (by decide) (by omega))) (Nat.lt_of_lt_of_le h' (Nat.pow_le_pow_right (by decide) (by omega))) (by omega) (by omega) (by omega))
theorem Sm.mono {x : Int} {k j : Nat} (h : Sm k x) (hk : k ≤ j) : Sm j x := Nat.lt_of_lt_of_le h (Nat.pow_le_pow_right (by decide) hk)
theorem Sm.mul {x y : Int} {k j : Nat} (h : Sm k x) (h' : Sm j y) : Sm (k + j) (x * y) := by
  unfold Sm at *
  rw [Int.natAbs_mul, Nat.pow_add]
  exact Nat.mul_lt_mul'' h h'
theorem Sm.add {x y : Int} {k : Nat} (h : Sm k x) (h' : Sm k y) : Sm (k + 1) (x + y) := by
  unfold Sm at *
  rw [Nat.pow_succ]
  omega
theorem Sm.sub {x y : Int} {k : Nat} (h : Sm k x) (h' : Sm k y) : Sm (k + 1) (x - y) := by
  unfold Sm at *
  rw [Nat.pow_succ]
  omega
theorem Sm.neg {x : Int} {k : Nat} (h : Sm k x) : Sm k (-x) := by unfold Sm at *; rw [Int.natAbs_neg]; exact h
theorem sm_of {x : Int} {k : Nat} (h0 : -(2 ^ k : Nat) < x) (h1 : x < (2 ^ k : Nat)) : Sm k x := by unfold Sm; omega
abbrev BG : Nat := 200000
/-- a small number -/
theorem sm_lit {x : Int} (h : x.natAbs < 2 ^ 64) : Sm BG x := Nat.lt_of_lt_of_le h (Nat.pow_le_pow_right (by decide) (by decide))
/-! ### a, b = x, y -/
section
variable {X : Cx} {c : C}
theorem ss_par {i j : Nat} {x y : Str} {a b : Expr} {r : WA} {px py pt pos : Pos} {kt k2 : Nat} {pt2 : Pos} (hc : X.calm = true) (hN : X.N.Nodup) (hi : X.N[i]? = some x) (hj : X.N[j]? = some y) (hij : i ≠ j)
    (hx : X.env.scope.names.lookup x = some .local) (hy : X.env.scope.names.lookup y = some .local) (ha : SA X c [a, b] r)
    (hw : swappedStores [.Tuple [.Name x px, .Name y py] kt pt] (.Tuple [a, b] k2 pt2) X.env = pure (some [x, y]) := by rfl)
    (hs : swapsWithSole [.Tuple [.Name x px, .Name y py] kt pt] (.Tuple [a, b] k2 pt2) pos.line X.env = pure false := by rfl) :
    SS X c (.Assign [.Tuple [.Name x px, .Name y py] kt pt] (.Tuple [a, b] k2 pt2) pos) (wPar i j r) :=
  ⟨.par ha.mon, (ps_par hc hN hi hj hij hx hy ha.run hw hs).wk fun _ _ _ q => run_par ha.mon q⟩
theorem ss_par3 {i j l : Nat} {x y z : Str} {a b d : Expr} {r : WA} {px py pz pt pos : Pos} {kt k2 : Nat} {pt2 : Pos} (hc : X.calm = true) (hN : X.N.Nodup) (hi : X.N[i]? = some x) (hj : X.N[j]? = some y) (hl : X.N[l]? = some z) (hij : i ≠ j) (hil : i ≠ l) (hjl : j ≠ l)
    (hx : X.env.scope.names.lookup x = some .local) (hy : X.env.scope.names.lookup y = some .local) (hz : X.env.scope.names.lookup z = some .local) (ha : SA X c [a, b, d] r)
    (hw : swappedStores [.Tuple [.Name x px, .Name y py, .Name z pz] kt pt] (.Tuple [a, b, d] k2 pt2) X.env = pure (some [x, y, z]) := by rfl)
    (hs : swapsWithSole [.Tuple [.Name x px, .Name y py, .Name z pz] kt pt] (.Tuple [a, b, d] k2 pt2) pos.line X.env = pure false := by rfl) :
    SS X c (.Assign [.Tuple [.Name x px, .Name y py, .Name z pz] kt pt] (.Tuple [a, b, d] k2 pt2) pos) (wPar3 i j l r) :=
  ⟨.par3 ha.mon, (ps_par3 hc hN hi hj hl hij hil hjl hx hy hz ha.run hw hs).wk fun _ _ _ q => run_par3 ha.mon q⟩
end
/-! ### a, b = [..] -/
def gL (n : Nat) (g : WGs) : WG := fun d env Q => match d with
  | .lst ds => ds.length = n ∧ g ds env Q
  | _ => False
section
variable {X : Cx} {c : C} {pos : Pos}
theorem sg_lst {es : List Expr} {k n : Nat} {t : TGs} {g : WGs} {vs : List Nat} (hK : c.K = X.K) (hc : X.calm = true) (hg : SGs X c es t g vs) (hn : (assignEach es X.env).length = n := by rfl) (hst : (assignEach es X.env).findIdx? (·.1) = none := by rfl) : SG X c (.Tuple es k pos) (gLst X.K n t) (gL n g) vs where
  mon := fun d env Q Q' k q => by cases d <;> first | exact (show False from q).elim | exact ⟨q.1, hg.mon _ _ _ _ k q.2⟩
  loc := fun d env Q q => by cases d <;> first | exact (show False from q).elim | exact ⟨q.1, hg.loc _ _ _ q.2⟩
  pg := pg_lst hc hg.pg hn hst
  run := fun σ H v Q ω env tk d ok r q => by
    cases d <;> first | exact (show False from q).elim | skip
    obtain ⟨a, vs, rfl, h1, h2⟩ := Rep.lst_iff.mp r
    rw [hK] at h1
    exact ⟨a, vs, rfl, sqL_mono ok.sub h1, by rw [h2.length]; exact q.1, hg.run σ H vs Q ω env tk _ ok h2 q.2⟩
end
end DL
namespace DL
open PySem PySem.Spec PyProof.Rows L2
/-! ### matrices, points, forms -/
structure M4 where
  p : Int
  q : Int
  r : Int
  s : Int
  deriving DecidableEq
def M4.D (m : M4) : D := .tup [.int m.p, .int m.q, .int m.r, .int m.s]
structure P2 where
  x : Int
  y : Int
  deriving DecidableEq
def P2.D (m : P2) : D := .tup [.int m.x, .int m.y]
structure F3 where
  a : Int
  b : Int
  c : Int
  deriving DecidableEq
def F3.D (m : F3) : D := .tup [.int m.a, .int m.b, .int m.c]
def M4.Sm (k : Nat) (m : M4) : Prop := DL.Sm k m.p ∧ DL.Sm k m.q ∧ DL.Sm k m.r ∧ DL.Sm k m.s
def M4.mul (m n : M4) : M4 := ⟨m.p * n.p + m.q * n.r, m.p * n.q + m.q * n.s, m.r * n.p + m.s * n.r, m.r * n.q + m.s * n.s⟩
def M4.one : M4 := ⟨1, 0, 0, 1⟩
def M4.det (m : M4) : Int := m.p * m.s - m.q * m.r
def M4.at (m : M4) (v : P2) : P2 := ⟨m.p * v.x + m.q * v.y, m.r * v.x + m.s * v.y⟩
def M4.neg (m : M4) : M4 := ⟨-m.p, -m.q, -m.r, -m.s⟩
def M4.inv (m : M4) : M4 := ⟨m.det * m.s, -m.det * m.q, -m.det * m.r, m.det * m.p⟩
def P2.Sm (k : Nat) (m : P2) : Prop := DL.Sm k m.x ∧ DL.Sm k m.y
def F3.Sm (k : Nat) (m : F3) : Prop := DL.Sm k m.a ∧ DL.Sm k m.b ∧ DL.Sm k m.c

def sp_multiply : FSpec := fun ds tk Q => ∃ m n : M4, ds = [m.D, n.D] ∧ m.Sm BG ∧ n.Sm BG ∧ Q (.val (m.mul n).D) tk
theorem mon_multiply : MonFS sp_multiply := fun ds tk Q Q' h ⟨m, n, e, h0, h1, q⟩ => ⟨m, n, e, h0, h1, h _ _ q⟩
theorem len_multiply : ∀ ds tk Q, sp_multiply ds tk Q → ds.length = 2 := fun ds tk Q ⟨m, n, e, _⟩ => by rw [e]; rfl
abbrev N_multiply : List Str := ["m", "n"]
def c_multiply : WS :=
  (wRet (wTup (wCons (fz (wOp fAdd (fz (wOp fMul (fz (wOp fIdx (wPk 0) (fz (wC (.int 0))))) (fz (wOp fIdx (wPk 1) (fz (wC (.int 0))))))) (fz (wOp fMul (fz (wOp fIdx (wPk 0) (fz (wC (.int 1))))) (fz (wOp fIdx (wPk 1) (fz (wC (.int 2))))))))) (wCons (fz (wOp fAdd (fz (wOp fMul (fz (wOp fIdx (wPk 0) (fz (wC (.int 0))))) (fz (wOp fIdx (wPk 1) (fz (wC (.int 1))))))) (fz (wOp fMul (fz (wOp fIdx (wPk 0) (fz (wC (.int 1))))) (fz (wOp fIdx (wPk 1) (fz (wC (.int 3))))))))) (wCons (fz (wOp fAdd (fz (wOp fMul (fz (wOp fIdx (wPk 0) (fz (wC (.int 2))))) (fz (wOp fIdx (wPk 1) (fz (wC (.int 0))))))) (fz (wOp fMul (fz (wOp fIdx (wPk 0) (fz (wC (.int 3))))) (fz (wOp fIdx (wPk 1) (fz (wC (.int 2))))))))) (wCons (fz (wOp fAdd (fz (wOp fMul (fz (wOp fIdx (wPk 0) (fz (wC (.int 2))))) (fz (wOp fIdx (wPk 1) (fz (wC (.int 1))))))) (fz (wOp fMul (fz (wOp fIdx (wPk 0) (fz (wC (.int 3))))) (fz (wOp fIdx (wPk 1) (fz (wC (.int 3))))))))) wNil))))))
theorem hw_multiply : ∀ ds tk Q, sp_multiply ds tk Q → c_multiply { nx := fun _ t => Q (.val .non) t, rt := Q } (start N_multiply.length ds) tk := by
  rintro ds tk Q ⟨m, n, rfl, ⟨a1, a2, a3, a4⟩, ⟨b1, b2, b3, b4⟩, q⟩
  have k : ∀ {x y : Int}, Sm BG x → Sm BG y → MulOk x y := fun h h' => h.mulOk h' (by decide) (by decide)
  exact ⟨k a1 b1, k a2 b3, k a1 b2, k a2 b4, k a3 b1, k a4 b3, k a3 b2, k a4 b4, rfl, q⟩
def sp_determinant : FSpec := fun ds tk Q => ∃ m : M4, ds = [m.D] ∧ m.Sm BG ∧ Q (.val (.int m.det)) tk
theorem mon_determinant : MonFS sp_determinant := fun ds tk Q Q' h ⟨m, e, h0, q⟩ => ⟨m, e, h0, h _ _ q⟩
theorem len_determinant : ∀ ds tk Q, sp_determinant ds tk Q → ds.length = 1 := fun ds tk Q ⟨m, e, _⟩ => by rw [e]; rfl
abbrev N_determinant : List Str := ["m"]
def c_determinant : WS :=
  (wRet (wOp fSub (fz (wOp fMul (fz (wOp fIdx (wPk 0) (fz (wC (.int 0))))) (fz (wOp fIdx (wPk 0) (fz (wC (.int 3))))))) (fz (wOp fMul (fz (wOp fIdx (wPk 0) (fz (wC (.int 1))))) (fz (wOp fIdx (wPk 0) (fz (wC (.int 2)))))))))
theorem hw_determinant : ∀ ds tk Q, sp_determinant ds tk Q → c_determinant { nx := fun _ t => Q (.val .non) t, rt := Q } (start N_determinant.length ds) tk := by
  rintro ds tk Q ⟨m, rfl, ⟨a1, a2, a3, a4⟩, q⟩
  have k : ∀ {x y : Int}, Sm BG x → Sm BG y → MulOk x y := fun h h' => h.mulOk h' (by decide) (by decide)
  exact ⟨k a1 a4, k a2 a3, q⟩
def sp_inverse : FSpec := fun ds tk Q => ∃ m : M4, ds = [m.D] ∧ m.Sm BG ∧ Sm BG m.det ∧ Q (.val m.inv.D) tk
theorem mon_inverse : MonFS sp_inverse := fun ds tk Q Q' h ⟨m, e, h0, h1, q⟩ => ⟨m, e, h0, h1, h _ _ q⟩
theorem len_inverse : ∀ ds tk Q, sp_inverse ds tk Q → ds.length = 1 := fun ds tk Q ⟨m, e, _⟩ => by rw [e]; rfl
abbrev N_inverse : List Str := ["m", "sign"]
def c_inverse : WS :=
  (wSeq (wSet 1 (wCall sp_determinant (wCons (fz (wV 0)) wNil)))
  (wRet (wTup (wCons (fz (wOp fMul (wPk 1) (fz (wOp fIdx (wPk 0) (fz (wC (.int 3))))))) (wCons (fz (wOp fMul (fz (w1 fNeg (wPk 1))) (fz (wOp fIdx (wPk 0) (fz (wC (.int 1))))))) (wCons (fz (wOp fMul (fz (w1 fNeg (wPk 1))) (fz (wOp fIdx (wPk 0) (fz (wC (.int 2))))))) (wCons (fz (wOp fMul (wPk 1) (fz (wOp fIdx (wPk 0) (fz (wC (.int 0))))))) wNil)))))))
theorem hw_inverse : ∀ ds tk Q, sp_inverse ds tk Q → c_inverse { nx := fun _ t => Q (.val .non) t, rt := Q } (start N_inverse.length ds) tk := by
  rintro ds tk Q ⟨m, rfl, ⟨a1, a2, a3, a4⟩, hd, q⟩
  have k : ∀ {x y : Int}, Sm BG x → Sm BG y → MulOk x y := fun h h' => h.mulOk h' (by decide) (by decide)
  exact ⟨m, rfl, ⟨a1, a2, a3, a4⟩, k hd a4, k hd.neg a2, k hd.neg a3, k hd a1, rfl, q⟩
def sp_apply : FSpec := fun ds tk Q => ∃ (m : M4) (v : P2), ds = [m.D, v.D] ∧ m.Sm BG ∧ v.Sm BG ∧ Q (.val (m.at v).D) tk
theorem mon_apply : MonFS sp_apply := fun ds tk Q Q' h ⟨m, n, e, h0, h1, q⟩ => ⟨m, n, e, h0, h1, h _ _ q⟩
theorem len_apply : ∀ ds tk Q, sp_apply ds tk Q → ds.length = 2 := fun ds tk Q ⟨m, n, e, _⟩ => by rw [e]; rfl
abbrev N_apply : List Str := ["m", "point"]
def c_apply : WS :=
  (wRet (wTup (wCons (fz (wOp fAdd (fz (wOp fMul (fz (wOp fIdx (wPk 0) (fz (wC (.int 0))))) (fz (wOp fIdx (wPk 1) (fz (wC (.int 0))))))) (fz (wOp fMul (fz (wOp fIdx (wPk 0) (fz (wC (.int 1))))) (fz (wOp fIdx (wPk 1) (fz (wC (.int 1))))))))) (wCons (fz (wOp fAdd (fz (wOp fMul (fz (wOp fIdx (wPk 0) (fz (wC (.int 2))))) (fz (wOp fIdx (wPk 1) (fz (wC (.int 0))))))) (fz (wOp fMul (fz (wOp fIdx (wPk 0) (fz (wC (.int 3))))) (fz (wOp fIdx (wPk 1) (fz (wC (.int 1))))))))) wNil))))
theorem hw_apply : ∀ ds tk Q, sp_apply ds tk Q → c_apply { nx := fun _ t => Q (.val .non) t, rt := Q } (start N_apply.length ds) tk := by
  rintro ds tk Q ⟨m, v, rfl, ⟨a1, a2, a3, a4⟩, ⟨b1, b2⟩, q⟩
  have k : ∀ {x y : Int}, Sm BG x → Sm BG y → MulOk x y := fun h h' => h.mulOk h' (by decide) (by decide)
  exact ⟨k a1 b1, k a2 b2, k a3 b1, k a4 b2, rfl, q⟩
def sp_negative : FSpec := fun ds tk Q => ∃ m : M4, ds = [m.D] ∧ Q (.val m.neg.D) tk
theorem mon_negative : MonFS sp_negative := fun ds tk Q Q' h ⟨m, e, q⟩ => ⟨m, e, h _ _ q⟩
theorem len_negative : ∀ ds tk Q, sp_negative ds tk Q → ds.length = 1 := fun ds tk Q ⟨m, e, _⟩ => by rw [e]; rfl
abbrev N_negative : List Str := ["m"]
def c_negative : WS :=
  (wRet (wTup (wCons (fz (w1 fNeg (fz (wOp fIdx (wPk 0) (fz (wC (.int 0))))))) (wCons (fz (w1 fNeg (fz (wOp fIdx (wPk 0) (fz (wC (.int 1))))))) (wCons (fz (w1 fNeg (fz (wOp fIdx (wPk 0) (fz (wC (.int 2))))))) (wCons (fz (w1 fNeg (fz (wOp fIdx (wPk 0) (fz (wC (.int 3))))))) wNil))))))
theorem hw_negative : ∀ ds tk Q, sp_negative ds tk Q → c_negative { nx := fun _ t => Q (.val .non) t, rt := Q } (start N_negative.length ds) tk := by
  rintro ds tk Q ⟨m, rfl, q⟩
  exact ⟨rfl, q⟩
/-! ### the law's own ones -/
def sp_Lmul : FSpec := fun ds tk Q => ∃ m n : M4, ds = [m.D, n.D] ∧ m.Sm BG ∧ n.Sm BG ∧ Q (.val (m.mul n).D) tk
theorem mon_Lmul : MonFS sp_Lmul := mon_multiply
theorem len_Lmul : ∀ ds tk Q, sp_Lmul ds tk Q → ds.length = 2 := len_multiply
abbrev N_Lmul : List Str := ["_law_m", "_law_n", "_law_top"]
def c_Lmul : WS :=
  (wSeq (wSet 2 (wLst (wCons (fz (wOp fAdd (fz (wOp fMul (fz (wOp fIdx (wPk 0) (fz (wC (.int 0))))) (fz (wOp fIdx (wPk 1) (fz (wC (.int 0))))))) (fz (wOp fMul (fz (wOp fIdx (wPk 0) (fz (wC (.int 1))))) (fz (wOp fIdx (wPk 1) (fz (wC (.int 2))))))))) (wCons (fz (wOp fAdd (fz (wOp fMul (fz (wOp fIdx (wPk 0) (fz (wC (.int 0))))) (fz (wOp fIdx (wPk 1) (fz (wC (.int 1))))))) (fz (wOp fMul (fz (wOp fIdx (wPk 0) (fz (wC (.int 1))))) (fz (wOp fIdx (wPk 1) (fz (wC (.int 3))))))))) wNil))))
  (wRet (w1 fTuple (fz (wOp fAdd (wPk 2) (fz (wLst (wCons (fz (wOp fAdd (fz (wOp fMul (fz (wOp fIdx (wPk 0) (fz (wC (.int 2))))) (fz (wOp fIdx (wPk 1) (fz (wC (.int 0))))))) (fz (wOp fMul (fz (wOp fIdx (wPk 0) (fz (wC (.int 3))))) (fz (wOp fIdx (wPk 1) (fz (wC (.int 2))))))))) (wCons (fz (wOp fAdd (fz (wOp fMul (fz (wOp fIdx (wPk 0) (fz (wC (.int 2))))) (fz (wOp fIdx (wPk 1) (fz (wC (.int 1))))))) (fz (wOp fMul (fz (wOp fIdx (wPk 0) (fz (wC (.int 3))))) (fz (wOp fIdx (wPk 1) (fz (wC (.int 3))))))))) wNil)))))))))
theorem hw_Lmul : ∀ ds tk Q, sp_Lmul ds tk Q → c_Lmul { nx := fun _ t => Q (.val .non) t, rt := Q } (start N_Lmul.length ds) tk := by
  rintro ds tk Q ⟨m, n, rfl, ⟨a1, a2, a3, a4⟩, ⟨b1, b2, b3, b4⟩, q⟩
  have k : ∀ {x y : Int}, Sm BG x → Sm BG y → MulOk x y := fun h h' => h.mulOk h' (by decide) (by decide)
  exact ⟨k a1 b1, k a2 b3, k a1 b2, k a2 b4, rfl, k a3 b1, k a4 b3, k a3 b2, k a4 b4, rfl, (show 2 + 2 ≤ sizeLine by decide), q⟩
def sp_Lat : FSpec := fun ds tk Q => ∃ (m : M4) (v : P2), ds = [m.D, .int v.x, .int v.y] ∧ m.Sm BG ∧ v.Sm BG ∧ Q (.val (m.at v).D) tk
theorem mon_Lat : MonFS sp_Lat := fun ds tk Q Q' h ⟨m, n, e, h0, h1, q⟩ => ⟨m, n, e, h0, h1, h _ _ q⟩
theorem len_Lat : ∀ ds tk Q, sp_Lat ds tk Q → ds.length = 3 := fun ds tk Q ⟨m, n, e, _⟩ => by rw [e]; rfl
abbrev N_Lat : List Str := ["_law_m", "_law_x", "_law_y"]
def c_Lat : WS :=
  (wRet (wTup (wCons (fz (wOp fAdd (fz (wOp fMul (fz (wOp fIdx (wPk 0) (fz (wC (.int 0))))) (wPk 1))) (fz (wOp fMul (fz (wOp fIdx (wPk 0) (fz (wC (.int 1))))) (wPk 2))))) (wCons (fz (wOp fAdd (fz (wOp fMul (fz (wOp fIdx (wPk 0) (fz (wC (.int 2))))) (wPk 1))) (fz (wOp fMul (fz (wOp fIdx (wPk 0) (fz (wC (.int 3))))) (wPk 2))))) wNil))))
theorem hw_Lat : ∀ ds tk Q, sp_Lat ds tk Q → c_Lat { nx := fun _ t => Q (.val .non) t, rt := Q } (start N_Lat.length ds) tk := by
  rintro ds tk Q ⟨m, v, rfl, ⟨a1, a2, a3, a4⟩, ⟨b1, b2⟩, q⟩
  have k : ∀ {x y : Int}, Sm BG x → Sm BG y → MulOk x y := fun h h' => h.mulOk h' (by decide) (by decide)
  exact ⟨k a1 b1, k a2 b2, k a3 b1, k a4 b2, rfl, q⟩
/-! ### norms -/
def M4.nrm (m : M4) : Nat := m.p.natAbs + m.q.natAbs + m.r.natAbs + m.s.natAbs
theorem nab (a b c d : Int) : (a * b + c * d).natAbs ≤ a.natAbs * b.natAbs + c.natAbs * d.natAbs := by
  rw [← Int.natAbs_mul, ← Int.natAbs_mul]
  exact Int.natAbs_add_le _ _
theorem M4.nrm_mul (m n : M4) : (m.mul n).nrm ≤ m.nrm * n.nrm := by
  unfold M4.nrm M4.mul
  have h1 := nab m.p n.p m.q n.r
  have h2 := nab m.p n.q m.q n.s
  have h3 := nab m.r n.p m.s n.r
  have h4 := nab m.r n.q m.s n.s
  simp only [Nat.add_mul, Nat.mul_add]
  omega
theorem M4.sm_of_nrm {m : M4} {k : Nat} (h : m.nrm < 2 ^ k) : m.Sm k := by
  unfold M4.nrm at h
  unfold M4.Sm DL.Sm
  omega
theorem M4.nrm_neg (m : M4) : m.neg.nrm = m.nrm := by unfold M4.nrm M4.neg; simp only [Int.natAbs_neg]
def M4.pow (m : M4) : Nat → M4
  | 0 => .one
  | n + 1 => (m.pow n).mul m
theorem M4.ext {m n : M4} (h1 : m.p = n.p) (h2 : m.q = n.q) (h3 : m.r = n.r) (h4 : m.s = n.s) : m = n := by cases m; cases n; simp only at h1 h2 h3 h4; subst h1 h2 h3 h4; rfl
theorem M4.mul_assoc (a b c : M4) : (a.mul b).mul c = a.mul (b.mul c) := by
  apply M4.ext <;> (unfold M4.mul; simp only [Int.add_mul, Int.mul_add, Int.mul_assoc]; omega)
theorem M4.one_mul (a : M4) : M4.one.mul a = a := by apply M4.ext <;> (unfold M4.mul M4.one; simp only [Int.one_mul, Int.zero_mul]; omega)
theorem M4.mul_one (a : M4) : a.mul M4.one = a := by apply M4.ext <;> (unfold M4.mul M4.one; simp only [Int.mul_one, Int.mul_zero]; omega)
theorem M4.det_mul (a b : M4) : (a.mul b).det = a.det * b.det := by
  unfold M4.mul M4.det
  grind
theorem M4.mul_inv {m : M4} (h : m.det = 1 ∨ m.det = -1) : m.mul m.inv = .one ∧ m.inv.mul m = .one := by
  have e : m.det = m.p * m.s - m.q * m.r := rfl
  rcases h with h | h
  · constructor <;> (apply M4.ext <;> (unfold M4.mul M4.inv M4.one; rw [h]; rw [h] at e; dsimp only; grind))
  · constructor <;> (apply M4.ext <;> (unfold M4.mul M4.inv M4.one; rw [h]; rw [h] at e; dsimp only; grind))
theorem M4.nrm_inv {m : M4} (h : m.det = 1 ∨ m.det = -1) : m.inv.nrm = m.nrm := by
  unfold M4.nrm M4.inv
  rcases h with h | h <;> (rw [h]; dsimp only; simp only [Int.one_mul, Int.neg_mul, Int.natAbs_neg, Int.neg_neg]; omega)
theorem M4.det_inv {m : M4} (h : m.det = 1 ∨ m.det = -1) : m.inv.det = m.det := by
  have e : m.det = m.p * m.s - m.q * m.r := rfl
  rcases h with h | h <;> (unfold M4.inv; rw [h]; rw [h] at e; unfold M4.det; dsimp only; grind)
theorem M4.pow_add (m : M4) (i : Nat) : ∀ j, m.pow (i + j) = (m.pow i).mul (m.pow j)
  | 0 => (M4.mul_one _).symm
  | j + 1 => by
    show (m.pow (i + j)).mul m = (m.pow i).mul ((m.pow j).mul m)
    rw [M4.pow_add m i j, M4.mul_assoc]
theorem M4.pow_two_mul (m : M4) (i : Nat) : (m.mul m).pow i = m.pow (2 * i) := by
  induction i with
  | zero => rfl
  | succ i ih =>
    show ((m.mul m).pow i).mul (m.mul m) = m.pow (2 * i + 1 + 1)
    rw [ih]
    show _ = ((m.pow (2 * i)).mul m).mul m
    rw [M4.mul_assoc]
theorem M4.nrm_pow {m : M4} {B : Nat} (h : m.nrm ≤ 2 ^ B) (k : Nat) : (m.pow k).nrm ≤ 2 * 2 ^ (B * k) := by
  induction k with
  | zero => exact Nat.le_refl _
  | succ k ih =>
    refine Nat.le_trans (M4.nrm_mul _ _) (Nat.le_trans (Nat.mul_le_mul ih h) ?_)
    rw [Nat.mul_succ, Nat.pow_add, Nat.mul_assoc]
    exact Nat.le_refl _
theorem M4.pow_one_mul (m : M4) (k : Nat) : m.mul (m.pow k) = (m.pow k).mul m := by
  induction k with
  | zero => show m.mul .one = M4.one.mul m; rw [M4.mul_one, M4.one_mul]
  | succ k ih =>
    show m.mul ((m.pow k).mul m) = ((m.pow k).mul m).mul m
    rw [← M4.mul_assoc, ih]
theorem M4.pow_det (m : M4) (k : Nat) : (m.pow k).det = m.det ^ k := by
  induction k with
  | zero => show M4.one.det = m.det ^ 0; rw [Int.pow_zero]; rfl
  | succ k ih => show ((m.pow k).mul m).det = _; rw [M4.det_mul, ih, Int.pow_succ]
theorem M4.inv_pow {m : M4} (h : m.det = 1 ∨ m.det = -1) (k : Nat) : (m.inv.pow k).mul (m.pow k) = .one := by
  induction k with
  | zero => rfl
  | succ k ih =>
    show ((m.inv.pow k).mul m.inv).mul ((m.pow k).mul m) = .one
    rw [← M4.pow_one_mul m k, M4.mul_assoc, ← M4.mul_assoc m.inv, (M4.mul_inv h).2, M4.one_mul, ih]
/-! ### powers -/
def kUNIT : D := M4.one.D
def wNeverE : WE := fun _ _ _ => False
theorem se_never {X : Cx} {c : C} {e : Expr} : SE X c e wNeverE := ⟨fun _ _ _ _ _ h => h, ⟨fun _ _ _ _ _ _ ⟨_, _, _, _, h⟩ => h.elim⟩⟩
def sp_raised0 : FSpec := fun ds tk Q => ∃ (m : M4) (z : Int) (k B : Nat), ds = [m.D, .int z] ∧ z = (k : Int) ∧ m.nrm ≤ 2 ^ B ∧ B * k + 2 ≤ BG ∧ Q (.val (m.pow k).D) tk
theorem mon_raised0 : MonFS sp_raised0 := fun ds tk Q Q' h ⟨m, z, k, B, e, e2, h0, h1, q⟩ => ⟨m, z, k, B, e, e2, h0, h1, h _ _ q⟩
theorem len_raised0 : ∀ ds tk Q, sp_raised0 ds tk Q → ds.length = 2 := fun ds tk Q ⟨m, z, k, B, e, _⟩ => by rw [e]; rfl
abbrev N_raised0 : List Str := ["m", "many", "found"]
def c_raised0 : WS :=
  (wSeq (wIfS (wT (wOp fLt (wPk 1) (fz (wC (.int 0))))) (wRet wNeverE) wNext)
  (wSeq (wSet 2 (wC kUNIT))
  (wSeq (wWhile (wT (wOp fGt (wPk 1) (fz (wC (.int 0))))) (wSeq (wIfS (wT (wOp fEq (fz (wOp fMod (wPk 1) (fz (wC (.int 2))))) (fz (wC (.int 1))))) (wSet 2 (wCall sp_multiply (wCons (fz (wV 2)) (wCons (fz (wV 0)) wNil)))) wNext)
  (wSeq (wSet 0 (wCall sp_multiply (wCons (fz (wV 0)) (wCons (fz (wV 0)) wNil))))
  (wSet 1 (wOp fDiv (wPk 1) (fz (wC (.int 2))))))))
  (wRetV 2))))
theorem sm_pow {m : M4} {B k : Nat} (h : m.nrm ≤ 2 ^ B) (hk : B * k + 2 ≤ BG) : (m.pow k).Sm BG := by
  refine M4.sm_of_nrm (Nat.lt_of_le_of_lt (M4.nrm_pow h k) ?_)
  rw [show 2 * 2 ^ (B * k) = 2 ^ (B * k + 1) from (by rw [Nat.pow_succ]; omega)]
  exact Nat.pow_lt_pow_right (by decide) (by omega)
/-- from behind the test -/
theorem raised_loop {m : M4} {z : Int} {k B : Nat} {P : Post} {tk : Tk} {Q : EV → Tk → Prop} (hz : z = (k : Int)) (hm : m.nrm ≤ 2 ^ B) (hB : B * k + 2 ≤ BG) (hP : ∀ v t, Q v t → P.rt v t) (q : Q (.val (m.pow k).D) tk) :
  (wSeq (wSet 2 (wC kUNIT))
  (wSeq (wWhile (wT (wOp fGt (wPk 1) (fz (wC (.int 0))))) (wSeq (wIfS (wT (wOp fEq (fz (wOp fMod (wPk 1) (fz (wC (.int 2))))) (fz (wC (.int 1))))) (wSet 2 (wCall sp_multiply (wCons (fz (wV 2)) (wCons (fz (wV 0)) wNil)))) wNext)
  (wSeq (wSet 0 (wCall sp_multiply (wCons (fz (wV 0)) (wCons (fz (wV 0)) wNil))))
  (wSet 1 (wOp fDiv (wPk 1) (fz (wC (.int 2))))))))
  (wRetV 2))) P [some (.val m.D), some (.val (.int z)), none] tk := by
  refine ⟨fun n e t => t = tk ∧ ∃ (i j : Nat) (z : Int), z = (n : Int) ∧ j + 2 ^ i * n = k ∧ e = [some (.val (m.pow (2 ^ i)).D), some (.val (.int z)), some (.val (m.pow j).D)], ⟨k, rfl, 0, 0, z, hz, by omega, by rw [show m.pow (2 ^ 0) = m from M4.one_mul m]; rfl⟩, ?_⟩
  rintro n e t ⟨rfl, i, j, z, hz, hk, rfl⟩
  refine if2 (fun h => ?_) (fun h => ?_)
  · have hp : 0 < n := by omega
    have h2i : 2 ^ i * 1 ≤ 2 ^ i * n := Nat.mul_le_mul_left _ hp
    have hBi : B * 2 ^ i + 2 ≤ BG := by
      have := Nat.mul_le_mul_left B (show 2 ^ i ≤ k by omega)
      omega
    have hBj : B * j + 2 ≤ BG := by
      have := Nat.mul_le_mul_left B (show j ≤ k by omega)
      omega
    have hs := sm_pow hm hBi
    have hd : z.fdiv 2 = ((n / 2 : Nat) : Int) := by rw [Int.fdiv_eq_ediv_of_nonneg _ (by decide), hz]; rfl
    have hmod : z.fmod 2 = ((n % 2 : Nat) : Int) := by rw [Int.fmod_eq_emod_of_nonneg _ (by decide), hz]; rfl
    have hp2 : 2 ^ (i + 1) = 2 * 2 ^ i := by rw [Nat.pow_succ, Nat.mul_comm]
    have hdm : 2 * (n / 2) + n % 2 = n := Nat.div_add_mod n 2
    have fin : ∀ j' : Nat, j' + 2 ^ (i + 1) * (n / 2) = k → ∀ t : Tk, ∃ m', m' < n ∧ t = t ∧ ∃ (i2 j2 : Nat) (z2 : Int), z2 = (m' : Int) ∧ j2 + 2 ^ i2 * m' = k ∧ ([some (.val (M4.D ((m.pow (2 ^ i)).mul (m.pow (2 ^ i))))), some (.val (.int (z.fdiv 2))), some (.val (m.pow j').D)] : En) = [some (.val (m.pow (2 ^ i2)).D), some (.val (.int z2)), some (.val (m.pow j2).D)] := fun j' hj' t => by
      refine ⟨n / 2, by omega, rfl, i + 1, j', z.fdiv 2, hd, hj', ?_⟩
      rw [← M4.pow_add, hp2, Nat.two_mul]
    refine ⟨(show (2 : Int) ≠ 0 by decide), ?_⟩
    have hsplit : 2 ^ i * n = 2 * 2 ^ i * (n / 2) + 2 ^ i * (n % 2) := by
      conv => lhs; rw [← hdm]
      rw [Nat.mul_add, ← Nat.mul_assoc, Nat.mul_comm (2 ^ i) 2]
    refine if2 (fun h1 => ?_) (fun h1 => ?_)
    · have hm1 : n % 2 = 1 := by rw [hmod] at h1; omega
      refine ⟨m.pow j, m.pow (2 ^ i), rfl, sm_pow hm hBj, hs, m.pow (2 ^ i), m.pow (2 ^ i), rfl, hs, hs, divOk_lit (by decide) (by decide), ?_⟩
      have := fin (j + 2 ^ i) (by rw [hp2]; rw [hm1, Nat.mul_one] at hsplit; omega) t
      rw [M4.pow_add m j (2 ^ i)] at this
      exact this
    · have hm0 : n % 2 = 0 := by rw [hmod] at h1; omega
      refine ⟨m.pow (2 ^ i), m.pow (2 ^ i), rfl, hs, hs, divOk_lit (by decide) (by decide), ?_⟩
      exact fin j (by rw [hp2]; rw [hm0, Nat.mul_zero] at hsplit; omega) t
  · have : n = 0 := by omega
    subst this
    have : j = k := by omega
    subst this
    exact hP _ _ q
theorem hw_raised0 : ∀ ds tk Q, sp_raised0 ds tk Q → c_raised0 { nx := fun _ t => Q (.val .non) t, rt := Q } (start N_raised0.length ds) tk := by
  rintro ds tk Q ⟨m, z, k, B, rfl, hz, hm, hB, q⟩
  refine ifF (show ¬ (z < 0) by omega) ?_
  exact raised_loop (Q := Q) hz hm hB (fun _ _ h => h) q
def sp_raised : FSpec := fun ds tk Q => ∃ (m : M4) (k : Int) (B : Nat), ds = [m.D, .int k] ∧ m.nrm ≤ 2 ^ B ∧ B * k.natAbs + 2 ≤ BG ∧ B + 2 ≤ BG ∧ (m.det = 1 ∨ m.det = -1) ∧ Q (.val (if k < 0 then m.inv.pow k.natAbs else m.pow k.natAbs).D) tk
theorem mon_raised : MonFS sp_raised := fun ds tk Q Q' h ⟨m, k, B, e, h0, h1, h2, h3, q⟩ => ⟨m, k, B, e, h0, h1, h2, h3, h _ _ q⟩
theorem len_raised : ∀ ds tk Q, sp_raised ds tk Q → ds.length = 2 := fun ds tk Q ⟨m, k, B, e, _⟩ => by rw [e]; rfl
abbrev N_raised : List Str := ["m", "many", "found"]
def c_raised : WS :=
  (wSeq (wIfS (wT (wOp fLt (wPk 1) (fz (wC (.int 0))))) (wRet (wCall sp_raised0 (wCons (fz (wCall sp_inverse (wCons (fz (wV 0)) wNil))) (wCons (fz (w1 fNeg (wPk 1))) wNil)))) wNext)
  (wSeq (wSet 2 (wC kUNIT))
  (wSeq (wWhile (wT (wOp fGt (wPk 1) (fz (wC (.int 0))))) (wSeq (wIfS (wT (wOp fEq (fz (wOp fMod (wPk 1) (fz (wC (.int 2))))) (fz (wC (.int 1))))) (wSet 2 (wCall sp_multiply (wCons (fz (wV 2)) (wCons (fz (wV 0)) wNil)))) wNext)
  (wSeq (wSet 0 (wCall sp_multiply (wCons (fz (wV 0)) (wCons (fz (wV 0)) wNil))))
  (wSet 1 (wOp fDiv (wPk 1) (fz (wC (.int 2))))))))
  (wRetV 2))))
theorem hw_raised : ∀ ds tk Q, sp_raised ds tk Q → c_raised { nx := fun _ t => Q (.val .non) t, rt := Q } (start N_raised.length ds) tk := by
  rintro ds tk Q ⟨m, k, B, rfl, hm, hB, hB1, hdet, q⟩
  have hsm : m.Sm BG := M4.sm_of_nrm (Nat.lt_of_le_of_lt hm (Nat.pow_lt_pow_right (by decide) (by omega)))
  refine if2 (fun h => ?_) (fun h => ?_)
  · rw [if_pos h] at q
    refine ⟨m, rfl, hsm, ?_, m.inv, -k, k.natAbs, B, rfl, by omega, by rw [M4.nrm_inv hdet]; exact hm, hB, q⟩
    rcases hdet with z | z <;> (rw [z]; exact sm_lit (by decide))
  · rw [if_neg h] at q
    exact raised_loop (Q := Q) (show k = ((k.natAbs : Nat) : Int) by omega) hm hB (fun _ _ h => h) q
end DL
namespace DL
open PySem PySem.Spec PyProof.Rows L2
/-! ### a drawn change of determinant 1 -/
def sp_Lchange : FSpec := fun ds tk Q => ∃ (m : Int) (c : Nat), ds = [.st, .int m] ∧ tk = some c ∧ 0 ≤ m ∧ m < 1000 ∧ c + 10000 < 2 ^ 50 ∧ ∀ (a : M4) (c' : Nat), a.det = 1 → a.nrm ≤ 2 ^ (2 * m.toNat + 1) → c' ≤ c + 1 + 2 * m.toNat → Q (.val a.D) (some c')
theorem mon_Lchange : MonFS sp_Lchange := fun ds tk Q Q' h ⟨m, c, e, e2, h0, h1, h2, q⟩ => ⟨m, c, e, e2, h0, h1, h2, fun a c' x y z => h _ _ (q a c' x y z)⟩
theorem len_Lchange : ∀ ds tk Q, sp_Lchange ds tk Q → ds.length = 2 := fun ds tk Q ⟨m, c, e, _⟩ => by rw [e]; rfl
abbrev N_Lchange : List Str := ["_law_state_here", "_law_many", "_law_m", "_law_k", "_law_t"]
def c_Lchange : WS :=
  (wSeq (wSet 2 (wTup (wCons (fz (wC (.int 1))) (wCons (fz (wC (.int 0))) (wCons (fz (wC (.int 0))) (wCons (fz (wC (.int 1))) wNil))))))
  (wSeq (wFor (wR1 (fz (wCall sp_Lnext (wCons (fz (wV 0)) (wCons (fz (wOp fAdd (wPk 1) (fz (wC (.int 1))))) wNil))))) (gN 3) (wSeq (wSet 4 (wOp fSub (fz (wCall sp_Lnext (wCons (fz (wV 0)) (wCons (fz (wC (.int 5))) wNil)))) (fz (wC (.int 2)))))
  (wSet 2 (wCall sp_Lmul (wCons (fz (wV 2)) (wCons (fz (wOp fIdx (fz (wLst (wCons (fz (wTup (wCons (fz (wC (.int 1))) (wCons (fz (wV 4)) (wCons (fz (wC (.int 0))) (wCons (fz (wC (.int 1))) wNil)))))) (wCons (fz (wTup (wCons (fz (wC (.int 1))) (wCons (fz (wC (.int 0))) (wCons (fz (wV 4)) (wCons (fz (wC (.int 1))) wNil)))))) (wCons (fz (wTup (wCons (fz (wC (.int 0))) (wCons (fz (w1 fNeg (fz (wC (.int 1))))) (wCons (fz (wC (.int 1))) (wCons (fz (wC (.int 0))) wNil)))))) wNil))))) (fz (wCall sp_Lnext (wCons (fz (wV 0)) (wCons (fz (wC (.int 3))) wNil)))))) wNil))))))
  (wRetV 2)))
theorem hw_Lchange : ∀ ds tk Q, sp_Lchange ds tk Q → c_Lchange { nx := fun _ t => Q (.val .non) t, rt := Q } (start N_Lchange.length ds) tk := by
  rintro ds tk Q ⟨m, c, rfl, rfl, h0, h1, h2, q⟩
  refine ⟨rfl, ?_⟩
  refine ⟨_, _, rfl, rfl, by omega, by omega, fun v0 v0_0 v0_1 => ?_⟩
  refine ⟨by omega, by omega, ?_⟩
  refine forGo_rng (fun i e t => ∃ (a : M4) (x3 x4 : Option EV), a.det = 1 ∧ a.nrm ≤ 2 ^ (2 * i + 1) ∧ t = some (c + 1 + 2 * i) ∧ e = [some (.val .st), some (.val (.int m)), some (.val a.D), x3, x4]) (fun i e t R hi hI hR => ?_) (fun e t hI => ?_) ⟨M4.one, none, none, rfl, Nat.le_refl _, rfl, rfl⟩
  · obtain ⟨a, x3, x4, hd, hn, rfl, rfl⟩ := hI
    have hi' : i < 1000 := by omega
    refine ⟨_, _, rfl, rfl, by first | decide | omega, by first | decide | omega, fun v1 v1_0 v1_1 => ?_⟩
    refine ⟨rfl, rfl, rfl, rfl, ?_⟩
    refine ⟨_, _, rfl, rfl, by first | decide | omega, by first | decide | omega, fun v2 v2_0 v2_1 => ?_⟩
    refine fIdx_of (fun d => ∃ b : M4, d = b.D ∧ b.det = 1 ∧ b.nrm ≤ 4) v2_0 v2_1 (all3 ⟨⟨1, v1 - 2, 0, 1⟩, rfl, ?_, ?_⟩ ⟨⟨1, 0, v1 - 2, 1⟩, rfl, ?_, ?_⟩ ⟨⟨0, -1, 1, 0⟩, rfl, by decide, by decide⟩) ?_
    · unfold M4.det; dsimp only; omega
    · unfold M4.nrm; dsimp only; omega
    · unfold M4.det; dsimp only; omega
    · unfold M4.nrm; dsimp only; omega
    rintro _ ⟨b, rfl, hbd, hbn⟩
    have hab : (a.mul b).nrm ≤ 2 ^ (2 * (i + 1) + 1) := by
      refine Nat.le_trans (M4.nrm_mul _ _) (Nat.le_trans (Nat.mul_le_mul hn hbn) ?_)
      rw [show 2 * (i + 1) + 1 = (2 * i + 1) + 2 by omega, Nat.pow_add _ (2 * i + 1) 2]
      exact Nat.le_refl _
    refine ⟨a, b, rfl, M4.sm_of_nrm (Nat.lt_of_le_of_lt hn (Nat.pow_lt_pow_right (by decide) (show 2 * i + 1 < 200000 by omega))), M4.sm_of_nrm (Nat.lt_of_le_of_lt hbn (by exact Nat.lt_of_lt_of_le (show 4 < 2 ^ 3 by decide) (Nat.pow_le_pow_right (by decide) (by decide)))), ?_⟩
    exact hR _ _ ⟨a.mul b, _, _, by rw [M4.det_mul, hd, hbd]; rfl, hab, rfl, rfl⟩
  · obtain ⟨a, x3, x4, hd, hn, rfl, rfl⟩ := hI
    refine q a _ hd (Nat.le_trans hn (Nat.pow_le_pow_right (by decide) ?_)) ?_
    · omega
    · omega
end DL
namespace DL
open PySem PySem.Spec PyProof.Rows L2
/-! ### rows for the steps -/
theorem prf {p : Prop} (h : p) : p := h
theorem Sm.addm {x y : Int} {k j : Nat} (h : Sm k x) (h' : Sm j y) : Sm (max k j + 1) (x + y) := (h.mono (Nat.le_max_left _ _)).add (h'.mono (Nat.le_max_right _ _))
theorem Sm.subm {x y : Int} {k j : Nat} (h : Sm k x) (h' : Sm j y) : Sm (max k j + 1) (x - y) := (h.mono (Nat.le_max_left _ _)).sub (h'.mono (Nat.le_max_right _ _))
theorem Sm.ofB {x : Int} (h : -(2 ^ 64) < x) (h' : x < 2 ^ 64) : Sm 64 x := by unfold Sm; omega
theorem fdiv_abs {x y : Int} : (x.fdiv y).natAbs ≤ x.natAbs := by
  rcases Int.lt_trichotomy y 0 with h | h | h
  · have e : x.fdiv y = (-x).fdiv (-y) := (Int.neg_fdiv_neg x y).symm
    rw [e, Int.fdiv_eq_ediv_of_nonneg _ (by omega), ← Int.natAbs_neg x]
    exact Int.natAbs_ediv_le_natAbs _ _
  · subst h; rw [Int.fdiv_zero]; exact Nat.zero_le _
  · rw [Int.fdiv_eq_ediv_of_nonneg _ (by omega)]
    exact Int.natAbs_ediv_le_natAbs _ _
theorem Sm.fdiv {x y : Int} {k : Nat} (h : Sm k x) : Sm k (x.fdiv y) := Nat.lt_of_le_of_lt fdiv_abs h
theorem fmod_abs {x y : Int} (h : y ≠ 0) : (x.fmod y).natAbs < y.natAbs := by
  rcases Int.lt_or_gt_of_ne h with z | z
  · have h1 := Int.fmod_nonneg_of_pos (-x) (show 0 < -y by omega)
    have h2 := Int.fmod_lt_of_pos (-x) (show 0 < -y by omega)
    have e2 : (-x).fmod (-y) = -(x.fmod y) := by rw [Int.fmod_def, Int.fmod_def, Int.neg_fdiv_neg]; grind
    rw [e2] at h1 h2
    omega
  · have h1 := Int.fmod_nonneg_of_pos x z
    have h2 := Int.fmod_lt_of_pos x z
    omega
theorem Sm.fmod {x y : Int} {k : Nat} (h : Sm k y) (h0 : y ≠ 0) : Sm k (x.fmod y) := Nat.lt_trans (fmod_abs h0) h
theorem Sm.absif {x : Int} {k : Nat} (h : Sm k x) : Sm k (if x < 0 then -x else x) := by unfold Sm at *; split <;> omega
theorem MulOk.of {x y : Int} {k j : Nat} (h : Sm k x) (h' : Sm j y) (hk : Nat.ble (max k j) 400000 = true) : MulOk x y := by
  have h2 := Nat.le_of_ble_eq_true hk
  exact h.mulOk h' (Nat.le_trans (Nat.le_max_left _ _) h2) (Nat.le_trans (Nat.le_max_right _ _) h2)
theorem DivOk.of {x y : Int} {k : Nat} (h0 : y ≠ 0) (h : Sm k y) (hk : Nat.ble k 8999 = true) : DivOk x y := ⟨h0, by
  have h3 := Nat.le_of_ble_eq_true hk
  have := (Nat.log2_lt (k := k + 1) (n := y.natAbs) (by omega)).mpr (Nat.lt_of_lt_of_le h (Nat.pow_le_pow_right (by decide) (by omega)))
  omega⟩
theorem Sm.le {x : Int} {k j : Nat} (h : Sm k x) (hk : Nat.ble k j = true) : Sm j x := h.mono (Nat.le_of_ble_eq_true hk)
theorem szl {n : Nat} (h : n ≤ 30000) : n < sizeLine := Nat.lt_of_le_of_lt h (by decide)
end DL
set_option maxHeartbeats 1000000
namespace DL
/-! ### primes, plainly -/
def Pr (n : Nat) : Prop := 2 ≤ n ∧ ∀ d, d ∣ n → d = 1 ∨ d = n
theorem pr_dvd {p d : Nat} (h : Pr p) (hd : d ∣ p) (h2 : 2 ≤ d) : d = p := (h.2 d hd).resolve_left (by omega)
theorem pr_coprime {p a : Nat} (h : Pr p) (ha : ¬ p ∣ a) : Nat.Coprime p a := by
  rcases h.2 (Nat.gcd p a) (Nat.gcd_dvd_left p a) with e | e
  · exact e
  · exact absurd (by rw [← e]; exact Nat.gcd_dvd_right p a) ha
theorem euclid {p a b : Nat} (h : Pr p) (hd : p ∣ a * b) : p ∣ a ∨ p ∣ b := by
  by_cases z : p ∣ a
  · exact .inl z
  · exact .inr ((pr_coprime h z).dvd_of_dvd_mul_left hd)
theorem euclid_pow {p a k : Nat} (h : Pr p) (hd : p ∣ a ^ k) : p ∣ a := by
  induction k with
  | zero =>
    rw [Nat.pow_zero] at hd
    have := Nat.le_of_dvd (by omega) hd
    have := h.1
    omega
  | succ k ih =>
    rw [Nat.pow_succ] at hd
    exact (euclid h hd).elim ih id
theorem least_of {P : Nat → Prop} : ∀ n, P n → ∃ m, P m ∧ m ≤ n ∧ ∀ k, k < m → ¬ P k := by
  intro n
  induction n using Nat.strongRecOn with
  | ind n ih =>
    intro h
    by_cases z : ∃ k, k < n ∧ P k
    · obtain ⟨k, hk, hp⟩ := z
      obtain ⟨m, h1, h2, h3⟩ := ih k hk hp
      exact ⟨m, h1, by omega, h3⟩
    · exact ⟨n, h, Nat.le_refl n, fun k hk hp => z ⟨k, hk, hp⟩⟩
theorem least_prime {n : Nat} (h : 2 ≤ n) : ∃ p, Pr p ∧ p ∣ n := by
  obtain ⟨m, ⟨h1, h2⟩, _, h4⟩ := least_of (P := fun d => 2 ≤ d ∧ d ∣ n) n ⟨h, Nat.dvd_refl n⟩
  refine ⟨m, ⟨h1, fun d hd => ?_⟩, h2⟩
  have hm : d ≤ m := Nat.le_of_dvd (by omega) hd
  by_cases z : 2 ≤ d
  · by_cases z2 : d < m
    · exact absurd ⟨z, Nat.dvd_trans hd h2⟩ (h4 d z2)
    · exact .inr (by omega)
  · have : d ≠ 0 := fun e => by rw [e] at hd; have := Nat.eq_zero_of_zero_dvd hd; omega
    exact .inl (by omega)
/-- no small divisor: a prime -/
theorem pr_of_small {m p : Nat} (h2 : 2 ≤ m) (h : ∀ d, 2 ≤ d → d < p → ¬ d ∣ m) (hp : m < p * p) : Pr m := by
  refine ⟨h2, fun d hd => ?_⟩
  obtain ⟨e, rfl⟩ := hd
  have d0 : 0 < d := Nat.pos_of_ne_zero fun z => by rw [z, Nat.zero_mul] at h2; omega
  have e0 : 0 < e := Nat.pos_of_ne_zero fun z => by rw [z, Nat.mul_zero] at h2; omega
  by_cases d1 : d = 1
  · exact .inl d1
  · by_cases e1 : e = 1
    · exact .inr (by rw [e1, Nat.mul_one])
    · exfalso
      have a : p ≤ d := Nat.le_of_not_lt fun z => h d (by omega) z ⟨e, rfl⟩
      have b : p ≤ e := Nat.le_of_not_lt fun z => h e (by omega) z ⟨d, Nat.mul_comm _ _⟩
      have := Nat.mul_le_mul a b
      omega
/-! ### prime parts -/
def prodP : List (Nat × Nat) → Nat
  | [] => 1
  | x :: l => x.1 ^ x.2 * prodP l
theorem prodP_app : ∀ l m : List (Nat × Nat), prodP (l ++ m) = prodP l * prodP m
  | [], m => by rw [List.nil_append]; show prodP m = 1 * prodP m; rw [Nat.one_mul]
  | x :: l, m => by rw [List.cons_append]; show x.1 ^ x.2 * prodP (l ++ m) = x.1 ^ x.2 * prodP l * prodP m; rw [prodP_app l m, Nat.mul_assoc]
structure Parts (n : Nat) (l : List (Nat × Nat)) : Prop where
  pr : ∀ x ∈ l, Pr x.1 ∧ 1 ≤ x.2
  asc : l.Pairwise (fun a b => a.1 < b.1)
  eq : prodP l = n
theorem pr_prod {p : Nat} (h : Pr p) : ∀ {l : List (Nat × Nat)}, (∀ x ∈ l, Pr x.1) → p ∣ prodP l → ∃ x ∈ l, x.1 = p
  | [], _, hd => by
    have := Nat.le_of_dvd (by decide) (show p ∣ 1 from hd)
    have := h.1
    omega
  | x :: l, hl, hd => by
    rcases euclid h (show p ∣ x.1 ^ x.2 * prodP l from hd) with z | z
    · refine ⟨x, List.mem_cons_self, ?_⟩
      have := pr_dvd (hl x List.mem_cons_self) (euclid_pow h z) h.1
      exact this.symm
    · obtain ⟨y, h1, h2⟩ := pr_prod h (fun y hy => hl y (List.mem_cons_of_mem _ hy)) z
      exact ⟨y, List.mem_cons_of_mem _ h1, h2⟩
theorem prodP_pos : ∀ {l : List (Nat × Nat)}, (∀ x ∈ l, Pr x.1 ∧ 1 ≤ x.2) → 0 < prodP l
  | [], _ => Nat.one_pos
  | x :: l, h => Nat.mul_pos (Nat.pow_pos (by have := (h x List.mem_cons_self).1.1; omega)) (prodP_pos fun y hy => h y (List.mem_cons_of_mem _ hy))
theorem Parts.pos {n : Nat} {l : List (Nat × Nat)} (h : Parts n l) : 0 < n := by rw [← h.eq]; exact prodP_pos h.pr
theorem dvd_pow_self' {p k : Nat} (h : 1 ≤ k) : p ∣ p ^ k := by
  obtain ⟨j, rfl⟩ : ∃ j, k = j + 1 := ⟨k - 1, by omega⟩
  rw [Nat.pow_succ]; exact Nat.dvd_mul_left _ _
/-- the powers of one prime are told by the number -/
theorem pow_uniq {p a b j k : Nat} (h : Pr p) (ha : ¬ p ∣ a) (hb : ¬ p ∣ b) (e : p ^ j * a = p ^ k * b) : j = k ∧ a = b := by
  have p0 : 0 < p := by have := h.1; omega
  have key : ∀ {a b j k : Nat}, ¬ p ∣ a → p ^ j * a = p ^ k * b → k ≤ j := fun {a b j k} ha e => by
    rcases Nat.lt_or_ge j k with z | z
    · exfalso
      obtain ⟨i, rfl⟩ : ∃ i, k = j + (i + 1) := ⟨k - j - 1, by omega⟩
      rw [Nat.pow_add, Nat.mul_assoc] at e
      have := Nat.eq_of_mul_eq_mul_left (Nat.pow_pos p0) e
      apply ha
      rw [this, Nat.pow_succ]
      exact Nat.dvd_trans (Nat.dvd_mul_left _ _) (Nat.dvd_mul_right _ _)
    · exact z
  have e1 : j = k := Nat.le_antisymm (key hb e.symm) (key ha e)
  subst e1
  exact ⟨rfl, Nat.eq_of_mul_eq_mul_left (Nat.pow_pos p0) e⟩
theorem head_no {x : Nat × Nat} {l : List (Nat × Nat)} (h : ∀ y ∈ x :: l, Pr y.1 ∧ 1 ≤ y.2) (ha : (x :: l).Pairwise (fun a b => a.1 < b.1)) : ¬ x.1 ∣ prodP l := fun z => by
  obtain ⟨y, h1, h2⟩ := pr_prod (h x List.mem_cons_self).1 (fun y hy => (h y (List.mem_cons_of_mem _ hy)).1) z
  have := (List.pairwise_cons.mp ha).1 y h1
  omega
theorem parts_uniq : ∀ {l m : List (Nat × Nat)} {n : Nat}, Parts n l → Parts n m → l = m
  | [], [], _, _, _ => rfl
  | [], y :: m, n, hl, hm => by
    have e : prodP (y :: m) = 1 := hm.eq.trans hl.eq.symm
    have d : y.1 ∣ 1 := by rw [← e]; exact Nat.dvd_trans (dvd_pow_self' (hm.pr y List.mem_cons_self).2) (Nat.dvd_mul_right _ _)
    have := Nat.le_of_dvd (by decide) d
    have := (hm.pr y List.mem_cons_self).1.1
    omega
  | x :: l, [], n, hl, hm => by
    have e : prodP (x :: l) = 1 := hl.eq.trans hm.eq.symm
    have d : x.1 ∣ 1 := by rw [← e]; exact Nat.dvd_trans (dvd_pow_self' (hl.pr x List.mem_cons_self).2) (Nat.dvd_mul_right _ _)
    have := Nat.le_of_dvd (by decide) d
    have := (hl.pr x List.mem_cons_self).1.1
    omega
  | x :: l, y :: m, n, hl, hm => by
    have e : prodP (x :: l) = prodP (y :: m) := hl.eq.trans hm.eq.symm
    have le1 : ∀ {x y : Nat × Nat} {l m : List (Nat × Nat)}, Parts n (x :: l) → Parts n (y :: m) → y.1 ≤ x.1 := fun {x y l m} hl hm => by
      have d : x.1 ∣ prodP (y :: m) := by rw [hm.eq, ← hl.eq]; exact Nat.dvd_trans (dvd_pow_self' (hl.pr x List.mem_cons_self).2) (Nat.dvd_mul_right _ _)
      obtain ⟨z, h1, h2⟩ := pr_prod (hl.pr x List.mem_cons_self).1 (fun y hy => (hm.pr y hy).1) d
      rcases List.mem_cons.mp h1 with h1 | h1
      · rw [← h2, h1]; exact Nat.le_refl _
      · have := (List.pairwise_cons.mp hm.asc).1 z h1
        omega
    have e1 : x.1 = y.1 := Nat.le_antisymm (le1 hm hl) (le1 hl hm)
    have n1 := head_no hl.pr hl.asc
    have n2 := head_no hm.pr hm.asc
    have e2 : x.1 ^ x.2 * prodP l = x.1 ^ y.2 * prodP m := by rw [show x.1 ^ x.2 * prodP l = y.1 ^ y.2 * prodP m from e, e1]
    obtain ⟨k1, k2⟩ := pow_uniq (hl.pr x List.mem_cons_self).1 n1 (by rw [e1]; exact n2) e2
    have t := parts_uniq (l := l) (m := m) (n := prodP l) ⟨fun z hz => hl.pr z (List.mem_cons_of_mem _ hz), (List.pairwise_cons.mp hl.asc).2, rfl⟩ ⟨fun z hz => hm.pr z (List.mem_cons_of_mem _ hz), (List.pairwise_cons.mp hm.asc).2, k2.symm⟩
    rw [t]
    obtain ⟨x1, x2⟩ := x
    obtain ⟨y1, y2⟩ := y
    simp only at e1 k1
    subst e1 k1
    rfl
/-- the parts of a prime -/
theorem parts_prime {n : Nat} (h : Pr n) : Parts n [(n, 1)] := ⟨fun x hx => by rw [List.mem_singleton] at hx; subst hx; exact ⟨h, Nat.le_refl 1⟩, List.pairwise_singleton _ _, by show n ^ 1 * 1 = n; rw [Nat.pow_one, Nat.mul_one]⟩
/-- what one prime takes out -/
theorem take_out {p : Nat} (h : 2 ≤ p) : ∀ {g : Nat}, 0 < g → ∃ j a, g = p ^ j * a ∧ ¬ p ∣ a := by
  intro g
  induction g using Nat.strongRecOn with
  | ind g ih =>
    intro g0
    by_cases z : p ∣ g
    · obtain ⟨b, rfl⟩ := z
      have b0 : 0 < b := Nat.pos_of_ne_zero fun e => by rw [e, Nat.mul_zero] at g0; omega
      obtain ⟨j, a, e, ha⟩ := ih b (by have := Nat.mul_le_mul_right b h; omega) b0
      exact ⟨j + 1, a, by rw [e, Nat.pow_succ, Nat.mul_comm (p ^ j) p, Nat.mul_assoc], ha⟩
    · exact ⟨0, g, by rw [Nat.pow_zero, Nat.one_mul], z⟩
theorem coprime_pow_l {p a k : Nat} (h : Pr p) (ha : ¬ p ∣ a) : Nat.Coprime (p ^ k) a := by
  induction k with
  | zero => rw [Nat.pow_zero]; exact Nat.coprime_one_left a
  | succ k ih => rw [Nat.pow_succ]; exact Nat.Coprime.mul_left ih (pr_coprime h ha)
/-- square measures, one prime more -/
theorem sq_step {p k P g : Nat} (h : Pr p) (hP : ¬ p ∣ P) (P0 : 0 < P) : g * g ∣ P * p ^ k ↔ ∃ a j, a * a ∣ P ∧ j ≤ k / 2 ∧ g = a * p ^ j := by
  have p0 : 0 < p := by have := h.1; omega
  constructor
  · intro hd
    have g0 : 0 < g := Nat.pos_of_ne_zero fun e => by
      rw [e, Nat.zero_mul] at hd
      have := Nat.eq_zero_of_zero_dvd hd
      have := Nat.mul_pos P0 (Nat.pow_pos (n := k) p0)
      omega
    obtain ⟨j, a, rfl, ha⟩ := take_out h.1 g0
    have haa : ¬ p ∣ a * a := fun z => (euclid h z).elim ha ha
    have e : p ^ j * a * (p ^ j * a) = p ^ (2 * j) * (a * a) := by rw [Nat.two_mul, Nat.pow_add]; grind
    rw [e] at hd
    refine ⟨a, j, ?_, ?_, Nat.mul_comm _ _⟩
    · have : a * a ∣ P * p ^ k := Nat.dvd_trans (Nat.dvd_mul_left _ _) hd
      exact ((coprime_pow_l h haa).symm).dvd_of_dvd_mul_right this
    · have d2 : p ^ (2 * j) ∣ P * p ^ k := Nat.dvd_trans (Nat.dvd_mul_right _ _) hd
      have d3 : p ^ (2 * j) ∣ p ^ k := (coprime_pow_l h hP).dvd_of_dvd_mul_left d2
      have := (Nat.pow_dvd_pow_iff_le_right (show 1 < p by have := h.1; omega)).mp d3
      omega
  · rintro ⟨a, j, ha, hj, rfl⟩
    have e : a * p ^ j * (a * p ^ j) = a * a * p ^ (2 * j) := by rw [Nat.two_mul, Nat.pow_add]; grind
    rw [e]
    exact Nat.mul_dvd_mul ha (Nat.pow_dvd_pow p (by omega))
theorem sq_no {p P a : Nat} (h : Pr p) (hP : ¬ p ∣ P) (ha : a * a ∣ P) : ¬ p ∣ a := fun z => hP (Nat.dvd_trans z (Nat.dvd_trans (Nat.dvd_mul_right a a) ha))
/-- ascending lists with the same members -/
theorem asc_ext {α : Type} {lt : α → α → Prop} (tr : ∀ a b, lt a b → lt b a → False) : ∀ {l m : List α}, l.Pairwise lt → m.Pairwise lt → (∀ x, x ∈ l ↔ x ∈ m) → l = m
  | [], [], _, _, _ => rfl
  | [], y :: m, _, _, h => absurd ((h y).mpr List.mem_cons_self) (by intro z; cases z)
  | x :: l, [], _, _, h => absurd ((h x).mp List.mem_cons_self) (by intro z; cases z)
  | x :: l, y :: m, hl, hm, h => by
    obtain ⟨l1, l2⟩ := List.pairwise_cons.mp hl
    obtain ⟨m1, m2⟩ := List.pairwise_cons.mp hm
    have e : x = y := by
      rcases List.mem_cons.mp ((h x).mp List.mem_cons_self) with z | z
      · exact z
      · rcases List.mem_cons.mp ((h y).mpr List.mem_cons_self) with w | w
        · exact w.symm
        · exact absurd (m1 x z) fun q => tr _ _ q (l1 y w)
    subst e
    have irr : ¬ lt x x := fun q => tr _ _ q q
    rw [asc_ext tr l2 m2 fun z => ?_]
    constructor
    · intro hz
      rcases List.mem_cons.mp ((h z).mp (List.mem_cons_of_mem _ hz)) with w | w
      · subst w; exact absurd (l1 z hz) irr
      · exact w
    · intro hz
      rcases List.mem_cons.mp ((h z).mpr (List.mem_cons_of_mem _ hz)) with w | w
      · subst w; exact absurd (m1 z hz) irr
      · exact w
end DL
set_option maxHeartbeats 1000000
set_option pp.maxSteps 1200
local macro_rules | `(tactic| walk_at "sm") => `(tactic| first
  | assumption
  | (with_reducible refine' DL.Sm.ofB ?_ ?_ <;> omega)
  | (with_reducible refine' DL.Sm.mul ?s1 ?s2; (case s1 => walk_at "sm"); (case s2 => walk_at "sm"))
  | (with_reducible refine' DL.Sm.addm ?s1 ?s2; (case s1 => walk_at "sm"); (case s2 => walk_at "sm"))
  | (with_reducible refine' DL.Sm.subm ?s1 ?s2; (case s1 => walk_at "sm"); (case s2 => walk_at "sm"))
  | (with_reducible refine' DL.Sm.neg ?s1; (case s1 => walk_at "sm"))
  | (with_reducible refine' DL.Sm.fdiv ?s1; (case s1 => walk_at "sm"))
  | (with_reducible refine' DL.Sm.absif ?s1; (case s1 => walk_at "sm"))
  | (with_reducible refine' DL.Sm.fmod ?s1 ?s2; (case s1 => walk_at "sm"); (case s2 => first | assumption | omega)))
local macro_rules | `(tactic| walk_at "sd") => `(tactic| ((try dsimp only); first
  | with_reducible exact rfl
  | assumption
  | (with_reducible refine' DL.MulOk.of ?m1 ?m2 ?m3; (case m1 => walk_at "sm"); (case m2 => walk_at "sm"); (case m3 => decide))
  | (with_reducible refine' DL.DivOk.of ?m1 ?m2 ?m3; (case m1 => first | assumption | omega | decide); (case m2 => walk_at "sm"); (case m3 => decide))
  | (with_reducible refine' DL.Sm.le ?m1 ?m2; (case m1 => walk_at "sm"); (case m2 => decide))
  | omega
  | decide
  | exact rfl
  | (refine ⟨?_, ?_⟩ <;> walk_at "sd")))
local macro_rules | `(tactic| walk_at "go") => `(tactic| repeat (refine ⟨DL.prf (by walk_at "sd"), ?_⟩))
namespace DL
open PySem PySem.Spec PyProof.Rows L2
theorem natAbs_pow_lt {n k j : Nat} {x : Int} (h : x.natAbs < 2 ^ k) (hk : k ≤ j) : x.natAbs < 2 ^ j := Nat.lt_of_lt_of_le h (Nat.pow_le_pow_right (by decide) hk)
theorem pow_s (a k : Nat) : a ^ (k + 1) = a ^ k * a := Nat.pow_succ ..
theorem mod_iff {n p : Nat} : ((n : Int)).fmod (p : Int) = 0 ↔ p ∣ n := by
  rw [Int.fmod_eq_emod_of_nonneg _ (Int.natCast_nonneg _)]
  constructor
  · intro h
    exact Nat.dvd_of_mod_eq_zero (by omega)
  · intro h
    have := Nat.mod_eq_zero_of_dvd h
    omega
theorem fdiv_nat {n p : Nat} : ((n : Int)).fdiv (p : Int) = ((n / p : Nat) : Int) := by rw [Int.fdiv_eq_ediv_of_nonneg _ (Int.natCast_nonneg _)]; rfl
theorem fmod_natN {n p : Nat} : ((n : Int)).fmod (p : Int) = ((n % p : Nat) : Int) := by rw [Int.fmod_eq_emod_of_nonneg _ (Int.natCast_nonneg _)]; rfl
@[irreducible] def sp_Lroot : FSpec := fun ds tk Q => ∃ (n : Nat), ds = [.int (n : Int)] ∧ (n < 2 ^ 1000) ∧ ∀ (r : Nat), ∀ (a : r * r ≤ n), ∀ (b : n < (r + 1) * (r + 1)), Q (.val (.int (r : Int))) tk
theorem op_Lroot {ds : List D} {tk : Tk} {Q : EV → Tk → Prop} (h : sp_Lroot ds tk Q) : ∃ (n : Nat), ds = [.int (n : Int)] ∧ (n < 2 ^ 1000) ∧ ∀ (r : Nat), ∀ (a : r * r ≤ n), ∀ (b : n < (r + 1) * (r + 1)), Q (.val (.int (r : Int))) tk := by unfold sp_Lroot at h; exact h
theorem mon_Lroot : MonFS sp_Lroot := fun ds tk Q Q' hq_ hs_ => by
  obtain ⟨n, e_, h0, q_⟩ := op_Lroot hs_
  unfold sp_Lroot
  exact ⟨n, e_, h0, fun r a b => hq_ _ _ (q_ r a b)⟩
theorem len_Lroot : ∀ ds tk Q, sp_Lroot ds tk Q → ds.length = 1 := fun ds tk Q hs_ => by
  obtain ⟨n, e_, h0, q_⟩ := op_Lroot hs_
  rw [e_]; rfl
theorem cl_Lroot {tk : Tk} {Q : EV → Tk → Prop} {n : Nat} (h0 : n < 2 ^ 1000) (q_ : ∀ (r : Nat), ∀ (a : r * r ≤ n), ∀ (b : n < (r + 1) * (r + 1)), Q (.val (.int (r : Int))) tk) : sp_Lroot [.int (n : Int)] tk Q := by
  unfold sp_Lroot
  exact ⟨n, rfl, h0, q_⟩
theorem ce_Lroot {ds_ : List D} {tk : Tk} {Q : EV → Tk → Prop} {n : Nat} (h0 : n < 2 ^ 1000) (e_ : ds_ = [.int (n : Int)]) (q_ : ∀ (r : Nat), ∀ (a : r * r ≤ n), ∀ (b : n < (r + 1) * (r + 1)), Q (.val (.int (r : Int))) tk) : sp_Lroot ds_ tk Q := by
  subst e_
  unfold sp_Lroot
  exact ⟨n, rfl, h0, q_⟩
abbrev N_Lroot : List Str := ["_law_n", "_law_low", "_law_high", "_law_k", "_law_middle"]
def c_Lroot : WS :=
  (wSeq (wSet 1 (wC (.int 0)))
  (wSeq (wSet 2 (wOp fAdd (wPk 0) (fz (wC (.int 1)))))
  (wSeq (wFor (wR1 (fz (wC (.int 2000)))) (gN 3) (wSeq (wIfS (wT (wOp fLe (fz (wOp fSub (wPk 2) (wPk 1))) (fz (wC (.int 1))))) (wRetV 1) wNext)
  (wSeq (wSet 4 (wOp fDiv (fz (wOp fAdd (wPk 1) (wPk 2))) (fz (wC (.int 2)))))
  (wIfS (wT (wOp fLe (fz (wOp fMul (wPk 4) (wPk 4))) (wPk 0))) (wSet 1 (wV 4)) (wSet 2 (wV 4))))))
  (wRetV 1))))
theorem hw_Lroot : ∀ ds tk Q, sp_Lroot ds tk Q → c_Lroot { nx := fun _ t => Q (.val .non) t, rt := Q } (start N_Lroot.length ds) tk := by
  intro ds tk Q h_
  obtain ⟨n, rfl, h0, q⟩ := op_Lroot h_
  have hs : Sm 1001 (n : Int) := by unfold Sm; rw [Int.natAbs_natCast]; exact Nat.lt_of_lt_of_le h0 (Nat.pow_le_pow_right (by decide) (by decide))
  refine ⟨by decide, by decide, ?_⟩
  refine forGo_rng (fun i e t => t = tk ∧ ∃ (l h : Nat) (x3 x4 : Option EV), l < h ∧ l * l ≤ n ∧ n < h * h ∧ h ≤ n + 1 ∧ h * 2 ^ i ≤ l * 2 ^ i + 2 ^ 1001 + 2 ^ i ∧ e = [some (.val (.int (n))), some (.val (.int (l))), some (.val (.int (h))), x3, x4]) (fun i e t R hi hI hR => ?_) (fun e t hI => ?_) ⟨rfl, 0, n + 1, none, none, by omega, by omega, by have := Nat.mul_le_mul (show n + 1 ≤ n + 1 by omega) (show 1 ≤ n + 1 by omega); omega, by omega, by rw [Nat.pow_zero]; have : (2 : Nat) ^ 1001 = 2 ^ 1000 * 2 := pow_s 2 1000; omega, rfl⟩
  · obtain ⟨rfl, l, h, x3, x4, i0, i1, i2, i3, i4, rfl⟩ := hI
    refine if2 (fun z => ?_) (fun z => ?_)
    · have e : h = l + 1 := by omega
      subst e
      exact q l i1 i2
    · have hm : ((l : Int) + (h : Int)).fdiv 2 = (((l + h) / 2 : Nat) : Int) := by rw [Int.fdiv_eq_ediv_of_nonneg _ (by decide)]; omega
      have hk : MulOk (((l + h) / 2 : Nat) : Int) (((l + h) / 2 : Nat) : Int) := by
        have : Sm 1001 (((l + h) / 2 : Nat) : Int) := by unfold Sm at *; omega
        walk_at "sd"
      refine ⟨by walk_at "sd", ?_⟩
      simp only [gCs, gN, gNl, start_def, List.map_cons, List.map_nil, List.set_cons_zero, List.set_cons_succ, List.replicate_succ, List.replicate_zero, List.cons_append, List.nil_append, List.length_cons, List.length_nil, Nat.reduceAdd, Nat.reduceSub]
      rw [hm]
      refine ⟨hk, ?_⟩
      have dbl : 2 * ((l + h) / 2) ≤ l + h ∧ l + h ≤ 2 * ((l + h) / 2) + 1 := by omega
      generalize (l + h) / 2 = md at *
      have p1 : (2 : Nat) ^ (i + 1) = 2 ^ i * 2 := pow_s 2 i
      refine if2 (fun z2 => ?_) (fun z2 => ?_)
      · refine hR _ _ ⟨rfl, md, h, _, _, by omega, ?_, i2, i3, ?_, rfl⟩
        · have : ((md * md : Nat) : Int) ≤ n := by rw [Int.natCast_mul]; exact z2
          omega
        · rw [p1]
          have a1 : h * (2 ^ i * 2) = h * 2 ^ i + h * 2 ^ i := by grind
          have a2 : (l + h) * 2 ^ i ≤ (2 * md + 1) * 2 ^ i := Nat.mul_le_mul_right _ dbl.2
          have a3 : (l + h) * 2 ^ i = l * 2 ^ i + h * 2 ^ i := Nat.add_mul _ _ _
          have a4 : (2 * md + 1) * 2 ^ i = md * (2 ^ i * 2) + 2 ^ i := by grind
          omega
      · refine hR _ _ ⟨rfl, l, md, _, _, by omega, i1, ?_, by omega, ?_, rfl⟩
        · have : ¬ ((md * md : Nat) : Int) ≤ n := by rw [Int.natCast_mul]; exact z2
          omega
        · rw [p1]
          have a2 : 2 * md * 2 ^ i ≤ (l + h) * 2 ^ i := Nat.mul_le_mul_right _ dbl.1
          have a3 : (l + h) * 2 ^ i = l * 2 ^ i + h * 2 ^ i := Nat.add_mul _ _ _
          have a4 : 2 * md * 2 ^ i = md * (2 ^ i * 2) := by grind
          have a5 : l * (2 ^ i * 2) = l * 2 ^ i + l * 2 ^ i := by grind
          omega
  · obtain ⟨rfl, l, h, x3, x4, i0, i1, i2, i3, i4, rfl⟩ := hI
    have e : h = l + 1 := by
      have i4 : h * 2 ^ 2000 ≤ l * 2 ^ 2000 + 2 ^ 1001 + 2 ^ 2000 := i4
      have p : (2 : Nat) ^ 1001 < 2 ^ 2000 := Nat.pow_lt_pow_right (by decide) (by decide)
      generalize (2 : Nat) ^ 1001 = A at *
      generalize (2 : Nat) ^ 2000 = B at *
      rcases Nat.lt_or_ge h (l + 2) with z | z
      · omega
      · have := Nat.mul_le_mul_right B z
        rw [Nat.add_mul] at this
        omega
    subst e
    exact q l i1 i2
/-! ### primes by trying -/
theorem prime_try {n r : Nat} (h2 : 2 ≤ n) (hr : n < (r + 1) * (r + 1)) (h : ∀ d, 2 ≤ d → d < r + 1 → ¬ d ∣ n) : Pr n := pr_of_small h2 h hr
theorem not_pr {n d : Nat} (h : d ∣ n) (h2 : 2 ≤ d) (hd : d < n) : ¬ Pr n := fun p => by
  rcases p.2 d h with e | e <;> omega
open Classical in
noncomputable def prB (n : Nat) : Bool := decide (Pr n)
open Classical in
theorem prB_t {n : Nat} (h : Pr n) : prB n = true := decide_eq_true h
open Classical in
theorem prB_f {n : Nat} (h : ¬ Pr n) : prB n = false := decide_eq_false h
@[irreducible] def sp_Lprime : FSpec := fun ds tk Q => ∃ (n : Nat), ds = [.int (n : Int)] ∧ (n < 2 ^ 60) ∧ Q (.val (.bl (prB n))) tk
theorem op_Lprime {ds : List D} {tk : Tk} {Q : EV → Tk → Prop} (h : sp_Lprime ds tk Q) : ∃ (n : Nat), ds = [.int (n : Int)] ∧ (n < 2 ^ 60) ∧ Q (.val (.bl (prB n))) tk := by unfold sp_Lprime at h; exact h
theorem mon_Lprime : MonFS sp_Lprime := fun ds tk Q Q' hq_ hs_ => by
  obtain ⟨n, e_, h0, q_⟩ := op_Lprime hs_
  unfold sp_Lprime
  exact ⟨n, e_, h0, hq_ _ _ q_⟩
theorem len_Lprime : ∀ ds tk Q, sp_Lprime ds tk Q → ds.length = 1 := fun ds tk Q hs_ => by
  obtain ⟨n, e_, h0, q_⟩ := op_Lprime hs_
  rw [e_]; rfl
theorem cl_Lprime {tk : Tk} {Q : EV → Tk → Prop} {n : Nat} (h0 : n < 2 ^ 60) (q_ : Q (.val (.bl (prB n))) tk) : sp_Lprime [.int (n : Int)] tk Q := by
  unfold sp_Lprime
  exact ⟨n, rfl, h0, q_⟩
theorem ce_Lprime {ds_ : List D} {tk : Tk} {Q : EV → Tk → Prop} {n : Nat} (h0 : n < 2 ^ 60) (e_ : ds_ = [.int (n : Int)]) (q_ : Q (.val (.bl (prB n))) tk) : sp_Lprime ds_ tk Q := by
  subst e_
  unfold sp_Lprime
  exact ⟨n, rfl, h0, q_⟩
abbrev N_Lprime : List Str := ["_law_n", "_law_p"]
def c_Lprime : WS :=
  (wSeq (wIfS (wT (wOp fLt (wPk 0) (fz (wC (.int 2))))) (wRet (wC (.bl false))) wNext)
  (wSeq (wFor (wR2 (fz (wC (.int 2))) (fz (wOp fAdd (fz (wCall sp_Lroot (wCons (fz (wV 0)) wNil))) (fz (wC (.int 1)))))) (gN 1) (wIfS (wT (wOp fEq (fz (wOp fMod (wPk 0) (wPk 1))) (fz (wC (.int 0))))) (wRet (wC (.bl false))) wNext))
  (wRet (wC (.bl true)))))
theorem hw_Lprime : ∀ ds tk Q, sp_Lprime ds tk Q → c_Lprime { nx := fun _ t => Q (.val .non) t, rt := Q } (start N_Lprime.length ds) tk := by
  intro ds tk Q h_
  obtain ⟨n, rfl, h0, q⟩ := op_Lprime h_
  refine if2 (fun h => ?_) (fun h => ?_)
  · rw [prB_f (fun p => by have := p.1; omega)] at q
    exact q
  refine cl_Lroot (Nat.lt_trans h0 (Nat.pow_lt_pow_right (by decide) (by decide))) fun r ra rb => ?_
  have rn : r ≤ n := Nat.le_trans (Nat.le_mul_self r) ra
  refine ⟨by omega, ?_⟩
  have e0 : ((r : Int) + 1 - 2).toNat = r - 1 := by omega
  rw [e0]
  refine forGo_rng (fun i e t => t = tk ∧ (∀ d, 2 ≤ d → d < i + 2 → ¬ d ∣ n) ∧ ∃ x1 : Option EV, e = [some (.val (.int (n))), x1]) (fun i e t R hi hI hR => ?_) (fun e t hI => ?_) ⟨rfl, fun d a b => by omega, none, rfl⟩
  · obtain ⟨rfl, hd, x1, rfl⟩ := hI
    have e1 : (2 : Int) + (i : Int) = ((i + 2 : Nat) : Int) := by omega
    rw [e1]
    refine ⟨by omega, ?_⟩
    refine if2 (fun z => ?_) (fun z => ?_)
    · have dv : (i + 2) ∣ n := mod_iff.mp z
      have lt : i + 2 < n := by
        have : (i + 2) * 2 ≤ r * r := Nat.mul_le_mul (by omega) (by omega)
        omega
      rw [prB_f (not_pr dv (by omega) lt)] at q
      exact q
    · refine hR _ _ ⟨rfl, fun d a b => ?_, _, rfl⟩
      rcases Nat.lt_or_ge d (i + 2) with w | w
      · exact hd d a w
      · have : d = i + 2 := by omega
        subst this
        exact fun w => z (mod_iff.mpr w)
  · obtain ⟨rfl, hd, x1, rfl⟩ := hI
    rw [prB_t (prime_try (n := n) (r := r) (by omega) rb fun d a b => hd d a (by omega))] at q
    exact q
@[irreducible] def sp_Lprime_above : FSpec := fun ds tk Q => ∃ (n : Nat), ds = [.int (n : Int)] ∧ (n < 2 ^ 50) ∧ ∀ (m : Nat), ∀ (a : 2 ≤ m), ∀ (b : m ≤ n + 300), Q (.val (.int (m : Int))) tk
theorem op_Lprime_above {ds : List D} {tk : Tk} {Q : EV → Tk → Prop} (h : sp_Lprime_above ds tk Q) : ∃ (n : Nat), ds = [.int (n : Int)] ∧ (n < 2 ^ 50) ∧ ∀ (m : Nat), ∀ (a : 2 ≤ m), ∀ (b : m ≤ n + 300), Q (.val (.int (m : Int))) tk := by unfold sp_Lprime_above at h; exact h
theorem mon_Lprime_above : MonFS sp_Lprime_above := fun ds tk Q Q' hq_ hs_ => by
  obtain ⟨n, e_, h0, q_⟩ := op_Lprime_above hs_
  unfold sp_Lprime_above
  exact ⟨n, e_, h0, fun m a b => hq_ _ _ (q_ m a b)⟩
theorem len_Lprime_above : ∀ ds tk Q, sp_Lprime_above ds tk Q → ds.length = 1 := fun ds tk Q hs_ => by
  obtain ⟨n, e_, h0, q_⟩ := op_Lprime_above hs_
  rw [e_]; rfl
theorem cl_Lprime_above {tk : Tk} {Q : EV → Tk → Prop} {n : Nat} (h0 : n < 2 ^ 50) (q_ : ∀ (m : Nat), ∀ (a : 2 ≤ m), ∀ (b : m ≤ n + 300), Q (.val (.int (m : Int))) tk) : sp_Lprime_above [.int (n : Int)] tk Q := by
  unfold sp_Lprime_above
  exact ⟨n, rfl, h0, q_⟩
theorem ce_Lprime_above {ds_ : List D} {tk : Tk} {Q : EV → Tk → Prop} {n : Nat} (h0 : n < 2 ^ 50) (e_ : ds_ = [.int (n : Int)]) (q_ : ∀ (m : Nat), ∀ (a : 2 ≤ m), ∀ (b : m ≤ n + 300), Q (.val (.int (m : Int))) tk) : sp_Lprime_above ds_ tk Q := by
  subst e_
  unfold sp_Lprime_above
  exact ⟨n, rfl, h0, q_⟩
abbrev N_Lprime_above : List Str := ["_law_n", "_law_k"]
def c_Lprime_above : WS :=
  (wSeq (wFor (wR1 (fz (wC (.int 300)))) (gN 1) (wIfS (wT (wCall sp_Lprime (wCons (fz (wOp fAdd (wPk 0) (wPk 1))) wNil))) (wRet (wOp fAdd (wPk 0) (wPk 1))) wNext))
  (wRet (wC (.int 2))))
theorem hw_Lprime_above : ∀ ds tk Q, sp_Lprime_above ds tk Q → c_Lprime_above { nx := fun _ t => Q (.val .non) t, rt := Q } (start N_Lprime_above.length ds) tk := by
  intro ds tk Q h_
  obtain ⟨n, rfl, h0, q⟩ := op_Lprime_above h_
  refine ⟨by decide, by decide, ?_⟩
  refine forGo_rng (fun i e t => t = tk ∧ ∃ x1 : Option EV, e = [some (.val (.int (n))), x1]) (fun i e t R hi hI hR => ?_) (fun e t hI => ?_) ⟨rfl, none, rfl⟩
  · obtain ⟨rfl, x1, rfl⟩ := hI
    have hi : i < 300 := hi
    have e1 : (n : Int) + (0 + (i : Int)) = ((n + i : Nat) : Int) := by omega
    refine ce_Lprime (n := n + i) (by omega) (by rw [e1]; rfl) ?_
    by_cases z : Pr (n + i)
    · rw [prB_t z]
      refine ifB rfl ?_
      have := q (n + i) z.1 (by omega)
      rw [← e1] at this
      exact this
    · rw [prB_f z]
      exact ifBF rfl (hR _ _ ⟨rfl, _, rfl⟩)
  · obtain ⟨rfl, x1, rfl⟩ := hI
    exact q 2 (by omega) (by omega)
/-! ### prime parts -/
def encP (l : List (Nat × Nat)) : List D := l.map fun x => .tup [.int (x.1 : Int), .int (x.2 : Int)]
/-- the state of the search: found, what is left, the next try -/
structure PpI (n : Nat) (l : List (Nat × Nat)) (m p : Nat) : Prop where
  pr : ∀ x ∈ l, Pr x.1 ∧ 1 ≤ x.2 ∧ x.1 < p
  asc : l.Pairwise (fun a b => a.1 < b.1)
  eq : prodP l * m = n
  no : ∀ d, 2 ≤ d → d < p → ¬ d ∣ m
  p2 : 2 ≤ p
  odd : p = 2 ∨ p % 2 = 1
  m0 : 0 < m
theorem ppI_pr {n m p : Nat} {l : List (Nat × Nat)} (h : PpI n l m p) (hd : p ∣ m) : Pr p := by
  refine ⟨h.p2, fun d hd' => ?_⟩
  have := Nat.le_of_dvd (by have := h.p2; omega) hd'
  by_cases z : d < p
  · have d0 : d ≠ 0 := fun e => by rw [e] at hd'; have := Nat.eq_zero_of_zero_dvd hd'; have := h.p2; omega
    by_cases z1 : d = 1
    · exact .inl z1
    · exact absurd (Nat.dvd_trans hd' hd) (h.no d (by omega) z)
  · exact .inr (by omega)
theorem ppI_next {n m m' p k : Nat} {l : List (Nat × Nat)} (h : PpI n l m p) (e : m = p ^ k * m') (hn : ¬ p ∣ m') (hk : 1 ≤ k) : PpI n (l ++ [(p, k)]) m' (p + 1 + p % 2) := by
  have hp : Pr p := ppI_pr h (by rw [e]; exact Nat.dvd_trans (dvd_pow_self' hk) (Nat.dvd_mul_right _ _))
  have m0 : 0 < m' := Nat.pos_of_ne_zero fun z => by have := h.m0; rw [e, z, Nat.mul_zero] at this; omega
  refine ⟨fun x hx => ?_, ?_, ?_, fun d d2 dl hd => ?_, by have := h.p2; omega, by have := h.odd; omega, m0⟩
  · rcases List.mem_append.mp hx with z | z
    · obtain ⟨a, b, c⟩ := h.pr x z
      exact ⟨a, b, by omega⟩
    · rw [List.mem_singleton] at z; subst z
      exact ⟨hp, hk, by show p < p + 1 + p % 2; omega⟩
  · rw [List.pairwise_append]
    refine ⟨h.asc, List.pairwise_singleton _ _, fun a ha b hb => ?_⟩
    rw [List.mem_singleton] at hb; subst hb
    exact (h.pr a ha).2.2
  · rw [prodP_app, ← h.eq, e]
    show prodP l * (p ^ k * 1) * m' = _
    rw [Nat.mul_one, Nat.mul_assoc]
  · have hd2 : d ∣ m := by rw [e]; exact Nat.dvd_trans hd (Nat.dvd_mul_left _ _)
    rcases Nat.lt_trichotomy d p with z | z | z
    · exact h.no d d2 z hd2
    · subst z; exact hn hd
    · have e2 : d = p + 1 ∧ p % 2 = 1 := by omega
      obtain ⟨rfl, e3⟩ := e2
      have h2 : (2 : Nat) ∣ p + 1 := ⟨(p + 1) / 2, by omega⟩
      exact h.no 2 (by omega) (by have := h.p2; omega) (Nat.dvd_trans h2 hd2)
theorem ppI_skip {n m p : Nat} {l : List (Nat × Nat)} (h : PpI n l m p) (hn : ¬ p ∣ m) : PpI n l m (p + 1 + p % 2) := by
  refine ⟨fun x hx => ?_, h.asc, h.eq, fun d d2 dl hd => ?_, by have := h.p2; omega, by have := h.odd; omega, h.m0⟩
  · obtain ⟨a, b, c⟩ := h.pr x hx
    exact ⟨a, b, by omega⟩
  · rcases Nat.lt_trichotomy d p with z | z | z
    · exact h.no d d2 z hd
    · subst z; exact hn hd
    · have e2 : d = p + 1 ∧ p % 2 = 1 := by omega
      obtain ⟨rfl, e3⟩ := e2
      have h2 : (2 : Nat) ∣ p + 1 := ⟨(p + 1) / 2, by omega⟩
      exact h.no 2 (by omega) (by have := h.p2; omega) (Nat.dvd_trans h2 hd)
theorem ppI_one {n p : Nat} {l : List (Nat × Nat)} (h : PpI n l 1 p) : Parts n l := ⟨fun x hx => ⟨(h.pr x hx).1, (h.pr x hx).2.1⟩, h.asc, by rw [← h.eq, Nat.mul_one]⟩
theorem ppI_end {n m p : Nat} {l : List (Nat × Nat)} (h : PpI n l m p) (m2 : 2 ≤ m) (hp : m < p * p) : Parts n (l ++ [(m, 1)]) := by
  have hm : Pr m := pr_of_small m2 h.no hp
  have mp : p ≤ m := Nat.le_of_not_lt fun z => h.no m m2 z (Nat.dvd_refl m)
  refine ⟨fun x hx => ?_, ?_, ?_⟩
  · rcases List.mem_append.mp hx with z | z
    · exact ⟨(h.pr x z).1, (h.pr x z).2.1⟩
    · rw [List.mem_singleton] at z; subst z
      exact ⟨hm, Nat.le_refl 1⟩
  · rw [List.pairwise_append]
    refine ⟨h.asc, List.pairwise_singleton _ _, fun a ha b hb => ?_⟩
    rw [List.mem_singleton] at hb; subst hb
    exact Nat.lt_of_lt_of_le (h.pr a ha).2.2 mp
  · rw [prodP_app, ← h.eq]
    show prodP l * (m ^ 1 * 1) = _
    rw [Nat.pow_one, Nat.mul_one]
theorem len_asc : ∀ {l : List (Nat × Nat)} {p : Nat}, (∀ x ∈ l, 2 ≤ x.1 ∧ 1 ≤ x.2) → 2 ^ l.length ≤ prodP l
  | [], _, _ => Nat.le_refl 1
  | x :: l, p, h => by
    have h1 := len_asc (l := l) (p := p) fun y hy => h y (List.mem_cons_of_mem _ hy)
    obtain ⟨a, b⟩ := h x List.mem_cons_self
    have h2 : 2 ≤ x.1 ^ x.2 := Nat.le_trans a (Nat.le_trans (Nat.le_of_eq (Nat.pow_one _).symm) (Nat.pow_le_pow_right (by omega) b))
    show 2 ^ (l.length + 1) ≤ x.1 ^ x.2 * prodP l
    rw [pow_s, Nat.mul_comm]
    exact Nat.mul_le_mul h2 h1
theorem prodP_of {l : List (Nat × Nat)} {n m : Nat} (e : prodP l * m = n) (m0 : 0 < m) : prodP l ≤ n := by rw [← e]; exact Nat.le_mul_of_pos_right _ m0
@[irreducible] def sp_prime_parts : FSpec := fun ds tk Q => ∃ (n : Nat), ds = [.int (n : Int)] ∧ (1 ≤ n) ∧ (n < 2 ^ 100) ∧ ∀ (l : List (Nat × Nat)), ∀ (a : Parts n l), Q (.own (encP l)) tk
theorem op_prime_parts {ds : List D} {tk : Tk} {Q : EV → Tk → Prop} (h : sp_prime_parts ds tk Q) : ∃ (n : Nat), ds = [.int (n : Int)] ∧ (1 ≤ n) ∧ (n < 2 ^ 100) ∧ ∀ (l : List (Nat × Nat)), ∀ (a : Parts n l), Q (.own (encP l)) tk := by unfold sp_prime_parts at h; exact h
theorem mon_prime_parts : MonFS sp_prime_parts := fun ds tk Q Q' hq_ hs_ => by
  obtain ⟨n, e_, h0, h1, q_⟩ := op_prime_parts hs_
  unfold sp_prime_parts
  exact ⟨n, e_, h0, h1, fun l a => hq_ _ _ (q_ l a)⟩
theorem len_prime_parts : ∀ ds tk Q, sp_prime_parts ds tk Q → ds.length = 1 := fun ds tk Q hs_ => by
  obtain ⟨n, e_, h0, h1, q_⟩ := op_prime_parts hs_
  rw [e_]; rfl
theorem cl_prime_parts {tk : Tk} {Q : EV → Tk → Prop} {n : Nat} (h0 : 1 ≤ n) (h1 : n < 2 ^ 100) (q_ : ∀ (l : List (Nat × Nat)), ∀ (a : Parts n l), Q (.own (encP l)) tk) : sp_prime_parts [.int (n : Int)] tk Q := by
  unfold sp_prime_parts
  exact ⟨n, rfl, h0, h1, q_⟩
theorem ce_prime_parts {ds_ : List D} {tk : Tk} {Q : EV → Tk → Prop} {n : Nat} (h0 : 1 ≤ n) (h1 : n < 2 ^ 100) (e_ : ds_ = [.int (n : Int)]) (q_ : ∀ (l : List (Nat × Nat)), ∀ (a : Parts n l), Q (.own (encP l)) tk) : sp_prime_parts ds_ tk Q := by
  subst e_
  unfold sp_prime_parts
  exact ⟨n, rfl, h0, h1, q_⟩
abbrev N_prime_parts : List Str := ["n", "found", "p", "k"]
def c_prime_parts : WS :=
  (wSeq (wSet 1 (wLst wNil))
  (wSeq (wSet 2 (wC (.int 2)))
  (wSeq (wWhile (wT (wOp fLe (fz (wOp fMul (wPk 2) (wPk 2))) (wPk 0))) (wSeq (wSet 3 (wC (.int 0)))
  (wSeq (wWhile (wT (wOp fEq (fz (wOp fMod (wPk 0) (wPk 2))) (fz (wC (.int 0))))) (wSeq (wSet 0 (wOp fDiv (wPk 0) (wPk 2)))
  (wSet 3 (wOp fAdd (wPk 3) (fz (wC (.int 1)))))))
  (wSeq (wIfS (wT (wOp fGt (wPk 3) (fz (wC (.int 0))))) (wApp 1 (fz (wTup (wCons (fz (wV 2)) (wCons (fz (wV 3)) wNil))))) wNext)
  (wSet 2 (wOp fAdd (fz (wOp fAdd (wPk 2) (fz (wC (.int 1))))) (fz (wOp fMod (wPk 2) (fz (wC (.int 2)))))))))))
  (wSeq (wIfS (wT (wOp fGt (wPk 0) (fz (wC (.int 1))))) (wApp 1 (fz (wTup (wCons (fz (wV 0)) (wCons (fz (wC (.int 1))) wNil))))) wNext)
  (wRetV 1)))))
theorem hw_prime_parts : ∀ ds tk Q, sp_prime_parts ds tk Q → c_prime_parts { nx := fun _ t => Q (.val .non) t, rt := Q } (start N_prime_parts.length ds) tk := by
  intro ds tk Q h_
  obtain ⟨n, rfl, h0, h1, q⟩ := op_prime_parts h_
  have len_ok : ∀ {l : List (Nat × Nat)} {m p : Nat}, PpI n l m p → (encP l).length < sizeLine := fun {l m p} h => by
    unfold encP
    rw [List.length_map]
    have a := len_asc (l := l) (p := 0) fun x hx => ⟨(h.pr x hx).1.1, (h.pr x hx).2.1⟩
    have b := prodP_of h.eq h.m0
    have : 2 ^ l.length < 2 ^ 100 := Nat.lt_of_le_of_lt (Nat.le_trans a b) h1
    have := (Nat.pow_lt_pow_iff_right (a := 2) (by decide)).mp this
    exact szl (by omega)
  have le_n : ∀ {l : List (Nat × Nat)} {m p : Nat}, PpI n l m p → m ≤ n := fun {l m p} h => by
    rw [← h.eq]
    exact Nat.le_mul_of_pos_left _ (prodP_pos fun x hx => ⟨(h.pr x hx).1, (h.pr x hx).2.1⟩)
  have hsn : ∀ {x : Nat}, x ≤ n → Sm 100 (x : Int) := fun {x} h => by unfold Sm; rw [Int.natAbs_natCast]; exact Nat.lt_of_le_of_lt h h1
  refine ⟨rfl, ?_⟩
  refine ⟨fun μ e t => t = tk ∧ ∃ (l : List (Nat × Nat)) (m p : Nat) (x3 : Option EV), PpI n l m p ∧ p ≤ n + 3 ∧ μ = m - p ∧ e = [some (.val (.int (m))), some (.own (encP l)), some (.val (.int (p))), x3], ⟨_, rfl, [], n, 2, none, ⟨(fun x hx => nomatch hx), List.Pairwise.nil, by show 1 * n = n; omega, fun d a b => by omega, by omega, .inl rfl, h0⟩, by omega, rfl, rfl⟩, ?_⟩
  rintro μ e t ⟨rfl, l, m, p, x3, I, hpn, rfl, rfl⟩
  have sp : Sm 110 (p : Int) := by unfold Sm; rw [Int.natAbs_natCast]; have : (2 : Nat) ^ 100 + 3 ≤ 2 ^ 110 := by decide
                                   omega
  refine ⟨by walk_at "sd", ?_⟩
  have p2 := I.p2
  refine if2 (fun hz => ?_) (fun hz => ?_)
  · have hz : p * p ≤ m := by have : ((p * p : Nat) : Int) ≤ m := by rw [Int.natCast_mul]; exact hz
                              omega
    have pm : p < m := Nat.lt_of_lt_of_le (by have := Nat.mul_le_mul_right p p2; omega) hz
    refine ⟨fun ν e t' => t' = t ∧ ∃ (k m' : Nat), m = p ^ k * m' ∧ 0 < m' ∧ m' = ν ∧ e = [some (.val (.int (m'))), some (.own (encP l)), some (.val (.int (p))), some (.val (.int (k)))], ⟨_, rfl, 0, m, by rw [Nat.pow_zero, Nat.one_mul], I.m0, rfl, rfl⟩, ?_⟩
    rintro ν e t' ⟨rfl, k, m', em, m0', rfl, rfl⟩
    refine ⟨by omega, ?_⟩
    refine if2 (fun hd => ?_) (fun hd => ?_)
    · have hd := mod_iff.mp hd
      obtain ⟨b, rfl⟩ := hd
      have b0 : 0 < b := Nat.pos_of_ne_zero fun z => by rw [z, Nat.mul_zero] at m0'; omega
      refine ⟨by walk_at "sd", ?_⟩
      refine ⟨b, by have := Nat.mul_le_mul_right b p2; omega, rfl, k + 1, b, by rw [em, pow_s]; grind, b0, rfl, ?_⟩
      have ed : ((p * b : Nat) : Int).fdiv (p : Int) = (b : Int) := by rw [fdiv_nat, Nat.mul_div_cancel_left _ (show 0 < p by omega)]
      rw [← ed]
      rfl
    · have hd : ¬ p ∣ m' := fun w => hd (mod_iff.mpr w)
      have e5 : ((p : Int) + 1 + ((p : Int)).fmod 2) = ((p + 1 + p % 2 : Nat) : Int) := by rw [show (2 : Int) = ((2 : Nat) : Int) from rfl, fmod_natN]; omega
      have m'm : m' ≤ m := by rw [em]; exact Nat.le_mul_of_pos_left _ (Nat.pow_pos (by omega))
      refine if2 (fun hk => ?_) (fun hk => ?_)
      · have J := ppI_next I em hd (by omega)
        refine ⟨rfl, len_ok I, by walk_at "sd", ?_⟩
        refine ⟨m' - (p + 1 + p % 2), by omega, rfl, l ++ [(p, k)], m', p + 1 + p % 2, some (.val (.int k)), J, by have := le_n I; omega, rfl, ?_⟩
        rw [← e5]
        unfold encP
        rw [List.map_append]
        rfl
      · have k0 : k = 0 := by omega
        subst k0
        rw [Nat.pow_zero, Nat.one_mul] at em
        subst em
        have J := ppI_skip I hd
        refine ⟨by walk_at "sd", ?_⟩
        refine ⟨m - (p + 1 + p % 2), by omega, rfl, l, m, p + 1 + p % 2, some (.val (.int 0)), J, by have := le_n I; omega, rfl, ?_⟩
        rw [← e5]
        rfl
  · have hz : m < p * p := by have : ¬ ((p * p : Nat) : Int) ≤ m := by rw [Int.natCast_mul]; exact hz
                              omega
    refine if2 (fun h1 => ?_) (fun h1 => ?_)
    · refine ⟨rfl, len_ok I, ?_⟩
      have := q _ (ppI_end I (by omega) hz)
      unfold encP at this
      rw [List.map_append] at this
      exact this
    · have m1 : m = 1 := by have := I.m0; omega
      subst m1
      exact q _ (ppI_one I)
end DL
set_option maxHeartbeats 1000000
set_option pp.maxSteps 1200
namespace DL
open PySem PySem.Spec PyProof.Rows L2
/-! ### forms: values, changes -/
abbrev QB : Nat := 1000
abbrev VB : Nat := 130000
theorem q1 {x y : Int} {k j : Nat} (h : Sm k x) (h' : Sm j y) (hk : k ≤ 400000 := by decide) (hj : j ≤ 400000 := by decide) : MulOk x y := h.mulOk h' (by omega) (by omega)
theorem s2 : Sm 2 2 := show (2 : Int).natAbs < 2 ^ 2 by decide
theorem s4 : Sm 3 4 := show (4 : Int).natAbs < 2 ^ 3 by decide
def F3.worth (m : F3) (v : P2) : Int := m.a * v.x * v.x + m.b * v.x * v.y + m.c * v.y * v.y
def F3.act (f : F3) (m : M4) : F3 := ⟨f.worth ⟨m.p, m.r⟩, 2 * f.a * m.p * m.q + f.b * (m.p * m.s + m.q * m.r) + 2 * f.c * m.r * m.s, f.worth ⟨m.q, m.s⟩⟩
def F3.disc (f : F3) : Int := f.b * f.b - 4 * f.a * f.c
def F3.Lact (f : F3) (m : M4) : F3 := ⟨f.worth ⟨m.p, m.r⟩, f.worth ⟨m.p + m.q, m.r + m.s⟩ - f.worth ⟨m.p, m.r⟩ - f.worth ⟨m.q, m.s⟩, f.worth ⟨m.q, m.s⟩⟩
theorem F3.ext {f g : F3} (h1 : f.a = g.a) (h2 : f.b = g.b) (h3 : f.c = g.c) : f = g := by cases f; cases g; simp only at h1 h2 h3; subst h1 h2 h3; rfl
theorem F3.lact_eq (f : F3) (m : M4) : f.Lact m = f.act m := by
  apply F3.ext
  · rfl
  · unfold F3.Lact F3.act F3.worth; dsimp only; grind
  · rfl
@[irreducible] def sp_discriminant : FSpec := fun ds tk Q => ∃ (f : F3), ds = [f.D] ∧ (f.Sm QB) ∧ Q (.val (.int f.disc)) tk
theorem op_discriminant {ds : List D} {tk : Tk} {Q : EV → Tk → Prop} (h : sp_discriminant ds tk Q) : ∃ (f : F3), ds = [f.D] ∧ (f.Sm QB) ∧ Q (.val (.int f.disc)) tk := by unfold sp_discriminant at h; exact h
theorem mon_discriminant : MonFS sp_discriminant := fun ds tk Q Q' hq_ hs_ => by
  obtain ⟨f, e_, hf, q_⟩ := op_discriminant hs_
  unfold sp_discriminant
  exact ⟨f, e_, hf, hq_ _ _ q_⟩
theorem len_discriminant : ∀ ds tk Q, sp_discriminant ds tk Q → ds.length = 1 := fun ds tk Q hs_ => by
  obtain ⟨f, e_, hf, q_⟩ := op_discriminant hs_
  rw [e_]; rfl
theorem cl_discriminant {tk : Tk} {Q : EV → Tk → Prop} {f : F3} (hf : f.Sm QB) (q_ : Q (.val (.int f.disc)) tk) : sp_discriminant [f.D] tk Q := by
  unfold sp_discriminant
  exact ⟨f, rfl, hf, q_⟩
theorem ce_discriminant {ds_ : List D} {tk : Tk} {Q : EV → Tk → Prop} {f : F3} (hf : f.Sm QB) (e_ : ds_ = [f.D]) (q_ : Q (.val (.int f.disc)) tk) : sp_discriminant ds_ tk Q := by
  subst e_
  unfold sp_discriminant
  exact ⟨f, rfl, hf, q_⟩
abbrev N_discriminant : List Str := ["form"]
def c_discriminant : WS :=
  (wRet (wOp fSub (fz (wOp fMul (fz (wOp fIdx (wPk 0) (fz (wC (.int 1))))) (fz (wOp fIdx (wPk 0) (fz (wC (.int 1))))))) (fz (wOp fMul (fz (wOp fMul (fz (wC (.int 4))) (fz (wOp fIdx (wPk 0) (fz (wC (.int 0))))))) (fz (wOp fIdx (wPk 0) (fz (wC (.int 2)))))))))
theorem hw_discriminant : ∀ ds tk Q, sp_discriminant ds tk Q → c_discriminant { nx := fun _ t => Q (.val .non) t, rt := Q } (start N_discriminant.length ds) tk := by
  intro ds tk Q h_
  obtain ⟨f, rfl, hf, q⟩ := op_discriminant h_
  obtain ⟨a1, a2, a3⟩ := hf
  exact ⟨q1 a2 a2, q1 s4 a1, q1 (s4.mul a1) a3, q⟩
@[irreducible] def sp_worth : FSpec := fun ds tk Q => ∃ (f : F3) (v : P2), ds = [f.D, v.D] ∧ (f.Sm QB) ∧ (v.Sm VB) ∧ Q (.val (.int (f.worth v))) tk
theorem op_worth {ds : List D} {tk : Tk} {Q : EV → Tk → Prop} (h : sp_worth ds tk Q) : ∃ (f : F3) (v : P2), ds = [f.D, v.D] ∧ (f.Sm QB) ∧ (v.Sm VB) ∧ Q (.val (.int (f.worth v))) tk := by unfold sp_worth at h; exact h
theorem mon_worth : MonFS sp_worth := fun ds tk Q Q' hq_ hs_ => by
  obtain ⟨f, v, e_, hf, hv, q_⟩ := op_worth hs_
  unfold sp_worth
  exact ⟨f, v, e_, hf, hv, hq_ _ _ q_⟩
theorem len_worth : ∀ ds tk Q, sp_worth ds tk Q → ds.length = 2 := fun ds tk Q hs_ => by
  obtain ⟨f, v, e_, hf, hv, q_⟩ := op_worth hs_
  rw [e_]; rfl
theorem cl_worth {tk : Tk} {Q : EV → Tk → Prop} {f : F3} {v : P2} (hf : f.Sm QB) (hv : v.Sm VB) (q_ : Q (.val (.int (f.worth v))) tk) : sp_worth [f.D, v.D] tk Q := by
  unfold sp_worth
  exact ⟨f, v, rfl, hf, hv, q_⟩
theorem ce_worth {ds_ : List D} {tk : Tk} {Q : EV → Tk → Prop} {f : F3} {v : P2} (hf : f.Sm QB) (hv : v.Sm VB) (e_ : ds_ = [f.D, v.D]) (q_ : Q (.val (.int (f.worth v))) tk) : sp_worth ds_ tk Q := by
  subst e_
  unfold sp_worth
  exact ⟨f, v, rfl, hf, hv, q_⟩
abbrev N_worth : List Str := ["form", "point", "x", "y"]
def c_worth : WS :=
  (wSeq (wAsg (fz (wV 1)) (gT 2 (gCs (gN 2) (gCs (gN 3) gNl))))
  (wRet (wOp fAdd (fz (wOp fAdd (fz (wOp fMul (fz (wOp fMul (fz (wOp fIdx (wPk 0) (fz (wC (.int 0))))) (wPk 2))) (wPk 2))) (fz (wOp fMul (fz (wOp fMul (fz (wOp fIdx (wPk 0) (fz (wC (.int 1))))) (wPk 2))) (wPk 3))))) (fz (wOp fMul (fz (wOp fMul (fz (wOp fIdx (wPk 0) (fz (wC (.int 2))))) (wPk 3))) (wPk 3))))))
theorem hw_worth : ∀ ds tk Q, sp_worth ds tk Q → c_worth { nx := fun _ t => Q (.val .non) t, rt := Q } (start N_worth.length ds) tk := by
  intro ds tk Q h_
  obtain ⟨f, v, rfl, hf, hv, q⟩ := op_worth h_
  obtain ⟨a1, a2, a3⟩ := hf
  obtain ⟨b1, b2⟩ := hv
  exact ⟨rfl, q1 a1 b1, q1 (a1.mul b1) b1, q1 a2 b1, q1 (a2.mul b1) b2, q1 a3 b2, q1 (a3.mul b2) b2, q⟩
@[irreducible] def sp_act : FSpec := fun ds tk Q => ∃ (f : F3) (m : M4), ds = [f.D, m.D] ∧ (f.Sm QB) ∧ (m.Sm VB) ∧ Q (.val (f.act m).D) tk
theorem op_act {ds : List D} {tk : Tk} {Q : EV → Tk → Prop} (h : sp_act ds tk Q) : ∃ (f : F3) (m : M4), ds = [f.D, m.D] ∧ (f.Sm QB) ∧ (m.Sm VB) ∧ Q (.val (f.act m).D) tk := by unfold sp_act at h; exact h
theorem mon_act : MonFS sp_act := fun ds tk Q Q' hq_ hs_ => by
  obtain ⟨f, m, e_, hf, hm, q_⟩ := op_act hs_
  unfold sp_act
  exact ⟨f, m, e_, hf, hm, hq_ _ _ q_⟩
theorem len_act : ∀ ds tk Q, sp_act ds tk Q → ds.length = 2 := fun ds tk Q hs_ => by
  obtain ⟨f, m, e_, hf, hm, q_⟩ := op_act hs_
  rw [e_]; rfl
theorem cl_act {tk : Tk} {Q : EV → Tk → Prop} {f : F3} {m : M4} (hf : f.Sm QB) (hm : m.Sm VB) (q_ : Q (.val (f.act m).D) tk) : sp_act [f.D, m.D] tk Q := by
  unfold sp_act
  exact ⟨f, m, rfl, hf, hm, q_⟩
theorem ce_act {ds_ : List D} {tk : Tk} {Q : EV → Tk → Prop} {f : F3} {m : M4} (hf : f.Sm QB) (hm : m.Sm VB) (e_ : ds_ = [f.D, m.D]) (q_ : Q (.val (f.act m).D) tk) : sp_act ds_ tk Q := by
  subst e_
  unfold sp_act
  exact ⟨f, m, rfl, hf, hm, q_⟩
abbrev N_act : List Str := ["form", "m", "p", "q", "r", "s", "middle"]
def c_act : WS :=
  (wSeq (wAsg (fz (wV 1)) (gT 4 (gCs (gN 2) (gCs (gN 3) (gCs (gN 4) (gCs (gN 5) gNl))))))
  (wSeq (wSet 6 (wOp fAdd (fz (wOp fAdd (fz (wOp fMul (fz (wOp fMul (fz (wOp fMul (fz (wC (.int 2))) (fz (wOp fIdx (wPk 0) (fz (wC (.int 0))))))) (wPk 2))) (wPk 3))) (fz (wOp fMul (fz (wOp fIdx (wPk 0) (fz (wC (.int 1))))) (fz (wOp fAdd (fz (wOp fMul (wPk 2) (wPk 5))) (fz (wOp fMul (wPk 3) (wPk 4))))))))) (fz (wOp fMul (fz (wOp fMul (fz (wOp fMul (fz (wC (.int 2))) (fz (wOp fIdx (wPk 0) (fz (wC (.int 2))))))) (wPk 4))) (wPk 5)))))
  (wRet (wTup (wCons (fz (wCall sp_worth (wCons (fz (wV 0)) (wCons (fz (wTup (wCons (fz (wV 2)) (wCons (fz (wV 4)) wNil)))) wNil)))) (wCons (fz (wV 6)) (wCons (fz (wCall sp_worth (wCons (fz (wV 0)) (wCons (fz (wTup (wCons (fz (wV 3)) (wCons (fz (wV 5)) wNil)))) wNil)))) wNil)))))))
theorem hw_act : ∀ ds tk Q, sp_act ds tk Q → c_act { nx := fun _ t => Q (.val .non) t, rt := Q } (start N_act.length ds) tk := by
  intro ds tk Q h_
  obtain ⟨f, m, rfl, hf, hm, q⟩ := op_act h_
  have hf' := hf
  obtain ⟨a1, a2, a3⟩ := hf
  obtain ⟨b1, b2, b3, b4⟩ := hm
  refine ⟨rfl, q1 s2 a1, q1 (s2.mul a1) b1, q1 ((s2.mul a1).mul b1) b2, q1 b1 b4, q1 b2 b3, q1 a2 ((b1.mul b4).add (b2.mul b3)), q1 s2 a3, q1 (s2.mul a3) b3, q1 ((s2.mul a3).mul b3) b4, rfl, ?_⟩
  refine cl_worth (f := f) (v := ⟨m.p, m.r⟩) hf' ⟨b1, b3⟩ ?_
  refine ⟨rfl, ?_⟩
  refine cl_worth (f := f) (v := ⟨m.q, m.s⟩) hf' ⟨b2, b4⟩ ?_
  exact ⟨rfl, q⟩
@[irreducible] def sp_Lworth_v1 : FSpec := fun ds tk Q => ∃ (f : F3) (v : P2), ds = [f.D, .int v.x, .int v.y] ∧ (f.Sm QB) ∧ (v.Sm (VB + 1)) ∧ Q (.val (.int (f.worth v))) tk
theorem op_Lworth_v1 {ds : List D} {tk : Tk} {Q : EV → Tk → Prop} (h : sp_Lworth_v1 ds tk Q) : ∃ (f : F3) (v : P2), ds = [f.D, .int v.x, .int v.y] ∧ (f.Sm QB) ∧ (v.Sm (VB + 1)) ∧ Q (.val (.int (f.worth v))) tk := by unfold sp_Lworth_v1 at h; exact h
theorem mon_Lworth_v1 : MonFS sp_Lworth_v1 := fun ds tk Q Q' hq_ hs_ => by
  obtain ⟨f, v, e_, hf, hv, q_⟩ := op_Lworth_v1 hs_
  unfold sp_Lworth_v1
  exact ⟨f, v, e_, hf, hv, hq_ _ _ q_⟩
theorem len_Lworth_v1 : ∀ ds tk Q, sp_Lworth_v1 ds tk Q → ds.length = 3 := fun ds tk Q hs_ => by
  obtain ⟨f, v, e_, hf, hv, q_⟩ := op_Lworth_v1 hs_
  rw [e_]; rfl
theorem cl_Lworth_v1 {tk : Tk} {Q : EV → Tk → Prop} {f : F3} {v : P2} (hf : f.Sm QB) (hv : v.Sm (VB + 1)) (q_ : Q (.val (.int (f.worth v))) tk) : sp_Lworth_v1 [f.D, .int v.x, .int v.y] tk Q := by
  unfold sp_Lworth_v1
  exact ⟨f, v, rfl, hf, hv, q_⟩
theorem ce_Lworth_v1 {ds_ : List D} {tk : Tk} {Q : EV → Tk → Prop} {f : F3} {v : P2} (hf : f.Sm QB) (hv : v.Sm (VB + 1)) (e_ : ds_ = [f.D, .int v.x, .int v.y]) (q_ : Q (.val (.int (f.worth v))) tk) : sp_Lworth_v1 ds_ tk Q := by
  subst e_
  unfold sp_Lworth_v1
  exact ⟨f, v, rfl, hf, hv, q_⟩
abbrev N_Lworth_v1 : List Str := ["_law_form_here", "_law_x", "_law_y"]
def c_Lworth_v1 : WS :=
  (wRet (wOp fAdd (fz (wOp fAdd (fz (wOp fMul (fz (wOp fMul (fz (wOp fIdx (wPk 0) (fz (wC (.int 0))))) (wPk 1))) (wPk 1))) (fz (wOp fMul (fz (wOp fMul (fz (wOp fIdx (wPk 0) (fz (wC (.int 1))))) (wPk 1))) (wPk 2))))) (fz (wOp fMul (fz (wOp fMul (fz (wOp fIdx (wPk 0) (fz (wC (.int 2))))) (wPk 2))) (wPk 2)))))
theorem hw_Lworth_v1 : ∀ ds tk Q, sp_Lworth_v1 ds tk Q → c_Lworth_v1 { nx := fun _ t => Q (.val .non) t, rt := Q } (start N_Lworth_v1.length ds) tk := by
  intro ds tk Q h_
  obtain ⟨f, v, rfl, hf, hv, q⟩ := op_Lworth_v1 h_
  obtain ⟨a1, a2, a3⟩ := hf
  obtain ⟨b1, b2⟩ := hv
  exact ⟨q1 a1 b1, q1 (a1.mul b1) b1, q1 a2 b1, q1 (a2.mul b1) b2, q1 a3 b2, q1 (a3.mul b2) b2, q⟩
@[irreducible] def sp_Lact_v1 : FSpec := fun ds tk Q => ∃ (f : F3) (m : M4), ds = [f.D, m.D] ∧ (f.Sm QB) ∧ (m.Sm VB) ∧ Q (.val (f.act m).D) tk
theorem op_Lact_v1 {ds : List D} {tk : Tk} {Q : EV → Tk → Prop} (h : sp_Lact_v1 ds tk Q) : ∃ (f : F3) (m : M4), ds = [f.D, m.D] ∧ (f.Sm QB) ∧ (m.Sm VB) ∧ Q (.val (f.act m).D) tk := by unfold sp_Lact_v1 at h; exact h
theorem mon_Lact_v1 : MonFS sp_Lact_v1 := fun ds tk Q Q' hq_ hs_ => by
  obtain ⟨f, m, e_, hf, hm, q_⟩ := op_Lact_v1 hs_
  unfold sp_Lact_v1
  exact ⟨f, m, e_, hf, hm, hq_ _ _ q_⟩
theorem len_Lact_v1 : ∀ ds tk Q, sp_Lact_v1 ds tk Q → ds.length = 2 := fun ds tk Q hs_ => by
  obtain ⟨f, m, e_, hf, hm, q_⟩ := op_Lact_v1 hs_
  rw [e_]; rfl
theorem cl_Lact_v1 {tk : Tk} {Q : EV → Tk → Prop} {f : F3} {m : M4} (hf : f.Sm QB) (hm : m.Sm VB) (q_ : Q (.val (f.act m).D) tk) : sp_Lact_v1 [f.D, m.D] tk Q := by
  unfold sp_Lact_v1
  exact ⟨f, m, rfl, hf, hm, q_⟩
theorem ce_Lact_v1 {ds_ : List D} {tk : Tk} {Q : EV → Tk → Prop} {f : F3} {m : M4} (hf : f.Sm QB) (hm : m.Sm VB) (e_ : ds_ = [f.D, m.D]) (q_ : Q (.val (f.act m).D) tk) : sp_Lact_v1 ds_ tk Q := by
  subst e_
  unfold sp_Lact_v1
  exact ⟨f, m, rfl, hf, hm, q_⟩
abbrev N_Lact_v1 : List Str := ["_law_form_here", "_law_m", "_law_first", "_law_last"]
def c_Lact_v1 : WS :=
  (wSeq (wSet 2 (wCall sp_Lworth_v1 (wCons (fz (wV 0)) (wCons (fz (wOp fIdx (wPk 1) (fz (wC (.int 0))))) (wCons (fz (wOp fIdx (wPk 1) (fz (wC (.int 2))))) wNil)))))
  (wSeq (wSet 3 (wCall sp_Lworth_v1 (wCons (fz (wV 0)) (wCons (fz (wOp fIdx (wPk 1) (fz (wC (.int 1))))) (wCons (fz (wOp fIdx (wPk 1) (fz (wC (.int 3))))) wNil)))))
  (wRet (wTup (wCons (fz (wV 2)) (wCons (fz (wOp fSub (fz (wOp fSub (fz (wCall sp_Lworth_v1 (wCons (fz (wV 0)) (wCons (fz (wOp fAdd (fz (wOp fIdx (wPk 1) (fz (wC (.int 0))))) (fz (wOp fIdx (wPk 1) (fz (wC (.int 1))))))) (wCons (fz (wOp fAdd (fz (wOp fIdx (wPk 1) (fz (wC (.int 2))))) (fz (wOp fIdx (wPk 1) (fz (wC (.int 3))))))) wNil))))) (wPk 2))) (wPk 3))) (wCons (fz (wV 3)) wNil)))))))
theorem hw_Lact_v1 : ∀ ds tk Q, sp_Lact_v1 ds tk Q → c_Lact_v1 { nx := fun _ t => Q (.val .non) t, rt := Q } (start N_Lact_v1.length ds) tk := by
  intro ds tk Q h_
  obtain ⟨f, m, rfl, hf, hm, q⟩ := op_Lact_v1 h_
  obtain ⟨b1, b2, b3, b4⟩ := hm
  have up : ∀ {x : Int}, Sm VB x → Sm (VB + 1) x := fun h => h.mono (by decide)
  refine cl_Lworth_v1 (f := f) (v := ⟨m.p, m.r⟩) hf ⟨up b1, up b3⟩ ?_
  refine cl_Lworth_v1 (f := f) (v := ⟨m.q, m.s⟩) hf ⟨up b2, up b4⟩ ?_
  refine cl_Lworth_v1 (f := f) (v := ⟨m.p + m.q, m.r + m.s⟩) hf ⟨b1.add b2, b3.add b4⟩ ?_
  refine ⟨rfl, ?_⟩
  rw [← F3.lact_eq] at q
  exact q
end DL
set_option maxHeartbeats 1000000
set_option pp.maxSteps 1200
namespace DL
open PySem PySem.Spec PyProof.Rows L2
/-! ### squares, kinds, drawn forms: exactly -/
theorem eqv_str {x y : Str} : D.eqv (.str x) (.str y) = (x == y) := rfl
theorem ok_str1 : D.ok (.str "definite") = true := by decide +kernel
theorem ok_str2 : D.ok (.str "flat") = true := by decide +kernel
theorem ok_str3 : D.ok (.str "indefinite") = true := by decide +kernel
theorem ok_str4 : D.ok (.str "split") = true := by decide +kernel
theorem isSqB_nat {n r : Nat} (a : r * r ≤ n) (b : n < (r + 1) * (r + 1)) : isSqB (n : Int) = decide ((r : Int) * (r : Int) = (n : Int)) := by
  have h1 : (r : Int) * r ≤ n := by rw [← Int.natCast_mul]; omega
  have h2 : (n : Int) < ((r : Int) + 1) * ((r : Int) + 1) := by
    have : ((n : Nat) : Int) < (((r + 1) * (r + 1) : Nat) : Int) := by omega
    rw [Int.natCast_mul, Int.natCast_add] at this
    exact this
  have k := root_sq (Int.natCast_nonneg r) h1 h2
  by_cases z : IsSq (n : Int)
  · rw [isSqB_true z, decide_eq_true (k.mpr z)]
  · rw [isSqB_false z, decide_eq_false fun w => z (k.mp w)]
theorem root_uniq {n r s : Nat} (a : r * r ≤ n) (b : n < (r + 1) * (r + 1)) (c : s * s ≤ n) (d : n < (s + 1) * (s + 1)) : r = s := by
  have key : ∀ {r s : Nat}, r * r ≤ n → n < (s + 1) * (s + 1) → r ≤ s := fun {r s} a d => by
    refine Nat.le_of_not_lt fun z => ?_
    have := Nat.mul_le_mul (show s + 1 ≤ r from z) (show s + 1 ≤ r from z)
    omega
  exact Nat.le_antisymm (key a d) (key c b)
@[irreducible] def sp_Lsquare : FSpec := fun ds tk Q => ∃ (n : Int), ds = [.int n] ∧ (Sm 999 n) ∧ Q (.val (.bl (isSqB n))) tk
theorem op_Lsquare {ds : List D} {tk : Tk} {Q : EV → Tk → Prop} (h : sp_Lsquare ds tk Q) : ∃ (n : Int), ds = [.int n] ∧ (Sm 999 n) ∧ Q (.val (.bl (isSqB n))) tk := by unfold sp_Lsquare at h; exact h
theorem mon_Lsquare : MonFS sp_Lsquare := fun ds tk Q Q' hq_ hs_ => by
  obtain ⟨n, e_, h0, q_⟩ := op_Lsquare hs_
  unfold sp_Lsquare
  exact ⟨n, e_, h0, hq_ _ _ q_⟩
theorem len_Lsquare : ∀ ds tk Q, sp_Lsquare ds tk Q → ds.length = 1 := fun ds tk Q hs_ => by
  obtain ⟨n, e_, h0, q_⟩ := op_Lsquare hs_
  rw [e_]; rfl
theorem cl_Lsquare {tk : Tk} {Q : EV → Tk → Prop} {n : Int} (h0 : Sm 999 n) (q_ : Q (.val (.bl (isSqB n))) tk) : sp_Lsquare [.int n] tk Q := by
  unfold sp_Lsquare
  exact ⟨n, rfl, h0, q_⟩
theorem ce_Lsquare {ds_ : List D} {tk : Tk} {Q : EV → Tk → Prop} {n : Int} (h0 : Sm 999 n) (e_ : ds_ = [.int n]) (q_ : Q (.val (.bl (isSqB n))) tk) : sp_Lsquare ds_ tk Q := by
  subst e_
  unfold sp_Lsquare
  exact ⟨n, rfl, h0, q_⟩
abbrev N_Lsquare : List Str := ["_law_n"]
def c_Lsquare : WS :=
  (wRet (wB (wAnd (wT (wOp fGe (wPk 0) (fz (wC (.int 0))))) (wT (wOp fEq (fz (wOp fMul (fz (wCall sp_Lroot (wCons (fz (wV 0)) wNil))) (fz (wCall sp_Lroot (wCons (fz (wV 0)) wNil))))) (wPk 0))))))
theorem hw_Lsquare : ∀ ds tk Q, sp_Lsquare ds tk Q → c_Lsquare { nx := fun _ t => Q (.val .non) t, rt := Q } (start N_Lsquare.length ds) tk := by
  intro ds tk Q h_
  obtain ⟨n, rfl, h0, q⟩ := op_Lsquare h_
  refine if2 (fun h => ?_) (fun h => ?_)
  · have h : 0 ≤ n := h
    obtain ⟨m, rfl⟩ : ∃ m : Nat, n = m := ⟨n.toNat, by omega⟩
    have hm : m < 2 ^ 1000 := by unfold Sm at h0; rw [Int.natAbs_natCast] at h0; exact Nat.lt_of_lt_of_le h0 (Nat.pow_le_pow_right (by decide) (by decide))
    refine cl_Lroot hm fun r ra rb => cl_Lroot hm fun r' ra' rb' => ?_
    have e := root_uniq ra rb ra' rb'
    subst e
    have hr : r ≤ m := Nat.le_trans (Nat.le_mul_self r) ra
    have sr : Sm 1000 (r : Int) := by unfold Sm; rw [Int.natAbs_natCast]; omega
    refine ⟨by walk_at "sd", ?_⟩
    rw [isSqB_nat ra rb] at q
    exact q
  · rw [isSqB_neg (by omega)] at q
    exact q
def kindS (f : F3) : Str := if f.disc < 0 then "definite" else if f.disc = 0 then "flat" else if isSqB f.disc then "split" else "indefinite"
theorem kindS_1 {f : F3} (h : f.disc < 0) : kindS f = "definite" := if_pos h
theorem kindS_2 {f : F3} (h : f.disc = 0) : kindS f = "flat" := by unfold kindS; rw [if_neg (by omega), if_pos h]
theorem kindS_3 {f : F3} (h : 0 < f.disc) (hs : IsSq f.disc) : kindS f = "split" := by unfold kindS; rw [if_neg (by omega), if_neg (by omega), if_pos (isSqB_true hs)]
theorem kindS_4 {f : F3} (h : ¬ f.disc < 0) (hs : ¬ IsSq f.disc) : kindS f = "indefinite" := by
  unfold kindS
  rw [if_neg (by omega), if_neg (fun z => hs ⟨0, by rw [z]; rfl⟩), if_neg (by rw [isSqB_false hs]; decide)]
theorem kind_def {f : F3} (h : kindS f = "definite") : f.disc < 0 := by
  unfold kindS at h
  split at h
  · assumption
  · split at h
    · exact absurd h (by decide)
    · split at h <;> exact absurd h (by decide)
theorem kind_ind {f : F3} (h : kindS f = "indefinite") : 0 < f.disc ∧ ¬ IsSq f.disc := by
  unfold kindS at h
  split at h
  · exact absurd h (by decide)
  · split at h
    · exact absurd h (by decide)
    · split at h
      · exact absurd h (by decide)
      · rename_i h1 h2 h3
        exact ⟨by omega, fun z => h3 (isSqB_true z)⟩
theorem kindS_ok (f : F3) : D.ok (.str (kindS f)) = true := by
  unfold kindS
  split
  · exact ok_str1
  · split
    · exact ok_str2
    · split
      · exact ok_str4
      · exact ok_str3
theorem disc_sm {f : F3} {k : Nat} (h : f.Sm k) (hk : k ≤ 490) : Sm 999 f.disc := by
  obtain ⟨a1, a2, a3⟩ := h
  have s4 : Sm 3 4 := show (4 : Int).natAbs < 2 ^ 3 by decide
  exact (((a2.mul a2).mono (show k + k ≤ 990 by omega)).sub (((s4.mul a1).mul a3).mono (show 3 + k + k ≤ 990 by omega))).mono (by decide)
@[irreducible] def sp_Lkind : FSpec := fun ds tk Q => ∃ (f : F3), ds = [f.D] ∧ (f.Sm 400) ∧ Q (.val (.str (kindS f))) tk
theorem op_Lkind {ds : List D} {tk : Tk} {Q : EV → Tk → Prop} (h : sp_Lkind ds tk Q) : ∃ (f : F3), ds = [f.D] ∧ (f.Sm 400) ∧ Q (.val (.str (kindS f))) tk := by unfold sp_Lkind at h; exact h
theorem mon_Lkind : MonFS sp_Lkind := fun ds tk Q Q' hq_ hs_ => by
  obtain ⟨f, e_, hf, q_⟩ := op_Lkind hs_
  unfold sp_Lkind
  exact ⟨f, e_, hf, hq_ _ _ q_⟩
theorem len_Lkind : ∀ ds tk Q, sp_Lkind ds tk Q → ds.length = 1 := fun ds tk Q hs_ => by
  obtain ⟨f, e_, hf, q_⟩ := op_Lkind hs_
  rw [e_]; rfl
theorem cl_Lkind {tk : Tk} {Q : EV → Tk → Prop} {f : F3} (hf : f.Sm 400) (q_ : Q (.val (.str (kindS f))) tk) : sp_Lkind [f.D] tk Q := by
  unfold sp_Lkind
  exact ⟨f, rfl, hf, q_⟩
theorem ce_Lkind {ds_ : List D} {tk : Tk} {Q : EV → Tk → Prop} {f : F3} (hf : f.Sm 400) (e_ : ds_ = [f.D]) (q_ : Q (.val (.str (kindS f))) tk) : sp_Lkind ds_ tk Q := by
  subst e_
  unfold sp_Lkind
  exact ⟨f, rfl, hf, q_⟩
abbrev N_Lkind : List Str := ["_law_form_here", "_law_d"]
def c_Lkind : WS :=
  (wSeq (wSet 1 (wOp fSub (fz (wOp fMul (fz (wOp fIdx (wPk 0) (fz (wC (.int 1))))) (fz (wOp fIdx (wPk 0) (fz (wC (.int 1))))))) (fz (wOp fMul (fz (wOp fMul (fz (wC (.int 4))) (fz (wOp fIdx (wPk 0) (fz (wC (.int 0))))))) (fz (wOp fIdx (wPk 0) (fz (wC (.int 2)))))))))
  (wSeq (wIfS (wT (wOp fLt (wPk 1) (fz (wC (.int 0))))) (wRet (wC (.str "definite"))) wNext)
  (wSeq (wIfS (wT (wOp fEq (wPk 1) (fz (wC (.int 0))))) (wRet (wC (.str "flat"))) wNext)
  (wRet (wOp fIdx (fz (wLst (wCons (fz (wC (.str "indefinite"))) (wCons (fz (wC (.str "split"))) wNil)))) (fz (w1 fInt (fz (wCall sp_Lsquare (wCons (fz (wV 1)) wNil))))))))))
theorem hw_Lkind : ∀ ds tk Q, sp_Lkind ds tk Q → c_Lkind { nx := fun _ t => Q (.val .non) t, rt := Q } (start N_Lkind.length ds) tk := by
  intro ds tk Q h_
  obtain ⟨f, rfl, hf, q⟩ := op_Lkind h_
  have hd := disc_sm hf (by decide)
  obtain ⟨a1, a2, a3⟩ := hf
  have s4 : Sm 3 4 := show (4 : Int).natAbs < 2 ^ 3 by decide
  refine ⟨q1 a2 a2, q1 s4 a1, q1 (s4.mul a1) a3, ?_⟩
  refine if2 (fun h => ?_) (fun h => ?_)
  · rw [kindS_1 h] at q
    exact q
  refine if2 (fun h2 => ?_) (fun h2 => ?_)
  · rw [kindS_2 h2] at q
    exact q
  refine ⟨rfl, ?_⟩
  refine ce_Lsquare (n := f.disc) hd rfl ?_
  have h : ¬ f.disc < 0 := h
  have h2 : f.disc ≠ 0 := h2
  by_cases z : IsSq f.disc
  · rw [isSqB_true z]
    rw [kindS_3 (by omega) z] at q
    exact q
  · rw [isSqB_false z]
    rw [kindS_4 h z] at q
    exact q
/-- a product of two unlike lines -/
theorem mul_bdF {x y : Int} {b c : Int} (hx : -b ≤ x ∧ x ≤ b) (hy : -c ≤ y ∧ y ≤ c) : -(b * c) ≤ x * y ∧ x * y ≤ b * c := by
  have h1 := Int.mul_nonneg (show 0 ≤ b - x by omega) (show 0 ≤ c + y by omega)
  have h2 := Int.mul_nonneg (show 0 ≤ b + x by omega) (show 0 ≤ c - y by omega)
  have h3 := Int.mul_nonneg (show 0 ≤ b - x by omega) (show 0 ≤ c - y by omega)
  have h4 := Int.mul_nonneg (show 0 ≤ b + x by omega) (show 0 ≤ c + y by omega)
  have e1 : (b - x) * (c + y) = b * c + b * y - x * c - x * y := by grind
  have e2 : (b + x) * (c - y) = b * c - b * y + x * c - x * y := by grind
  have e3 : (b - x) * (c - y) = b * c - b * y - x * c + x * y := by grind
  have e4 : (b + x) * (c + y) = b * c + b * y + x * c + x * y := by grind
  omega
theorem det18 {p q r s : Int} (hp : -3 ≤ p ∧ p ≤ 3) (hq : -3 ≤ q ∧ q ≤ 3) (hr : -3 ≤ r ∧ r ≤ 3) (hs : -3 ≤ s ∧ s ≤ 3) : -18 ≤ p * s - q * r ∧ p * s - q * r ≤ 18 := by
  have h1 := mul_bdF hp hs
  have h2 := mul_bdF hq hr
  omega
def SplitOf (f : F3) : Prop := ∃ p q r s g : Int, f = ⟨g * p * r, g * (p * s + q * r), g * q * s⟩ ∧ p * s ≠ q * r ∧ 1 ≤ g ∧ g ≤ 2 ∧ (-5 ≤ p ∧ p ≤ 5) ∧ (-5 ≤ q ∧ q ≤ 5) ∧ (-5 ≤ r ∧ r ≤ 5) ∧ (-5 ≤ s ∧ s ≤ 5) ∧ (-18 ≤ p * s - q * r ∧ p * s - q * r ≤ 18)
def FlatOf (f : F3) : Prop := ∃ p q g : Int, f = ⟨g * p * p, 2 * g * p * q, g * q * q⟩ ∧ ¬ (p = 0 ∧ q = 0) ∧ g ≠ 0 ∧ (-3 ≤ g ∧ g ≤ 2) ∧ (-3 ≤ p ∧ p ≤ 3) ∧ (-3 ≤ q ∧ q ≤ 3)
theorem i4_lst {b0 b1 b2 b3 : Int} : True := trivial
@[irreducible] def sp_Lsplit : FSpec := fun ds tk Q => ∃ (tc : Nat), ds = [.st] ∧ tk = some tc ∧ tc + 20 < 2 ^ 50 ∧ ∀ (f : F3), ∀ (hf : SplitOf f), ∀ tc' : Nat, tc' ≤ tc + 20 → Q (.val f.D) (some tc')
theorem op_Lsplit {ds : List D} {tk : Tk} {Q : EV → Tk → Prop} (h : sp_Lsplit ds tk Q) : ∃ (tc : Nat), ds = [.st] ∧ tk = some tc ∧ tc + 20 < 2 ^ 50 ∧ ∀ (f : F3), ∀ (hf : SplitOf f), ∀ tc' : Nat, tc' ≤ tc + 20 → Q (.val f.D) (some tc') := by unfold sp_Lsplit at h; exact h
theorem mon_Lsplit : MonFS sp_Lsplit := fun ds tk Q Q' hq_ hs_ => by
  obtain ⟨tc, e_, e2_, tch, q_⟩ := op_Lsplit hs_
  unfold sp_Lsplit
  exact ⟨tc, e_, e2_, tch, fun f hf tc_ tc_h => hq_ _ _ (q_ f hf tc_ tc_h)⟩
theorem len_Lsplit : ∀ ds tk Q, sp_Lsplit ds tk Q → ds.length = 1 := fun ds tk Q hs_ => by
  obtain ⟨tc, e_, e2_, tch, q_⟩ := op_Lsplit hs_
  rw [e_]; rfl
theorem cl_Lsplit  {Q : EV → Tk → Prop} {tc : Nat} (tch : tc + 20 < 2 ^ 50) (q_ : ∀ (f : F3), ∀ (hf : SplitOf f), ∀ tc' : Nat, tc' ≤ tc + 20 → Q (.val f.D) (some tc')) : sp_Lsplit [.st] (some tc) Q := by
  unfold sp_Lsplit
  exact ⟨tc, rfl, rfl, tch, q_⟩
theorem ce_Lsplit {ds_ : List D}  {Q : EV → Tk → Prop} {tc : Nat} (tch : tc + 20 < 2 ^ 50) (e_ : ds_ = [.st]) (q_ : ∀ (f : F3), ∀ (hf : SplitOf f), ∀ tc' : Nat, tc' ≤ tc + 20 → Q (.val f.D) (some tc')) : sp_Lsplit ds_ (some tc) Q := by
  subst e_
  unfold sp_Lsplit
  exact ⟨tc, rfl, rfl, tch, q_⟩
abbrev N_Lsplit : List Str := ["_law_state_here", "_law_p", "_law_q", "_law_r", "_law_s", "_law_g", "_law_k"]
def c_Lsplit : WS :=
  (wSeq (wAsg (fz (wLc (wR1 (fz (wC (.int 4)))) (gN 6) wYes (wOp fSub (fz (wCall sp_Lnext (wCons (fz (wV 0)) (wCons (fz (wC (.int 7))) wNil)))) (fz (wC (.int 3)))) [6])) (gL 4 (gCs (gN 1) (gCs (gN 2) (gCs (gN 3) (gCs (gN 4) gNl))))))
  (wSeq (wIfS (wT (wOp fEq (fz (wOp fMul (wPk 1) (wPk 4))) (fz (wOp fMul (wPk 2) (wPk 3))))) (wAsg (fz (wTup (wCons (fz (wC (.int 1))) (wCons (fz (wCall sp_Lnext (wCons (fz (wV 0)) (wCons (fz (wC (.int 3))) wNil)))) (wCons (fz (wC (.int 1))) (wCons (fz (wOp fAdd (fz (wC (.int 3))) (fz (wCall sp_Lnext (wCons (fz (wV 0)) (wCons (fz (wC (.int 3))) wNil)))))) wNil)))))) (gT 4 (gCs (gN 1) (gCs (gN 2) (gCs (gN 3) (gCs (gN 4) gNl)))))) wNext)
  (wSeq (wSet 5 (wOp fAdd (fz (wC (.int 1))) (fz (wOp fDiv (fz (wCall sp_Lnext (wCons (fz (wV 0)) (wCons (fz (wC (.int 4))) wNil)))) (fz (wC (.int 3)))))))
  (wRet (wTup (wCons (fz (wOp fMul (fz (wOp fMul (wPk 5) (wPk 1))) (wPk 3))) (wCons (fz (wOp fMul (wPk 5) (fz (wOp fAdd (fz (wOp fMul (wPk 1) (wPk 4))) (fz (wOp fMul (wPk 2) (wPk 3))))))) (wCons (fz (wOp fMul (fz (wOp fMul (wPk 5) (wPk 2))) (wPk 4))) wNil))))))))
theorem hw_Lsplit : ∀ ds tk Q, sp_Lsplit ds tk Q → c_Lsplit { nx := fun _ t => Q (.val .non) t, rt := Q } (start N_Lsplit.length ds) tk := by
  intro ds tk Q h_
  obtain ⟨tc, rfl, rfl, tch, q⟩ := op_Lsplit h_
  refine ⟨by decide, by decide, rfl, rfl, ifB rfl ?_⟩
  refine ⟨_, _, rfl, rfl, by first | decide | omega, by first | decide | omega, fun b0 b0_0 b0_1 => ?_⟩
  refine ⟨rfl, (show 0 < sizeLine by decide), rfl, ifB rfl ?_⟩
  refine ⟨_, _, rfl, rfl, by first | decide | omega, by first | decide | omega, fun b1 b1_0 b1_1 => ?_⟩
  refine ⟨rfl, (show 1 < sizeLine by decide), rfl, ifB rfl ?_⟩
  refine ⟨_, _, rfl, rfl, by first | decide | omega, by first | decide | omega, fun b2 b2_0 b2_1 => ?_⟩
  refine ⟨rfl, (show 2 < sizeLine by decide), rfl, ifB rfl ?_⟩
  refine ⟨_, _, rfl, rfl, by first | decide | omega, by first | decide | omega, fun b3 b3_0 b3_1 => ?_⟩
  refine ⟨rfl, (show 3 < sizeLine by decide), ?_⟩
  refine ⟨rfl, ?_⟩
  simp only [gCs, gN, gNl, start_def, List.map_cons, List.map_nil, List.set_cons_zero, List.set_cons_succ, List.replicate_succ, List.replicate_zero, List.cons_append, List.nil_append, List.length_cons, List.length_nil, Nat.reduceAdd, Nat.reduceSub]
  refine seq_cut (a := wIfS _ _ _) (fun e t => ∃ (p q r s : Int) (c' : Nat), (-18 ≤ p * s - q * r ∧ p * s - q * r ≤ 18) ∧ p * s ≠ q * r ∧ (-5 ≤ p ∧ p ≤ 5) ∧ (-5 ≤ q ∧ q ≤ 5) ∧ (-5 ≤ r ∧ r ≤ 5) ∧ (-5 ≤ s ∧ s ≤ 5) ∧ c' ≤ tc + 10 ∧ t = some c' ∧ e = [some (.val .st), some (.val (.int p)), some (.val (.int q)), some (.val (.int r)), some (.val (.int s)), none, none]) (fun R hR => ?_) ?_
  · refine ⟨by walk_at "sd", by walk_at "sd", ?_⟩
    refine if2 (fun h => ?_) (fun h => ?_)
    · refine ⟨_, _, rfl, rfl, by first | decide | omega, by first | decide | omega, fun d0 d0_0 d0_1 => ?_⟩
      refine ⟨_, _, rfl, rfl, by first | decide | omega, by first | decide | omega, fun d1 d1_0 d1_1 => ?_⟩
      refine ⟨rfl, rfl, ?_⟩
      exact hR _ _ ⟨1, d0, 1, 3 + d1, _, by omega, by omega, by omega, by omega, by omega, by omega, (show tc + 1 + 1 + 1 + 1 + 1 + 1 ≤ tc + 10 by omega), rfl, rfl⟩
    · exact hR _ _ ⟨b0 - 3, b1 - 3, b2 - 3, b3 - 3, _, det18 (by omega) (by omega) (by omega) (by omega), h, by omega, by omega, by omega, by omega, (show tc + 1 + 1 + 1 + 1 ≤ tc + 10 by omega), rfl, rfl⟩
  rintro e t ⟨p, qq, r, s, c', h18, hps, hp, hq, hr, hs, hc, rfl, rfl⟩
  refine ⟨_, _, rfl, rfl, by first | decide | omega, by first | decide | omega, fun g g_0 g_1 => ?_⟩
  refine ⟨divOk_lit (by decide) (by decide), ?_⟩
  have hg : 1 ≤ 1 + g.fdiv 3 ∧ 1 + g.fdiv 3 ≤ 2 := by
    rw [Int.fdiv_eq_ediv_of_nonneg _ (by decide)]
    omega
  obtain ⟨hg1, hg2⟩ := hg
  have sp : Sm 5 p := show p.natAbs < 2 ^ 5 by omega
  have sq : Sm 5 qq := show qq.natAbs < 2 ^ 5 by omega
  have sr : Sm 5 r := show r.natAbs < 2 ^ 5 by omega
  have ss : Sm 5 s := show s.natAbs < 2 ^ 5 by omega
  have sg : Sm 5 (1 + g.fdiv 3) := show (1 + g.fdiv 3).natAbs < 2 ^ 5 by omega
  refine ⟨by walk_at "sd", by walk_at "sd", by walk_at "sd", by walk_at "sd", by walk_at "sd", by walk_at "sd", by walk_at "sd", rfl, ?_⟩
  exact q ⟨(1 + g.fdiv 3) * p * r, (1 + g.fdiv 3) * (p * s + qq * r), (1 + g.fdiv 3) * qq * s⟩ ⟨p, qq, r, s, 1 + g.fdiv 3, rfl, hps, hg1, hg2, hp, hq, hr, hs, h18⟩ (c' + 1) (by omega)
@[irreducible] def sp_Lflat : FSpec := fun ds tk Q => ∃ (tc : Nat), ds = [.st] ∧ tk = some tc ∧ tc + 20 < 2 ^ 50 ∧ ∀ (f : F3), ∀ (hf : FlatOf f), ∀ tc' : Nat, tc' ≤ tc + 20 → Q (.val f.D) (some tc')
theorem op_Lflat {ds : List D} {tk : Tk} {Q : EV → Tk → Prop} (h : sp_Lflat ds tk Q) : ∃ (tc : Nat), ds = [.st] ∧ tk = some tc ∧ tc + 20 < 2 ^ 50 ∧ ∀ (f : F3), ∀ (hf : FlatOf f), ∀ tc' : Nat, tc' ≤ tc + 20 → Q (.val f.D) (some tc') := by unfold sp_Lflat at h; exact h
theorem mon_Lflat : MonFS sp_Lflat := fun ds tk Q Q' hq_ hs_ => by
  obtain ⟨tc, e_, e2_, tch, q_⟩ := op_Lflat hs_
  unfold sp_Lflat
  exact ⟨tc, e_, e2_, tch, fun f hf tc_ tc_h => hq_ _ _ (q_ f hf tc_ tc_h)⟩
theorem len_Lflat : ∀ ds tk Q, sp_Lflat ds tk Q → ds.length = 1 := fun ds tk Q hs_ => by
  obtain ⟨tc, e_, e2_, tch, q_⟩ := op_Lflat hs_
  rw [e_]; rfl
theorem cl_Lflat  {Q : EV → Tk → Prop} {tc : Nat} (tch : tc + 20 < 2 ^ 50) (q_ : ∀ (f : F3), ∀ (hf : FlatOf f), ∀ tc' : Nat, tc' ≤ tc + 20 → Q (.val f.D) (some tc')) : sp_Lflat [.st] (some tc) Q := by
  unfold sp_Lflat
  exact ⟨tc, rfl, rfl, tch, q_⟩
theorem ce_Lflat {ds_ : List D}  {Q : EV → Tk → Prop} {tc : Nat} (tch : tc + 20 < 2 ^ 50) (e_ : ds_ = [.st]) (q_ : ∀ (f : F3), ∀ (hf : FlatOf f), ∀ tc' : Nat, tc' ≤ tc + 20 → Q (.val f.D) (some tc')) : sp_Lflat ds_ (some tc) Q := by
  subst e_
  unfold sp_Lflat
  exact ⟨tc, rfl, rfl, tch, q_⟩
abbrev N_Lflat : List Str := ["_law_state_here", "_law_p", "_law_q", "_law_g"]
def c_Lflat : WS :=
  (wSeq (wSet 1 (wOp fSub (fz (wCall sp_Lnext (wCons (fz (wV 0)) (wCons (fz (wC (.int 7))) wNil)))) (fz (wC (.int 3)))))
  (wSeq (wSet 2 (wOp fSub (fz (wCall sp_Lnext (wCons (fz (wV 0)) (wCons (fz (wC (.int 7))) wNil)))) (fz (wC (.int 3)))))
  (wSeq (wSet 3 (wOp fIdx (fz (wLst (wCons (fz (wC (.int 1))) (wCons (fz (wC (.int 1))) (wCons (fz (w1 fNeg (fz (wC (.int 1))))) (wCons (fz (wC (.int 2))) (wCons (fz (w1 fNeg (fz (wC (.int 3))))) wNil))))))) (fz (wCall sp_Lnext (wCons (fz (wV 0)) (wCons (fz (wC (.int 5))) wNil))))))
  (wSeq (wIfS (wAnd (wT (wOp fEq (wPk 1) (fz (wC (.int 0))))) (wT (wOp fEq (wPk 2) (fz (wC (.int 0)))))) (wSet 2 (wC (.int 1))) wNext)
  (wRet (wTup (wCons (fz (wOp fMul (fz (wOp fMul (wPk 3) (wPk 1))) (wPk 1))) (wCons (fz (wOp fMul (fz (wOp fMul (fz (wOp fMul (fz (wC (.int 2))) (wPk 3))) (wPk 1))) (wPk 2))) (wCons (fz (wOp fMul (fz (wOp fMul (wPk 3) (wPk 2))) (wPk 2))) wNil)))))))))
theorem hw_Lflat : ∀ ds tk Q, sp_Lflat ds tk Q → c_Lflat { nx := fun _ t => Q (.val .non) t, rt := Q } (start N_Lflat.length ds) tk := by
  intro ds tk Q h_
  obtain ⟨tc, rfl, rfl, tch, q⟩ := op_Lflat h_
  refine ⟨_, _, rfl, rfl, by first | decide | omega, by first | decide | omega, fun b0 b0_0 b0_1 => ?_⟩
  refine ⟨_, _, rfl, rfl, by first | decide | omega, by first | decide | omega, fun b1 b1_0 b1_1 => ?_⟩
  refine ⟨rfl, ?_⟩
  refine ⟨_, _, rfl, rfl, by first | decide | omega, by first | decide | omega, fun b2 b2_0 b2_1 => ?_⟩
  refine fIdx_of (fun d => ∃ z : Int, d = .int z ∧ z ≠ 0 ∧ -3 ≤ z ∧ z ≤ 2) b2_0 b2_1 (allc ⟨1, rfl, by decide⟩ (allc ⟨1, rfl, by decide⟩ (all3 ⟨-1, rfl, by decide⟩ ⟨2, rfl, by decide⟩ ⟨-3, rfl, by decide⟩))) ?_
  rintro _ ⟨g, rfl, hg0, hg1, hg2⟩
  simp only [gCs, gN, gNl, start_def, List.map_cons, List.map_nil, List.set_cons_zero, List.set_cons_succ, List.replicate_succ, List.replicate_zero, List.cons_append, List.nil_append, List.length_cons, List.length_nil, Nat.reduceAdd, Nat.reduceSub]
  refine seq_cut (a := wIfS _ _ _) (fun e t => ∃ p q : Int, (-3 ≤ p ∧ p ≤ 3) ∧ (-3 ≤ q ∧ q ≤ 3) ∧ ¬ (p = 0 ∧ q = 0) ∧ t = some (tc + 1 + 1 + 1) ∧ e = [some (.val .st), some (.val (.int p)), some (.val (.int q)), some (.val (.int g))]) (fun R hR => ?_) ?_
  · refine if2 (fun h => if2 (fun h2 => ?_) (fun h2 => ?_)) (fun h => ?_)
    · exact hR _ _ ⟨b0 - 3, 1, by omega, by omega, by omega, rfl, rfl⟩
    · exact hR _ _ ⟨b0 - 3, b1 - 3, by omega, by omega, fun z => h2 z.2, rfl, rfl⟩
    · exact hR _ _ ⟨b0 - 3, b1 - 3, by omega, by omega, fun z => h z.1, rfl, rfl⟩
  rintro e t ⟨p, qq, hp, hq, hpq, rfl, rfl⟩
  have sp : Sm 5 p := show p.natAbs < 2 ^ 5 by omega
  have sq : Sm 5 qq := show qq.natAbs < 2 ^ 5 by omega
  have sg : Sm 5 g := show g.natAbs < 2 ^ 5 by omega
  refine ⟨by walk_at "sd", by walk_at "sd", by walk_at "sd", by walk_at "sd", by walk_at "sd", by walk_at "sd", by walk_at "sd", rfl, ?_⟩
  exact q ⟨g * p * p, 2 * g * p * qq, g * qq * qq⟩ ⟨p, qq, g, rfl, hpq, hg0, ⟨hg1, hg2⟩, hp, hq⟩ (tc + 1 + 1 + 1) (by omega)
def KindOf (s : Str) (f : F3) : Prop := kindS f = s ∧ f.a ≠ 0 ∧ f.c ≠ 0 ∧ (-5 ≤ f.a ∧ f.a ≤ 5) ∧ (-6 ≤ f.b ∧ f.b ≤ 6) ∧ (-5 ≤ f.c ∧ f.c ≤ 5)
def FormOf (s : Str) (f : F3) : Prop := (s = "split" ∧ SplitOf f) ∨ (s = "flat" ∧ FlatOf f) ∨ ((s = "definite" ∨ s = "indefinite") ∧ KindOf s f)
theorem sort_ok {s : Str} (h : s = "split" ∨ s = "flat" ∨ s = "definite" ∨ s = "indefinite") : D.ok (.str s) = true := by
  rcases h with rfl | rfl | rfl | rfl
  · exact ok_str4
  · exact ok_str2
  · exact ok_str1
  · exact ok_str3
@[irreducible] def sp_Lform : FSpec := fun ds tk Q => ∃ (s : Str) (tc : Nat), ds = [.st, .str s] ∧ tk = some tc ∧ tc + 200 < 2 ^ 50 ∧ (s = "split" ∨ s = "flat" ∨ s = "definite" ∨ s = "indefinite") ∧ ∀ (f : F3), ∀ (hf : FormOf s f), ∀ tc' : Nat, tc' ≤ tc + 200 → Q (.val f.D) (some tc')
theorem op_Lform {ds : List D} {tk : Tk} {Q : EV → Tk → Prop} (h : sp_Lform ds tk Q) : ∃ (s : Str) (tc : Nat), ds = [.st, .str s] ∧ tk = some tc ∧ tc + 200 < 2 ^ 50 ∧ (s = "split" ∨ s = "flat" ∨ s = "definite" ∨ s = "indefinite") ∧ ∀ (f : F3), ∀ (hf : FormOf s f), ∀ tc' : Nat, tc' ≤ tc + 200 → Q (.val f.D) (some tc') := by unfold sp_Lform at h; exact h
theorem mon_Lform : MonFS sp_Lform := fun ds tk Q Q' hq_ hs_ => by
  obtain ⟨s, tc, e_, e2_, tch, hs, q_⟩ := op_Lform hs_
  unfold sp_Lform
  exact ⟨s, tc, e_, e2_, tch, hs, fun f hf tc_ tc_h => hq_ _ _ (q_ f hf tc_ tc_h)⟩
theorem len_Lform : ∀ ds tk Q, sp_Lform ds tk Q → ds.length = 2 := fun ds tk Q hs_ => by
  obtain ⟨s, tc, e_, e2_, tch, hs, q_⟩ := op_Lform hs_
  rw [e_]; rfl
theorem cl_Lform  {Q : EV → Tk → Prop} {s : Str} {tc : Nat} (tch : tc + 200 < 2 ^ 50) (hs : s = "split" ∨ s = "flat" ∨ s = "definite" ∨ s = "indefinite") (q_ : ∀ (f : F3), ∀ (hf : FormOf s f), ∀ tc' : Nat, tc' ≤ tc + 200 → Q (.val f.D) (some tc')) : sp_Lform [.st, .str s] (some tc) Q := by
  unfold sp_Lform
  exact ⟨s, tc, rfl, rfl, tch, hs, q_⟩
theorem ce_Lform {ds_ : List D}  {Q : EV → Tk → Prop} {s : Str} {tc : Nat} (tch : tc + 200 < 2 ^ 50) (hs : s = "split" ∨ s = "flat" ∨ s = "definite" ∨ s = "indefinite") (e_ : ds_ = [.st, .str s]) (q_ : ∀ (f : F3), ∀ (hf : FormOf s f), ∀ tc' : Nat, tc' ≤ tc + 200 → Q (.val f.D) (some tc')) : sp_Lform ds_ (some tc) Q := by
  subst e_
  unfold sp_Lform
  exact ⟨s, tc, rfl, rfl, tch, hs, q_⟩
abbrev N_Lform : List Str := ["_law_state_here", "_law_sort", "_law_k", "_law_a", "_law_c", "_law_form_here"]
def c_Lform : WS :=
  (wSeq (wIfS (wT (wOp fEq (wPk 1) (fz (wC (.str "split"))))) (wRet (wCall sp_Lsplit (wCons (fz (wV 0)) wNil))) wNext)
  (wSeq (wIfS (wT (wOp fEq (wPk 1) (fz (wC (.str "flat"))))) (wRet (wCall sp_Lflat (wCons (fz (wV 0)) wNil))) wNext)
  (wSeq (wFor (wR1 (fz (wC (.int 30)))) (gN 2) (wSeq (wSet 3 (wOp fMul (fz (wOp fAdd (fz (wC (.int 1))) (fz (wCall sp_Lnext (wCons (fz (wV 0)) (wCons (fz (wC (.int 5))) wNil)))))) (fz (wOp fIdx (fz (wLst (wCons (fz (wC (.int 1))) (wCons (fz (w1 fNeg (fz (wC (.int 1))))) wNil)))) (fz (wCall sp_Lnext (wCons (fz (wV 0)) (wCons (fz (wC (.int 2))) wNil))))))))
  (wSeq (wSet 4 (wOp fMul (fz (wOp fAdd (fz (wC (.int 1))) (fz (wCall sp_Lnext (wCons (fz (wV 0)) (wCons (fz (wC (.int 5))) wNil)))))) (fz (wOp fIdx (fz (wLst (wCons (fz (wC (.int 1))) (wCons (fz (w1 fNeg (fz (wC (.int 1))))) wNil)))) (fz (wCall sp_Lnext (wCons (fz (wV 0)) (wCons (fz (wC (.int 2))) wNil))))))))
  (wSeq (wSet 5 (wTup (wCons (fz (wV 3)) (wCons (fz (wOp fSub (fz (wCall sp_Lnext (wCons (fz (wV 0)) (wCons (fz (wC (.int 13))) wNil)))) (fz (wC (.int 6))))) (wCons (fz (wV 4)) wNil)))))
  (wIfS (wT (wOp fEq (fz (wCall sp_Lkind (wCons (fz (wV 5)) wNil))) (wPk 1))) (wRetV 5) wNext)))))
  (wRet (wOp fIdx (fz (wLst (wCons (fz (wTup (wCons (fz (wC (.int 1))) (wCons (fz (wC (.int 1))) (wCons (fz (wC (.int 2))) wNil))))) (wCons (fz (wTup (wCons (fz (wC (.int 1))) (wCons (fz (wC (.int 0))) (wCons (fz (w1 fNeg (fz (wC (.int 2))))) wNil))))) wNil)))) (fz (w1 fInt (fz (wOp fEq (wPk 1) (fz (wC (.str "indefinite"))))))))))))
theorem hw_Lform : ∀ ds tk Q, sp_Lform ds tk Q → c_Lform { nx := fun _ t => Q (.val .non) t, rt := Q } (start N_Lform.length ds) tk := by
  intro ds tk Q h_
  obtain ⟨s, tc, rfl, rfl, tch, hs, q⟩ := op_Lform h_
  refine ⟨sort_ok hs, ok_str4, ?_⟩
  by_cases h1 : s = "split"
  · subst h1
    refine ifB rfl ?_
    exact cl_Lsplit (by omega) fun f hf c' hc => q f (.inl ⟨rfl, hf⟩) c' (by omega)
  refine ifBF (beq_eq_false_iff_ne.mpr h1) ?_
  refine ⟨sort_ok hs, ok_str2, ?_⟩
  by_cases h2 : s = "flat"
  · subst h2
    refine ifB rfl ?_
    exact cl_Lflat (by omega) fun f hf c' hc => q f (.inr (.inl ⟨rfl, hf⟩)) c' (by omega)
  refine ifBF (beq_eq_false_iff_ne.mpr h2) ?_
  have hs2 : s = "definite" ∨ s = "indefinite" := (hs.resolve_left h1).resolve_left h2
  refine ⟨by decide, by decide, ?_⟩
  refine forGo_rng (fun i e t => ∃ (x2 x3 x4 x5 : Option EV), t = some (tc + 5 * i) ∧ e = [some (.val .st), some (.val (.str s)), x2, x3, x4, x5]) (fun i e t R hi hI hR => ?_) (fun e t hI => ?_) ⟨none, none, none, none, rfl, rfl⟩
  · obtain ⟨x2, x3, x4, x5, rfl, rfl⟩ := hI
    have hi' : i < 30 := hi
    refine ⟨_, _, rfl, rfl, by first | decide | omega, by first | decide | omega, fun a0 a0_0 a0_1 => ?_⟩
    refine ⟨rfl, ?_⟩
    refine ⟨_, _, rfl, rfl, by first | decide | omega, by first | decide | omega, fun a1 a1_0 a1_1 => ?_⟩
    refine fIdx_of (fun d => ∃ z : Int, d = .int z ∧ (z = 1 ∨ z = -1)) a1_0 a1_1 (all2 ⟨1, rfl, .inl rfl⟩ ⟨-1, rfl, .inr rfl⟩) ?_
    rintro _ ⟨g1, rfl, hg1⟩
    refine ⟨by walk_at "sd", ?_⟩
    refine ⟨_, _, rfl, rfl, by first | decide | omega, by first | decide | omega, fun c0 c0_0 c0_1 => ?_⟩
    refine ⟨rfl, ?_⟩
    refine ⟨_, _, rfl, rfl, by first | decide | omega, by first | decide | omega, fun c1 c1_0 c1_1 => ?_⟩
    refine fIdx_of (fun d => ∃ z : Int, d = .int z ∧ (z = 1 ∨ z = -1)) c1_0 c1_1 (all2 ⟨1, rfl, .inl rfl⟩ ⟨-1, rfl, .inr rfl⟩) ?_
    rintro _ ⟨g2, rfl, hg2⟩
    refine ⟨by walk_at "sd", ?_⟩
    refine ⟨_, _, rfl, rfl, by first | decide | omega, by first | decide | omega, fun b0 b0_0 b0_1 => ?_⟩
    refine ⟨rfl, ?_⟩
    simp only [gCs, gN, gNl, start_def, List.map_cons, List.map_nil, List.set_cons_zero, List.set_cons_succ, List.replicate_succ, List.replicate_zero, List.cons_append, List.nil_append, List.length_cons, List.length_nil, Nat.reduceAdd, Nat.reduceSub]
    have ha : (-5 ≤ (1 + a0) * g1 ∧ (1 + a0) * g1 ≤ 5) ∧ (1 + a0) * g1 ≠ 0 := by rcases hg1 with rfl | rfl <;> omega
    have hc : (-5 ≤ (1 + c0) * g2 ∧ (1 + c0) * g2 ≤ 5) ∧ (1 + c0) * g2 ≠ 0 := by rcases hg2 with rfl | rfl <;> omega
    generalize (1 + a0) * g1 = a at ha ⊢
    generalize (1 + c0) * g2 = c at hc ⊢
    obtain ⟨f, hf⟩ : ∃ f : F3, f = ⟨a, b0 - 6, c⟩ := ⟨_, rfl⟩
    have fs : f.Sm 400 := by rw [hf]; exact ⟨by walk_at "sd", by walk_at "sd", by walk_at "sd"⟩
    refine ce_Lkind (f := f) fs (by rw [hf]; rfl) ?_
    refine ⟨kindS_ok f, sort_ok hs, ?_⟩
    by_cases z : kindS f = s
    · refine ifB (show (kindS f == s) = true by rw [z]; exact beq_self_eq_true s) ?_
      have r := q f (.inr (.inr ⟨hs2, z, by rw [hf]; exact ha.2, by rw [hf]; exact hc.2, by rw [hf]; exact ha.1, by rw [hf]; show -6 ≤ b0 - 6 ∧ b0 - 6 ≤ 6; omega, by rw [hf]; exact hc.1⟩)) (tc + 5 * i + 1 + 1 + 1 + 1 + 1) (by omega)
      rw [hf] at r
      exact r
    · refine ifBF (beq_eq_false_iff_ne.mpr z) ?_
      exact hR _ _ ⟨_, _, _, _, rfl, rfl⟩
  · obtain ⟨x2, x3, x4, x5, rfl, rfl⟩ := hI
    refine ⟨rfl, rfl, rfl, sort_ok hs, ok_str3, ?_⟩
    have d1 : F3.disc ⟨1, 1, 2⟩ < 0 := by decide
    have d2 : ¬ F3.disc ⟨1, 0, -2⟩ < 0 := by decide
    have n8 : ¬ IsSq (F3.disc ⟨1, 0, -2⟩) := by
      intro w
      have : isSqB 8 = true := isSqB_true w
      exact absurd this (by decide +kernel)
    rcases hs2 with rfl | rfl
    · exact q ⟨1, 1, 2⟩ (.inr (.inr ⟨.inl rfl, kindS_1 d1, by decide, by decide, by decide, by decide, by decide⟩)) _ (by show tc + 5 * 30 ≤ tc + 200; omega)
    · exact q ⟨1, 0, -2⟩ (.inr (.inr ⟨.inr rfl, kindS_4 d2 n8, by decide, by decide, by decide, by decide, by decide⟩)) _ (by show tc + 5 * 30 ≤ tc + 200; omega)
end DL
set_option maxHeartbeats 1000000
namespace DL
/-! ### forms and changes, plainly -/
theorem F3.act_mul (f : F3) (m n : M4) : (f.act m).act n = f.act (m.mul n) := by
  apply F3.ext <;> (unfold F3.act F3.worth M4.mul; dsimp only; grind)
theorem F3.act_one (f : F3) : f.act M4.one = f := by
  apply F3.ext <;> (unfold F3.act F3.worth M4.one; dsimp only; grind)
theorem F3.disc_act (f : F3) (m : M4) : (f.act m).disc = f.disc * (m.det * m.det) := by
  unfold F3.disc F3.act F3.worth M4.det; dsimp only; grind
theorem F3.disc_act1 (f : F3) {m : M4} (h : m.det = 1) : (f.act m).disc = f.disc := by rw [F3.disc_act, h]; omega
theorem F3.worth_act (f : F3) (m : M4) (v : P2) : (f.act m).worth v = f.worth (m.at v) := by
  unfold F3.act F3.worth M4.at; dsimp only; grind
/-- the inverse of a change of determinant 1 -/
def M4.adj (m : M4) : M4 := ⟨m.s, -m.q, -m.r, m.p⟩
theorem M4.mul_adj {m : M4} (h : m.det = 1) : m.mul m.adj = M4.one := by
  unfold M4.det at h
  apply M4.ext <;> (unfold M4.mul M4.adj M4.one; dsimp only; grind)
theorem M4.adj_mul {m : M4} (h : m.det = 1) : m.adj.mul m = M4.one := by
  unfold M4.det at h
  apply M4.ext <;> (unfold M4.mul M4.adj M4.one; dsimp only; grind)
theorem M4.det_adj (m : M4) : m.adj.det = m.det := by unfold M4.det M4.adj; dsimp only; grind
theorem M4.det_mul1 {m n : M4} (h : m.det = 1) (h' : n.det = 1) : (m.mul n).det = 1 := by rw [M4.det_mul, h, h']; rfl
theorem F3.back {f g : F3} {m : M4} (h : m.det = 1) (e : f.act m = g) : g.act m.adj = f := by rw [← e, F3.act_mul, M4.mul_adj h, F3.act_one]
theorem M4.inv_adj {m : M4} (h : m.det = 1) : m.inv = m.adj := by
  apply M4.ext <;> (unfold M4.inv M4.adj; dsimp only; rw [h]; omega)
def F3.scale (f : F3) (n : Int) : F3 := ⟨f.a * n, f.b * n, f.c * n⟩
theorem F3.scale_act (f : F3) (n : Int) (m : M4) : (f.scale n).act m = (f.act m).scale n := by
  apply F3.ext <;> (unfold F3.act F3.scale F3.worth; dsimp only; grind)
theorem F3.scale_disc (f : F3) (n : Int) : (f.scale n).disc = f.disc * (n * n) := by unfold F3.disc F3.scale; dsimp only; grind
theorem F3.scale_neg (f : F3) : (f.scale (-1)).scale (-1) = f := by apply F3.ext <;> (unfold F3.scale; dsimp only; omega)
/-! ### sizes -/
theorem F3.Sm.up {f : F3} {k j : Nat} (h : f.Sm k) (hk : k ≤ j) : f.Sm j := ⟨h.1.mono hk, h.2.1.mono hk, h.2.2.mono hk⟩
theorem M4.Sm.up {f : M4} {k j : Nat} (h : f.Sm k) (hk : k ≤ j) : f.Sm j := ⟨h.1.mono hk, h.2.1.mono hk, h.2.2.1.mono hk, h.2.2.2.mono hk⟩
theorem worth_size {f : F3} {v : P2} {k j : Nat} (hf : f.Sm k) (hv : v.Sm j) : DL.Sm (k + 2 * j + 2) (f.worth v) := by
  obtain ⟨a1, a2, a3⟩ := hf
  obtain ⟨c1, c2⟩ := hv
  have h1 := ((a1.mul c1).mul c1).mono (show k + j + j ≤ k + 2 * j by omega)
  have h2 := ((a2.mul c1).mul c2).mono (show k + j + j ≤ k + 2 * j by omega)
  have h3 := ((a3.mul c2).mul c2).mono (show k + j + j ≤ k + 2 * j + 1 by omega)
  exact (h1.add h2).add h3
theorem act_size {f : F3} {m : M4} {k j : Nat} (hf : f.Sm k) (hm : m.Sm j) : (f.act m).Sm (k + 2 * j + 4) := by
  obtain ⟨b1, b2, b3, b4⟩ := hm
  have w1 := worth_size (v := ⟨m.p, m.r⟩) hf ⟨b1, b3⟩
  have w2 := worth_size (v := ⟨m.q, m.s⟩) hf ⟨b2, b4⟩
  refine ⟨w1.mono (by omega), ?_, w2.mono (by omega)⟩
  obtain ⟨a1, a2, a3⟩ := hf
  have s2 : DL.Sm 2 2 := show (2 : Int).natAbs < 2 ^ 2 by decide
  have h1 := (((s2.mul a1).mul b1).mul b2).mono (show 2 + k + j + j ≤ k + 2 * j + 2 by omega)
  have h2 := (a2.mul ((b1.mul b4).add (b2.mul b3))).mono (show k + (j + j + 1) ≤ k + 2 * j + 2 by omega)
  have h3 := (((s2.mul a3).mul b3).mul b4).mono (show 2 + k + j + j ≤ k + 2 * j + 3 by omega)
  exact (h1.add h2).add h3
theorem mul_size {m n : M4} {k j : Nat} (hf : m.Sm k) (hm : n.Sm j) : (m.mul n).Sm (k + j + 1) := by
  obtain ⟨a1, a2, a3, a4⟩ := hf
  obtain ⟨b1, b2, b3, b4⟩ := hm
  exact ⟨(a1.mul b1).add (a2.mul b3), (a1.mul b2).add (a2.mul b4), (a3.mul b1).add (a4.mul b3), (a3.mul b2).add (a4.mul b4)⟩
theorem kind_size {s : PySem.Str} {f : F3} (h : KindOf s f) : f.Sm 3 := by
  obtain ⟨_, _, _, h1, h2, h3⟩ := h
  exact ⟨show f.a.natAbs < 2 ^ 3 by omega, show f.b.natAbs < 2 ^ 3 by omega, show f.c.natAbs < 2 ^ 3 by omega⟩
theorem split_size {f : F3} (h : SplitOf f) : f.Sm 20 := by
  obtain ⟨p, q, r, s, g, rfl, _, h1, h2, hp, hq, hr, hs, _⟩ := h
  have sp : Sm 5 p := show p.natAbs < 2 ^ 5 by omega
  have sq : Sm 5 q := show q.natAbs < 2 ^ 5 by omega
  have sr : Sm 5 r := show r.natAbs < 2 ^ 5 by omega
  have ss : Sm 5 s := show s.natAbs < 2 ^ 5 by omega
  have sg : Sm 5 g := show g.natAbs < 2 ^ 5 by omega
  exact ⟨((sg.mul sp).mul sr).mono (by decide), (sg.mul ((sp.mul ss).add (sq.mul sr))).mono (by decide), ((sg.mul sq).mul ss).mono (by decide)⟩
theorem flat_size {f : F3} (h : FlatOf f) : f.Sm 20 := by
  obtain ⟨p, q, g, rfl, _, _, h1, hp, hq⟩ := h
  have sp : Sm 5 p := show p.natAbs < 2 ^ 5 by omega
  have sq : Sm 5 q := show q.natAbs < 2 ^ 5 by omega
  have sg : Sm 5 g := show g.natAbs < 2 ^ 5 by omega
  have s2 : DL.Sm 2 2 := show (2 : Int).natAbs < 2 ^ 2 by decide
  exact ⟨((sg.mul sp).mul sp).mono (by decide), (((s2.mul sg).mul sp).mul sq).mono (by decide), ((sg.mul sq).mul sq).mono (by decide)⟩
theorem form_size {s : PySem.Str} {f : F3} (h : FormOf s f) : f.Sm 20 := by
  rcases h with ⟨_, h⟩ | ⟨_, h⟩ | ⟨_, h⟩
  · exact split_size h
  · exact flat_size h
  · exact (kind_size h).up (by decide)
/-! ### reduced positive forms -/
def Red (f : F3) : Prop := -f.a < f.b ∧ f.b ≤ f.a ∧ f.a ≤ f.c ∧ (0 ≤ f.b ∨ f.a < f.c)
instance (f : F3) : Decidable (Red f) := by unfold Red; infer_instance
theorem sq_nn (x : Int) : 0 ≤ x * x := by
  rcases Int.le_total 0 x with z | z
  · exact Int.mul_nonneg z z
  · exact Int.mul_nonneg_of_nonpos_of_nonpos z z
theorem sq_pos {x : Int} (h : x ≠ 0) : 1 ≤ x * x := by
  have h1 := sq_nn x
  have h2 : x * x ≠ 0 := fun z => h ((Int.mul_eq_zero.mp z).elim id id)
  omega
/-- the values of a reduced form off its first axis are at least its last number -/
theorem red_val {a b c x y : Int} (a0 : 0 < a) (h1 : -a ≤ b) (h2 : b ≤ a) (h3 : a ≤ c) (hy : y ≠ 0) : c ≤ a * x * x + b * x * y + c * y * y := by
  have hz : ∃ z : Int, 0 ≤ z ∧ -(a * z) ≤ b * (x * y) ∧ z * z = (x * y) * (x * y) ∧ 2 * z ≤ x * x + y * y := by
    rcases Int.le_total 0 (x * y) with w | w
    · refine ⟨x * y, w, ?_, rfl, ?_⟩
      · have := Int.mul_le_mul_of_nonneg_right h1 w
        rw [Int.neg_mul] at this
        exact this
      · have := sq_nn (x - y)
        have e : (x - y) * (x - y) = x * x + y * y - 2 * (x * y) := by grind
        omega
    · refine ⟨-(x * y), by omega, ?_, by grind, ?_⟩
      · have := Int.mul_le_mul_of_nonpos_right h2 w
        rw [Int.mul_neg, Int.neg_neg]
        exact this
      · have := sq_nn (x + y)
        have e : (x + y) * (x + y) = x * x + y * y + 2 * (x * y) := by grind
        omega
  obtain ⟨z, z0, z1, _, z2⟩ := hz
  have y1 := sq_pos hy
  have x0 := sq_nn x
  have e1 : a * x * x + b * x * y + c * y * y = a * (x * x - z + y * y - 1) + a * z + b * (x * y) + (c - a) * (y * y - 1) + c := by grind
  have p1 : 0 ≤ a * (x * x - z + y * y - 1) := Int.mul_nonneg (by omega) (by omega)
  have p2 : 0 ≤ (c - a) * (y * y - 1) := Int.mul_nonneg (by omega) (by omega)
  omega
theorem red_min {f : F3} {v : P2} (a0 : 0 < f.a) (h : Red f) (hv : v.x ≠ 0 ∨ v.y ≠ 0) : f.a ≤ f.worth v ∧ (v.y ≠ 0 → f.c ≤ f.worth v) := by
  obtain ⟨h1, h2, h3, _⟩ := h
  have k : v.y ≠ 0 → f.c ≤ f.worth v := fun hy => red_val a0 (by omega) h2 h3 hy
  refine ⟨?_, k⟩
  by_cases hy : v.y = 0
  · have hx : v.x ≠ 0 := hv.resolve_right fun z => z hy
    unfold F3.worth
    rw [hy]
    have := Int.mul_le_mul_of_nonneg_left (sq_pos hx) (show 0 ≤ f.a by omega)
    have e : f.a * v.x * v.x + f.b * v.x * 0 + f.c * 0 * 0 = f.a * (v.x * v.x) := by grind
    omega
  · have := k hy
    omega
theorem det_col {m : M4} (h : m.det = 1) : m.p ≠ 0 ∨ m.r ≠ 0 := by
  refine Decidable.byContradiction fun z => ?_
  have : m.p = 0 ∧ m.r = 0 := by omega
  unfold M4.det at h
  rw [this.1, this.2, Int.zero_mul, Int.mul_zero] at h
  omega
/-- a form has one reduced one -/
theorem red_uniq {f g : F3} {m : M4} (fa : 0 < f.a) (ga : 0 < g.a) (hf : Red f) (hg : Red g) (hd : m.det = 1) (e : f.act m = g) : f = g := by
  have hd' : m.adj.det = 1 := by rw [M4.det_adj]; exact hd
  have e' := F3.back hd e
  have ea : g.a = f.worth ⟨m.p, m.r⟩ := by rw [← e]; rfl
  have eb : f.a = g.worth ⟨m.s, -m.r⟩ := by rw [← e']; rfl
  have k1 := red_min (v := ⟨m.p, m.r⟩) fa hf (det_col hd)
  have k2 := red_min (v := ⟨m.s, -m.r⟩) ga hg (det_col hd')
  have eq : f.a = g.a := by have := k1.1; have := k2.1; omega
  have dd : g.disc = f.disc := by rw [← e]; exact F3.disc_act1 f hd
  unfold F3.disc at dd
  by_cases hr : m.r = 0
  · have hps : m.p * m.s = 1 := by unfold M4.det at hd; rw [hr, Int.mul_zero] at hd; omega
    have hgb : g.b = f.b + 2 * f.a * (m.p * m.q) := by
      rw [← e]
      show 2 * f.a * m.p * m.q + f.b * (m.p * m.s + m.q * m.r) + 2 * f.c * m.r * m.s = _
      rw [hr, hps]; grind
    have hb : f.b = g.b := by
      obtain ⟨h1, h2, _, _⟩ := hf
      obtain ⟨h3, h4, _, _⟩ := hg
      have z : m.p * m.q = 0 := by
        rcases Int.lt_trichotomy (m.p * m.q) 0 with z | z | z
        · exfalso
          have := Int.mul_le_mul_of_nonneg_left (show m.p * m.q ≤ -1 by omega) (show 0 ≤ 2 * f.a by omega)
          omega
        · exact z
        · exfalso
          have := Int.mul_le_mul_of_nonneg_left (show 1 ≤ m.p * m.q by omega) (show 0 ≤ 2 * f.a by omega)
          omega
      rw [z, Int.mul_zero] at hgb
      omega
    refine F3.ext eq hb ?_
    rw [← eq, ← hb] at dd
    have : (4 * f.a) * (f.c - g.c) = 0 := by grind
    rcases Int.mul_eq_zero.mp this with z | z <;> omega
  · have c1 : f.c ≤ f.a := by have := k1.2 hr; omega
    have c2 : g.c ≤ g.a := by have := k2.2 (show -m.r ≠ 0 by omega); omega
    obtain ⟨h1, h2, h3, h4⟩ := hf
    obtain ⟨h5, h6, h7, h8⟩ := hg
    have fc : f.c = f.a := by omega
    have gc : g.c = g.a := by omega
    have hb : f.b = g.b := by
      have b1 : 0 ≤ f.b := h4.resolve_right (by omega)
      have b2 : 0 ≤ g.b := h8.resolve_right (by omega)
      rw [fc, gc, ← eq] at dd
      have : (g.b - f.b) * (g.b + f.b) = 0 := by grind
      rcases Int.mul_eq_zero.mp this with z | z <;> omega
    exact F3.ext eq hb (by omega)
/-! ### the way to the reduced form -/
def redFlag (f : F3) : Nat := if -f.a < f.b ∧ f.b ≤ f.a then 0 else 2
def redMeas (f : F3) : Nat := 4 * f.a.toNat + redFlag f + (if f.b < 0 then 1 else 0)
def swapM : M4 := ⟨0, -1, 1, 0⟩
def tranM (t : Int) : M4 := ⟨1, t, 0, 1⟩
theorem act_swap (f : F3) : f.act swapM = ⟨f.c, -f.b, f.a⟩ := by apply F3.ext <;> (unfold F3.act F3.worth swapM; dsimp only; omega)
theorem act_tran (f : F3) (t : Int) : f.act (tranM t) = ⟨f.a, f.b + 2 * f.a * t, f.a * t * t + f.b * t + f.c⟩ := by apply F3.ext <;> (unfold F3.act F3.worth tranM; dsimp only; grind)
theorem flag_le (f : F3) : redFlag f ≤ 2 := by unfold redFlag; split <;> omega
theorem swap_less {f : F3} (a0 : 0 < f.a) (c0 : 0 < f.c) (h : f.c < f.a ∨ (f.a = f.c ∧ f.b < 0)) : redMeas (f.act swapM) < redMeas f := by
  rw [act_swap]
  rcases h with h | ⟨h, h2⟩
  · have := flag_le ⟨f.c, -f.b, f.a⟩
    unfold redMeas
    dsimp only
    split <;> split <;> omega
  · unfold redMeas redFlag
    dsimp only
    split <;> split <;> split <;> (try split) <;> omega
theorem tran_b {a b : Int} (a0 : 0 < a) : -a < b + 2 * a * (a - b).fdiv (2 * a) ∧ b + 2 * a * (a - b).fdiv (2 * a) ≤ a := by
  have h1 := Int.mul_fdiv_add_fmod (a - b) (2 * a)
  have h2 := Int.fmod_nonneg_of_pos (a - b) (show 0 < 2 * a by omega)
  have h3 := Int.fmod_lt_of_pos (a - b) (show 0 < 2 * a by omega)
  omega
theorem tran_less {f : F3} (a0 : 0 < f.a) (h : ¬ Red f) (h2 : ¬ (f.c < f.a ∨ (f.a = f.c ∧ f.b < 0))) : redMeas (f.act (tranM ((f.a - f.b).fdiv (2 * f.a)))) < redMeas f := by
  have t := tran_b (b := f.b) a0
  rw [act_tran]
  unfold redMeas redFlag
  dsimp only
  rw [if_pos t]
  have : ¬ (-f.a < f.b ∧ f.b ≤ f.a) := fun z => h ⟨z.1, z.2, by omega, by omega⟩
  rw [if_neg this]
  split <;> split <;> omega
/-- sizes on the way -/
theorem def_c {f : F3} (hd : f.disc < 0) (a0 : 0 < f.a) : 0 < f.c := by
  refine Int.not_le.mp fun z => ?_
  unfold F3.disc at hd
  have h1 := sq_nn f.b
  have h2 := Int.mul_nonneg (show 0 ≤ 4 * f.a by omega) (show 0 ≤ -f.c by omega)
  rw [Int.mul_neg] at h2
  omega
theorem def_b {f : F3} (hd : f.disc < 0) : f.b * f.b ≤ 4 * f.a * f.c := by unfold F3.disc at hd; omega
theorem sq_le_abs {x y : Int} (h : x * x ≤ y) : x.natAbs ≤ y.natAbs := by
  have e : (x.natAbs * x.natAbs : Nat) = (x * x).natAbs := (Int.natAbs_mul x x).symm
  have : x.natAbs * x.natAbs ≤ y.natAbs := by
    rw [e]
    have := sq_nn x
    omega
  exact Nat.le_trans (Nat.le_mul_self _) this
theorem tran_c {f : F3} {t : Int} (a0 : 0 < f.a) (hb : -f.a < f.b + 2 * f.a * t ∧ f.b + 2 * f.a * t ≤ f.a) : f.a * t * t + f.b * t + f.c ≤ f.a - f.disc ∨ 0 ≤ f.disc := by
  by_cases z : 0 ≤ f.disc
  · exact .inr z
  left
  have hd : (f.act (tranM t)).disc = f.disc := F3.disc_act1 f (by unfold M4.det tranM; dsimp only; omega)
  rw [act_tran] at hd
  unfold F3.disc at hd z ⊢
  dsimp only at hd
  generalize f.b + 2 * f.a * t = b' at *
  generalize f.a * t * t + f.b * t + f.c = c' at *
  generalize f.b * f.b - 4 * f.a * f.c = dd at *
  -- 4 a c' = b'^2 - dd <= a^2 - dd
  have h1 : b' * b' ≤ f.a * f.a := by
    have h2 : 0 ≤ (f.a - b') * (f.a + b') := Int.mul_nonneg (by omega) (by omega)
    have e : (f.a - b') * (f.a + b') = f.a * f.a - b' * b' := by grind
    omega
  refine Int.not_lt.mp fun w => ?_
  have h3 : 4 * f.a * (f.a - dd + 1) ≤ 4 * f.a * c' := Int.mul_le_mul_of_nonneg_left (by omega) (by omega)
  have h4 : 4 * f.a * (f.a - dd + 1) = 4 * (f.a * f.a) + 4 * f.a * (-dd) + 4 * f.a := by grind
  have h5 : 1 * (-dd) ≤ 4 * f.a * (-dd) := Int.mul_le_mul_of_nonneg_right (by omega) (by omega)
  have h6 := sq_nn f.a
  omega
/-- what leads from a positive form to values below a bound is small -/
theorem col_small {f : F3} {v : P2} (a0 : 0 < f.a) (hd : f.disc < 0) : v.y * v.y ≤ 4 * f.a * f.worth v ∧ v.x * v.x ≤ 4 * f.c * f.worth v := by
  have c0 := def_c hd a0
  have e1 : 4 * f.a * f.worth v = (2 * f.a * v.x + f.b * v.y) * (2 * f.a * v.x + f.b * v.y) + (-f.disc) * (v.y * v.y) := by unfold F3.worth F3.disc; grind
  have e2 : 4 * f.c * f.worth v = (2 * f.c * v.y + f.b * v.x) * (2 * f.c * v.y + f.b * v.x) + (-f.disc) * (v.x * v.x) := by unfold F3.worth F3.disc; grind
  have h1 := sq_nn (2 * f.a * v.x + f.b * v.y)
  have h2 := sq_nn (2 * f.c * v.y + f.b * v.x)
  have h3 : 1 * (v.y * v.y) ≤ (-f.disc) * (v.y * v.y) := Int.mul_le_mul_of_nonneg_right (by omega) (sq_nn _)
  have h4 : 1 * (v.x * v.x) ≤ (-f.disc) * (v.x * v.x) := Int.mul_le_mul_of_nonneg_right (by omega) (sq_nn _)
  omega
end DL
set_option maxHeartbeats 1000000
namespace DL
open PySem PySem.Spec PyProof.Rows L2
/-! ### comprehensions that map a list, without draws -/
theorem lcMap {α : Type} {g : WG} {elt : WE} {vs : List Nat} {env : En} {tk : Tk} {K : List D → Tk → Prop} (enc : α → D) (f : α → D) (mg : ∀ d e Q Q', (∀ x, Q x → Q' x) → g d e Q → g d e Q') : ∀ (xs : List α) (acc : List D)
    (hs : ∀ x ∈ xs, ∀ (C : D → Tk → Prop), C (f x) tk → g (enc x) (wipeE env vs) fun e1 => e1 = e1 ∧ elt e1 tk fun ev e3 t3 => e3 = e1 ∧ C ev.d t3), acc.length + xs.length < sizeLine → K (acc ++ xs.map f) tk → lcGo g wYes elt vs env (xs.map enc) acc tk K
  | [], acc, _, _, k => by
    rw [List.map_nil, List.append_nil] at k
    exact k
  | x :: xs, acc, hs, hl, k => by
    rw [List.length_cons] at hl
    have h := hs x List.mem_cons_self (fun d t => acc.length < sizeLine ∧ lcGo g wYes elt vs env (xs.map enc) (acc ++ [d]) t K) ⟨by omega, lcMap enc f mg xs _ (fun y hy => hs y (List.mem_cons_of_mem _ hy)) (by rw [List.length_append]; simp only [List.length_cons, List.length_nil]; omega) (by rw [List.append_assoc]; exact k)⟩
    exact mg _ _ _ _ (fun e1 z => ⟨rfl, ifB rfl z.2⟩) h
theorem atNx {P : Post} {e : En} {t : Tk} (h : P.nx e t) : wNext P e t := h
end DL
set_option maxHeartbeats 1000000
namespace DL
open PySem PySem.Spec PyProof.Rows L2
/-! ### comprehensions with a test, without draws -/
theorem lcFilt {α : Type} {g : WG} {cond : WT} {elt : WE} {vs : List Nat} {env : En} {tk : Tk} {K : List D → Tk → Prop} (enc : α → D) (c : α → Bool) (f : α → D) : ∀ (xs : List α) (acc : List D)
    (hs : ∀ x ∈ xs, ∀ (C1 : D → Tk → Prop) (C0 : Tk → Prop), (c x = true → C1 (f x) tk) → (c x = false → C0 tk) → g (enc x) (wipeE env vs) fun e1 => cond e1 tk fun b e2 t2 => e2 = e1 ∧ if b = true then elt e1 t2 (fun ev e3 t3 => e3 = e1 ∧ C1 ev.d t3) else C0 t2), acc.length + xs.length < sizeLine → K (acc ++ (xs.filter c).map f) tk → lcGo g cond elt vs env (xs.map enc) acc tk K
  | [], acc, _, _, k => by
    rw [List.filter_nil, List.map_nil, List.append_nil] at k
    exact k
  | x :: xs, acc, hs, hl, k => by
    rw [List.length_cons] at hl
    have h := hs x List.mem_cons_self (fun d t => acc.length < sizeLine ∧ lcGo g cond elt vs env (xs.map enc) (acc ++ [d]) t K) (fun t => lcGo g cond elt vs env (xs.map enc) acc t K)
      (fun e => ⟨by omega, lcFilt enc c f xs _ (fun y hy => hs y (List.mem_cons_of_mem _ hy)) (by rw [List.length_append]; simp only [List.length_cons, List.length_nil]; omega) (by
        rw [List.filter_cons, if_pos e, List.map_cons] at k
        rw [List.append_assoc]; exact k)⟩)
      (fun e => lcFilt enc c f xs acc (fun y hy => hs y (List.mem_cons_of_mem _ hy)) (by omega) (by
        rw [List.filter_cons, if_neg (by rw [e]; exact Bool.false_ne_true)] at k
        exact k))
    exact h
theorem noOwn1 {env : En} {v : Nat} (h : ∀ ds, env[v]? ≠ some (some (.own ds))) : noOwn env [v] = true := by
  unfold noOwn
  rw [List.all_cons, List.all_nil, Bool.and_true]
  split
  · rename_i ds e; exact absurd e (h ds)
  · rfl
/-- no tracked list -/
def NoO (x : Option EV) : Prop := ∀ ds, x ≠ some (.own ds)
theorem NoO.val (d : D) : NoO (some (.val d)) := fun ds z => nomatch z
theorem NoO.none : NoO Option.none := fun ds z => nomatch z
theorem okL_int {l : List Int} : D.ok (.lst (l.map D.int)) = true := by
  unfold D.ok okN
  induction l with
  | nil => exact okNs_nil
  | cons x l ih => exact okNs_int ih
theorem any_int {l : List Int} {x : Int} : ((l.map D.int).any fun z => z.eqv (.int x)) = decide (x ∈ l) := by
  induction l with
  | nil => rfl
  | cons y l ih =>
    rw [List.map_cons, List.any_cons, ih, eqv_int]
    by_cases h : y = x
    · rw [decide_eq_true h, Bool.true_or]
      exact (decide_eq_true (by rw [h]; exact List.mem_cons_self)).symm
    · rw [decide_eq_false h, Bool.false_or]
      refine decide_eq_decide.mpr ⟨List.mem_cons_of_mem _, fun z => ?_⟩
      rcases List.mem_cons.mp z with w | w
      · exact absurd w.symm h
      · exact w
end DL
set_option maxHeartbeats 1000000
namespace DL
/-! ### indefinite forms: the step, the reduction -/
/-- r is the root's whole part, the number no square -/
structure Rt (d r : Int) : Prop where
  r0 : 0 ≤ r
  lo : r * r < d
  hi : d < (r + 1) * (r + 1)
theorem sq_lt_iff {x y : Int} (hx : 0 ≤ x) (hy : 0 ≤ y) : x * x < y * y ↔ x < y := by
  constructor
  · intro h
    refine Int.not_le.mp fun z => ?_
    have := Int.mul_le_mul z z hy hx
    omega
  · intro h
    have h1 := Int.mul_le_mul (show x ≤ y by omega) (show x ≤ y by omega) hx hy
    have h2 : x * x ≠ y * y := fun e => by
      have : (y - x) * (y + x) = 0 := by grind
      rcases Int.mul_eq_zero.mp this with w | w <;> omega
    omega
theorem Rt.lt {d r x : Int} (h : Rt d r) (hx : 0 ≤ x) : x * x < d ↔ x ≤ r := by
  constructor
  · intro w
    have := (sq_lt_iff hx (show 0 ≤ r + 1 by have := h.r0; omega)).mp (by have := h.hi; omega)
    omega
  · intro w
    have := Int.mul_le_mul w w hx h.r0
    have := h.lo
    omega
theorem Rt.gt {d r x : Int} (h : Rt d r) (hx : 0 ≤ x) : d < x * x ↔ r < x := by
  constructor
  · intro w
    exact (sq_lt_iff h.r0 hx).mp (by have := h.lo; omega)
  · intro w
    have := Int.mul_le_mul (show r + 1 ≤ x by omega) (show r + 1 ≤ x by omega) (by have := h.r0; omega) hx
    have := h.hi
    omega
theorem rt_of {d r : Int} (h0 : 0 ≤ r) (h1 : r * r ≤ d) (h2 : d < (r + 1) * (r + 1)) (hs : ¬ IsSq d) : Rt d r := ⟨h0, by
  have : r * r ≠ d := fun z => hs ⟨r, z⟩
  omega, h2⟩
def iabs (x : Int) : Int := if x < 0 then -x else x
theorem iabs_nn (x : Int) : 0 ≤ iabs x := by unfold iabs; split <;> omega
theorem iabs_eq (x : Int) : iabs x = (x.natAbs : Int) := by unfold iabs; split <;> omega
theorem iabs_mul (x y : Int) : iabs (x * y) = iabs x * iabs y := by rw [iabs_eq, iabs_eq, iabs_eq, Int.natAbs_mul, Int.natCast_mul]
theorem iabs_neg (x : Int) : iabs (-x) = iabs x := by rw [iabs_eq, iabs_eq, Int.natAbs_neg]
theorem iabs_sq (x : Int) : iabs x * iabs x = x * x := by unfold iabs; split <;> grind
theorem iabs_pos {x : Int} (h : x ≠ 0) : 0 < iabs x := by unfold iabs; split <;> omega
theorem iabs_le {x y : Int} : iabs x ≤ y ↔ -y ≤ x ∧ x ≤ y := by unfold iabs; split <;> omega
/-- reduced, by the root's whole part -/
def RedI (r : Int) (f : F3) : Prop := 0 < f.b ∧ f.b ≤ r ∧ r - f.b < 2 * iabs f.a ∧ 2 * iabs f.a ≤ r + f.b
instance (r : Int) (f : F3) : Decidable (RedI r f) := by unfold RedI; infer_instance
/-- the same without a root -/
def RedL (f : F3) : Prop := (0 < f.b ∧ f.b * f.b < f.disc) ∧ f.disc < (2 * iabs f.a + f.b) * (2 * iabs f.a + f.b) ∧ (2 * iabs f.a - f.b < 0 ∨ (2 * iabs f.a - f.b) * (2 * iabs f.a - f.b) < f.disc)
theorem redI_iff {r : Int} {f : F3} (h : Rt f.disc r) : RedI r f ↔ RedL f := by
  have ha := iabs_nn f.a
  have r0 := h.r0
  unfold RedI RedL
  constructor
  · rintro ⟨h1, h2, h3, h4⟩
    refine ⟨⟨h1, (h.lt (by omega)).mpr h2⟩, (h.gt (by omega)).mpr (by omega), ?_⟩
    by_cases z : 2 * iabs f.a - f.b < 0
    · exact .inl z
    · exact .inr ((h.lt (by omega)).mpr (by omega))
  · rintro ⟨⟨h1, h2⟩, h3, h4⟩
    refine ⟨h1, (h.lt (by omega)).mp h2, ?_, ?_⟩
    · have := (h.gt (x := 2 * iabs f.a + f.b) (by omega)).mp h3; omega
    · rcases h4 with z | z
      · have := (h.lt (x := f.b) (by omega)).mp h2; omega
      · by_cases w : 2 * iabs f.a - f.b < 0
        · omega
        · have := (h.lt (x := 2 * iabs f.a - f.b) (by omega)).mp z; omega
/-- an indefinite form has no zero number outside its middle -/
theorem ind_ac {f : F3} (hs : ¬ IsSq f.disc) : f.a ≠ 0 ∧ f.c ≠ 0 := by
  unfold F3.disc at hs
  refine ⟨fun z => hs ⟨f.b, by rw [z]; omega⟩, fun z => hs ⟨f.b, by rw [z]; omega⟩⟩
/-! #### the step -/
def stTop (r : Int) (f : F3) : Int := if r < iabs f.c then iabs f.c else r
def stMid (r : Int) (f : F3) : Int := stTop r f - (stTop r f + f.b).fmod (2 * iabs f.c)
def stNum (r : Int) (f : F3) : Int := (f.b + stMid r f).fdiv (2 * f.c)
def stepM (n : Int) : M4 := ⟨0, -1, 1, n⟩
theorem det_stepM (n : Int) : (stepM n).det = 1 := by unfold M4.det stepM; dsimp only; omega
theorem act_step (f : F3) (n : Int) : f.act (stepM n) = ⟨f.c, 2 * f.c * n - f.b, f.a - f.b * n + f.c * n * n⟩ := by
  apply F3.ext <;> (unfold F3.act F3.worth stepM; dsimp only; grind)
theorem stMid_spec {r : Int} {f : F3} (hc : f.c ≠ 0) : stTop r f - 2 * iabs f.c < stMid r f ∧ stMid r f ≤ stTop r f ∧ 2 * f.c * stNum r f = f.b + stMid r f := by
  have c0 := iabs_pos hc
  have h1 := Int.fmod_nonneg_of_pos (stTop r f + f.b) (show 0 < 2 * iabs f.c by omega)
  have h2 := Int.fmod_lt_of_pos (stTop r f + f.b) (show 0 < 2 * iabs f.c by omega)
  have h3 := Int.mul_fdiv_add_fmod (stTop r f + f.b) (2 * iabs f.c)
  refine ⟨by unfold stMid; omega, by unfold stMid; omega, ?_⟩
  have e : f.b + stMid r f = 2 * iabs f.c * (stTop r f + f.b).fdiv (2 * iabs f.c) := by unfold stMid; omega
  have d : (2 * f.c) ∣ (f.b + stMid r f) := by
    rw [e]
    refine Int.dvd_mul_of_dvd_left ?_
    refine Int.mul_dvd_mul_left 2 ?_
    unfold iabs
    split
    · exact Int.dvd_neg.mpr (Int.dvd_refl _)
    · exact Int.dvd_refl _
  unfold stNum
  exact Int.mul_fdiv_cancel' d
/-- the next form -/
def nxt (r : Int) (f : F3) : F3 := f.act (stepM (stNum r f))
theorem nxt_ab {r : Int} {f : F3} (hc : f.c ≠ 0) : (nxt r f).a = f.c ∧ (nxt r f).b = stMid r f := by
  have h := (stMid_spec (r := r) hc).2.2
  unfold nxt
  rw [act_step]
  refine ⟨rfl, ?_⟩
  dsimp only
  omega
theorem nxt_disc {r : Int} {f : F3} : (nxt r f).disc = f.disc := F3.disc_act1 f (det_stepM _)
/-- normal: the middle lies where the step puts it -/
structure Nrm (r : Int) (f : F3) : Prop where
  lo : (if r < iabs f.a then iabs f.a else r) - 2 * iabs f.a < f.b
  hi : f.b ≤ (if r < iabs f.a then iabs f.a else r)
theorem nrm_nxt {r : Int} {f : F3} (hc : f.c ≠ 0) : Nrm r (nxt r f) := by
  obtain ⟨h1, h2⟩ := nxt_ab (r := r) hc
  obtain ⟨k1, k2, _⟩ := stMid_spec (r := r) hc
  constructor
  · rw [h1, h2]; exact k1
  · rw [h1, h2]; exact k2
theorem four_ac {f : F3} : 4 * (iabs f.a * iabs f.c) = iabs (f.b * f.b - f.disc) := by
  have e : f.b * f.b - f.disc = 4 * (f.a * f.c) := by unfold F3.disc; grind
  rw [e, iabs_mul, iabs_mul]
  rfl
/-- off the reduced forms the first number falls -/
theorem nrm_less {r : Int} {f : F3} (h : Rt f.disc r) (N : Nrm r f) (hn : ¬ RedI r f) (ha : f.a ≠ 0) : iabs f.c < iabs f.a ∧ (r < iabs f.a → 4 * iabs f.c ≤ iabs f.a) ∧ (iabs f.a ≤ r → 2 * iabs f.c ≤ r) := by
  have e := four_ac (f := f)
  have a0 := iabs_pos ha
  have c0 := iabs_nn f.c
  have r0 := h.r0
  have hlo := N.lo
  have hhi := N.hi
  have lt_of : ∀ {x y : Int}, 4 * (iabs f.a * x) ≤ iabs f.a * y → 4 * x ≤ y := fun {x y} w => by
    have : iabs f.a * (4 * x) ≤ iabs f.a * y := by
      have e : iabs f.a * (4 * x) = 4 * (iabs f.a * x) := by grind
      omega
    exact Int.le_of_mul_le_mul_left this a0
  by_cases z : r < iabs f.a
  · rw [if_pos z] at hlo hhi
    have b2 : f.b * f.b ≤ iabs f.a * iabs f.a := by
      have h2 : 0 ≤ (iabs f.a - f.b) * (iabs f.a + f.b) := Int.mul_nonneg (by omega) (by omega)
      have e : (iabs f.a - f.b) * (iabs f.a + f.b) = iabs f.a * iabs f.a - f.b * f.b := by grind
      omega
    have d2 : f.disc < iabs f.a * iabs f.a := (h.gt (by omega)).mpr z
    have d0 : 0 < f.disc := by have := h.lo; have := sq_nn r; omega
    have bb := sq_nn f.b
    have k : iabs (f.b * f.b - f.disc) ≤ iabs f.a * iabs f.a := iabs_le.mpr ⟨by omega, by omega⟩
    have k2 := lt_of (x := iabs f.c) (y := iabs f.a) (by omega)
    exact ⟨by omega, fun _ => k2, fun w => by omega⟩
  · rw [if_neg z] at hlo hhi
    have z : iabs f.a ≤ r := by omega
    have far : r + f.b < 2 * iabs f.a := by
      refine Int.not_le.mp fun w => hn ⟨?_, hhi, by omega, w⟩
      omega
    have b1 : -r < f.b := by omega
    have bd : f.b * f.b < f.disc := by
      rw [← iabs_sq]
      exact (h.lt (iabs_nn _)).mpr (iabs_le.mpr ⟨by omega, hhi⟩)
    have k : iabs (f.b * f.b - f.disc) = f.disc - f.b * f.b := by unfold iabs; split <;> omega
    rw [k] at e
    have up : f.disc - f.b * f.b < (r + 1 - f.b) * (r + 1 + f.b) := by
      have e2 : (r + 1 - f.b) * (r + 1 + f.b) = (r + 1) * (r + 1) - f.b * f.b := by grind
      have := h.hi
      omega
    -- both factors are at most 2|a|
    have p1 : (r + 1 - f.b) * (r + 1 + f.b) ≤ (r + 1 - f.b) * (2 * iabs f.a) := Int.mul_le_mul_of_nonneg_left (by omega) (by omega)
    have p2 : (r + 1 - f.b) * (r + 1 + f.b) ≤ (2 * iabs f.a) * (r + 1 + f.b) := Int.mul_le_mul_of_nonneg_right (by omega) (by omega)
    have k1 : 2 * iabs f.c < r + 1 - f.b := by
      refine Int.not_le.mp fun w => ?_
      have := Int.mul_le_mul_of_nonneg_left w (show 0 ≤ 2 * iabs f.a by omega)
      have e3 : 2 * iabs f.a * (2 * iabs f.c) = 4 * (iabs f.a * iabs f.c) := by grind
      have e4 : (r + 1 - f.b) * (2 * iabs f.a) = 2 * iabs f.a * (r + 1 - f.b) := Int.mul_comm _ _
      omega
    have k2 : 2 * iabs f.c < r + 1 + f.b := by
      refine Int.not_le.mp fun w => ?_
      have := Int.mul_le_mul_of_nonneg_left w (show 0 ≤ 2 * iabs f.a by omega)
      have e3 : 2 * iabs f.a * (2 * iabs f.c) = 4 * (iabs f.a * iabs f.c) := by grind
      omega
    exact ⟨by omega, fun w => by omega, fun _ => by omega⟩
/-- small and normal: reduced -/
theorem nrm_small {r : Int} {f : F3} (N : Nrm r f) (ha : f.a ≠ 0) (h2 : 2 * iabs f.a ≤ r) : RedI r f := by
  have a0 := iabs_pos ha
  have hlo := N.lo
  have hhi := N.hi
  rw [if_neg (by omega)] at hlo hhi
  exact ⟨by omega, hhi, by omega, by omega⟩
/-- a reduced form's next one is reduced -/
theorem redI_nxt {r : Int} {f : F3} (h : Rt f.disc r) (hf : RedI r f) : RedI r (nxt r f) := by
  obtain ⟨h1, h2, h3, h4⟩ := hf
  have r0 := h.r0
  have bd : f.b * f.b < f.disc := (h.lt (by omega)).mpr h2
  have hac : f.a * f.c < 0 := by unfold F3.disc at bd; have e : 4 * f.a * f.c = 4 * (f.a * f.c) := by grind
                                 omega
  have hc : f.c ≠ 0 := fun z => by rw [z, Int.mul_zero] at hac; omega
  have ha : f.a ≠ 0 := fun z => by rw [z, Int.zero_mul] at hac; omega
  have e := four_ac (f := f)
  have k : iabs (f.b * f.b - f.disc) = f.disc - f.b * f.b := by unfold iabs; split <;> omega
  rw [k] at e
  have a0 := iabs_pos ha
  have c0 := iabs_pos hc
  have up : f.disc - f.b * f.b < (r + 1 - f.b) * (r + 1 + f.b) := by
    have e2 : (r + 1 - f.b) * (r + 1 + f.b) = (r + 1) * (r + 1) - f.b * f.b := by grind
    have := h.hi
    omega
  have dn : (r - f.b) * (r + f.b) < f.disc - f.b * f.b := by
    have e2 : (r - f.b) * (r + f.b) = r * r - f.b * f.b := by grind
    have := h.lo
    omega
  have e3 : 2 * iabs f.a * (2 * iabs f.c) = 4 * (iabs f.a * iabs f.c) := by grind
  -- r - b < 2|c| <= r + b
  have k1 : 2 * iabs f.c ≤ r + f.b := by
    refine Int.not_lt.mp fun w => ?_
    have q1 := Int.mul_le_mul_of_nonneg_left (show r + 1 + f.b ≤ 2 * iabs f.c by omega) (show 0 ≤ 2 * iabs f.a by omega)
    have q2 := Int.mul_le_mul_of_nonneg_right (show r + 1 - f.b ≤ 2 * iabs f.a by omega) (show 0 ≤ r + 1 + f.b by omega)
    omega
  have k2 : r - f.b < 2 * iabs f.c := by
    refine Int.not_le.mp fun w => ?_
    have q1 := Int.mul_le_mul_of_nonneg_left w (show 0 ≤ 2 * iabs f.a by omega)
    have q2 := Int.mul_le_mul_of_nonneg_right h4 (show 0 ≤ r - f.b by omega)
    have e5 : (r + f.b) * (r - f.b) = (r - f.b) * (r + f.b) := Int.mul_comm _ _
    omega
  obtain ⟨x1, x2⟩ := nxt_ab (r := r) hc
  obtain ⟨y1, y2, y3⟩ := stMid_spec (r := r) hc
  have top : stTop r f = r := if_neg (by omega)
  rw [top] at y1 y2
  -- the middle: b' = -b mod 2c, r - 2|c| < b' <= r; b' > 0 and 2|c| <= r + b'
  have big : 2 * iabs f.c ≤ r + stMid r f := by
    -- the middle plus b is a multiple of 2|c| that is above r - 2|c| + b > -2|c| ..
    have hm : 2 * iabs f.c * (f.b + stMid r f).fdiv (2 * iabs f.c) = f.b + stMid r f := by
      refine Int.mul_fdiv_cancel' ?_
      rw [← y3]
      refine Int.dvd_mul_of_dvd_left ?_
      refine Int.mul_dvd_mul_left 2 ?_
      unfold iabs
      split
      · exact Int.neg_dvd.mpr (Int.dvd_refl _)
      · exact Int.dvd_refl _
    generalize (f.b + stMid r f).fdiv (2 * iabs f.c) = t at hm
    -- b + mid > b + r - 2|c| >= 0
    have t0 : 0 < t := by
      refine Int.not_le.mp fun w => ?_
      have := Int.mul_le_mul_of_nonneg_left w (show 0 ≤ 2 * iabs f.c by omega)
      rw [Int.mul_zero] at this
      omega
    have := Int.mul_le_mul_of_nonneg_left (show 1 ≤ t by omega) (show 0 ≤ 2 * iabs f.c by omega)
    omega
  refine ⟨?_, ?_, ?_, ?_⟩
  · rw [x2]; omega
  · rw [x2]; exact y2
  · rw [x1, x2]; omega
  · rw [x1, x2]; omega
/-- only one step leads from a reduced form to a reduced one -/
theorem redI_step_uniq {r n : Int} {f : F3} (hc : f.c ≠ 0) (h1 : RedI r (nxt r f)) (h2 : RedI r (f.act (stepM n))) : n = stNum r f := by
  obtain ⟨x1, x2⟩ := nxt_ab (r := r) hc
  obtain ⟨_, _, y3⟩ := stMid_spec (r := r) hc
  obtain ⟨a1, a2, a3, a4⟩ := h1
  obtain ⟨b1, b2, b3, b4⟩ := h2
  rw [x1, x2] at a3 a4
  rw [x2] at a1 a2
  rw [act_step] at b1 b2 b3 b4
  dsimp only at b1 b2 b3 b4
  have e : 2 * f.c * n - f.b - stMid r f = 2 * f.c * (n - stNum r f) := by
    have : 2 * f.c * (n - stNum r f) = 2 * f.c * n - 2 * f.c * stNum r f := by grind
    omega
  have c0 := iabs_pos hc
  -- both lie in (r - 2|c|, r]
  have z : iabs (2 * f.c * (n - stNum r f)) < 2 * iabs f.c := by
    rw [← e]
    unfold iabs at *
    split <;> omega
  rw [iabs_mul, iabs_mul] at z
  have e2 : iabs 2 = 2 := rfl
  rw [e2] at z
  have : iabs (n - stNum r f) < 1 := by
    refine Int.not_le.mp fun w => ?_
    have := Int.mul_le_mul_of_nonneg_left w (show 0 ≤ 2 * iabs f.c by omega)
    omega
  have := iabs_le.mp (show iabs (n - stNum r f) ≤ 0 by omega)
  omega
end DL
set_option maxHeartbeats 1000000
namespace DL
/-! ### the river of an indefinite form: bases with values above and below 0 -/
def Pos (h : F3) : Prop := 0 < h.a ∧ h.c < 0
def rvS (h : F3) : F3 := if 0 < h.a + h.b + h.c then ⟨h.a + h.b + h.c, h.b + 2 * h.c, h.c⟩ else ⟨h.a, h.b + 2 * h.a, h.a + h.b + h.c⟩
def rvN : Nat → F3 → F3
  | 0, h => h
  | n + 1, h => rvN n (rvS h)
theorem rvN_add : ∀ (m n : Nat) (h : F3), rvN (m + n) h = rvN n (rvN m h)
  | 0, n, h => by rw [Nat.zero_add]; rfl
  | m + 1, n, h => by
    rw [Nat.add_right_comm]
    exact rvN_add m n (rvS h)
def matL : M4 := ⟨1, 0, 1, 1⟩
def matR : M4 := ⟨1, 1, 0, 1⟩
theorem act_L (h : F3) : h.act matL = ⟨h.a + h.b + h.c, h.b + 2 * h.c, h.c⟩ := by apply F3.ext <;> (unfold F3.act F3.worth matL; dsimp only; grind)
theorem act_R (h : F3) : h.act matR = ⟨h.a, h.b + 2 * h.a, h.a + h.b + h.c⟩ := by apply F3.ext <;> (unfold F3.act F3.worth matR; dsimp only; grind)
/-- above 0 between two places above 0 -/
theorem cone_pos {h : F3} (hp : Pos h) (h1 : 0 < h.a + h.b + h.c) {x y : Int} (y0 : 0 ≤ y) (xy : y ≤ x) (ne : x ≠ 0 ∨ y ≠ 0) : 0 < h.worth ⟨x, y⟩ := by
  obtain ⟨a0, c0⟩ := hp
  obtain ⟨z, rfl⟩ : ∃ z, x = y + z := ⟨x - y, by omega⟩
  have e : h.worth ⟨y + z, y⟩ = (h.a + h.b + h.c) * (y * y) + (2 * h.a + h.b) * (y * z) + h.a * (z * z) := by unfold F3.worth; dsimp only; grind
  rw [e]
  have k1 := Int.mul_nonneg y0 y0
  have k2 := Int.mul_nonneg y0 (show 0 ≤ z by omega)
  have k3 := Int.mul_nonneg (show 0 ≤ z by omega) (show 0 ≤ z by omega)
  have p1 := Int.mul_nonneg (show 0 ≤ h.a + h.b + h.c by omega) k1
  have p2 := Int.mul_nonneg (show 0 ≤ 2 * h.a + h.b by omega) k2
  have p3 := Int.mul_nonneg (show 0 ≤ h.a by omega) k3
  by_cases z0 : z = 0
  · have yp : 0 < y := by omega
    have := Int.mul_pos h1 (Int.mul_pos yp yp)
    omega
  · have zp : 0 < z := by omega
    have := Int.mul_pos a0 (Int.mul_pos zp zp)
    omega
theorem cone_neg {h : F3} (hp : Pos h) (h1 : h.a + h.b + h.c ≤ 0) {x y : Int} (x0 : 0 ≤ x) (xy : x ≤ y) : h.worth ⟨x, y⟩ ≤ 0 := by
  obtain ⟨a0, c0⟩ := hp
  obtain ⟨z, rfl⟩ : ∃ z, y = x + z := ⟨y - x, by omega⟩
  have e : h.worth ⟨x, x + z⟩ = (h.a + h.b + h.c) * (x * x) + (h.b + 2 * h.c) * (x * z) + h.c * (z * z) := by unfold F3.worth; dsimp only; grind
  rw [e]
  have k1 := Int.mul_nonneg x0 x0
  have k2 := Int.mul_nonneg x0 (show 0 ≤ z by omega)
  have k3 := Int.mul_nonneg (show 0 ≤ z by omega) (show 0 ≤ z by omega)
  have p1 := Int.mul_nonneg (show 0 ≤ -(h.a + h.b + h.c) by omega) k1
  have p2 := Int.mul_nonneg (show 0 ≤ -(h.b + 2 * h.c) by omega) k2
  have p3 := Int.mul_nonneg (show 0 ≤ -h.c by omega) k3
  rw [Int.neg_mul] at p1 p2 p3
  omega
def NN (m : M4) : Prop := (0 ≤ m.p ∧ 0 ≤ m.q) ∧ 0 ≤ m.r ∧ 0 ≤ m.s
/-- a matrix with no number below 0: the unit, or a step ahead -/
theorem nn_cases {m : M4} (h : NN m) (d : m.det = 1) : m = M4.one ∨ (m.r ≤ m.p ∧ m.s ≤ m.q) ∨ (m.p ≤ m.r ∧ m.q ≤ m.s) := by
  obtain ⟨⟨p0, q0⟩, r0, s0⟩ := h
  unfold M4.det at d
  by_cases h1 : m.r ≤ m.p
  · by_cases h2 : m.s ≤ m.q
    · exact .inr (.inl ⟨h1, h2⟩)
    · by_cases h3 : m.p ≤ m.r
      · exact .inr (.inr ⟨h3, by omega⟩)
      · -- p > r, q < s
        left
        have k1 : (m.r + 1) * m.s ≤ m.p * m.s := Int.mul_le_mul_of_nonneg_right (by omega) s0
        have k2 : (m.q + 1) * m.r ≤ m.s * m.r := Int.mul_le_mul_of_nonneg_right (by omega) r0
        have e1 : (m.r + 1) * m.s = m.s * m.r + m.s := by grind
        have e2 : (m.q + 1) * m.r = m.q * m.r + m.r := by grind
        have s1 : m.s = 1 := by omega
        have r1 : m.r = 0 := by omega
        have q1 : m.q = 0 := by omega
        rw [s1, r1, q1] at d
        obtain ⟨p, q, r, s⟩ := m
        dsimp only at *
        subst s1 r1 q1
        have : p = 1 := by omega
        subst this
        rfl
  · by_cases h2 : m.q ≤ m.s
    · exact .inr (.inr ⟨by omega, h2⟩)
    · exfalso
      have k1 : m.p * m.s ≤ m.r * m.s := Int.mul_le_mul_of_nonneg_right (by omega) s0
      have k2 : m.r * m.s ≤ m.r * m.q := Int.mul_le_mul_of_nonneg_left (by omega) r0
      have e1 : m.r * m.q = m.q * m.r := Int.mul_comm _ _
      omega
theorem col_ne {m : M4} (d : m.det = 1) : (m.p ≠ 0 ∨ m.r ≠ 0) ∧ (m.q ≠ 0 ∨ m.s ≠ 0) := by
  unfold M4.det at d
  constructor
  · by_cases h : m.p = 0
    · right; intro z; rw [h, z] at d; simp at d
    · exact .inl h
  · by_cases h : m.q = 0
    · right; intro z; rw [h, z] at d; simp at d
    · exact .inl h
/-- the path: along the river ahead -/
theorem path : ∀ (N : Nat) {h : F3} {m : M4}, (m.p + m.q + m.r + m.s).toNat ≤ N → ¬ IsSq h.disc → Pos h → NN m → m.det = 1 → (h.act m).a * (h.act m).c < 0 → Pos (h.act m) ∧ ∃ k, h.act m = rvN k h := by
  intro N
  induction N with
  | zero =>
    intro h m hN hs hp hm hd hac
    obtain ⟨⟨p0, q0⟩, r0, s0⟩ := hm
    have := (col_ne hd).1
    omega
  | succ N ih =>
    intro h m hN hs hp hm hd hac
    rcases nn_cases hm hd with rfl | ⟨h1, h2⟩ | ⟨h1, h2⟩
    · rw [F3.act_one]
      exact ⟨hp, 0, rfl⟩
    · obtain ⟨⟨p0, q0⟩, r0, s0⟩ := hm
      have hn : ¬ 0 < h.a + h.b + h.c := fun z => by
        have k1 := cone_pos hp z r0 h1 (col_ne hd).1
        have k2 := cone_pos hp z s0 h2 (col_ne hd).2
        have := Int.mul_pos k1 k2
        have e : (h.act m).a * (h.act m).c = h.worth ⟨m.p, m.r⟩ * h.worth ⟨m.q, m.s⟩ := rfl
        omega
      have hz : h.a + h.b + h.c ≠ 0 := fun z => hs ⟨h.b + 2 * h.c, by
        have : h.a = -(h.b + h.c) := by omega
        unfold F3.disc
        rw [this]
        grind⟩
      have es : rvS h = h.act matR := by rw [act_R]; exact if_neg hn
      have em : m = matR.mul ⟨m.p - m.r, m.q - m.s, m.r, m.s⟩ := by
        obtain ⟨p, q, r, s⟩ := m
        unfold M4.mul matR
        dsimp only
        congr 1 <;> omega
      have hd2 : (⟨m.p - m.r, m.q - m.s, m.r, m.s⟩ : M4).det = 1 := by
        unfold M4.det at hd ⊢
        dsimp only
        grind
      have rs : 0 < m.r + m.s := by
        refine Int.not_le.mp fun z => ?_
        have r1 : m.r = 0 := by omega
        have s1 : m.s = 0 := by omega
        unfold M4.det at hd
        rw [r1, s1] at hd
        simp at hd
      have hp2 : Pos (h.act matR) := by rw [act_R]; exact ⟨hp.1, by show h.a + h.b + h.c < 0; omega⟩
      have ea : h.act m = (h.act matR).act ⟨m.p - m.r, m.q - m.s, m.r, m.s⟩ := by rw [F3.act_mul, ← em]
      rw [ea] at hac ⊢
      have := ih (h := h.act matR) (m := ⟨m.p - m.r, m.q - m.s, m.r, m.s⟩) (by dsimp only; omega) (by rw [F3.disc_act1 h (show matR.det = 1 from rfl)]; exact hs) hp2 ⟨⟨by dsimp only; omega, by dsimp only; omega⟩, r0, s0⟩ hd2 hac
      obtain ⟨k1, k, hk⟩ := this
      exact ⟨k1, k + 1, by rw [hk]; show _ = rvN k (rvS h); rw [es]⟩
    · obtain ⟨⟨p0, q0⟩, r0, s0⟩ := hm
      have hn : 0 < h.a + h.b + h.c := Int.not_le.mp fun z => by
        have k1 := cone_neg hp z p0 h1
        have k2 := cone_neg hp z q0 h2
        have := Int.mul_nonneg (show 0 ≤ -h.worth ⟨m.p, m.r⟩ by omega) (show 0 ≤ -h.worth ⟨m.q, m.s⟩ by omega)
        rw [Int.neg_mul_neg] at this
        have e : (h.act m).a * (h.act m).c = h.worth ⟨m.p, m.r⟩ * h.worth ⟨m.q, m.s⟩ := rfl
        omega
      have es : rvS h = h.act matL := by rw [act_L]; exact if_pos hn
      have em : m = matL.mul ⟨m.p, m.q, m.r - m.p, m.s - m.q⟩ := by
        obtain ⟨p, q, r, s⟩ := m
        unfold M4.mul matL
        dsimp only
        congr 1 <;> omega
      have hd2 : (⟨m.p, m.q, m.r - m.p, m.s - m.q⟩ : M4).det = 1 := by
        unfold M4.det at hd ⊢
        dsimp only
        grind
      have pq : 0 < m.p + m.q := by
        refine Int.not_le.mp fun z => ?_
        have r1 : m.p = 0 := by omega
        have s1 : m.q = 0 := by omega
        unfold M4.det at hd
        rw [r1, s1] at hd
        simp at hd
      have hp2 : Pos (h.act matL) := by rw [act_L]; exact ⟨hn, hp.2⟩
      have ea : h.act m = (h.act matL).act ⟨m.p, m.q, m.r - m.p, m.s - m.q⟩ := by rw [F3.act_mul, ← em]
      rw [ea] at hac ⊢
      have := ih (h := h.act matL) (m := ⟨m.p, m.q, m.r - m.p, m.s - m.q⟩) (by dsimp only; omega) (by rw [F3.disc_act1 h (show matL.det = 1 from rfl)]; exact hs) hp2 ⟨⟨p0, q0⟩, by dsimp only; omega, by dsimp only; omega⟩ hd2 hac
      obtain ⟨k1, k, hk⟩ := this
      exact ⟨k1, k + 1, by rw [hk]; show _ = rvN k (rvS h); rw [es]⟩
theorem act_neg (f : F3) (m : M4) : f.act ⟨-m.p, -m.q, -m.r, -m.s⟩ = f.act m := by apply F3.ext <;> (unfold F3.act F3.worth; dsimp only; grind)
theorem act_inv (f : F3) {m : M4} (d : m.det = 1) : (f.act m).act ⟨m.s, -m.q, -m.r, m.p⟩ = f := by
  rw [F3.act_mul]
  have e : m.mul ⟨m.s, -m.q, -m.r, m.p⟩ = M4.one := by
    unfold M4.det at d
    obtain ⟨p, q, r, s⟩ := m
    unfold M4.mul M4.one
    dsimp only at d ⊢
    congr 1 <;> grind
  rw [e, F3.act_one]
theorem neg_form (f : F3) (m : M4) : F3.act ⟨-f.a, -f.b, -f.c⟩ m = ⟨-(f.act m).a, -(f.act m).b, -(f.act m).c⟩ := by
  apply F3.ext <;> (unfold F3.act F3.worth; dsimp only) <;> grind
theorem act_turn (f : F3) (m : M4) : f.act ⟨m.q, -m.p, m.s, -m.r⟩ = ⟨(f.act m).c, -(f.act m).b, (f.act m).a⟩ := by
  apply F3.ext <;> (unfold F3.act F3.worth; dsimp only) <;> grind
/-- no path turns the signs -/
theorem no_flip {h : F3} {m : M4} (hs : ¬ IsSq h.disc) (hp : Pos h) (hm : NN m) (hd : m.det = 1) (h1 : (h.act m).a < 0) (h2 : 0 < (h.act m).c) : False := by
  have k : (h.act m).a * (h.act m).c < 0 := by
    have := Int.mul_pos (show 0 < -(h.act m).a by omega) h2
    rw [Int.neg_mul] at this
    omega
  have := (path _ (Nat.le_refl _) hs hp hm hd k).1.1
  omega
theorem pos_mul {h : F3} (hp : Pos h) : h.a * h.c < 0 := by
  have := Int.mul_pos hp.1 (show 0 < -h.c by have := hp.2; omega)
  rw [Int.mul_neg] at this
  omega
theorem nonneg_of {x y : Int} (h : 1 ≤ x * y) : (0 < x ∧ 0 < y) ∨ (x < 0 ∧ y < 0) := by
  rcases Int.lt_trichotomy x 0 with z | z | z
  · right
    refine ⟨z, Int.not_le.mp fun w => ?_⟩
    have := Int.mul_nonneg (show 0 ≤ -x by omega) w
    rw [Int.neg_mul] at this
    omega
  · rw [z, Int.zero_mul] at h; omega
  · left
    refine ⟨z, Int.not_le.mp fun w => ?_⟩
    have := Int.mul_nonneg (show 0 ≤ x by omega) (show 0 ≤ -y by omega)
    rw [Int.mul_neg] at this
    omega
/-- where the numbers of a matrix of determinant 1 lie -/
theorem quadrants {m : M4} (d : m.det = 1) :
    (0 ≤ m.p ∧ 0 ≤ m.q ∧ 0 ≤ m.r ∧ 0 ≤ m.s) ∨ (m.p ≤ 0 ∧ m.q ≤ 0 ∧ m.r ≤ 0 ∧ m.s ≤ 0) ∨ (0 ≤ m.p ∧ m.q ≤ 0 ∧ m.r ≤ 0 ∧ 0 ≤ m.s) ∨ (m.p ≤ 0 ∧ 0 ≤ m.q ∧ 0 ≤ m.r ∧ m.s ≤ 0) ∨
    (0 ≤ m.p ∧ m.q ≤ 0 ∧ 0 ≤ m.r ∧ m.s ≤ 0) ∨ (m.p ≤ 0 ∧ 0 ≤ m.q ∧ m.r ≤ 0 ∧ 0 ≤ m.s) ∨ (0 ≤ m.p ∧ 0 ≤ m.q ∧ m.r ≤ 0 ∧ m.s ≤ 0) ∨ (m.p ≤ 0 ∧ m.q ≤ 0 ∧ 0 ≤ m.r ∧ 0 ≤ m.s) := by
  unfold M4.det at d
  by_cases h : 1 ≤ m.p * m.s
  · have k : 0 ≤ m.q * m.r := by omega
    have qr : (0 ≤ m.q ∧ 0 ≤ m.r) ∨ (m.q ≤ 0 ∧ m.r ≤ 0) := by
      by_cases z : m.q * m.r = 0
      · rcases Int.mul_eq_zero.mp z with w | w <;> omega
      · rcases nonneg_of (x := m.q) (y := m.r) (by omega) <;> omega
    rcases nonneg_of h <;> omega
  · have k : 1 ≤ m.q * -m.r := by rw [Int.mul_neg]; omega
    have ps : (0 ≤ m.p ∧ 0 ≤ -m.s) ∨ (m.p ≤ 0 ∧ -m.s ≤ 0) := by
      by_cases z : m.p * m.s = 0
      · rcases Int.mul_eq_zero.mp z with w | w <;> omega
      · rcases nonneg_of (x := m.p) (y := -m.s) (by rw [Int.mul_neg]; omega) <;> omega
    rcases nonneg_of k <;> omega
/-- two forms with a river ahead of each other -/
theorem river {f : F3} {m : M4} (hs : ¬ IsSq f.disc) (hf : Pos f) (hg : Pos (f.act m)) (hd : m.det = 1) : ∃ k, f.act m = rvN k f ∨ f = rvN k (f.act m) := by
  have dm : ∀ {m : M4}, m.det = 1 → (⟨-m.p, -m.q, -m.r, -m.s⟩ : M4).det = 1 := fun {m} h => by unfold M4.det at h ⊢; dsimp only; rw [Int.neg_mul_neg, Int.neg_mul_neg]; exact h
  have di : ∀ {m : M4}, m.det = 1 → (⟨m.s, -m.q, -m.r, m.p⟩ : M4).det = 1 := fun {m} h => by unfold M4.det at h ⊢; dsimp only; rw [Int.neg_mul_neg, Int.mul_comm]; exact h
  have dt : ∀ {m : M4}, m.det = 1 → (⟨m.q, -m.p, m.s, -m.r⟩ : M4).det = 1 := fun {m} h => by unfold M4.det at h ⊢; dsimp only; grind
  have ds : (f.act m).disc = f.disc := F3.disc_act1 f hd
  -- ahead
  have A : ∀ {n : M4}, NN n → n.det = 1 → f.act n = f.act m → ∃ k, f.act m = rvN k f ∨ f = rvN k (f.act m) := fun {n} hn hd e => by
    obtain ⟨_, k, hk⟩ := path _ (Nat.le_refl _) hs hf hn hd (by rw [e]; exact pos_mul hg)
    exact ⟨k, .inl (by rw [← hk, e])⟩
  -- back
  have B : ∀ {n : M4}, NN n → n.det = 1 → (f.act m).act n = f → ∃ k, f.act m = rvN k f ∨ f = rvN k (f.act m) := fun {n} hn hd e => by
    obtain ⟨_, k, hk⟩ := path _ (Nat.le_refl _) (by rw [ds]; exact hs) hg hn hd (by rw [e]; exact pos_mul hf)
    exact ⟨k, .inr (by rw [← hk, e])⟩
  have key : ∀ {m : M4}, m.det = 1 → Pos (f.act m) → ((0 ≤ m.p ∧ m.q ≤ 0 ∧ 0 ≤ m.r ∧ m.s ≤ 0) ∨ (0 ≤ m.p ∧ 0 ≤ m.q ∧ m.r ≤ 0 ∧ m.s ≤ 0)) → False := fun {m} hd hg hq => by
    rcases hq with ⟨h1, h2, h3, h4⟩ | ⟨h1, h2, h3, h4⟩
    · -- (-v, u) has no number below 0
      have e := act_turn f ⟨-m.p, -m.q, -m.r, -m.s⟩
      rw [act_neg] at e
      dsimp only at e
      rw [Int.neg_neg, Int.neg_neg] at e
      have d2 := dt (dm hd)
      dsimp only at d2
      rw [Int.neg_neg, Int.neg_neg] at d2
      refine no_flip (m := ⟨-m.q, m.p, -m.s, m.r⟩) hs hf ⟨⟨by dsimp only; omega, h1⟩, by dsimp only; omega, h3⟩ d2 ?_ ?_
      · rw [e]; exact hg.2
      · rw [e]; exact hg.1
    · -- from the turned one back to f
      have e := act_turn f m
      have d2 := dt hd
      have e2 := act_inv f d2
      rw [e] at e2
      dsimp only at e2
      have d3 := di d2
      dsimp only at d3
      have e3 := neg_form ⟨(f.act m).c, -(f.act m).b, (f.act m).a⟩ ⟨-m.r, - -m.p, -m.s, m.q⟩
      rw [e2] at e3
      dsimp only at e3
      have d4 : F3.disc ⟨-(f.act m).c, - -(f.act m).b, -(f.act m).a⟩ = f.disc := by
        rw [← F3.disc_act1 f hd]
        unfold F3.disc
        dsimp only
        grind
      refine no_flip (h := ⟨-(f.act m).c, - -(f.act m).b, -(f.act m).a⟩) (m := ⟨-m.r, - -m.p, -m.s, m.q⟩) (by rw [d4]; exact hs) ⟨by have := hg.2; dsimp only; omega, by have := hg.1; dsimp only; omega⟩ ⟨⟨by dsimp only; omega, by dsimp only; omega⟩, by dsimp only; omega, h2⟩ d3 ?_ ?_
      · rw [e3]; have := hf.1; dsimp only; omega
      · rw [e3]; have := hf.2; dsimp only; omega
  rcases quadrants hd with ⟨h1, h2, h3, h4⟩ | ⟨h1, h2, h3, h4⟩ | ⟨h1, h2, h3, h4⟩ | ⟨h1, h2, h3, h4⟩ | h | ⟨h1, h2, h3, h4⟩ | h | ⟨h1, h2, h3, h4⟩
  · exact A ⟨⟨h1, h2⟩, h3, h4⟩ hd rfl
  · exact A (n := ⟨-m.p, -m.q, -m.r, -m.s⟩) ⟨⟨by dsimp only; omega, by dsimp only; omega⟩, by dsimp only; omega, by dsimp only; omega⟩ (dm hd) (act_neg f m)
  · exact B (n := ⟨m.s, -m.q, -m.r, m.p⟩) ⟨⟨h4, by dsimp only; omega⟩, by dsimp only; omega, h1⟩ (di hd) (act_inv f hd)
  · have e := act_inv f (dm hd)
    rw [act_neg] at e
    exact B (n := ⟨-m.s, - -m.q, - -m.r, -m.p⟩) ⟨⟨by dsimp only; omega, by dsimp only; omega⟩, by dsimp only; omega, by dsimp only; omega⟩ (di (dm hd)) e
  · exact (key hd hg (.inl h)).elim
  · exact (key (m := ⟨-m.p, -m.q, -m.r, -m.s⟩) (dm hd) (by rw [act_neg]; exact hg) (.inl ⟨by dsimp only; omega, by dsimp only; omega, by dsimp only; omega, by dsimp only; omega⟩)).elim
  · exact (key hd hg (.inr h)).elim
  · exact (key (m := ⟨-m.p, -m.q, -m.r, -m.s⟩) (dm hd) (by rw [act_neg]; exact hg) (.inr ⟨by dsimp only; omega, by dsimp only; omega, by dsimp only; omega, by dsimp only; omega⟩)).elim
/-! ### reduced forms are the turns of the river -/
theorem redI_ac {r : Int} {f : F3} (h : Rt f.disc r) (hf : RedI r f) : f.a * f.c < 0 := by
  obtain ⟨h1, h2, h3, h4⟩ := hf
  have bd : f.b * f.b < f.disc := (h.lt (by omega)).mpr h2
  unfold F3.disc at bd
  have e : 4 * f.a * f.c = 4 * (f.a * f.c) := by grind
  omega
theorem redI_c2 {r : Int} {f : F3} (h : Rt f.disc r) (hf : RedI r f) : r - f.b < 2 * iabs f.c ∧ 2 * iabs f.c ≤ r + f.b := by
  obtain ⟨h1, h2, h3, h4⟩ := hf
  have r0 := h.r0
  have bd : f.b * f.b < f.disc := (h.lt (by omega)).mpr h2
  have e := four_ac (f := f)
  have k : iabs (f.b * f.b - f.disc) = f.disc - f.b * f.b := by unfold iabs; split <;> omega
  rw [k] at e
  have a0 := iabs_nn f.a
  have c0 := iabs_nn f.c
  have up : f.disc - f.b * f.b < (r + 1 - f.b) * (r + 1 + f.b) := by
    have e2 : (r + 1 - f.b) * (r + 1 + f.b) = (r + 1) * (r + 1) - f.b * f.b := by grind
    have := h.hi
    omega
  have dn : (r - f.b) * (r + f.b) < f.disc - f.b * f.b := by
    have e2 : (r - f.b) * (r + f.b) = r * r - f.b * f.b := by grind
    have := h.lo
    omega
  have e3 : 2 * iabs f.a * (2 * iabs f.c) = 4 * (iabs f.a * iabs f.c) := by grind
  constructor
  · refine Int.not_le.mp fun w => ?_
    have q1 := Int.mul_le_mul_of_nonneg_left w (show 0 ≤ 2 * iabs f.a by omega)
    have q2 := Int.mul_le_mul_of_nonneg_right h4 (show 0 ≤ r - f.b by omega)
    have e5 : (r + f.b) * (r - f.b) = (r - f.b) * (r + f.b) := Int.mul_comm _ _
    omega
  · refine Int.not_lt.mp fun w => ?_
    have q1 := Int.mul_le_mul_of_nonneg_left (show r + 1 + f.b ≤ 2 * iabs f.c by omega) (show 0 ≤ 2 * iabs f.a by omega)
    have q2 := Int.mul_le_mul_of_nonneg_right (show r + 1 - f.b ≤ 2 * iabs f.a by omega) (show 0 ≤ r + 1 + f.b by omega)
    omega
/-- signs at the ends of the edge -/
theorem red_turn {r : Int} {f : F3} (h : Rt f.disc r) (hf : RedI r f) : 0 < f.a + f.b + f.c ∧ f.a - f.b + f.c < 0 := by
  have k := redI_c2 h hf
  have ac := redI_ac h hf
  obtain ⟨h1, h2, h3, h4⟩ := hf
  have sg : (0 < f.a ∧ f.c < 0) ∨ (f.a < 0 ∧ 0 < f.c) := by
    rcases nonneg_of (x := f.a) (y := -f.c) (by rw [Int.mul_neg]; omega) <;> omega
  unfold iabs at h3 h4 k
  rcases sg with ⟨z1, z2⟩ | ⟨z1, z2⟩
  · rw [if_neg (by omega)] at h3 h4
    rw [if_pos z2] at k
    omega
  · rw [if_pos z1] at h3 h4
    rw [if_neg (by omega)] at k
    omega
def posF (f : F3) : F3 := if 0 < f.a then f else ⟨f.c, -f.b, f.a⟩
theorem posF_pos {f : F3} (h : 0 < f.a) : posF f = f := if_pos h
theorem posF_neg {f : F3} (h : f.a < 0) : posF f = ⟨f.c, -f.b, f.a⟩ := if_neg (by omega)
theorem red_sgn {r : Int} {f : F3} (h : Rt f.disc r) (hf : RedI r f) : (0 < f.a ∧ f.c < 0) ∨ (f.a < 0 ∧ 0 < f.c) := by
  have ac := redI_ac h hf
  rcases nonneg_of (x := f.a) (y := -f.c) (by rw [Int.mul_neg]; omega) <;> omega
theorem posF_Pos {r : Int} {f : F3} (h : Rt f.disc r) (hf : RedI r f) : Pos (posF f) := by
  rcases red_sgn h hf with ⟨z1, z2⟩ | ⟨z1, z2⟩
  · rw [posF_pos z1]; exact ⟨z1, z2⟩
  · rw [posF_neg z1]; exact ⟨z2, z1⟩
/-- at a turn the two ends have unlike signs -/
theorem posF_turn {r : Int} {f : F3} (h : Rt f.disc r) (hf : RedI r f) : ¬ (0 < (posF f).a + (posF f).b + (posF f).c ∧ 0 < (posF f).a - (posF f).b + (posF f).c) ∧ ¬ ((posF f).a + (posF f).b + (posF f).c < 0 ∧ (posF f).a - (posF f).b + (posF f).c < 0) := by
  have t := red_turn h hf
  rcases red_sgn h hf with ⟨z1, z2⟩ | ⟨z1, z2⟩
  · rw [posF_pos z1]; omega
  · rw [posF_neg z1]; dsimp only; omega
theorem posF_inj {r : Int} {f g : F3} (h : Rt f.disc r) (hf : RedI r f) (h2 : Rt g.disc r) (hg : RedI r g) (e : posF f = posF g) : f = g := by
  have b1 := hf.1
  have b2 := hg.1
  rcases red_sgn h hf with ⟨z1, z2⟩ | ⟨z1, z2⟩ <;> rcases red_sgn h2 hg with ⟨y1, y2⟩ | ⟨y1, y2⟩
  · rw [posF_pos z1, posF_pos y1] at e; exact e
  · rw [posF_pos z1, posF_neg y1] at e
    have := congrArg F3.b e
    dsimp only at this
    omega
  · rw [posF_neg z1, posF_pos y1] at e
    have := congrArg F3.b e
    dsimp only at this
    omega
  · rw [posF_neg z1, posF_neg y1] at e
    injection e with e1 e2 e3
    exact F3.ext e3 (by omega) e1
/-- runs of one kind -/
def runL (h : F3) (j : Int) : F3 := ⟨h.a + h.b * j + h.c * (j * j), h.b + 2 * h.c * j, h.c⟩
def runR (h : F3) (j : Int) : F3 := ⟨h.a, h.b + 2 * h.a * j, h.a * (j * j) + h.b * j + h.c⟩
theorem runL_ok {h : F3} (hp : Pos h) : ∀ (k : Nat), 0 < (runL h k).a → ∀ j : Nat, j ≤ k → 0 < (runL h j).a ∧ rvN j h = runL h j := by
  intro k hk
  have mid : ∀ j : Nat, j ≤ k → 0 < (runL h j).a := fun j hj => by
    -- k a_j = (k - j) a_0 + j a_k - j (k - j) k c
    rcases Nat.eq_zero_or_pos k with k0 | k0
    · have : j = 0 := by omega
      subst this
      show 0 < h.a + h.b * 0 + h.c * (0 * 0)
      have := hp.1
      omega
    · refine Int.not_le.mp fun z => ?_
      have e : (k : Int) * (runL h j).a = ((k : Int) - j) * h.a + j * (runL h k).a + -h.c * (j * (k - j) * k) := by unfold runL; dsimp only; grind
      have p1 := Int.mul_le_mul_of_nonneg_left z (show 0 ≤ (k : Int) by omega)
      rw [Int.mul_zero] at p1
      have q1 := Int.mul_nonneg (show 0 ≤ (k : Int) - j by omega) (show 0 ≤ h.a by have := hp.1; omega)
      have q2 := Int.mul_nonneg (show 0 ≤ (j : Int) by omega) (show 0 ≤ (runL h k).a by omega)
      have q3 := Int.mul_nonneg (show 0 ≤ -h.c by have := hp.2; omega) (Int.mul_nonneg (Int.mul_nonneg (show 0 ≤ (j : Int) by omega) (show 0 ≤ (k : Int) - j by omega)) (show 0 ≤ (k : Int) by omega))
      rcases Nat.eq_zero_or_pos j with j0 | j0
      · have := Int.mul_pos (show 0 < (k : Int) - j by omega) hp.1
        omega
      · have := Int.mul_pos (show 0 < (j : Int) by omega) hk
        omega
  intro j
  induction j with
  | zero =>
    intro _
    refine ⟨mid 0 (by omega), ?_⟩
    apply F3.ext
    · show h.a = h.a + h.b * 0 + h.c * (0 * 0); omega
    · show h.b = h.b + 2 * h.c * 0; omega
    · rfl
  | succ j ih =>
    intro hj
    obtain ⟨h1, h2⟩ := ih (by omega)
    have h3 := mid (j + 1) hj
    refine ⟨h3, ?_⟩
    rw [rvN_add j 1, h2]
    show rvS (runL h j) = _
    have e : (runL h j).a + (runL h j).b + (runL h j).c = (runL h ((j + 1 : Nat) : Int)).a := by unfold runL; dsimp only; rw [Int.natCast_add]; grind
    unfold rvS
    rw [if_pos (by rw [e]; exact h3)]
    apply F3.ext
    · exact e
    · unfold runL; dsimp only; rw [Int.natCast_add]; grind
    · rfl
theorem runR_ok {h : F3} (hp : Pos h) : ∀ (k : Nat), (runR h k).c < 0 → ∀ j : Nat, j ≤ k → (runR h j).c < 0 ∧ rvN j h = runR h j := by
  intro k hk
  have mid : ∀ j : Nat, j ≤ k → (runR h j).c < 0 := fun j hj => by
    rcases Nat.eq_zero_or_pos k with k0 | k0
    · have : j = 0 := by omega
      subst this
      show h.a * (0 * 0) + h.b * 0 + h.c < 0
      have := hp.2
      omega
    · refine Int.not_le.mp fun z => ?_
      have e : (k : Int) * (runR h j).c = ((k : Int) - j) * h.c + j * (runR h k).c - h.a * (j * (k - j) * k) := by unfold runR; dsimp only; grind
      have p1 := Int.mul_nonneg (show 0 ≤ (k : Int) by omega) z
      have q1 := Int.mul_nonneg (show 0 ≤ (k : Int) - j by omega) (show 0 ≤ -h.c by have := hp.2; omega)
      have q2 := Int.mul_nonneg (show 0 ≤ (j : Int) by omega) (show 0 ≤ -(runR h k).c by omega)
      rw [Int.mul_neg] at q1 q2
      have q3 := Int.mul_nonneg (show 0 ≤ h.a by have := hp.1; omega) (Int.mul_nonneg (Int.mul_nonneg (show 0 ≤ (j : Int) by omega) (show 0 ≤ (k : Int) - j by omega)) (show 0 ≤ (k : Int) by omega))
      rcases Nat.eq_zero_or_pos j with j0 | j0
      · have := Int.mul_pos (show 0 < (k : Int) - j by omega) (show 0 < -h.c by have := hp.2; omega)
        rw [Int.mul_neg] at this
        omega
      · have := Int.mul_pos (show 0 < (j : Int) by omega) (show 0 < -(runR h k).c by omega)
        rw [Int.mul_neg] at this
        omega
  intro j
  induction j with
  | zero =>
    intro _
    refine ⟨mid 0 (by omega), ?_⟩
    apply F3.ext
    · rfl
    · show h.b = h.b + 2 * h.a * 0; omega
    · show h.c = h.a * (0 * 0) + h.b * 0 + h.c; omega
  | succ j ih =>
    intro hj
    obtain ⟨h1, h2⟩ := ih (by omega)
    have h3 := mid (j + 1) hj
    refine ⟨h3, ?_⟩
    rw [rvN_add j 1, h2]
    show rvS (runR h j) = _
    have e : (runR h j).a + (runR h j).b + (runR h j).c = (runR h ((j + 1 : Nat) : Int)).c := by unfold runR; dsimp only; rw [Int.natCast_add]; grind
    unfold rvS
    rw [if_neg (by rw [e]; omega)]
    apply F3.ext
    · rfl
    · unfold runR; dsimp only; rw [Int.natCast_add]; grind
    · exact e
/-- the next reduced form is the next turn -/
theorem next_turn {r : Int} {f : F3} (h : Rt f.disc r) (hf : RedI r f) : ∃ k : Nat, 1 ≤ k ∧ posF (nxt r f) = rvN k (posF f) ∧ ∀ j : Nat, 0 < j → j < k → ∀ g, Rt g.disc r → RedI r g → posF g ≠ rvN j (posF f) := by
  have hn := redI_nxt h hf
  have b1 := hf.1
  have b2 := hn.1
  have hd : Rt (nxt r f).disc r := by rw [nxt_disc]; exact h
  have sg2 := red_sgn hd hn
  obtain ⟨n, hn2⟩ : ∃ n, n = stNum r f := ⟨_, rfl⟩
  have ex : nxt r f = ⟨f.c, 2 * f.c * n - f.b, f.a - f.b * n + f.c * n * n⟩ := by rw [hn2]; exact act_step f _
  rw [ex] at b2 sg2
  dsimp only at b2 sg2
  rcases red_sgn h hf with ⟨z1, z2⟩ | ⟨z1, z2⟩
  · -- to the left: n < 0
    have n0 : n < 0 := by
      refine Int.not_le.mp fun w => ?_
      have := Int.mul_nonneg (show 0 ≤ -f.c by omega) w
      rw [Int.neg_mul] at this
      have e : 2 * f.c * n = 2 * (f.c * n) := by grind
      omega
    obtain ⟨k, rfl⟩ : ∃ k : Nat, n = -(k : Int) := ⟨(-n).toNat, by omega⟩
    have hp : Pos f := ⟨z1, z2⟩
    have ek : posF (nxt r f) = runL f k := by
      rw [ex, posF_neg (by exact z2)]
      apply F3.ext <;> (unfold runL; dsimp only) <;> grind
    have kp : 0 < (runL f k).a := by
      have : (runL f k).a = f.a - f.b * -(k : Int) + f.c * -(k : Int) * -(k : Int) := by unfold runL; dsimp only; grind
      omega
    have R := runL_ok hp k kp
    rw [posF_pos z1]
    refine ⟨k, by omega, by rw [ek, (R k (Nat.le_refl k)).2], fun j j0 jk g hgd hg e => ?_⟩
    have t := posF_turn hgd hg
    rw [e, (R j (by omega)).2] at t
    refine t.1 ⟨?_, ?_⟩
    · have := (R (j + 1) (by omega)).1
      have e : (runL f j).a + (runL f j).b + (runL f j).c = (runL f ((j + 1 : Nat) : Int)).a := by unfold runL; dsimp only; rw [Int.natCast_add]; grind
      omega
    · have := (R (j - 1) (by omega)).1
      have e : (runL f j).a - (runL f j).b + (runL f j).c = (runL f ((j - 1 : Nat) : Int)).a := by
        rw [show ((j - 1 : Nat) : Int) = (j : Int) - 1 by omega]
        unfold runL; dsimp only; grind
      omega
  · have n0 : 0 < n := by
      refine Int.not_le.mp fun w => ?_
      have := Int.mul_nonneg (show 0 ≤ f.c by omega) (show 0 ≤ -n by omega)
      rw [Int.mul_neg] at this
      have e : 2 * f.c * n = 2 * (f.c * n) := by grind
      omega
    obtain ⟨k, rfl⟩ : ∃ k : Nat, n = (k : Int) := ⟨n.toNat, by omega⟩
    have hp : Pos ⟨f.c, -f.b, f.a⟩ := ⟨z2, z1⟩
    have ek : posF (nxt r f) = runR ⟨f.c, -f.b, f.a⟩ k := by
      rw [ex, posF_pos (by exact z2)]
      apply F3.ext <;> (unfold runR; dsimp only) <;> grind
    have kp : (runR ⟨f.c, -f.b, f.a⟩ k).c < 0 := by
      have : (runR ⟨f.c, -f.b, f.a⟩ k).c = f.a - f.b * (k : Int) + f.c * (k : Int) * (k : Int) := by unfold runR; dsimp only; grind
      omega
    have R := runR_ok hp k kp
    rw [posF_neg z1]
    refine ⟨k, by omega, by rw [ek, (R k (Nat.le_refl k)).2], fun j j0 jk g hgd hg e => ?_⟩
    have t := posF_turn hgd hg
    rw [e, (R j (by omega)).2] at t
    refine t.2 ⟨?_, ?_⟩
    · have := (R (j + 1) (by omega)).1
      have e : (runR ⟨f.c, -f.b, f.a⟩ j).a + (runR ⟨f.c, -f.b, f.a⟩ j).b + (runR ⟨f.c, -f.b, f.a⟩ j).c = (runR ⟨f.c, -f.b, f.a⟩ ((j + 1 : Nat) : Int)).c := by unfold runR; dsimp only; rw [Int.natCast_add]; grind
      omega
    · have := (R (j - 1) (by omega)).1
      have e : (runR ⟨f.c, -f.b, f.a⟩ j).a - (runR ⟨f.c, -f.b, f.a⟩ j).b + (runR ⟨f.c, -f.b, f.a⟩ j).c = (runR ⟨f.c, -f.b, f.a⟩ ((j - 1 : Nat) : Int)).c := by
        rw [show ((j - 1 : Nat) : Int) = (j : Int) - 1 by omega]
        unfold runR; dsimp only; grind
      omega
def nxtN (r : Int) : Nat → F3 → F3
  | 0, f => f
  | n + 1, f => nxtN r n (nxt r f)
theorem turns (r : Int) : ∀ (n : Nat) {f g : F3}, Rt f.disc r → RedI r f → Rt g.disc r → RedI r g → posF g = rvN n (posF f) → ∃ j, g = nxtN r j f := by
  intro n
  induction n using Nat.strongRecOn with
  | ind n ih =>
    intro f g h hf h2 hg e
    rcases Nat.eq_zero_or_pos n with rfl | n0
    · exact ⟨0, (posF_inj h hf h2 hg e.symm).symm⟩
    · obtain ⟨k, k1, k2, k3⟩ := next_turn h hf
      by_cases nk : n < k
      · exact absurd e (k3 n n0 nk g h2 hg)
      · have e2 : posF g = rvN (n - k) (posF (nxt r f)) := by
          rw [k2, ← rvN_add, show k + (n - k) = n by omega]
          exact e
        obtain ⟨j, hj⟩ := ih (n - k) (by omega) (by rw [nxt_disc]; exact h) (redI_nxt h hf) h2 hg e2
        exact ⟨j + 1, hj⟩
/-- reduced forms that a matrix of determinant 1 leads to each other lie in one cycle -/
theorem one_cycle {r : Int} {f : F3} {m : M4} (hs : ¬ IsSq f.disc) (h : Rt f.disc r) (hf : RedI r f) (hd : m.det = 1) (hg : RedI r (f.act m)) : ∃ j, f.act m = nxtN r j f ∨ f = nxtN r j (f.act m) := by
  have h2 : Rt (f.act m).disc r := by rw [F3.disc_act1 f hd]; exact h
  have turnM : M4 := ⟨0, -1, 1, 0⟩
  have sp : ∀ {g : F3}, RedI r g → Rt g.disc r → ∃ n : M4, n.det = 1 ∧ posF g = g.act n ∧ ∃ n' : M4, n'.det = 1 ∧ g = (posF g).act n' := fun {g} hg h => by
    rcases red_sgn h hg with ⟨z1, z2⟩ | ⟨z1, z2⟩
    · rw [posF_pos z1]; exact ⟨M4.one, rfl, (F3.act_one g).symm, M4.one, rfl, (F3.act_one g).symm⟩
    · have e := act_turn g M4.one
      rw [F3.act_one] at e
      have d : (⟨M4.one.q, -M4.one.p, M4.one.s, -M4.one.r⟩ : M4).det = 1 := rfl
      rw [posF_neg z1]
      refine ⟨_, d, e.symm, ⟨0, 1, -1, 0⟩, rfl, ?_⟩
      rw [← e]
      exact (act_inv g d).symm
  obtain ⟨n1, d1, e1, n1', d1', e1'⟩ := sp hf h
  obtain ⟨n2, d2, e2, _⟩ := sp hg h2
  have e : posF (f.act m) = (posF f).act ((n1'.mul m).mul n2) := by
    rw [e2, ← F3.act_mul, ← F3.act_mul, ← e1']
  have dd : ((n1'.mul m).mul n2).det = 1 := by rw [M4.det_mul, M4.det_mul, d1', hd, d2]; rfl
  have dp : (posF f).disc = f.disc := by rw [e1]; exact F3.disc_act1 f d1
  have P2 := posF_Pos h2 hg
  rw [e] at P2
  obtain ⟨k, hk⟩ := river (by rw [dp]; exact hs) (posF_Pos h hf) P2 dd
  rw [← e] at hk
  rcases hk with hk | hk
  · obtain ⟨j, hj⟩ := turns r k h hf h2 hg hk
    exact ⟨j, .inl hj⟩
  · obtain ⟨j, hj⟩ := turns r k h2 hg h hf hk
    exact ⟨j, .inr hj⟩
end DL
set_option maxHeartbeats 1000000
namespace DL
open PySem PySem.Spec PyProof.Rows L2
/-! ### the order of tuples of ints -/
def tI (xs : List Int) : D := .tup (xs.map D.int)
theorem ps_map : ∀ ds : List D, D.ps ds = ds.map D.p
  | [] => by unfold D.ps; rfl
  | d :: ds => by unfold D.ps; rw [ps_map ds]; rfl
theorem p_tI (xs : List Int) : (tI xs).p = .tuple (xs.map .int) := by
  unfold tI
  conv => lhs; unfold D.p
  rw [ps_map, List.map_map]
  rfl
theorem dLt_tI (xs ys : List Int) : dLt (tI xs) (tI ys) = decide (xs < ys) := by
  unfold dLt
  rw [p_tI, p_tI]
  exact PySem.W.dataLt_ints xs ys
theorem alike_tI (xs ys : List Int) : alikeD (tI xs) (tI ys) = true := by
  unfold alikeD
  rw [p_tI, p_tI]
  exact PySem.W.alike_ints xs ys
theorem ok_tI (xs : List Int) : D.ok (tI xs) = true := ok_tup (by
  have : ∀ (n : Nat) (xs : List Int), okNs n (xs.map D.int) = true := fun n xs => by
    induction xs with
    | nil => exact okNs_nil
    | cons x xs ih => exact okNs_int ih
  exact this 59 xs)
theorem eqvAll_int : ∀ xs ys : List Int, PyData.eqvAll (xs.map .int) (ys.map .int) = decide (xs = ys)
  | [], [] => rfl
  | [], y :: ys => by
    rw [decide_eq_false (by intro h; cases h)]
    rfl
  | x :: xs, [] => by
    rw [decide_eq_false (by intro h; cases h)]
    rfl
  | x :: xs, y :: ys => by
    have e : PyData.eqvAll ((x :: xs).map .int) ((y :: ys).map .int) = (PyData.eqv (.int x) (.int y) && PyData.eqvAll (xs.map .int) (ys.map .int)) := by
      rw [List.map_cons, List.map_cons]
      conv => lhs; unfold PyData.eqvAll
    rw [e, eqvAll_int xs ys, show PyData.eqv (.int x) (.int y) = decide (x = y) from eqv_int]
    by_cases h1 : x = y <;> by_cases h2 : xs = ys <;> simp [h1, h2]
theorem eqv_tI (xs ys : List Int) : D.eqv (tI xs) (tI ys) = decide (xs = ys) := by
  unfold D.eqv
  rw [p_tI, p_tI]
  show PyData.eqvAll (xs.map .int) (ys.map .int) = _
  exact eqvAll_int xs ys
theorem tI_inj {xs ys : List Int} (h : tI xs = tI ys) : xs = ys := by
  unfold tI at h
  injection h with h
  exact List.map_inj_right (fun a b e => by injection e) |>.mp h
theorem sortOk_tI {l : List (List Int)} (h : ∀ x ∈ l, x ≠ []) : SortOk (l.map tI) := by
  refine ⟨fun x hx => ?_, fun x hx y hy => ?_, .inl fun x hx => ?_⟩
  · obtain ⟨a, _, rfl⟩ := List.mem_map.mp hx; exact ok_tI a
  · obtain ⟨a, _, rfl⟩ := List.mem_map.mp hx
    obtain ⟨b, _, rfl⟩ := List.mem_map.mp hy
    exact alike_tI a b
  · obtain ⟨a, ha, rfl⟩ := List.mem_map.mp hx
    cases a with
    | nil => exact absurd rfl (h _ ha)
    | cons y r => exact ⟨.int y, r.map D.int, rfl⟩
def unI : D → Option Int
  | D.int i => some i
  | _ => none
def unT : D → List Int
  | D.tup xs => xs.filterMap unI
  | _ => []
theorem unT_tI : ∀ xs : List Int, unT (tI xs) = xs := fun xs => by
  show (xs.map D.int).filterMap unI = xs
  induction xs with
  | nil => rfl
  | cons x xs ih => rw [List.map_cons, List.filterMap_cons]; show x :: (xs.map D.int).filterMap unI = _; rw [ih]
theorem perm_map_tI : ∀ {l : List (List Int)} {ds : List D}, List.Perm ds (l.map tI) → ∃ m : List (List Int), ds = m.map tI ∧ List.Perm m l := by
  intro l ds h
  have : ∀ (ds : List D), (∀ d ∈ ds, ∃ x ∈ l, d = tI x) → ∃ m : List (List Int), ds = m.map tI := by
    intro ds
    induction ds with
    | nil => intro _; exact ⟨[], rfl⟩
    | cons d ds ih =>
      intro h
      obtain ⟨x, _, e⟩ := h d List.mem_cons_self
      obtain ⟨m, e2⟩ := ih fun d hd => h d (List.mem_cons_of_mem _ hd)
      exact ⟨x :: m, by rw [List.map_cons, e, e2]⟩
  obtain ⟨m, e⟩ := this ds fun d hd => by
    obtain ⟨x, hx, e⟩ := List.mem_map.mp (h.mem_iff.mp hd)
    exact ⟨x, hx, e.symm⟩
  subst e
  refine ⟨m, rfl, ?_⟩
  have k := h.map unT
  have i1 : ∀ l : List (List Int), (l.map tI).map unT = l := fun l => by
    induction l with
    | nil => rfl
    | cons x l ih => rw [List.map_cons, List.map_cons, ih, unT_tI]
  rw [i1, i1] at k
  exact k
/-- what sorted gives of a list of tuples of ints -/
theorem sorted_tI {l : List (List Int)} {q : EV → Prop} (h : ∀ x ∈ l, x ≠ []) (k : ∀ m : List (List Int), List.Perm m l → m.Pairwise (· ≤ ·) → q (.own (m.map tI))) : fSorted (.lst (l.map tI)) q := by
  refine ⟨sortOk_tI h, fun ds' hp hs => ?_⟩
  obtain ⟨m, rfl, pm⟩ := perm_map_tI hp
  refine k m pm ?_
  refine (List.pairwise_map.mp hs).imp fun {x y} e => ?_
  rw [dLt_tI] at e
  exact List.not_lt.mp (of_decide_eq_false e)
/-- sorted lists with the same members are one -/
theorem asc_perm {l m : List (List Int)} (pm : List.Perm l m) (hl : l.Pairwise (· ≤ ·)) (hm : m.Pairwise (· ≤ ·)) : l = m :=
  pm.eq_of_pairwise (fun a b _ _ h1 h2 => List.le_antisymm h1 h2) hl hm
theorem perm_of_mem {l m : List (List Int)} (nl : l.Nodup) (nm : m.Nodup) (h : ∀ x, x ∈ l ↔ x ∈ m) : List.Perm l m := (List.perm_ext_iff_of_nodup nl nm).mpr h
def F3.L (f : F3) : List Int := [f.a, f.b, f.c]
def M4.L (m : M4) : List Int := [m.p, m.q, m.r, m.s]
def P2.L (m : P2) : List Int := [m.x, m.y]
theorem F3.tI (f : F3) : f.D = DL.tI f.L := rfl
theorem M4.tI (f : M4) : f.D = DL.tI f.L := rfl
theorem P2.tI (f : P2) : f.D = DL.tI f.L := rfl
theorem F3.L_inj {f g : F3} (h : f.L = g.L) : f = g := by
  unfold F3.L at h
  injection h with h1 h
  injection h with h2 h
  injection h with h3 h
  exact F3.ext h1 h2 h3
theorem M4.L_inj {f g : M4} (h : f.L = g.L) : f = g := by
  unfold M4.L at h
  injection h with h1 h
  injection h with h2 h
  injection h with h3 h
  injection h with h4 h
  exact M4.ext h1 h2 h3 h4
theorem map_D {α : Type} {D_ : α → D} {L_ : α → List Int} (e : ∀ x, D_ x = tI (L_ x)) (l : List α) : l.map D_ = (l.map L_).map tI := by
  rw [List.map_map]
  exact List.map_congr_left fun x _ => e x
theorem nodup_map {α β : Type} {f : α → β} (hf : ∀ a b, f a = f b → a = b) {l : List α} (h : l.Nodup) : (l.map f).Nodup := List.pairwise_map.mpr (h.imp fun {a b} hne e => hne (hf a b e))
end DL
set_option maxHeartbeats 1000000
namespace DL
/-! ### the cycle of a reduced form -/
theorem nxtN_succ (r : Int) : ∀ (n : Nat) (f : F3), nxtN r (n + 1) f = nxt r (nxtN r n f)
  | 0, _ => rfl
  | n + 1, f => nxtN_succ r n (nxt r f)
theorem nxtN_add (r : Int) : ∀ (m n : Nat) (f : F3), nxtN r (m + n) f = nxtN r n (nxtN r m f)
  | 0, n, f => by rw [Nat.zero_add]; rfl
  | m + 1, n, f => by rw [Nat.add_right_comm]; exact nxtN_add r m n (nxt r f)
theorem nxtN_disc (r : Int) : ∀ (n : Nat) (f : F3), (nxtN r n f).disc = f.disc
  | 0, _ => rfl
  | n + 1, f => by rw [nxtN_succ, nxt_disc, nxtN_disc r n f]
theorem nxtN_red {r : Int} {f : F3} (h : Rt f.disc r) (hf : RedI r f) : ∀ n, RedI r (nxtN r n f)
  | 0 => hf
  | n + 1 => by rw [nxtN_succ]; exact redI_nxt (by rw [nxtN_disc]; exact h) (nxtN_red h hf n)
theorem nxt_inj {r : Int} {f g : F3} (h : Rt f.disc r) (hf : RedI r f) (hg : RedI r g) (hd : f.disc = g.disc) (e : nxt r f = nxt r g) : f = g := by
  have h2 : Rt g.disc r := by rw [← hd]; exact h
  have fs := red_sgn h hf
  have gs := red_sgn h2 hg
  have fc : f.c ≠ 0 := by omega
  have gc : g.c ≠ 0 := by omega
  have k1 := nxt_ab (r := r) fc
  have k2 := nxt_ab (r := r) gc
  have m1 := (stMid_spec (r := r) fc).2.2
  have m2 := (stMid_spec (r := r) gc).2.2
  have c1 := redI_c2 h hf
  have c2 := redI_c2 h2 hg
  have ec : f.c = g.c := by rw [← k1.1, ← k2.1, e]
  have em : stMid r f = stMid r g := by rw [← k1.2, ← k2.2, e]
  rw [em] at m1
  rw [ec] at m1 c1
  have c0 := iabs_pos gc
  have kb : 2 * g.c * (stNum r f - stNum r g) = f.b - g.b := by rw [Int.mul_sub]; omega
  have hfb := hf.2.1
  have hgb := hg.2.1
  have z : stNum r f - stNum r g = 0 := by
    generalize stNum r f - stNum r g = t at kb
    have k3 : iabs (2 * g.c * t) < 2 * iabs g.c := by rw [kb]; unfold iabs at *; split <;> omega
    rw [iabs_mul, iabs_mul, show iabs 2 = 2 from rfl] at k3
    refine Decidable.byContradiction fun t0 => ?_
    have := Int.mul_le_mul_of_nonneg_left (show 1 ≤ iabs t by have := iabs_pos t0; omega) (show 0 ≤ 2 * iabs g.c by omega)
    omega
  rw [z, Int.mul_zero] at kb
  have eb : f.b = g.b := by omega
  refine F3.ext ?_ eb ec
  unfold F3.disc at hd
  rw [eb, ec] at hd
  have : (4 * g.c) * f.a = (4 * g.c) * g.a := by
    have e1 : (4 * g.c) * f.a = 4 * f.a * g.c := by grind
    have e2 : (4 * g.c) * g.a = 4 * g.a * g.c := by grind
    omega
  exact Int.eq_of_mul_eq_mul_left (by omega) this
structure CyP (r : Int) (f : F3) (l : Nat) : Prop where
  l0 : 1 ≤ l
  back : nxtN r l f = f
  first : ∀ i, 1 ≤ i → i < l → nxtN r i f ≠ f
theorem cy_mod {r : Int} {f : F3} {l : Nat} (P : CyP r f l) (n : Nat) : nxtN r n f = nxtN r (n % l) f := by
  induction n using Nat.strongRecOn with
  | ind n ih =>
    by_cases h : n < l
    · rw [Nat.mod_eq_of_lt h]
    · have l0 := P.l0
      have e := nxtN_add r l (n - l) f
      rw [show l + (n - l) = n by omega, P.back] at e
      have k := Nat.mod_eq_sub_mod (show n ≥ l by omega)
      rw [e, ih (n - l) (by omega), k]
/-- all different -/
theorem cy_ne {r : Int} {f : F3} {l : Nat} (P : CyP r f l) {i j : Nat} (ij : i < j) (jl : j < l) : nxtN r i f ≠ nxtN r j f := fun e => by
  have k1 := nxtN_add r i (l - j) f
  have k2 := nxtN_add r j (l - j) f
  rw [← e, ← k1, show j + (l - j) = l by omega, P.back] at k2
  exact P.first (i + (l - j)) (by omega) (by omega) k2.symm
/-! how long a cycle is -/
def rcodes (B : Nat) : List (Nat × Nat × Nat) := [0, 1].flatMap fun s => (List.range B).flatMap fun β => (List.range (2 * β + 2)).map fun x => (s, β, x)
theorem rcodes_len (B : Nat) : (rcodes B).length = 2 * (B * (B + 1)) := by
  have k : ∀ s : Nat, ((List.range B).flatMap fun β => (List.range (2 * β + 2)).map fun x => (s, β, x)).length = B * (B + 1) := fun s => by
    induction B with
    | zero => rfl
    | succ B ih =>
      rw [List.range_succ, List.flatMap_append, List.length_append, ih, List.flatMap_singleton, List.length_map, List.length_range]
      have e1 : (B + 1) * (B + 1 + 1) = B * (B + 1) + 2 * B + 2 := by grind
      omega
  unfold rcodes
  rw [List.flatMap_cons, List.flatMap_cons, List.flatMap_nil, List.append_nil, List.length_append, k, k]
  omega
def rcode (r : Int) (f : F3) : Nat × Nat × Nat := (if 0 < f.a then 0 else 1, f.b.toNat / 2, ((2 * iabs f.a - (r - f.b) - 1) / 2).toNat)
theorem rcode_mem {r : Int} {f : F3} {B : Nat} (hf : RedI r f) (hB : r < 2 * (B : Int)) : rcode r f ∈ rcodes B := by
  obtain ⟨h1, h2, h3, h4⟩ := hf
  unfold rcodes rcode
  refine List.mem_flatMap.mpr ⟨if 0 < f.a then 0 else 1, by split <;> decide, ?_⟩
  refine List.mem_flatMap.mpr ⟨f.b.toNat / 2, List.mem_range.mpr (by omega), ?_⟩
  exact List.mem_map.mpr ⟨_, List.mem_range.mpr (by omega), rfl⟩
theorem rcode_inj {r : Int} {f g : F3} (hr : Rt f.disc r) (hf : RedI r f) (hg : RedI r g) (hd : f.disc = g.disc) (e : rcode r f = rcode r g) : f = g := by
  have h2 : Rt g.disc r := by rw [← hd]; exact hr
  have fs := red_sgn hr hf
  have gs := red_sgn h2 hg
  obtain ⟨a1, a2, a3, a4⟩ := hf
  obtain ⟨b1, b2, b3, b4⟩ := hg
  unfold rcode at e
  injection e with e1 e
  injection e with e2 e3
  have par : f.b % 2 = g.b % 2 := by
    unfold F3.disc at hd
    have s1 : (f.b * f.b) % 2 = (g.b * g.b) % 2 := by
      have k1 : 4 * f.a * f.c = 2 * (2 * (f.a * f.c)) := by grind
      have k2 : 4 * g.a * g.c = 2 * (2 * (g.a * g.c)) := by grind
      omega
    rw [Int.mul_emod, Int.mul_emod g.b] at s1
    rcases (by omega : f.b % 2 = 0 ∨ f.b % 2 = 1) with x | x <;> rcases (by omega : g.b % 2 = 0 ∨ g.b % 2 = 1) with y | y <;> rw [x, y] at s1 ⊢ <;> simp at s1
  have eb : f.b = g.b := by omega
  have ea : iabs f.a = iabs g.a := by rw [eb] at e3 a3; omega
  have ea2 : f.a = g.a := by
    unfold iabs at ea
    rcases fs with ⟨x, _⟩ | ⟨x, _⟩ <;> rcases gs with ⟨y, _⟩ | ⟨y, _⟩
    · rw [if_neg (by omega), if_neg (by omega)] at ea; exact ea
    · rw [if_pos x, if_neg (by omega)] at e1; exact absurd e1 (by decide)
    · rw [if_neg (by omega), if_pos y] at e1; exact absurd e1 (by decide)
    · rw [if_pos x, if_pos y] at ea; omega
  refine F3.ext ea2 eb ?_
  unfold F3.disc at hd
  rw [eb, ea2] at hd
  have : (4 * g.a) * f.c = (4 * g.a) * g.c := by omega
  exact Int.eq_of_mul_eq_mul_left (by omega) this
theorem nodup_sub2 {α : Type} [DecidableEq α] : ∀ (c l : List α), l.Nodup → (∀ x ∈ l, x ∈ c) → l.length ≤ c.length
  | [], l, _, h => by
    rcases l with _ | ⟨x, l⟩
    · exact Nat.le_refl _
    · exact absurd (h x List.mem_cons_self) List.not_mem_nil
  | a :: c, l, hn, h => by
    rw [List.length_cons]
    by_cases z : a ∈ l
    · have := nodup_sub2 c (l.erase a) (hn.erase a) fun x hx => by
        have hx := (hn.mem_erase_iff).mp hx
        rcases List.mem_cons.mp (h x hx.2) with e | e
        · exact absurd e hx.1
        · exact e
      rw [List.length_erase_of_mem z] at this
      omega
    · have := nodup_sub2 c l hn fun x hx => by
        rcases List.mem_cons.mp (h x hx) with e | e
        · exact absurd (e ▸ hx) z
        · exact e
      omega
theorem back_cy {r : Int} {f : F3} (hr : Rt f.disc r) (hf : RedI r f) : ∀ {i j : Nat}, i < j → nxtN r i f = nxtN r j f → nxtN r (j - i) f = f
  | 0, j, _, e => by rw [Nat.sub_zero]; exact e.symm
  | i + 1, j + 1, h, e => by
    rw [nxtN_succ, nxtN_succ] at e
    have := nxt_inj (by rw [nxtN_disc]; exact hr) (nxtN_red hr hf i) (nxtN_red hr hf j) (by rw [nxtN_disc, nxtN_disc]) e
    rw [Nat.add_sub_add_right]
    exact back_cy hr hf (by omega) this
  | _ + 1, 0, h, _ => by omega
theorem least2 {p : Nat → Prop} : ∀ n, p n → ∃ m, m ≤ n ∧ p m ∧ ∀ i, i < m → ¬ p i := by
  intro n
  induction n using Nat.strongRecOn with
  | ind n ih =>
    intro h
    by_cases k : ∃ i, i < n ∧ p i
    · obtain ⟨i, hi, pi⟩ := k
      obtain ⟨m, hm, z⟩ := ih i hi pi
      exact ⟨m, by omega, z⟩
    · exact ⟨n, Nat.le_refl _, h, fun i hi z => k ⟨i, hi, z⟩⟩
theorem cy_exists {r : Int} {f : F3} {B : Nat} (hr : Rt f.disc r) (hf : RedI r f) (hB : r < 2 * (B : Int)) : ∃ l, CyP r f l ∧ l ≤ 2 * (B * (B + 1)) := by
  obtain ⟨N, hN⟩ : ∃ N, N = 2 * (B * (B + 1)) := ⟨_, rfl⟩
  have ex : ∃ i j, i < j ∧ j ≤ N ∧ nxtN r i f = nxtN r j f := by
    refine Classical.byContradiction fun z => ?_
    have nd : ((List.range (N + 1)).map fun i => rcode r (nxtN r i f)).Nodup := by
      refine List.pairwise_map.mpr ?_
      refine (List.pairwise_lt_range (n := N + 1)).imp_of_mem fun {i j} hi hj lt e => z ⟨i, j, lt, by have := List.mem_range.mp hj; omega, rcode_inj (by rw [nxtN_disc]; exact hr) (nxtN_red hr hf i) (nxtN_red hr hf j) (by rw [nxtN_disc, nxtN_disc]) e⟩
    have k := nodup_sub2 (rcodes B) _ nd fun x hx => by
      obtain ⟨i, _, rfl⟩ := List.mem_map.mp hx
      exact rcode_mem (nxtN_red hr hf i) hB
    rw [List.length_map, List.length_range, rcodes_len, ← hN] at k
    omega
  obtain ⟨i, j, h1, h2, h3⟩ := ex
  obtain ⟨m, hm, ⟨m0, mb⟩, fst⟩ := least2 (p := fun l => 1 ≤ l ∧ nxtN r l f = f) (j - i) ⟨by omega, back_cy hr hf h1 h3⟩
  exact ⟨m, ⟨m0, mb, fun i i0 il e => fst i il ⟨i0, e⟩⟩, by omega⟩
/-! the matrices along it -/
def cyM (r : Int) (f : F3) : Nat → M4
  | 0 => M4.one
  | n + 1 => (cyM r f n).mul (stepM (stNum r (nxtN r n f)))
theorem cyM_det (r : Int) (f : F3) : ∀ n, (cyM r f n).det = 1
  | 0 => rfl
  | n + 1 => by
    show ((cyM r f n).mul _).det = 1
    rw [M4.det_mul, cyM_det r f n, det_stepM]; rfl
theorem cyM_act (r : Int) (f : F3) : ∀ n, f.act (cyM r f n) = nxtN r n f
  | 0 => F3.act_one f
  | n + 1 => by
    show f.act ((cyM r f n).mul _) = _
    rw [← F3.act_mul, cyM_act r f n, nxtN_succ]
    rfl
/-- the reduced forms that f leads to are those of the cycle -/
theorem in_cycle {r : Int} {f : F3} {l : Nat} {m : M4} (hs : ¬ IsSq f.disc) (hr : Rt f.disc r) (hf : RedI r f) (P : CyP r f l) (hd : m.det = 1) (hg : RedI r (f.act m)) : ∃ i, i < l ∧ f.act m = nxtN r i f := by
  have l0 := P.l0
  obtain ⟨j, h | h⟩ := one_cycle hs hr hf hd hg
  · exact ⟨j % l, Nat.mod_lt _ (by omega), by rw [h]; exact cy_mod P j⟩
  · -- f = nxt^j g: then g is the one that stands j steps before f
    have gr : Rt (f.act m).disc r := by rw [F3.disc_act1 f hd]; exact hr
    have e : nxtN r (j * l) f = f := by rw [cy_mod P, Nat.mul_mod_left]; rfl
    -- nxt^j of (nxt^(j l - j) f) is f
    have e2 : nxtN r j (nxtN r (j * l - j) f) = f := by
      have jl : j ≤ j * l := Nat.le_mul_of_pos_right j (by omega)
      rw [← nxtN_add, show j * l - j + j = j * l by omega]
      exact e
    have inj : ∀ (n : Nat) {x y : F3}, Rt x.disc r → RedI r x → RedI r y → x.disc = y.disc → nxtN r n x = nxtN r n y → x = y := by
      intro n
      induction n with
      | zero => intro x y _ _ _ _ e; exact e
      | succ n ih =>
        intro x y hx rx ry hd e
        rw [nxtN_succ, nxtN_succ] at e
        exact ih hx rx ry hd (nxt_inj (by rw [nxtN_disc]; exact hx) (nxtN_red hx rx n) (nxtN_red (by rw [← hd]; exact hx) ry n) (by rw [nxtN_disc, nxtN_disc, hd]) e)
    have e3 := inj j gr hg (nxtN_red hr hf (j * l - j)) (by rw [nxtN_disc, F3.disc_act1 f hd]) (h.symm.trans e2.symm)
    exact ⟨(j * l - j) % l, Nat.mod_lt _ (by omega), by rw [e3]; exact cy_mod P _⟩
/-! the least reduced form -/
def Eqv (f g : F3) : Prop := ∃ m : M4, m.det = 1 ∧ f.act m = g
structure LeastOf (r : Int) (f g : F3) : Prop where
  red : RedI r g
  eqv : Eqv f g
  min : ∀ h, RedI r h → Eqv f h → ¬ h.L < g.L
theorem Eqv.trans {f g h : F3} (a : Eqv f g) (b : Eqv g h) : Eqv f h := by
  obtain ⟨m, hm, rfl⟩ := a
  obtain ⟨n, hn, rfl⟩ := b
  exact ⟨m.mul n, by rw [M4.det_mul, hm, hn]; rfl, (F3.act_mul _ _ _).symm⟩
theorem Eqv.symm {f g : F3} (a : Eqv f g) : Eqv g f := by
  obtain ⟨m, hm, rfl⟩ := a
  refine ⟨⟨m.s, -m.q, -m.r, m.p⟩, ?_, act_inv f hm⟩
  unfold M4.det at hm ⊢
  dsimp only
  rw [Int.neg_mul_neg, Int.mul_comm]
  exact hm
theorem F3.L_inj2 {f g : F3} (h : f.L = g.L) : f = g := by
  unfold F3.L at h
  injection h with h1 h
  injection h with h2 h
  injection h with h3 h
  exact F3.ext h1 h2 h3
theorem least_uniq {r : Int} {f f' g g' : F3} (h : LeastOf r f g) (h' : LeastOf r f' g') (e : Eqv f f') : g = g' := by
  have k1 := h.min g' h'.red (e.trans h'.eqv)
  have k2 := h'.min g h.red (e.symm.trans h.eqv)
  exact F3.L_inj2 (List.le_antisymm (List.not_lt.mp k1) (List.not_lt.mp k2))
end DL
set_option maxHeartbeats 1000000
set_option pp.maxSteps 1200
namespace DL
open PySem PySem.Spec PyProof.Rows L2
/-! ### the common measure by steps, closely -/
abbrev KB : Nat := 8998
/-- what floor division leaves -/
theorem fdiv_rest {l h : Int} (h0 : h ≠ 0) : (l - l.fdiv h * h).natAbs < h.natAbs ∧ ((0 < h ∧ 0 ≤ l - l.fdiv h * h) ∨ (h < 0 ∧ l - l.fdiv h * h ≤ 0)) := by
  have e : l - l.fdiv h * h = l.fmod h := by rw [Int.fmod_def, Int.mul_comm]
  rw [e]
  rcases Int.lt_or_gt_of_ne h0 with z | z
  · have h1 := Int.fmod_nonneg_of_pos (-l) (show 0 < -h by omega)
    have h2 := Int.fmod_lt_of_pos (-l) (show 0 < -h by omega)
    have e2 : (-l).fmod (-h) = -(l.fmod h) := by rw [Int.fmod_def, Int.fmod_def, Int.neg_fdiv_neg]; grind
    rw [e2] at h1 h2
    exact ⟨by omega, .inr ⟨z, by omega⟩⟩
  · have h1 := Int.fmod_nonneg_of_pos l z
    have h2 := Int.fmod_lt_of_pos l z
    exact ⟨by omega, .inl ⟨z, h1⟩⟩
structure BzI (a b l lu lv h hu hv : Int) : Prop where
  el : lu * a + lv * b = l
  eh : hu * a + hv * b = h
  g : Int.gcd l h = Int.gcd a b
  st : (l = a ∧ lu = 1 ∧ lv = 0 ∧ h = b ∧ hu = 0 ∧ hv = 1) ∨ (b ≠ 0 ∧ ((0 < l ∧ 0 ≤ h) ∨ (l < 0 ∧ h ≤ 0)) ∧ h.natAbs < l.natAbs ∧ l.natAbs ≤ b.natAbs ∧ lu.natAbs ≤ hu.natAbs ∧ ((0 ≤ lu ∧ hu ≤ 0) ∨ (lu ≤ 0 ∧ 0 ≤ hu)) ∧ hu.natAbs * l.natAbs + lu.natAbs * h.natAbs = b.natAbs)
theorem gcd_step {l h q : Int} : Int.gcd h (l - q * h) = Int.gcd l h := by
  rw [Int.gcd_comm l h, show l - q * h = l + h * (-q) by grind]
  exact Int.gcd_add_mul_left_right ..
theorem bzI_step {a b l lu lv h hu hv : Int} (I : BzI a b l lu lv h hu hv) (h0 : h ≠ 0) : BzI a b h hu hv (l - l.fdiv h * h) (lu - l.fdiv h * hu) (lv - l.fdiv h * hv) := by
  have fr := fdiv_rest (l := l) h0
  refine ⟨I.eh, ?_, by rw [gcd_step]; exact I.g, .inr ?_⟩
  · rw [← I.el, ← I.eh]; grind
  rcases I.st with ⟨rfl, rfl, rfl, rfl, rfl, rfl⟩ | ⟨b0, s1, s2, s3, s4, s5, s6⟩
  · refine ⟨h0, ?_, fr.1, Nat.le_refl _, ?_, ?_, ?_⟩
    · rcases fr.2 with z | z
      · exact .inl z
      · exact .inr z
    · rw [Int.mul_zero]; omega
    · rw [Int.mul_zero]; omega
    · rw [Int.mul_zero]; simp
  · have q1 : 1 ≤ l.fdiv h ∧ l.natAbs = (l.fdiv h).natAbs * h.natAbs + (l - l.fdiv h * h).natAbs := by
      have e : l.fdiv h * h = l - (l - l.fdiv h * h) := by omega
      have e2 := congrArg Int.natAbs e
      rw [Int.natAbs_mul] at e2
      generalize hr : l - l.fdiv h * h = r at *
      have k : 0 < l.fdiv h * h ∨ l.fdiv h * h < 0 := by omega
      refine ⟨?_, by omega⟩
      refine Int.not_lt.mp fun z => ?_
      have z : l.fdiv h ≤ 0 := by omega
      rcases s1 with ⟨x, y⟩ | ⟨x, y⟩
      · have := Int.mul_nonneg (show 0 ≤ -(l.fdiv h) by omega) y
        rw [Int.neg_mul] at this
        omega
      · have := Int.mul_nonneg (show 0 ≤ -(l.fdiv h) by omega) (show 0 ≤ -h by omega)
        rw [Int.neg_mul_neg] at this
        omega
    obtain ⟨q1, q2⟩ := q1
    have hn : (lu - l.fdiv h * hu).natAbs = lu.natAbs + (l.fdiv h).natAbs * hu.natAbs ∧ ((0 ≤ hu ∧ lu - l.fdiv h * hu ≤ 0) ∨ (hu ≤ 0 ∧ 0 ≤ lu - l.fdiv h * hu)) := by
      rw [← Int.natAbs_mul]
      rcases s5 with ⟨x, y⟩ | ⟨x, y⟩
      · have := Int.mul_nonneg (show 0 ≤ l.fdiv h by omega) (show 0 ≤ -hu by omega)
        rw [Int.mul_neg] at this
        omega
      · have := Int.mul_nonneg (show 0 ≤ l.fdiv h by omega) y
        omega
    have qa : 1 ≤ (l.fdiv h).natAbs := by omega
    have le1 : hu.natAbs ≤ (l.fdiv h).natAbs * hu.natAbs := Nat.le_mul_of_pos_left _ qa
    refine ⟨b0, ?_, fr.1, by omega, by omega, hn.2, ?_⟩
    · rcases fr.2 with z | z
      · exact .inl z
      · exact .inr z
    · rw [hn.1]
      rw [q2] at s6
      rw [← s6]
      generalize (l.fdiv h).natAbs = Q
      generalize (l - l.fdiv h * h).natAbs = R
      generalize hu.natAbs = U
      generalize lu.natAbs = V
      generalize h.natAbs = W
      grind
theorem bzI_size {a b l lu lv h hu hv : Int} (ha : Sm KB a) (hb : Sm KB b) (I : BzI a b l lu lv h hu hv) : Sm KB l ∧ Sm KB h ∧ Sm (KB + 1) lu ∧ Sm (KB + 1) hu ∧ Sm 18000 lv ∧ Sm 18000 hv := by
  have s1 : Sm (KB + 1) 1 := Nat.lt_of_lt_of_le (show 1 < 2 ^ 1 by decide) (Nat.pow_le_pow_right (by decide) (by decide))
  have s0 : Sm (KB + 1) 0 := Nat.lt_of_lt_of_le (show 0 < 2 ^ 1 by decide) (Nat.pow_le_pow_right (by decide) (by decide))
  rcases I.st with ⟨rfl, rfl, rfl, rfl, rfl, rfl⟩ | ⟨b0, k1, k2, k3, k4, k5, k6⟩
  · exact ⟨ha, hb, s1, s0, s0.mono (by decide), s1.mono (by decide)⟩
  · have sl : Sm KB l := Nat.lt_of_le_of_lt k3 hb
    have sh : Sm KB h := Nat.lt_trans k2 sl
    have u1 : hu.natAbs ≤ hu.natAbs * l.natAbs := Nat.le_mul_of_pos_right _ (by omega)
    have sU : Sm KB hu := Nat.lt_of_le_of_lt (by omega) hb
    have sV : Sm KB lu := Nat.lt_of_le_of_lt k4 sU
    have key : ∀ {x y z : Int}, y * a + x * b = z → Sm KB y → Sm KB z → Sm 18000 x := fun {x y z} e hy hz => by
      have e2 : x * b = z - y * a := by omega
      have s : Sm 18000 (x * b) := by rw [e2]; exact ((hz.mono (show KB ≤ KB + KB by decide)).sub (hy.mul ha)).mono (by decide)
      unfold Sm at *
      rw [Int.natAbs_mul] at s
      exact Nat.lt_of_le_of_lt (Nat.le_mul_of_pos_right _ (by omega)) s
    exact ⟨sl, sh, sV.mono (by decide), sU.mono (by decide), key I.el sV sl, key I.eh sU sh⟩
/-- what stands at the end -/
theorem bzI_end {a b l lu lv hu hv : Int} (I : BzI a b l lu lv 0 hu hv) : l.natAbs = Int.gcd a b ∧ lu.natAbs ≤ b.natAbs + 1 ∧ lv.natAbs ≤ a.natAbs + 1 := by
  have g : l.natAbs = Int.gcd a b := by rw [← I.g, Int.gcd_zero_right]
  refine ⟨g, ?_⟩
  rcases I.st with ⟨rfl, rfl, rfl, rfl, rfl, rfl⟩ | ⟨b0, k1, k2, k3, k4, k5, k6⟩
  · exact ⟨by omega, by omega⟩
  · rw [Int.natAbs_zero, Nat.mul_zero, Nat.add_zero] at k6
    have u1 : hu.natAbs ≤ hu.natAbs * l.natAbs := Nat.le_mul_of_pos_right _ (by omega)
    refine ⟨by omega, ?_⟩
    -- v b = l - u a, |u| |l| <= |b|, |l| <= |b|
    have e2 : lv * b = l - lu * a := by have := I.el; omega
    have n1 : (lv * b).natAbs ≤ l.natAbs + lu.natAbs * a.natAbs := by
      rw [e2, ← Int.natAbs_mul]; omega
    rw [Int.natAbs_mul] at n1
    have n2 : lu.natAbs * a.natAbs ≤ b.natAbs * a.natAbs := Nat.mul_le_mul_right _ (by omega)
    have n3 : lv.natAbs * b.natAbs ≤ (a.natAbs + 1) * b.natAbs := by
      rw [Nat.add_mul, Nat.one_mul, Nat.mul_comm a.natAbs]
      omega
    exact Nat.le_of_mul_le_mul_right n3 (by omega)
@[irreducible] def sp_bezout : FSpec := fun ds tk Q => ∃ (a b : Int), ds = [.int a, .int b] ∧ (Sm KB a) ∧ (Sm KB b) ∧ ∀ (u v : Int), ∀ (e : u * a + v * b = (Int.gcd a b : Int)), ∀ (hu : u.natAbs ≤ b.natAbs + 1), ∀ (hv : v.natAbs ≤ a.natAbs + 1), Q (.val (.tup [.int (Int.gcd a b : Int), .int u, .int v])) tk
theorem op_bezout {ds : List D} {tk : Tk} {Q : EV → Tk → Prop} (h : sp_bezout ds tk Q) : ∃ (a b : Int), ds = [.int a, .int b] ∧ (Sm KB a) ∧ (Sm KB b) ∧ ∀ (u v : Int), ∀ (e : u * a + v * b = (Int.gcd a b : Int)), ∀ (hu : u.natAbs ≤ b.natAbs + 1), ∀ (hv : v.natAbs ≤ a.natAbs + 1), Q (.val (.tup [.int (Int.gcd a b : Int), .int u, .int v])) tk := by unfold sp_bezout at h; exact h
theorem mon_bezout : MonFS sp_bezout := fun ds tk Q Q' hq_ hs_ => by
  obtain ⟨a, b, e_, ha, hb, q_⟩ := op_bezout hs_
  unfold sp_bezout
  exact ⟨a, b, e_, ha, hb, fun u v e hu hv => hq_ _ _ (q_ u v e hu hv)⟩
theorem len_bezout : ∀ ds tk Q, sp_bezout ds tk Q → ds.length = 2 := fun ds tk Q hs_ => by
  obtain ⟨a, b, e_, ha, hb, q_⟩ := op_bezout hs_
  rw [e_]; rfl
theorem cl_bezout {tk : Tk} {Q : EV → Tk → Prop} {a b : Int} (ha : Sm KB a) (hb : Sm KB b) (q_ : ∀ (u v : Int), ∀ (e : u * a + v * b = (Int.gcd a b : Int)), ∀ (hu : u.natAbs ≤ b.natAbs + 1), ∀ (hv : v.natAbs ≤ a.natAbs + 1), Q (.val (.tup [.int (Int.gcd a b : Int), .int u, .int v])) tk) : sp_bezout [.int a, .int b] tk Q := by
  unfold sp_bezout
  exact ⟨a, b, rfl, ha, hb, q_⟩
theorem ce_bezout {ds_ : List D} {tk : Tk} {Q : EV → Tk → Prop} {a b : Int} (ha : Sm KB a) (hb : Sm KB b) (e_ : ds_ = [.int a, .int b]) (q_ : ∀ (u v : Int), ∀ (e : u * a + v * b = (Int.gcd a b : Int)), ∀ (hu : u.natAbs ≤ b.natAbs + 1), ∀ (hv : v.natAbs ≤ a.natAbs + 1), Q (.val (.tup [.int (Int.gcd a b : Int), .int u, .int v])) tk) : sp_bezout ds_ tk Q := by
  subst e_
  unfold sp_bezout
  exact ⟨a, b, rfl, ha, hb, q_⟩
abbrev N_bezout : List Str := ["a", "b", "low", "low_u", "low_v", "high", "high_u", "high_v", "part"]
def c_bezout : WS :=
  (wSeq (wPar3 2 3 4 (wCons (fz (wV 0)) (wCons (fz (wC (.int 1))) (wCons (fz (wC (.int 0))) wNil))))
  (wSeq (wPar3 5 6 7 (wCons (fz (wV 1)) (wCons (fz (wC (.int 0))) (wCons (fz (wC (.int 1))) wNil))))
  (wSeq (wWhile (wT (wOp fNe (wPk 5) (fz (wC (.int 0))))) (wSeq (wSet 8 (wOp fDiv (wPk 2) (wPk 5)))
  (wSeq (wPar 2 5 (wCons (fz (wV 5)) (wCons (fz (wOp fSub (wPk 2) (fz (wOp fMul (wPk 8) (wPk 5))))) wNil)))
  (wSeq (wPar 3 6 (wCons (fz (wV 6)) (wCons (fz (wOp fSub (wPk 3) (fz (wOp fMul (wPk 8) (wPk 6))))) wNil)))
  (wPar 4 7 (wCons (fz (wV 7)) (wCons (fz (wOp fSub (wPk 4) (fz (wOp fMul (wPk 8) (wPk 7))))) wNil)))))))
  (wSeq (wIfS (wT (wOp fLt (wPk 2) (fz (wC (.int 0))))) (wRet (wTup (wCons (fz (w1 fNeg (wPk 2))) (wCons (fz (w1 fNeg (wPk 3))) (wCons (fz (w1 fNeg (wPk 4))) wNil))))) wNext)
  (wRet (wTup (wCons (fz (wV 2)) (wCons (fz (wV 3)) (wCons (fz (wV 4)) wNil)))))))))
theorem hw_bezout : ∀ ds tk Q, sp_bezout ds tk Q → c_bezout { nx := fun _ t => Q (.val .non) t, rt := Q } (start N_bezout.length ds) tk := by
  intro ds tk Q h_
  obtain ⟨a, b, rfl, ha, hb, q⟩ := op_bezout h_
  refine ⟨fun μ e t => t = tk ∧ ∃ (l lu lv h hu hv : Int) (x8 : Option EV), BzI a b l lu lv h hu hv ∧ μ = h.natAbs ∧ e = [some (.val (.int (a))), some (.val (.int (b))), some (.val (.int (l))), some (.val (.int (lu))), some (.val (.int (lv))), some (.val (.int (h))), some (.val (.int (hu))), some (.val (.int (hv))), x8], ⟨_, rfl, a, 1, 0, b, 0, 1, none, ⟨by omega, by omega, rfl, .inl ⟨rfl, rfl, rfl, rfl, rfl, rfl⟩⟩, rfl, rfl⟩, ?_⟩
  rintro μ e t ⟨rfl, l, lu, lv, h, hu, hv, x8, I, rfl, rfl⟩
  obtain ⟨z1, z2, z3, z4, z5, z6⟩ := bzI_size ha hb I
  refine ifN2 (fun h0 => ?_) (fun h0 => ?_)
  · have h0 : h ≠ 0 := h0
    have sq : Sm KB (l.fdiv h) := z1.fdiv
    refine ⟨DivOk.of h0 z2 (by decide), q1 sq z2, q1 sq z4, q1 sq z6, ?_⟩
    exact ⟨_, (fdiv_rest (l := l) h0).1, rfl, _, _, _, _, _, _, _, bzI_step I h0, rfl, rfl⟩
  · have h0 : h = 0 := h0
    subst h0
    obtain ⟨g1, g2, g3⟩ := bzI_end I
    refine if2 (fun n => ?_) (fun n => ?_)
    · have n : l < 0 := n
      have e : (Int.gcd a b : Int) = -l := by omega
      have r := q (-lu) (-lv) (by rw [e]; have := I.el; rw [Int.neg_mul, Int.neg_mul]; omega) (by omega) (by omega)
      rw [e] at r
      exact ⟨rfl, r⟩
    · have n : ¬ l < 0 := n
      have e : (Int.gcd a b : Int) = l := by omega
      have r := q lu lv (by rw [e]; exact I.el) g2 g3
      rw [e] at r
      exact ⟨rfl, r⟩
/-- the measure of many -/
def gcds (xs : List Int) : Int := xs.foldl (fun g x => (Int.gcd g x : Int)) 0
theorem sm_gcd {a b : Int} (ha : Sm KB a) (hb : Sm KB b) : Sm KB (Int.gcd a b : Int) := by
  unfold Sm at *
  rw [Int.natAbs_natCast]
  rcases Nat.eq_zero_or_pos b.natAbs with z | z
  · have z' : b = 0 := by omega
    rw [z', Int.gcd_zero_right]
    exact ha
  · exact Nat.lt_of_le_of_lt (Nat.gcd_le_right _ z) hb
theorem sm_zero : Sm KB 0 := Nat.lt_of_lt_of_le (show 0 < 2 ^ 1 by decide) (Nat.pow_le_pow_right (by decide) (by decide))
theorem sm_gcds {xs : List Int} (h : ∀ x ∈ xs, Sm KB x) : Sm KB (gcds xs) := by
  have : ∀ (xs : List Int) (g : Int), Sm KB g → (∀ x ∈ xs, Sm KB x) → Sm KB (xs.foldl (fun g x => (Int.gcd g x : Int)) g) := by
    intro xs
    induction xs with
    | nil => intro g hg _; exact hg
    | cons x xs ih => intro g hg h; exact ih _ (sm_gcd hg (h x (List.mem_cons_self ..))) fun y hy => h y (List.mem_cons_of_mem _ hy)
  exact this xs 0 sm_zero h
theorem gcds_take {xs : List Int} {i : Nat} {x : Int} (h : xs[i]? = some x) : (Int.gcd (gcds (xs.take i)) x : Int) = gcds (xs.take (i + 1)) := by
  unfold gcds
  rw [List.take_add_one, h, List.foldl_append]
  rfl
@[irreducible] def sp_measure : FSpec := fun ds tk Q => ∃ (xs : List Int) (d : D), ds = [d] ∧ (d = .lst (xs.map D.int) ∨ d = .tup (xs.map D.int)) ∧ (∀ x ∈ xs, Sm KB x) ∧ Q (.val (.int (gcds xs))) tk
theorem op_measure {ds : List D} {tk : Tk} {Q : EV → Tk → Prop} (h : sp_measure ds tk Q) : ∃ (xs : List Int) (d : D), ds = [d] ∧ (d = .lst (xs.map D.int) ∨ d = .tup (xs.map D.int)) ∧ (∀ x ∈ xs, Sm KB x) ∧ Q (.val (.int (gcds xs))) tk := by unfold sp_measure at h; exact h
theorem mon_measure : MonFS sp_measure := fun ds tk Q Q' hq_ hs_ => by
  obtain ⟨xs, d, e_, hd, hs, q_⟩ := op_measure hs_
  unfold sp_measure
  exact ⟨xs, d, e_, hd, hs, hq_ _ _ q_⟩
theorem len_measure : ∀ ds tk Q, sp_measure ds tk Q → ds.length = 1 := fun ds tk Q hs_ => by
  obtain ⟨xs, d, e_, hd, hs, q_⟩ := op_measure hs_
  rw [e_]; rfl
theorem cl_measure {tk : Tk} {Q : EV → Tk → Prop} {xs : List Int} {d : D} (hd : d = .lst (xs.map D.int) ∨ d = .tup (xs.map D.int)) (hs : ∀ x ∈ xs, Sm KB x) (q_ : Q (.val (.int (gcds xs))) tk) : sp_measure [d] tk Q := by
  unfold sp_measure
  exact ⟨xs, d, rfl, hd, hs, q_⟩
theorem ce_measure {ds_ : List D} {tk : Tk} {Q : EV → Tk → Prop} {xs : List Int} {d : D} (hd : d = .lst (xs.map D.int) ∨ d = .tup (xs.map D.int)) (hs : ∀ x ∈ xs, Sm KB x) (e_ : ds_ = [d]) (q_ : Q (.val (.int (gcds xs))) tk) : sp_measure ds_ tk Q := by
  subst e_
  unfold sp_measure
  exact ⟨xs, d, rfl, hd, hs, q_⟩
abbrev N_measure : List Str := ["numbers", "found", "number"]
def c_measure : WS :=
  (wSeq (wSet 1 (wC (.int 0)))
  (wSeq (wFor (wSrc (fz (wV 0))) (gN 2) (wSet 1 (wOp fIdx (fz (wCall sp_bezout (wCons (fz (wV 1)) (wCons (fz (wV 2)) wNil)))) (fz (wC (.int 0))))))
  (wRetV 1)))
theorem hw_measure : ∀ ds tk Q, sp_measure ds tk Q → c_measure { nx := fun _ t => Q (.val .non) t, rt := Q } (start N_measure.length ds) tk := by
  intro ds tk Q h_
  obtain ⟨xs, d, rfl, hd, hs, q⟩ := op_measure h_
  have key : forGo (gN 2) (wSet 1 (wOp fIdx (fz (wCall sp_bezout (wCons (fz (wV 1)) (wCons (fz (wV 2)) wNil)))) (fz (wC (.int 0))))) { nx := fun e t => wRetV 1 { nx := fun _ t => Q (.val .non) t, rt := Q } e t, rt := Q } (xs.map D.int) [some (.val d), some (.val (.int 0)), none] tk := by
    refine forGo_inv (fun i e t => t = tk ∧ ∃ x2 : Option EV, e = [some (.val d), some (.val (.int (gcds (xs.take i)))), x2]) (fun i z e t R hz hI hR => ?_) (fun e t hI => ?_) ⟨rfl, none, rfl⟩
    · obtain ⟨rfl, x2, rfl⟩ := hI
      rw [List.getElem?_map] at hz
      cases hx : xs[i]? with
      | none => rw [hx] at hz; cases hz
      | some x =>
        rw [hx] at hz
        cases hz
        refine cl_bezout (a := gcds (xs.take i)) (b := x) (sm_gcds fun y hy => hs y (List.mem_of_mem_take hy)) (hs x (List.mem_of_getElem? hx)) fun u v _ _ _ => ?_
        refine hR _ _ ⟨rfl, some (.val (.int x)), ?_⟩
        rw [← gcds_take hx]
        rfl
    · obtain ⟨rfl, x2, rfl⟩ := hI
      rw [List.length_map, List.take_length]
      exact q
  rcases hd with rfl | rfl
  · exact key
  · exact key
def cont (f : F3) : Int := (Int.gcd (Int.gcd f.a f.b : Int) f.c : Int)
theorem cont_eq (f : F3) : gcds [f.a, f.b, f.c] = cont f := by
  show (Int.gcd (Int.gcd (Int.gcd 0 f.a : Int) f.b : Int) f.c : Int) = _
  unfold cont
  have : Int.gcd (Int.gcd 0 f.a : Int) f.b = Int.gcd f.a f.b := by
    rw [Int.gcd_zero_left]
    unfold Int.gcd
    rw [Int.natAbs_natCast]
  rw [this]
@[irreducible] def sp_content : FSpec := fun ds tk Q => ∃ (f : F3), ds = [f.D] ∧ (f.Sm 8000) ∧ Q (.val (.int (cont f))) tk
theorem op_content {ds : List D} {tk : Tk} {Q : EV → Tk → Prop} (h : sp_content ds tk Q) : ∃ (f : F3), ds = [f.D] ∧ (f.Sm 8000) ∧ Q (.val (.int (cont f))) tk := by unfold sp_content at h; exact h
theorem mon_content : MonFS sp_content := fun ds tk Q Q' hq_ hs_ => by
  obtain ⟨f, e_, hf, q_⟩ := op_content hs_
  unfold sp_content
  exact ⟨f, e_, hf, hq_ _ _ q_⟩
theorem len_content : ∀ ds tk Q, sp_content ds tk Q → ds.length = 1 := fun ds tk Q hs_ => by
  obtain ⟨f, e_, hf, q_⟩ := op_content hs_
  rw [e_]; rfl
theorem cl_content {tk : Tk} {Q : EV → Tk → Prop} {f : F3} (hf : f.Sm 8000) (q_ : Q (.val (.int (cont f))) tk) : sp_content [f.D] tk Q := by
  unfold sp_content
  exact ⟨f, rfl, hf, q_⟩
theorem ce_content {ds_ : List D} {tk : Tk} {Q : EV → Tk → Prop} {f : F3} (hf : f.Sm 8000) (e_ : ds_ = [f.D]) (q_ : Q (.val (.int (cont f))) tk) : sp_content ds_ tk Q := by
  subst e_
  unfold sp_content
  exact ⟨f, rfl, hf, q_⟩
abbrev N_content : List Str := ["form"]
def c_content : WS :=
  (wRet (wCall sp_measure (wCons (fz (wV 0)) wNil)))
theorem hw_content : ∀ ds tk Q, sp_content ds tk Q → c_content { nx := fun _ t => Q (.val .non) t, rt := Q } (start N_content.length ds) tk := by
  intro ds tk Q h_
  obtain ⟨f, rfl, hf, q⟩ := op_content h_
  refine cl_measure (xs := [f.a, f.b, f.c]) (.inr rfl) (fun x hx => ?_) ?_
  · simp only [List.mem_cons, List.not_mem_nil, or_false] at hx
    rcases hx with rfl | rfl | rfl
    · exact hf.1.mono (by decide)
    · exact hf.2.1.mono (by decide)
    · exact hf.2.2.mono (by decide)
  · rw [cont_eq]; exact q
end DL
set_option maxHeartbeats 1000000
namespace DL
/-! ### split forms -/
/-- a zero direction as zero_lines tells it -/
structure ZDir (f : F3) (v : P2) : Prop where
  z : f.worth v = 0
  g : Int.gcd v.x v.y = 1
  s : 0 < v.x ∨ (v.x = 0 ∧ v.y = 1)
theorem P2.ext {u v : P2} (h1 : u.x = v.x) (h2 : u.y = v.y) : u = v := by cases u; cases v; simp only at h1 h2; subst h1 h2; rfl
/-- two zero directions give opposite middles -/
theorem zdir_opp {f : F3} {m n : M4} (hm : m.det = 1) (hn : n.det = 1) (h1 : ZDir f ⟨m.p, m.r⟩) (h2 : ZDir f ⟨n.p, n.r⟩) (hne : (⟨m.p, m.r⟩ : P2) ≠ ⟨n.p, n.r⟩) : (f.act n).b = -(f.act m).b := by
  have e : (f.act m).act (m.adj.mul n) = f.act n := by rw [F3.act_mul, ← M4.mul_assoc, M4.mul_adj hm, M4.one_mul]
  have d : (m.adj.mul n).det = 1 := M4.det_mul1 (by rw [M4.det_adj]; exact hm) hn
  have a0 : (f.act m).a = 0 := h1.z
  have b0 : (f.act n).a = 0 := h2.z
  generalize hF : f.act m = F at *
  have hN : m.mul (m.adj.mul n) = n := by rw [← M4.mul_assoc, M4.mul_adj hm, M4.one_mul]
  generalize m.adj.mul n = N at *
  rw [← e] at b0 ⊢
  have ya : F.b * N.p * N.r + F.c * N.r * N.r = 0 := by
    have : (F.act N).a = F.a * N.p * N.p + F.b * N.p * N.r + F.c * N.r * N.r := rfl
    rw [b0, a0] at this
    grind
  have hy : N.r ≠ 0 := by
    intro y0
    unfold M4.det at d
    rw [y0, Int.mul_zero, Int.sub_zero] at d
    have hp : N.p = 1 ∨ N.p = -1 := by
      have : N.p ∣ 1 := ⟨N.s, d.symm⟩
      have := Int.natAbs_dvd_natAbs.mpr this
      have := Nat.le_of_dvd (by decide) this
      have : N.p ≠ 0 := fun z => by rw [z, Int.zero_mul] at d; omega
      omega
    have c1 : n.p = m.p * N.p := by rw [← hN]; show m.p * N.p + m.q * N.r = _; rw [y0]; omega
    have c2 : n.r = m.r * N.p := by rw [← hN]; show m.r * N.p + m.s * N.r = _; rw [y0]; omega
    have s1 := h1.s
    have s2 := h2.s
    dsimp only at s1 s2
    rcases hp with hp | hp
    · exact hne (P2.ext (show m.p = n.p by rw [c1, hp, Int.mul_one]) (show m.r = n.r by rw [c2, hp, Int.mul_one]))
    · rw [hp] at c1 c2
      omega
  have bx : F.b * N.p + F.c * N.r = 0 := by
    have : N.r * (F.b * N.p + F.c * N.r) = 0 := by grind
    exact (Int.mul_eq_zero.mp this).resolve_left hy
  have eb : (F.act N).b = 2 * F.a * N.p * N.q + F.b * (N.p * N.s + N.q * N.r) + 2 * F.c * N.r * N.s := rfl
  rw [eb, a0]
  unfold M4.det at d
  have e3 : 2 * F.c * N.r * N.s = -2 * F.b * N.p * N.s := by
    have : F.c * N.r = -(F.b * N.p) := by omega
    have : 2 * F.c * N.r * N.s = 2 * (F.c * N.r) * N.s := by grind
    rw [this, ‹F.c * N.r = -(F.b * N.p)›]
    grind
  rw [e3]
  have : F.b * (N.p * N.s + N.q * N.r) + -2 * F.b * N.p * N.s = -(F.b * (N.p * N.s - N.q * N.r)) := by grind
  have e4 : 2 * 0 * N.p * N.q = 0 := by grind
  rw [e4, Int.zero_add, this, d, Int.mul_one]
/-- the form (0, k, c), 0 <= c < k -/
structure CanS (k : Int) (g : F3) : Prop where
  a : g.a = 0
  b : g.b = k
  c0 : 0 ≤ g.c
  c1 : g.c < k
theorem canS_uniq {k : Int} {g h : F3} {n : M4} (hg : CanS k g) (hh : CanS k h) (hn : n.det = 1) (e : g.act n = h) : g = h := by
  have k0 : 0 < k := by have := hg.c0; have := hg.c1; omega
  have ha := hh.a
  have hb := hh.b
  have hc : h.c = g.a * n.q * n.q + g.b * n.q * n.s + g.c * n.s * n.s := by rw [← e]; rfl
  rw [← e] at ha hb
  have ha : g.a * n.p * n.p + g.b * n.p * n.r + g.c * n.r * n.r = 0 := ha
  have hb : 2 * g.a * n.p * n.q + g.b * (n.p * n.s + n.q * n.r) + 2 * g.c * n.r * n.s = k := hb
  rw [hg.a, hg.b] at ha hb hc
  unfold M4.det at hn
  by_cases r0 : n.r = 0
  · rw [r0] at hn hb
    have hps : n.p * n.s = 1 := by rw [Int.mul_zero] at hn; omega
    have ss : n.s * n.s = 1 := by
      have h1 : n.s = 1 ∨ n.s = -1 := by
        have : n.s ∣ 1 := ⟨n.p, by rw [Int.mul_comm]; exact hps.symm⟩
        have := Nat.le_of_dvd (by decide) (Int.natAbs_dvd_natAbs.mpr this)
        have : n.s ≠ 0 := fun z => by rw [z, Int.mul_zero] at hps; omega
        omega
      rcases h1 with h1 | h1 <;> rw [h1] <;> rfl
    have hc2 : h.c = g.c + k * (n.q * n.s) := by
      rw [hc]
      have : g.c * n.s * n.s = g.c := by rw [Int.mul_assoc, ss, Int.mul_one]
      rw [this]
      grind
    have z : n.q * n.s = 0 := by
      have a1 := hg.c0
      have a2 := hg.c1
      have a3 := hh.c0
      have a4 := hh.c1
      rcases Int.lt_trichotomy (n.q * n.s) 0 with w | w | w
      · have := Int.mul_le_mul_of_nonneg_left (show n.q * n.s ≤ -1 by omega) (show 0 ≤ k by omega)
        omega
      · exact w
      · have := Int.mul_le_mul_of_nonneg_left (show 1 ≤ n.q * n.s by omega) (show 0 ≤ k by omega)
        omega
    rw [z, Int.mul_zero, Int.add_zero] at hc2
    exact F3.ext (by rw [hg.a, hh.a]) (by rw [hg.b, hh.b]) hc2.symm
  · exfalso
    have kp : k * n.p + g.c * n.r = 0 := by
      have : n.r * (k * n.p + g.c * n.r) = 0 := by grind
      exact (Int.mul_eq_zero.mp this).resolve_left r0
    have : k = -k := by
      have e1 : 2 * g.c * n.r * n.s = -2 * k * n.p * n.s := by
        have h2 : g.c * n.r = -(k * n.p) := by omega
        have : 2 * g.c * n.r * n.s = 2 * (g.c * n.r) * n.s := by grind
        rw [this, h2]
        grind
      rw [e1] at hb
      have e2 : 2 * 0 * n.p * n.q + k * (n.p * n.s + n.q * n.r) + -2 * k * n.p * n.s = -(k * (n.p * n.s - n.q * n.r)) := by grind
      rw [e2, hn, Int.mul_one] at hb
      exact hb.symm
    omega
/-- the form's disc is k * k -/
theorem split_disc {f : F3} (h : SplitOf f) : ∃ k : Int, 0 < k ∧ f.disc = k * k := by
  obtain ⟨p, q, r, s, g, rfl, hne, h1, h2, _⟩ := h
  have e : F3.disc ⟨g * p * r, g * (p * s + q * r), g * q * s⟩ = (g * (p * s - q * r)) * (g * (p * s - q * r)) := by unfold F3.disc; dsimp only; grind
  rw [e]
  have nz : g * (p * s - q * r) ≠ 0 := fun z => by rcases Int.mul_eq_zero.mp z with w | w <;> omega
  rcases Int.lt_or_gt_of_ne nz with w | w
  · exact ⟨-(g * (p * s - q * r)), by omega, by grind⟩
  · exact ⟨_, w, rfl⟩
/-! ### flat forms -/
def flatF (g p q : Int) : F3 := ⟨g * p * p, 2 * g * p * q, g * q * q⟩
def IsFlat (f : F3) : Prop := ∃ g p q : Int, f = flatF g p q
theorem flat_act {g p q : Int} (m : M4) : (flatF g p q).act m = flatF g (p * m.p + q * m.r) (p * m.q + q * m.s) := by
  apply F3.ext <;> (unfold F3.act F3.worth flatF; dsimp only; grind)
theorem isFlat_act {f : F3} (m : M4) (h : IsFlat f) : IsFlat (f.act m) := by
  obtain ⟨g, p, q, rfl⟩ := h
  exact ⟨_, _, _, flat_act m⟩
theorem flatOf_is {f : F3} (h : FlatOf f) : IsFlat f := by
  obtain ⟨p, q, g, rfl, _⟩ := h
  exact ⟨g, p, q, rfl⟩
theorem gcd_sq {p q : Nat} (h : Nat.gcd p q = 1) : Nat.gcd (p * p) (q * q) = 1 := by
  have c : Nat.Coprime p q := h
  exact (Nat.Coprime.mul_left (Nat.Coprime.mul_right c c) (Nat.Coprime.mul_right c c))
/-- the content of a flat form -/
theorem flat_cont {g p q : Int} (h : Int.gcd p q = 1) : cont (flatF g p q) = (g.natAbs : Int) := by
  unfold cont flatF
  have key : Int.gcd (Int.gcd (g * p * p) (2 * g * p * q) : Int) (g * q * q) = g.natAbs := by
    unfold Int.gcd
    rw [Int.natAbs_natCast]
    have e1 : (g * p * p).natAbs = g.natAbs * (p.natAbs * p.natAbs) := by rw [Int.natAbs_mul, Int.natAbs_mul, Nat.mul_assoc]
    have e2 : (2 * g * p * q).natAbs = g.natAbs * (2 * (p.natAbs * q.natAbs)) := by
      rw [Int.natAbs_mul, Int.natAbs_mul, Int.natAbs_mul]
      show 2 * g.natAbs * p.natAbs * q.natAbs = _
      grind
    have e3 : (g * q * q).natAbs = g.natAbs * (q.natAbs * q.natAbs) := by rw [Int.natAbs_mul, Int.natAbs_mul, Nat.mul_assoc]
    rw [e1, e2, e3, Nat.gcd_mul_left, Nat.gcd_mul_left]
    have c : Nat.gcd (Nat.gcd (p.natAbs * p.natAbs) (2 * (p.natAbs * q.natAbs))) (q.natAbs * q.natAbs) = 1 := by
      have hd : Nat.gcd (Nat.gcd (p.natAbs * p.natAbs) (2 * (p.natAbs * q.natAbs))) (q.natAbs * q.natAbs) ∣ Nat.gcd (p.natAbs * p.natAbs) (q.natAbs * q.natAbs) :=
        Nat.dvd_gcd (Nat.dvd_trans (Nat.gcd_dvd_left _ _) (Nat.gcd_dvd_left _ _)) (Nat.gcd_dvd_right _ _)
      rw [gcd_sq h] at hd
      exact Nat.eq_one_of_dvd_one hd
    rw [c, Nat.mul_one]
  rw [key]
/-- every flat form by a pair without a common measure -/
theorem flat_prim {f : F3} (h : IsFlat f) : ∃ g p q : Int, f = flatF g p q ∧ Int.gcd p q = 1 := by
  obtain ⟨g, p, q, rfl⟩ := h
  by_cases z : Int.gcd p q = 0
  · have := Int.gcd_eq_zero_iff.mp z
    refine ⟨0, 1, 0, ?_, rfl⟩
    rw [this.1, this.2]
    apply F3.ext <;> (unfold flatF; dsimp only; omega)
  · obtain ⟨d, hd⟩ : ∃ d : Int, d = (Int.gcd p q : Int) := ⟨_, rfl⟩
    have d1 : d ∣ p := by rw [hd]; exact Int.gcd_dvd_left ..
    have d2 : d ∣ q := by rw [hd]; exact Int.gcd_dvd_right ..
    obtain ⟨x, hx⟩ := d1
    obtain ⟨y, hy⟩ := d2
    refine ⟨g * d * d, x, y, ?_, ?_⟩
    · rw [hx, hy]
      apply F3.ext <;> (unfold flatF; dsimp only; grind)
    · have e : Int.gcd p q = d.natAbs * Int.gcd x y := by
        conv => lhs; rw [hx, hy]
        rw [Int.gcd_mul_left]
      have e2 : d.natAbs = Int.gcd p q := by rw [hd, Int.natAbs_natCast]
      rw [e2] at e
      have : Int.gcd p q * 1 = Int.gcd p q * Int.gcd x y := by omega
      exact (Nat.eq_of_mul_eq_mul_left (by omega) this).symm
end DL
set_option maxHeartbeats 1000000
set_option pp.maxSteps 1200
namespace DL
open PySem PySem.Spec PyProof.Rows L2
/-! ### definite forms -/
theorem F3.ok_ (f : F3) : f.D.ok = true := ok_t3
theorem M4.ok_ (f : M4) : f.D.ok = true := ok_t4
def redB (f : F3) : Bool := decide (Red f)
@[irreducible] def sp_is_reduced : FSpec := fun ds tk Q => ∃ (f : F3), ds = [f.D] ∧ Q (.val (.bl (redB f))) tk
theorem op_is_reduced {ds : List D} {tk : Tk} {Q : EV → Tk → Prop} (h : sp_is_reduced ds tk Q) : ∃ (f : F3), ds = [f.D] ∧ Q (.val (.bl (redB f))) tk := by unfold sp_is_reduced at h; exact h
theorem mon_is_reduced : MonFS sp_is_reduced := fun ds tk Q Q' hq_ hs_ => by
  obtain ⟨f, e_, q_⟩ := op_is_reduced hs_
  unfold sp_is_reduced
  exact ⟨f, e_, hq_ _ _ q_⟩
theorem len_is_reduced : ∀ ds tk Q, sp_is_reduced ds tk Q → ds.length = 1 := fun ds tk Q hs_ => by
  obtain ⟨f, e_, q_⟩ := op_is_reduced hs_
  rw [e_]; rfl
theorem cl_is_reduced {tk : Tk} {Q : EV → Tk → Prop} {f : F3} (q_ : Q (.val (.bl (redB f))) tk) : sp_is_reduced [f.D] tk Q := by
  unfold sp_is_reduced
  exact ⟨f, rfl, q_⟩
theorem ce_is_reduced {ds_ : List D} {tk : Tk} {Q : EV → Tk → Prop} {f : F3} (e_ : ds_ = [f.D]) (q_ : Q (.val (.bl (redB f))) tk) : sp_is_reduced ds_ tk Q := by
  subst e_
  unfold sp_is_reduced
  exact ⟨f, rfl, q_⟩
abbrev N_is_reduced : List Str := ["form", "a", "b", "c"]
def c_is_reduced : WS :=
  (wSeq (wAsg (fz (wV 0)) (gT 3 (gCs (gN 1) (gCs (gN 2) (gCs (gN 3) gNl)))))
  (wSeq (wIfS (wNot (wT (wChain3 fLt fLe fLe (fz (w1 fNeg (wPk 1))) (wPk 2) (wPk 1) (wPk 3)))) (wRet (wC (.bl false))) wNext)
  (wRet (wB (wOr (wT (wOp fGe (wPk 2) (fz (wC (.int 0))))) (wT (wOp fLt (wPk 1) (wPk 3))))))))
theorem hw_is_reduced : ∀ ds tk Q, sp_is_reduced ds tk Q → c_is_reduced { nx := fun _ t => Q (.val .non) t, rt := Q } (start N_is_reduced.length ds) tk := by
  intro ds tk Q h_
  obtain ⟨f, rfl, q⟩ := op_is_reduced h_
  have rb : ∀ {b : Bool}, (Red f ↔ b = true) → redB f = b := fun {b} h => by
    unfold redB
    cases b with
    | true => exact decide_eq_true (h.mpr rfl)
    | false => exact decide_eq_false fun z => Bool.false_ne_true (h.mp z)
  refine ⟨rfl, ?_⟩
  refine if2 (fun h1 => ?_) (fun h1 => ?_)
  · refine if2 (fun h2 => ?_) (fun h2 => ?_)
    · refine show if (!decide (f.a ≤ f.c)) = true then _ else _ from ?_
      refine ifN2 (fun h3 => ?_) (fun h3 => ?_)
      · rw [rb (b := false) ⟨fun z => absurd z.2.2.1 h3, fun z => nomatch z⟩] at q
        exact q
      · refine if2 (fun h4 => ?_) (fun h4 => ?_)
        · rw [rb (b := true) ⟨fun _ => rfl, fun _ => ⟨h1, h2, h3, .inl h4⟩⟩] at q
          exact q
        · have e : redB f = decide (f.a < f.c) := rb ⟨fun z => decide_eq_true (z.2.2.2.resolve_left h4), fun z => ⟨h1, h2, h3, .inr (of_decide_eq_true z)⟩⟩
          rw [e] at q
          exact q
    · rw [rb (b := false) ⟨fun z => absurd z.2.1 h2, fun z => nomatch z⟩] at q
      exact q
  · rw [rb (b := false) ⟨fun z => absurd z.1 h1, fun z => nomatch z⟩] at q
    exact q
@[irreducible] def sp_Lreduced : FSpec := fun ds tk Q => ∃ (f : F3) (d : D), ds = [d] ∧ (d = f.D ∨ d = .lst [.int f.a, .int f.b, .int f.c]) ∧ Q (.val (.bl (redB f))) tk
theorem op_Lreduced {ds : List D} {tk : Tk} {Q : EV → Tk → Prop} (h : sp_Lreduced ds tk Q) : ∃ (f : F3) (d : D), ds = [d] ∧ (d = f.D ∨ d = .lst [.int f.a, .int f.b, .int f.c]) ∧ Q (.val (.bl (redB f))) tk := by unfold sp_Lreduced at h; exact h
theorem mon_Lreduced : MonFS sp_Lreduced := fun ds tk Q Q' hq_ hs_ => by
  obtain ⟨f, d, e_, hd, q_⟩ := op_Lreduced hs_
  unfold sp_Lreduced
  exact ⟨f, d, e_, hd, hq_ _ _ q_⟩
theorem len_Lreduced : ∀ ds tk Q, sp_Lreduced ds tk Q → ds.length = 1 := fun ds tk Q hs_ => by
  obtain ⟨f, d, e_, hd, q_⟩ := op_Lreduced hs_
  rw [e_]; rfl
theorem cl_Lreduced {tk : Tk} {Q : EV → Tk → Prop} {f : F3} {d : D} (hd : d = f.D ∨ d = .lst [.int f.a, .int f.b, .int f.c]) (q_ : Q (.val (.bl (redB f))) tk) : sp_Lreduced [d] tk Q := by
  unfold sp_Lreduced
  exact ⟨f, d, rfl, hd, q_⟩
theorem ce_Lreduced {ds_ : List D} {tk : Tk} {Q : EV → Tk → Prop} {f : F3} {d : D} (hd : d = f.D ∨ d = .lst [.int f.a, .int f.b, .int f.c]) (e_ : ds_ = [d]) (q_ : Q (.val (.bl (redB f))) tk) : sp_Lreduced ds_ tk Q := by
  subst e_
  unfold sp_Lreduced
  exact ⟨f, d, rfl, hd, q_⟩
abbrev N_Lreduced : List Str := ["_law_form_here", "_law_a", "_law_b", "_law_c"]
def c_Lreduced : WS :=
  (wSeq (wAsg (fz (wV 0)) (gU 3 (gCs (gN 1) (gCs (gN 2) (gCs (gN 3) gNl)))))
  (wRet (wB (wAnd (wT (wOp fLt (fz (w1 fNeg (wPk 1))) (wPk 2))) (wAnd (wT (wOp fLe (wPk 2) (wPk 1))) (wAnd (wT (wOp fLe (wPk 1) (wPk 3))) (wT (wB (wOr (wT (wOp fGe (wPk 2) (fz (wC (.int 0))))) (wT (wOp fNe (wPk 1) (wPk 3))))))))))))
theorem hw_Lreduced : ∀ ds tk Q, sp_Lreduced ds tk Q → c_Lreduced { nx := fun _ t => Q (.val .non) t, rt := Q } (start N_Lreduced.length ds) tk := by
  intro ds tk Q h_
  obtain ⟨f, d, rfl, hd, q⟩ := op_Lreduced h_
  have rb : ∀ {b : Bool}, (Red f ↔ b = true) → redB f = b := fun {b} h => by
    unfold redB
    cases b with
    | true => exact decide_eq_true (h.mpr rfl)
    | false => exact decide_eq_false fun z => Bool.false_ne_true (h.mp z)
  have key : c_Lreduced { nx := fun _ t => Q (.val .non) t, rt := Q } (start N_Lreduced.length [f.D]) tk ∧ c_Lreduced { nx := fun _ t => Q (.val .non) t, rt := Q } (start N_Lreduced.length [.lst [.int f.a, .int f.b, .int f.c]]) tk := by
    refine ⟨?_, ?_⟩
    all_goals
      refine ⟨rfl, ?_⟩
      refine if2 (fun h1 => ?_) (fun h1 => ?_)
      · refine if2 (fun h2 => ?_) (fun h2 => ?_)
        · refine if2 (fun h3 => ?_) (fun h3 => ?_)
          · refine if2 (fun h4 => ?_) (fun h4 => ?_)
            · rw [rb (b := true) ⟨fun _ => rfl, fun _ => ⟨h1, h2, h3, .inl h4⟩⟩] at q
              exact q
            · have e : redB f = !decide (f.a = f.c) := by
                refine rb ⟨fun z => ?_, fun z => ⟨h1, h2, h3, .inr ?_⟩⟩
                · have := z.2.2.2.resolve_left h4
                  rw [decide_eq_false (show ¬ f.a = f.c by omega)]; rfl
                · have h3 : f.a ≤ f.c := h3
                  by_cases w : f.a = f.c
                  · rw [decide_eq_true w] at z; cases z
                  · omega
              rw [e] at q
              exact q
          · rw [rb (b := false) ⟨fun z => absurd z.2.2.1 h3, fun z => nomatch z⟩] at q
            exact q
        · rw [rb (b := false) ⟨fun z => absurd z.2.1 h2, fun z => nomatch z⟩] at q
          exact q
      · rw [rb (b := false) ⟨fun z => absurd z.1 h1, fun z => nomatch z⟩] at q
        exact q
  rcases hd with rfl | rfl
  · exact key.1
  · exact key.2
@[irreducible] def sp_scaled : FSpec := fun ds tk Q => ∃ (f : F3) (n : Int), ds = [f.D, .int n] ∧ (f.Sm 1000) ∧ (Sm 1000 n) ∧ Q (.val (f.scale n).D) tk
theorem op_scaled {ds : List D} {tk : Tk} {Q : EV → Tk → Prop} (h : sp_scaled ds tk Q) : ∃ (f : F3) (n : Int), ds = [f.D, .int n] ∧ (f.Sm 1000) ∧ (Sm 1000 n) ∧ Q (.val (f.scale n).D) tk := by unfold sp_scaled at h; exact h
theorem mon_scaled : MonFS sp_scaled := fun ds tk Q Q' hq_ hs_ => by
  obtain ⟨f, n, e_, hf, hn, q_⟩ := op_scaled hs_
  unfold sp_scaled
  exact ⟨f, n, e_, hf, hn, hq_ _ _ q_⟩
theorem len_scaled : ∀ ds tk Q, sp_scaled ds tk Q → ds.length = 2 := fun ds tk Q hs_ => by
  obtain ⟨f, n, e_, hf, hn, q_⟩ := op_scaled hs_
  rw [e_]; rfl
theorem cl_scaled {tk : Tk} {Q : EV → Tk → Prop} {f : F3} {n : Int} (hf : f.Sm 1000) (hn : Sm 1000 n) (q_ : Q (.val (f.scale n).D) tk) : sp_scaled [f.D, .int n] tk Q := by
  unfold sp_scaled
  exact ⟨f, n, rfl, hf, hn, q_⟩
theorem ce_scaled {ds_ : List D} {tk : Tk} {Q : EV → Tk → Prop} {f : F3} {n : Int} (hf : f.Sm 1000) (hn : Sm 1000 n) (e_ : ds_ = [f.D, .int n]) (q_ : Q (.val (f.scale n).D) tk) : sp_scaled ds_ tk Q := by
  subst e_
  unfold sp_scaled
  exact ⟨f, n, rfl, hf, hn, q_⟩
abbrev N_scaled : List Str := ["form", "number"]
def c_scaled : WS :=
  (wRet (wTup (wCons (fz (wOp fMul (fz (wOp fIdx (wPk 0) (fz (wC (.int 0))))) (wPk 1))) (wCons (fz (wOp fMul (fz (wOp fIdx (wPk 0) (fz (wC (.int 1))))) (wPk 1))) (wCons (fz (wOp fMul (fz (wOp fIdx (wPk 0) (fz (wC (.int 2))))) (wPk 1))) wNil)))))
theorem hw_scaled : ∀ ds tk Q, sp_scaled ds tk Q → c_scaled { nx := fun _ t => Q (.val .non) t, rt := Q } (start N_scaled.length ds) tk := by
  intro ds tk Q h_
  obtain ⟨f, n, rfl, hf, hn, q⟩ := op_scaled h_
  obtain ⟨a1, a2, a3⟩ := hf
  exact ⟨q1 a1 hn, q1 a2 hn, q1 a3 hn, rfl, q⟩
/-- what holds at each turn of the reduction -/
structure RpI (f g : F3) (m : M4) : Prop where
  eq : f.act m = g
  det : m.det = 1
  ga : 0 < g.a
  gc : 0 < g.c
  la : g.a ≤ f.a
  lc : g.c ≤ f.a + f.c - f.disc
theorem rpI_disc {f g : F3} {m : M4} (I : RpI f g m) : g.disc = f.disc := by rw [← I.eq]; exact F3.disc_act1 f I.det
theorem rpI_start {f : F3} (hd : f.disc < 0) (a0 : 0 < f.a) : RpI f f M4.one := ⟨F3.act_one f, rfl, a0, def_c hd a0, Int.le_refl _, by have := def_c hd a0; omega⟩
theorem rpI_swap {f g : F3} {m : M4} (hd : f.disc < 0) (I : RpI f g m) (h : g.c < g.a ∨ (g.a = g.c ∧ g.b < 0)) : RpI f (g.act swapM) (m.mul swapM) := by
  refine ⟨by rw [← F3.act_mul, I.eq], M4.det_mul1 I.det rfl, ?_, ?_, ?_, ?_⟩ <;> rw [act_swap] <;> dsimp only
  · exact I.gc
  · exact I.ga
  · have := I.la; omega
  · have := I.la; have := def_c (f := f) hd (by have := I.ga; omega); omega
theorem rpI_tran {f g : F3} {m : M4} (hd : f.disc < 0) (I : RpI f g m) : RpI f (g.act (tranM ((g.a - g.b).fdiv (2 * g.a)))) (m.mul (tranM ((g.a - g.b).fdiv (2 * g.a)))) := by
  have ht := tran_b (b := g.b) I.ga
  have gd := rpI_disc I
  generalize (g.a - g.b).fdiv (2 * g.a) = t at *
  have hd1 : (tranM t).det = 1 := by unfold M4.det tranM; dsimp only; omega
  have hd2 : (g.act (tranM t)).disc < 0 := by rw [F3.disc_act1 g hd1, gd]; exact hd
  have hc := tran_c (f := g) I.ga ht
  have e : (g.act (tranM t)).a = g.a := by rw [act_tran]
  refine ⟨by rw [← F3.act_mul, I.eq], M4.det_mul1 I.det hd1, by rw [e]; exact I.ga, def_c hd2 (by rw [e]; exact I.ga), by rw [e]; exact I.la, ?_⟩
  rw [act_tran]
  dsimp only
  have := I.la
  have := def_c (f := f) hd (by have := I.ga; omega)
  rw [gd] at hc
  omega
theorem sm_ss {x : Int} {k : Nat} (h : x.natAbs < 4) (hk : 2 ≤ k) : Sm k x := Nat.lt_of_lt_of_le (show x.natAbs < 2 ^ 2 from h) (Nat.pow_le_pow_right (by decide) hk)
theorem sm_nn {x : Int} {k : Nat} (h0 : 0 ≤ x) (h : x < 2 ^ k) : Sm k x := natAbs_lt h0 h
theorem sm_lt {x : Int} {k : Nat} (h : Sm k x) : -(2 ^ k) < x ∧ x < 2 ^ k := by
  unfold Sm at h
  have : ((x.natAbs : Nat) : Int) < ((2 ^ k : Nat) : Int) := Int.ofNat_lt.mpr h
  rw [Int.natCast_pow] at this
  have e : ((2 : Nat) : Int) = 2 := rfl
  rw [e] at this
  omega
theorem sm_sq {x y : Int} {k : Nat} (h : x * x ≤ y) (hy : Sm k y) : Sm k x := Nat.lt_of_le_of_lt (sq_le_abs h) hy
theorem sm_le {x y : Int} {k : Nat} (h0 : 0 ≤ x) (h : x ≤ y) (hy : Sm k y) : Sm k x := by unfold Sm at *; omega
theorem rpI_size {f g : F3} {m : M4} {k : Nat} (hf : f.Sm k) (hd : f.disc < 0) (I : RpI f g m) : g.Sm (3 * k + 20) ∧ m.Sm (3 * k + 20) := by
  have sd : Sm (k + k + 5) f.disc := by
    obtain ⟨a1, a2, a3⟩ := hf
    exact (((a2.mul a2).mono (show k + k ≤ 3 + k + k by omega)).sub ((s4.mul a1).mul a3)).mono (by omega)
  obtain ⟨a1, a2, a3⟩ := hf
  have fa : 0 < f.a := by have := I.ga; have := I.la; omega
  have fc := def_c hd fa
  have sb : Sm (2 * k + 8) (f.a + f.c - f.disc) := ((a1.add a3).mono (show k + 1 ≤ 2 * k + 7 by omega)).sub (sd.mono (by omega))
  have ga : Sm k g.a := sm_le (by have := I.ga; omega) I.la a1
  have gc : Sm (2 * k + 8) g.c := sm_le (by have := I.gc; omega) I.lc sb
  have gd := rpI_disc I
  have gb : Sm (3 * k + 20) g.b := sm_sq (y := 4 * g.a * g.c) (def_b (by rw [gd]; exact hd)) (((s4.mul ga).mul gc).mono (by omega))
  have c1 := col_small (v := ⟨m.p, m.r⟩) fa hd
  have c2 := col_small (v := ⟨m.q, m.s⟩) fa hd
  have e1 : f.worth ⟨m.p, m.r⟩ = g.a := by rw [← I.eq]; rfl
  have e2 : f.worth ⟨m.q, m.s⟩ = g.c := by rw [← I.eq]; rfl
  rw [e1] at c1
  rw [e2] at c2
  refine ⟨⟨ga.mono (by omega), gb, gc.mono (by omega)⟩, sm_sq c1.2 (((s4.mul a3).mul ga).mono (by omega)), sm_sq c2.2 (((s4.mul a3).mul gc).mono (by omega)), sm_sq c1.1 (((s4.mul a1).mul ga).mono (by omega)), sm_sq c2.1 (((s4.mul a1).mul gc).mono (by omega))⟩
@[irreducible] def sp_reduce_positive : FSpec := fun ds tk Q => ∃ (f : F3), ds = [f.D] ∧ (f.Sm 150) ∧ (f.disc < 0) ∧ (0 < f.a) ∧ ∀ (g : F3), ∀ (m : M4), ∀ (hI : RpI f g m), ∀ (hr : Red g), Q (.val (.tup [g.D, m.D])) tk
theorem op_reduce_positive {ds : List D} {tk : Tk} {Q : EV → Tk → Prop} (h : sp_reduce_positive ds tk Q) : ∃ (f : F3), ds = [f.D] ∧ (f.Sm 150) ∧ (f.disc < 0) ∧ (0 < f.a) ∧ ∀ (g : F3), ∀ (m : M4), ∀ (hI : RpI f g m), ∀ (hr : Red g), Q (.val (.tup [g.D, m.D])) tk := by unfold sp_reduce_positive at h; exact h
theorem mon_reduce_positive : MonFS sp_reduce_positive := fun ds tk Q Q' hq_ hs_ => by
  obtain ⟨f, e_, hf, hd, ha, q_⟩ := op_reduce_positive hs_
  unfold sp_reduce_positive
  exact ⟨f, e_, hf, hd, ha, fun g m hI hr => hq_ _ _ (q_ g m hI hr)⟩
theorem len_reduce_positive : ∀ ds tk Q, sp_reduce_positive ds tk Q → ds.length = 1 := fun ds tk Q hs_ => by
  obtain ⟨f, e_, hf, hd, ha, q_⟩ := op_reduce_positive hs_
  rw [e_]; rfl
theorem cl_reduce_positive {tk : Tk} {Q : EV → Tk → Prop} {f : F3} (hf : f.Sm 150) (hd : f.disc < 0) (ha : 0 < f.a) (q_ : ∀ (g : F3), ∀ (m : M4), ∀ (hI : RpI f g m), ∀ (hr : Red g), Q (.val (.tup [g.D, m.D])) tk) : sp_reduce_positive [f.D] tk Q := by
  unfold sp_reduce_positive
  exact ⟨f, rfl, hf, hd, ha, q_⟩
theorem ce_reduce_positive {ds_ : List D} {tk : Tk} {Q : EV → Tk → Prop} {f : F3} (hf : f.Sm 150) (hd : f.disc < 0) (ha : 0 < f.a) (e_ : ds_ = [f.D]) (q_ : ∀ (g : F3), ∀ (m : M4), ∀ (hI : RpI f g m), ∀ (hr : Red g), Q (.val (.tup [g.D, m.D])) tk) : sp_reduce_positive ds_ tk Q := by
  subst e_
  unfold sp_reduce_positive
  exact ⟨f, rfl, hf, hd, ha, q_⟩
abbrev N_reduce_positive : List Str := ["form", "m", "a", "b", "c", "step"]
def c_reduce_positive : WS :=
  (wSeq (wSet 1 (wC kUNIT))
  (wSeq (wWhile (wNot (wT (wCall sp_is_reduced (wCons (fz (wV 0)) wNil)))) (wSeq (wAsg (fz (wV 0)) (gT 3 (gCs (gN 2) (gCs (gN 3) (gCs (gN 4) gNl)))))
  (wSeq (wIfS (wOr (wT (wOp fGt (wPk 2) (wPk 4))) (wAnd (wT (wOp fEq (wPk 2) (wPk 4))) (wT (wOp fLt (wPk 3) (fz (wC (.int 0))))))) (wSet 5 (wTup (wCons (fz (wC (.int 0))) (wCons (fz (w1 fNeg (fz (wC (.int 1))))) (wCons (fz (wC (.int 1))) (wCons (fz (wC (.int 0))) wNil)))))) (wSet 5 (wTup (wCons (fz (wC (.int 1))) (wCons (fz (wOp fDiv (fz (wOp fSub (wPk 2) (wPk 3))) (fz (wOp fMul (fz (wC (.int 2))) (wPk 2))))) (wCons (fz (wC (.int 0))) (wCons (fz (wC (.int 1))) wNil)))))))
  (wSeq (wSet 0 (wCall sp_act (wCons (fz (wV 0)) (wCons (fz (wV 5)) wNil))))
  (wSet 1 (wCall sp_multiply (wCons (fz (wV 1)) (wCons (fz (wV 5)) wNil))))))))
  (wRet (wTup (wCons (fz (wV 0)) (wCons (fz (wV 1)) wNil))))))
theorem hw_reduce_positive : ∀ ds tk Q, sp_reduce_positive ds tk Q → c_reduce_positive { nx := fun _ t => Q (.val .non) t, rt := Q } (start N_reduce_positive.length ds) tk := by
  intro ds tk Q h_
  obtain ⟨f, rfl, hf, hd, ha, q⟩ := op_reduce_positive h_
  refine ⟨fun μ e t => t = tk ∧ ∃ (g : F3) (m : M4) (x2 x3 x4 x5 : Option EV), RpI f g m ∧ μ = redMeas g ∧ e = [some (.val (g.D)), some (.val (m.D)), x2, x3, x4, x5], ⟨_, rfl, f, M4.one, none, none, none, none, rpI_start hd ha, rfl, rfl⟩, ?_⟩
  rintro μ e t ⟨rfl, g, m, x2, x3, x4, x5, I, rfl, rfl⟩
  refine cl_is_reduced (f := g) ?_
  obtain ⟨sg, sm⟩ := rpI_size hf hd I
  by_cases hr : Red g
  · rw [show redB g = true from decide_eq_true hr]
    refine ifBF rfl ?_
    exact ⟨rfl, q g m I hr⟩
  rw [show redB g = false from decide_eq_false hr]
  refine ifB rfl ?_
  refine ⟨rfl, ?_⟩
  simp only [gCs, gN, gNl, start_def, List.map_cons, List.map_nil, List.set_cons_zero, List.set_cons_succ, List.replicate_succ, List.replicate_zero, List.cons_append, List.nil_append, List.length_cons, List.length_nil, Nat.reduceAdd, Nat.reduceSub]
  obtain ⟨g1, g2, g3⟩ := sg
  refine seq_cut (a := wIfS _ _ _) (fun e t' => t' = t ∧ ∃ n : M4, n.Sm 500 ∧ RpI f (g.act n) (m.mul n) ∧ redMeas (g.act n) < redMeas g ∧ e = [some (.val (g.D)), some (.val (m.D)), some (.val (.int (g.a))), some (.val (.int (g.b))), some (.val (.int (g.c))), some (.val (n.D))]) (fun R hR => ?_) ?_
  · have swp : (g.c < g.a ∨ (g.a = g.c ∧ g.b < 0)) → R [some (.val (g.D)), some (.val (m.D)), some (.val (.int (g.a))), some (.val (.int (g.b))), some (.val (.int (g.c))), some (.val (swapM.D))] t := fun h =>
      hR _ _ ⟨rfl, swapM, ⟨sm_ss (x := 0) (by decide) (by decide), sm_ss (x := -1) (by decide) (by decide), sm_ss (x := 1) (by decide) (by decide), sm_ss (x := 0) (by decide) (by decide)⟩, rpI_swap hd I h, swap_less I.ga I.gc h, rfl⟩
    have st : Sm 500 ((g.a - g.b).fdiv (2 * g.a)) := ((g1.sub g2).mono (show _ ≤ 500 by decide)).fdiv
    have trp : ¬ (g.c < g.a ∨ (g.a = g.c ∧ g.b < 0)) → R [some (.val (g.D)), some (.val (m.D)), some (.val (.int (g.a))), some (.val (.int (g.b))), some (.val (.int (g.c))), some (.val ((tranM ((g.a - g.b).fdiv (2 * g.a))).D))] t := fun h =>
      hR _ _ ⟨rfl, tranM ((g.a - g.b).fdiv (2 * g.a)), ⟨sm_ss (x := 1) (by decide) (by decide), st, sm_ss (x := 0) (by decide) (by decide), sm_ss (x := 1) (by decide) (by decide)⟩, rpI_tran hd I, tran_less I.ga hr h, rfl⟩
    have g2a : 2 * g.a ≠ 0 := by have := I.ga; omega
    have mk : MulOk 2 g.a := by walk_at "sd"
    have dk : DivOk (g.a - g.b) (2 * g.a) := by walk_at "sd"
    refine if2 (fun h => ?_) (fun h => ?_)
    · exact ⟨rfl, swp (.inl h)⟩
    · refine if2 (fun h2 => if2 (fun h3 => ?_) (fun h3 => ?_)) (fun h2 => ?_)
      · exact ⟨rfl, swp (.inr ⟨h2, h3⟩)⟩
      · exact ⟨mk, dk, rfl, trp (fun z => z.elim h fun w => h3 w.2)⟩
      · exact ⟨mk, dk, rfl, trp (fun z => z.elim h fun w => h2 w.1)⟩
  rintro e t' ⟨rfl, n, sn, I', hl, rfl⟩
  refine cl_act (f := g) (m := n) ⟨g1.mono (by decide), g2.mono (by decide), g3.mono (by decide)⟩ (sn.up (by decide)) ?_
  refine ⟨m, n, rfl, sm.up (by decide), sn.up (by decide), ?_⟩
  exact ⟨_, hl, rfl, g.act n, m.mul n, _, _, _, _, I', rfl, rfl⟩
/-- reduced, of either sign -/
structure RdI (f g : F3) (m : M4) : Prop where
  eq : f.act m = g
  det : m.det = 1
  sgn : (0 < f.a ∧ 0 < g.a ∧ Red g) ∨ (f.a < 0 ∧ g.a < 0 ∧ Red (g.scale (-1)))
theorem rdI_uniq {f g f' g' : F3} {m m' n : M4} (hd : f.disc < 0) (I : RdI f g m) (I' : RdI f' g' m') (hn : n.det = 1) (e : f.act n = f') : g' = g := by
  have e2 : g.act (m.adj.mul (n.mul m')) = g' := by rw [← F3.act_mul, F3.back I.det I.eq, ← F3.act_mul, e, I'.eq]
  have dn : (m.adj.mul (n.mul m')).det = 1 := M4.det_mul1 (by rw [M4.det_adj]; exact I.det) (M4.det_mul1 hn I'.det)
  have gd : g.disc < 0 := by rw [← I.eq, F3.disc_act1 f I.det]; exact hd
  rcases I.sgn with ⟨_, h1, h2⟩ | ⟨_, h1, h2⟩
  · have c0 := def_c gd h1
    have pos : 0 < g'.a := by
      have k := red_min (v := ⟨(m.adj.mul (n.mul m')).p, (m.adj.mul (n.mul m')).r⟩) h1 h2 (det_col dn)
      have e3 : g'.a = g.worth ⟨(m.adj.mul (n.mul m')).p, (m.adj.mul (n.mul m')).r⟩ := by rw [← e2]; rfl
      omega
    rcases I'.sgn with ⟨_, h3, h4⟩ | ⟨_, h3, h4⟩
    · exact (red_uniq h1 h3 h2 h4 dn e2).symm
    · omega
  · have gd' : (g.scale (-1)).disc < 0 := by rw [F3.scale_disc]; omega
    have h1' : 0 < (g.scale (-1)).a := by unfold F3.scale; dsimp only; omega
    have e4 : (g.scale (-1)).act (m.adj.mul (n.mul m')) = g'.scale (-1) := by rw [F3.scale_act, e2]
    have pos : 0 < (g'.scale (-1)).a := by
      have k := red_min (v := ⟨(m.adj.mul (n.mul m')).p, (m.adj.mul (n.mul m')).r⟩) h1' h2 (det_col dn)
      have e3 : (g'.scale (-1)).a = (g.scale (-1)).worth ⟨(m.adj.mul (n.mul m')).p, (m.adj.mul (n.mul m')).r⟩ := by rw [← e4]; rfl
      omega
    rcases I'.sgn with ⟨_, h3, h4⟩ | ⟨_, h3, h4⟩
    · exfalso
      unfold F3.scale at pos
      dsimp only at pos
      omega
    · have := red_uniq h1' pos h2 h4 dn e4
      rw [← F3.scale_neg g', ← this, F3.scale_neg]
theorem def_a {f : F3} (hd : f.disc < 0) : f.a ≠ 0 := fun z => by
  unfold F3.disc at hd
  rw [z, Int.mul_zero, Int.zero_mul] at hd
  have := sq_nn f.b
  omega
@[irreducible] def sp_reduce_definite : FSpec := fun ds tk Q => ∃ (f : F3), ds = [f.D] ∧ (f.Sm 150) ∧ (f.disc < 0) ∧ ∀ (g : F3), ∀ (m : M4), ∀ (hI : RdI f g m), ∀ (hg : g.Sm 480), ∀ (hm : m.Sm 480), Q (.val (.tup [g.D, m.D])) tk
theorem op_reduce_definite {ds : List D} {tk : Tk} {Q : EV → Tk → Prop} (h : sp_reduce_definite ds tk Q) : ∃ (f : F3), ds = [f.D] ∧ (f.Sm 150) ∧ (f.disc < 0) ∧ ∀ (g : F3), ∀ (m : M4), ∀ (hI : RdI f g m), ∀ (hg : g.Sm 480), ∀ (hm : m.Sm 480), Q (.val (.tup [g.D, m.D])) tk := by unfold sp_reduce_definite at h; exact h
theorem mon_reduce_definite : MonFS sp_reduce_definite := fun ds tk Q Q' hq_ hs_ => by
  obtain ⟨f, e_, hf, hd, q_⟩ := op_reduce_definite hs_
  unfold sp_reduce_definite
  exact ⟨f, e_, hf, hd, fun g m hI hg hm => hq_ _ _ (q_ g m hI hg hm)⟩
theorem len_reduce_definite : ∀ ds tk Q, sp_reduce_definite ds tk Q → ds.length = 1 := fun ds tk Q hs_ => by
  obtain ⟨f, e_, hf, hd, q_⟩ := op_reduce_definite hs_
  rw [e_]; rfl
theorem cl_reduce_definite {tk : Tk} {Q : EV → Tk → Prop} {f : F3} (hf : f.Sm 150) (hd : f.disc < 0) (q_ : ∀ (g : F3), ∀ (m : M4), ∀ (hI : RdI f g m), ∀ (hg : g.Sm 480), ∀ (hm : m.Sm 480), Q (.val (.tup [g.D, m.D])) tk) : sp_reduce_definite [f.D] tk Q := by
  unfold sp_reduce_definite
  exact ⟨f, rfl, hf, hd, q_⟩
theorem ce_reduce_definite {ds_ : List D} {tk : Tk} {Q : EV → Tk → Prop} {f : F3} (hf : f.Sm 150) (hd : f.disc < 0) (e_ : ds_ = [f.D]) (q_ : ∀ (g : F3), ∀ (m : M4), ∀ (hI : RdI f g m), ∀ (hg : g.Sm 480), ∀ (hm : m.Sm 480), Q (.val (.tup [g.D, m.D])) tk) : sp_reduce_definite ds_ tk Q := by
  subst e_
  unfold sp_reduce_definite
  exact ⟨f, rfl, hf, hd, q_⟩
abbrev N_reduce_definite : List Str := ["form", "reduced", "m"]
def c_reduce_definite : WS :=
  (wSeq (wIfS (wT (wOp fGt (fz (wOp fIdx (wPk 0) (fz (wC (.int 0))))) (fz (wC (.int 0))))) (wRet (wCall sp_reduce_positive (wCons (fz (wV 0)) wNil))) wNext)
  (wSeq (wAsg (fz (wCall sp_reduce_positive (wCons (fz (wCall sp_scaled (wCons (fz (wV 0)) (wCons (fz (w1 fNeg (fz (wC (.int 1))))) wNil)))) wNil))) (gT 2 (gCs (gN 1) (gCs (gN 2) gNl))))
  (wRet (wTup (wCons (fz (wCall sp_scaled (wCons (fz (wV 1)) (wCons (fz (w1 fNeg (fz (wC (.int 1))))) wNil)))) (wCons (fz (wV 2)) wNil))))))
theorem hw_reduce_definite : ∀ ds tk Q, sp_reduce_definite ds tk Q → c_reduce_definite { nx := fun _ t => Q (.val .non) t, rt := Q } (start N_reduce_definite.length ds) tk := by
  intro ds tk Q h_
  obtain ⟨f, rfl, hf, hd, q⟩ := op_reduce_definite h_
  refine if2 (fun h => ?_) (fun h => ?_)
  · have h : 0 < f.a := h
    refine cl_reduce_positive (f := f) hf hd h fun g m I hr => ?_
    obtain ⟨sg, sm⟩ := rpI_size hf hd I
    exact q g m ⟨I.eq, I.det, .inl ⟨h, I.ga, hr⟩⟩ (sg.up (by decide)) (sm.up (by decide))
  · have h : f.a < 0 := by have := def_a hd; have h : ¬ 0 < f.a := h; omega
    have s1 : Sm 1000 (-1) := sm_ss (by decide) (by decide)
    refine cl_scaled (f := f) (n := -1) (hf.up (by decide)) s1 ?_
    have hd' : (f.scale (-1)).disc < 0 := by rw [F3.scale_disc]; omega
    have hf' : (f.scale (-1)).Sm 150 := by
      obtain ⟨a1, a2, a3⟩ := hf
      have k : ∀ {x : Int}, Sm 150 x → Sm 150 (x * -1) := fun h => by rw [Int.mul_neg, Int.mul_one]; exact h.neg
      exact ⟨k a1, k a2, k a3⟩
    refine cl_reduce_positive (f := f.scale (-1)) hf' hd' (by unfold F3.scale; dsimp only; omega) fun g m I hr => ?_
    obtain ⟨sg, sm⟩ := rpI_size hf' hd' I
    refine ⟨rfl, ?_⟩
    refine cl_scaled (f := g) (n := -1) (sg.up (by decide)) s1 ?_
    refine ⟨rfl, ?_⟩
    have k : ∀ {x : Int}, Sm 470 x → Sm 480 (x * -1) := fun h => by rw [Int.mul_neg, Int.mul_one]; exact h.neg.mono (by decide)
    refine q (g.scale (-1)) m ⟨?_, I.det, .inr ⟨h, ?_, ?_⟩⟩ ⟨k sg.1, k sg.2.1, k sg.2.2⟩ (sm.up (by decide))
    · rw [← I.eq, F3.scale_act, F3.scale_neg]
    · have := I.ga; unfold F3.scale; dsimp only; omega
    · rw [F3.scale_neg]; exact hr
end DL
set_option maxHeartbeats 1000000
set_option pp.maxSteps 1200
namespace DL
open PySem PySem.Spec PyProof.Rows L2
/-! ### indefinite forms -/
theorem rt_uniq {d r s : Int} (h : Rt d r) (h0 : 0 ≤ s) (h1 : s * s ≤ d) (h2 : d < (s + 1) * (s + 1)) : s = r := by
  have a : s ≤ r := by
    refine Int.not_lt.mp fun z => ?_
    have := Int.mul_le_mul (show r + 1 ≤ s by omega) (show r + 1 ≤ s by omega) (by have := h.r0; omega) h0
    have := h.hi
    omega
  have b : r ≤ s := by
    refine Int.not_lt.mp fun z => ?_
    have := Int.mul_le_mul (show s + 1 ≤ r by omega) (show s + 1 ≤ r by omega) (by omega) h.r0
    have := h.lo
    omega
  omega
theorem fr_root {tk : Tk} {Q : EV → Tk → Prop} {d r : Int} (h : Rt d r) (hs : Sm 12000 d) (q : Q (.val (.int r)) tk) : sp_floor_root [.int d] tk Q := by
  have d0 : 0 ≤ d := by have := h.lo; have := sq_nn r; omega
  refine cl_floor_root d0 ?_ fun s h0 h1 h2 => ?_
  · have := (sm_lt (hs.mono (show 12000 ≤ 13000 by decide))).2
    exact this
  · rw [rt_uniq h h0 h1 h2]; exact q
theorem disc_sm2 {f : F3} {k : Nat} (h : f.Sm k) : Sm (2 * k + 5) f.disc := by
  obtain ⟨a1, a2, a3⟩ := h
  have s4 : Sm 3 4 := show (4 : Int).natAbs < 2 ^ 3 by decide
  exact (((a2.mul a2).mono (show k + k ≤ 2 * k + 4 by omega)).sub (((s4.mul a1).mul a3).mono (show 3 + k + k ≤ 2 * k + 4 by omega))).mono (by omega)
theorem Rt.sm {d r : Int} {k : Nat} (h : Rt d r) (hs : Sm k d) : Sm k r := sm_sq (by have := h.lo; omega) hs
@[irreducible] def sp_is_reduced_v1 : FSpec := fun ds tk Q => ∃ (f : F3) (r : Int), ds = [f.D] ∧ (f.Sm 999) ∧ (Rt f.disc r) ∧ Q (.val (.bl (decide (RedI r f)))) tk
theorem op_is_reduced_v1 {ds : List D} {tk : Tk} {Q : EV → Tk → Prop} (h : sp_is_reduced_v1 ds tk Q) : ∃ (f : F3) (r : Int), ds = [f.D] ∧ (f.Sm 999) ∧ (Rt f.disc r) ∧ Q (.val (.bl (decide (RedI r f)))) tk := by unfold sp_is_reduced_v1 at h; exact h
theorem mon_is_reduced_v1 : MonFS sp_is_reduced_v1 := fun ds tk Q Q' hq_ hs_ => by
  obtain ⟨f, r, e_, hf, hr, q_⟩ := op_is_reduced_v1 hs_
  unfold sp_is_reduced_v1
  exact ⟨f, r, e_, hf, hr, hq_ _ _ q_⟩
theorem len_is_reduced_v1 : ∀ ds tk Q, sp_is_reduced_v1 ds tk Q → ds.length = 1 := fun ds tk Q hs_ => by
  obtain ⟨f, r, e_, hf, hr, q_⟩ := op_is_reduced_v1 hs_
  rw [e_]; rfl
theorem cl_is_reduced_v1 {tk : Tk} {Q : EV → Tk → Prop} {f : F3} {r : Int} (hf : f.Sm 999) (hr : Rt f.disc r) (q_ : Q (.val (.bl (decide (RedI r f)))) tk) : sp_is_reduced_v1 [f.D] tk Q := by
  unfold sp_is_reduced_v1
  exact ⟨f, r, rfl, hf, hr, q_⟩
theorem ce_is_reduced_v1 {ds_ : List D} {tk : Tk} {Q : EV → Tk → Prop} {f : F3} {r : Int} (hf : f.Sm 999) (hr : Rt f.disc r) (e_ : ds_ = [f.D]) (q_ : Q (.val (.bl (decide (RedI r f)))) tk) : sp_is_reduced_v1 ds_ tk Q := by
  subst e_
  unfold sp_is_reduced_v1
  exact ⟨f, r, rfl, hf, hr, q_⟩
abbrev N_is_reduced_v1 : List Str := ["form", "a", "b", "_", "root"]
def c_is_reduced_v1 : WS :=
  (wSeq (wAsg (fz (wV 0)) (gT 3 (gCs (gN 1) (gCs (gN 2) (gCs (gN 3) gNl)))))
  (wSeq (wSet 4 (wCall sp_floor_root (wCons (fz (wCall sp_discriminant (wCons (fz (wV 0)) wNil))) wNil)))
  (wRet (wB (wAnd (wT (wChain fLt fLe (fz (wC (.int 0))) (wPk 2) (wPk 4))) (wT (wChain fLt fLe (fz (wOp fSub (wPk 4) (wPk 2))) (fz (wOp fMul (fz (wC (.int 2))) (fz (w1 fAbs (wPk 1))))) (fz (wOp fAdd (wPk 4) (wPk 2))))))))))
theorem hw_is_reduced_v1 : ∀ ds tk Q, sp_is_reduced_v1 ds tk Q → c_is_reduced_v1 { nx := fun _ t => Q (.val .non) t, rt := Q } (start N_is_reduced_v1.length ds) tk := by
  intro ds tk Q h_
  obtain ⟨f, r, rfl, hf, hr, q⟩ := op_is_reduced_v1 h_
  have sd := disc_sm2 hf
  have sr : Sm 3000 r := (hr.sm sd).mono (by decide)
  have hf1 := hf
  obtain ⟨a1, a2, a3⟩ := hf
  have fn : ∀ {p : Prop}, ¬ p → (RedI r f → p) → decide (RedI r f) = false := fun h k => decide_eq_false fun z => h (k z)
  refine ⟨rfl, ?_⟩
  refine cl_discriminant (f := f) (hf1.up (by decide)) ?_
  refine fr_root hr (sd.mono (by decide)) ?_
  refine if2 (fun h1 => ?_) (fun h1 => ?_)
  · refine show if decide (f.b ≤ r) = true then _ else _ from ?_
    refine if2 (fun h2 => ?_) (fun h2 => ?_)
    · refine ⟨by walk_at "sd", ?_⟩
      refine if2 (fun h3 => ?_) (fun h3 => ?_)
      · have e : decide (RedI r f) = decide (2 * iabs f.a ≤ r + f.b) := decide_eq_decide.mpr ⟨fun z => z.2.2.2, fun z => ⟨h1, h2, h3, z⟩⟩
        rw [e] at q
        exact q
      · rw [fn h3 fun z => z.2.2.1] at q
        exact q
    · rw [fn h2 fun z => z.2.1] at q
      exact q
  · rw [fn h1 fun z => z.1] at q
    exact q
instance (f : F3) : Decidable (RedL f) := by unfold RedL; infer_instance
@[irreducible] def sp_Lis_reduced : FSpec := fun ds tk Q => ∃ (f : F3) (r : Int), ds = [f.D] ∧ (f.Sm 999) ∧ (Rt f.disc r) ∧ Q (.val (.bl (decide (RedI r f)))) tk
theorem op_Lis_reduced {ds : List D} {tk : Tk} {Q : EV → Tk → Prop} (h : sp_Lis_reduced ds tk Q) : ∃ (f : F3) (r : Int), ds = [f.D] ∧ (f.Sm 999) ∧ (Rt f.disc r) ∧ Q (.val (.bl (decide (RedI r f)))) tk := by unfold sp_Lis_reduced at h; exact h
theorem mon_Lis_reduced : MonFS sp_Lis_reduced := fun ds tk Q Q' hq_ hs_ => by
  obtain ⟨f, r, e_, hf, hr, q_⟩ := op_Lis_reduced hs_
  unfold sp_Lis_reduced
  exact ⟨f, r, e_, hf, hr, hq_ _ _ q_⟩
theorem len_Lis_reduced : ∀ ds tk Q, sp_Lis_reduced ds tk Q → ds.length = 1 := fun ds tk Q hs_ => by
  obtain ⟨f, r, e_, hf, hr, q_⟩ := op_Lis_reduced hs_
  rw [e_]; rfl
theorem cl_Lis_reduced {tk : Tk} {Q : EV → Tk → Prop} {f : F3} {r : Int} (hf : f.Sm 999) (hr : Rt f.disc r) (q_ : Q (.val (.bl (decide (RedI r f)))) tk) : sp_Lis_reduced [f.D] tk Q := by
  unfold sp_Lis_reduced
  exact ⟨f, r, rfl, hf, hr, q_⟩
theorem ce_Lis_reduced {ds_ : List D} {tk : Tk} {Q : EV → Tk → Prop} {f : F3} {r : Int} (hf : f.Sm 999) (hr : Rt f.disc r) (e_ : ds_ = [f.D]) (q_ : Q (.val (.bl (decide (RedI r f)))) tk) : sp_Lis_reduced ds_ tk Q := by
  subst e_
  unfold sp_Lis_reduced
  exact ⟨f, r, rfl, hf, hr, q_⟩
abbrev N_Lis_reduced : List Str := ["_law_form_here", "_law_a", "_law_b", "_law_d", "_law_low", "_law_high"]
def c_Lis_reduced : WS :=
  (wSeq (wAsg (fz (wSl (wPk 0) wNo (wSo (fz (wC (.int 2)))))) (gT 2 (gCs (gN 1) (gCs (gN 2) gNl))))
  (wSeq (wSet 3 (wOp fSub (fz (wOp fMul (fz (wOp fIdx (wPk 0) (fz (wC (.int 1))))) (fz (wOp fIdx (wPk 0) (fz (wC (.int 1))))))) (fz (wOp fMul (fz (wOp fMul (fz (wC (.int 4))) (fz (wOp fIdx (wPk 0) (fz (wC (.int 0))))))) (fz (wOp fIdx (wPk 0) (fz (wC (.int 2)))))))))
  (wSeq (wIfS (wOr (wT (wOp fLe (wPk 2) (fz (wC (.int 0))))) (wT (wOp fGe (fz (wOp fMul (wPk 2) (wPk 2))) (wPk 3)))) (wRet (wC (.bl false))) wNext)
  (wSeq (wSet 4 (wOp fAdd (fz (wOp fMul (fz (wC (.int 2))) (fz (w1 fAbs (wPk 1))))) (wPk 2)))
  (wSeq (wSet 5 (wOp fSub (fz (wOp fMul (fz (wC (.int 2))) (fz (w1 fAbs (wPk 1))))) (wPk 2)))
  (wRet (wB (wAnd (wT (wOp fGt (fz (wOp fMul (wPk 4) (wPk 4))) (wPk 3))) (wT (wB (wOr (wT (wOp fLt (wPk 5) (fz (wC (.int 0))))) (wT (wOp fLt (fz (wOp fMul (wPk 5) (wPk 5))) (wPk 3))))))))))))))
theorem hw_Lis_reduced : ∀ ds tk Q, sp_Lis_reduced ds tk Q → c_Lis_reduced { nx := fun _ t => Q (.val .non) t, rt := Q } (start N_Lis_reduced.length ds) tk := by
  intro ds tk Q h_
  obtain ⟨f, r, rfl, hf, hr, q⟩ := op_Lis_reduced h_
  have sd := disc_sm2 hf
  obtain ⟨a1, a2, a3⟩ := hf
  rw [show decide (RedI r f) = decide (RedL f) from decide_eq_decide.mpr (redI_iff hr)] at q
  have fn : ∀ {p : Prop}, ¬ p → (RedL f → p) → decide (RedL f) = false := fun h k => decide_eq_false fun z => h (k z)
  have s4 : Sm 3 4 := show (4 : Int).natAbs < 2 ^ 3 by decide
  refine ⟨by show ¬ (HT.sIx 3 0 none = 0 ∧ HT.sIx 3 3 (some 2) = 3); decide, rfl, ?_⟩
  refine ⟨q1 a2 a2, q1 s4 a1, q1 (s4.mul a1) a3, ?_⟩
  refine if2 (fun h1 => ?_) (fun h1 => ?_)
  · rw [fn (p := ¬ f.b ≤ 0) (fun z => z h1) fun z => by have := z.1.1; omega] at q
    exact q
  refine ⟨q1 a2 a2, ?_⟩
  refine if2 (fun h2 => ?_) (fun h2 => ?_)
  · have h2 : f.disc ≤ f.b * f.b := h2
    rw [fn (p := ¬ f.disc ≤ f.b * f.b) (fun z => z h2) fun z => by have := z.1.2; omega] at q
    exact q
  have h2 : ¬ f.disc ≤ f.b * f.b := h2
  have h12 : 0 < f.b ∧ f.b * f.b < f.disc := ⟨by have h1 : ¬ f.b ≤ 0 := h1; omega, by omega⟩
  have sa : Sm 1010 (2 * iabs f.a + f.b) := (((s2.mul (show Sm 999 (iabs f.a) from a1.absif)).mono (show _ ≤ 1009 by decide)).add (a2.mono (by decide))).mono (by decide)
  have sb : Sm 1010 (2 * iabs f.a - f.b) := (((s2.mul (show Sm 999 (iabs f.a) from a1.absif)).mono (show _ ≤ 1009 by decide)).sub (a2.mono (by decide))).mono (by decide)
  have sA : Sm 999 (if f.a < 0 then -f.a else f.a) := a1.absif
  refine ⟨q1 s2 sA, q1 s2 sA, q1 sa sa, ?_⟩
  refine if2 (fun h3 => ?_) (fun h3 => ?_)
  · have h3 : f.disc < (2 * iabs f.a + f.b) * (2 * iabs f.a + f.b) := h3
    refine if2 (fun h4 => ?_) (fun h4 => ?_)
    · rw [show decide (RedL f) = true from decide_eq_true ⟨h12, h3, .inl h4⟩] at q
      exact q
    · refine ⟨q1 sb sb, ?_⟩
      have e : decide (RedL f) = decide ((2 * iabs f.a - f.b) * (2 * iabs f.a - f.b) < f.disc) := decide_eq_decide.mpr ⟨fun z => z.2.2.resolve_left h4, fun z => ⟨h12, h3, .inr z⟩⟩
      rw [e] at q
      exact q
  · rw [fn h3 fun z => z.2.1] at q
    exact q
@[irreducible] def sp_step_of : FSpec := fun ds tk Q => ∃ (f : F3) (r : Int), ds = [f.D] ∧ (f.Sm 999) ∧ (Rt f.disc r) ∧ (f.c ≠ 0) ∧ Q (.val (stepM (stNum r f)).D) tk
theorem op_step_of {ds : List D} {tk : Tk} {Q : EV → Tk → Prop} (h : sp_step_of ds tk Q) : ∃ (f : F3) (r : Int), ds = [f.D] ∧ (f.Sm 999) ∧ (Rt f.disc r) ∧ (f.c ≠ 0) ∧ Q (.val (stepM (stNum r f)).D) tk := by unfold sp_step_of at h; exact h
theorem mon_step_of : MonFS sp_step_of := fun ds tk Q Q' hq_ hs_ => by
  obtain ⟨f, r, e_, hf, hr, hc, q_⟩ := op_step_of hs_
  unfold sp_step_of
  exact ⟨f, r, e_, hf, hr, hc, hq_ _ _ q_⟩
theorem len_step_of : ∀ ds tk Q, sp_step_of ds tk Q → ds.length = 1 := fun ds tk Q hs_ => by
  obtain ⟨f, r, e_, hf, hr, hc, q_⟩ := op_step_of hs_
  rw [e_]; rfl
theorem cl_step_of {tk : Tk} {Q : EV → Tk → Prop} {f : F3} {r : Int} (hf : f.Sm 999) (hr : Rt f.disc r) (hc : f.c ≠ 0) (q_ : Q (.val (stepM (stNum r f)).D) tk) : sp_step_of [f.D] tk Q := by
  unfold sp_step_of
  exact ⟨f, r, rfl, hf, hr, hc, q_⟩
theorem ce_step_of {ds_ : List D} {tk : Tk} {Q : EV → Tk → Prop} {f : F3} {r : Int} (hf : f.Sm 999) (hr : Rt f.disc r) (hc : f.c ≠ 0) (e_ : ds_ = [f.D]) (q_ : Q (.val (stepM (stNum r f)).D) tk) : sp_step_of ds_ tk Q := by
  subst e_
  unfold sp_step_of
  exact ⟨f, r, rfl, hf, hr, hc, q_⟩
abbrev N_step_of : List Str := ["form", "_", "b", "c", "root", "middle", "top"]
def c_step_of : WS :=
  (wSeq (wAsg (fz (wV 0)) (gT 3 (gCs (gN 1) (gCs (gN 2) (gCs (gN 3) gNl)))))
  (wSeq (wSet 4 (wCall sp_floor_root (wCons (fz (wCall sp_discriminant (wCons (fz (wV 0)) wNil))) wNil)))
  (wSeq (wIfS (wT (wOp fGt (fz (w1 fAbs (wPk 3))) (wPk 4))) (wSet 6 (w1 fAbs (wPk 3))) (wSet 6 (wV 4)))
  (wSeq (wSet 5 (wOp fSub (wPk 6) (fz (wOp fMod (fz (wOp fAdd (wPk 6) (wPk 2))) (fz (wOp fMul (fz (wC (.int 2))) (fz (w1 fAbs (wPk 3)))))))))
  (wRet (wTup (wCons (fz (wC (.int 0))) (wCons (fz (w1 fNeg (fz (wC (.int 1))))) (wCons (fz (wC (.int 1))) (wCons (fz (wOp fDiv (fz (wOp fAdd (wPk 2) (wPk 5))) (fz (wOp fMul (fz (wC (.int 2))) (wPk 3))))) wNil))))))))))
theorem hw_step_of : ∀ ds tk Q, sp_step_of ds tk Q → c_step_of { nx := fun _ t => Q (.val .non) t, rt := Q } (start N_step_of.length ds) tk := by
  intro ds tk Q h_
  obtain ⟨f, r, rfl, hf, hr, hc, q⟩ := op_step_of h_
  have sd := disc_sm2 hf
  have sr : Sm 3000 r := (hr.sm sd).mono (by decide)
  have hf1 := hf
  obtain ⟨a1, a2, a3⟩ := hf
  have c0 := iabs_pos hc
  have sA : Sm 999 (iabs f.c) := a3.absif
  refine ⟨rfl, ?_⟩
  refine cl_discriminant (f := f) (hf1.up (by decide)) ?_
  refine fr_root hr (sd.mono (by decide)) ?_
  simp only [gCs, gN, gNl, start_def, List.map_cons, List.map_nil, List.set_cons_zero, List.set_cons_succ, List.replicate_succ, List.replicate_zero, List.cons_append, List.nil_append, List.length_cons, List.length_nil, Nat.reduceAdd, Nat.reduceSub]
  refine seq_cut (a := wIfS _ _ _) (fun e t => t = tk ∧ ∃ x5 : Option EV, e = [some (.val (f.D)), some (.val (.int (f.a))), some (.val (.int (f.b))), some (.val (.int (f.c))), some (.val (.int (r))), x5, some (.val (.int (stTop r f)))]) (fun R hR => ?_) ?_
  · refine if2 (fun h => ?_) (fun h => ?_)
    · exact hR _ _ ⟨rfl, none, by rw [show stTop r f = iabs f.c from if_pos h]; rfl⟩
    · exact hR _ _ ⟨rfl, none, by rw [show stTop r f = r from if_neg h]; rfl⟩
  rintro e t ⟨rfl, x5, rfl⟩
  have sT : Sm 3000 (stTop r f) := by unfold stTop; split <;> first | exact sA.mono (by decide) | exact sr
  have mk : MulOk 2 (iabs f.c) := by walk_at "sd"
  have nz : 2 * iabs f.c ≠ 0 := by omega
  have dk : DivOk (f.b + stMid r f) (2 * f.c) := DivOk.of (k := 1001) (by omega) (s2.mul a3) (by decide)
  exact ⟨mk, nz, q1 s2 a3, dk, rfl, q⟩
@[irreducible] def sp_Lneighbour : FSpec := fun ds tk Q => ∃ (f : F3) (r : Int), ds = [f.D] ∧ (f.Sm 400) ∧ (Rt f.disc r) ∧ (RedI r f) ∧ Q (.val (nxt r f).D) tk
theorem op_Lneighbour {ds : List D} {tk : Tk} {Q : EV → Tk → Prop} (h : sp_Lneighbour ds tk Q) : ∃ (f : F3) (r : Int), ds = [f.D] ∧ (f.Sm 400) ∧ (Rt f.disc r) ∧ (RedI r f) ∧ Q (.val (nxt r f).D) tk := by unfold sp_Lneighbour at h; exact h
theorem mon_Lneighbour : MonFS sp_Lneighbour := fun ds tk Q Q' hq_ hs_ => by
  obtain ⟨f, r, e_, hf, hr, hd, q_⟩ := op_Lneighbour hs_
  unfold sp_Lneighbour
  exact ⟨f, r, e_, hf, hr, hd, hq_ _ _ q_⟩
theorem len_Lneighbour : ∀ ds tk Q, sp_Lneighbour ds tk Q → ds.length = 1 := fun ds tk Q hs_ => by
  obtain ⟨f, r, e_, hf, hr, hd, q_⟩ := op_Lneighbour hs_
  rw [e_]; rfl
theorem cl_Lneighbour {tk : Tk} {Q : EV → Tk → Prop} {f : F3} {r : Int} (hf : f.Sm 400) (hr : Rt f.disc r) (hd : RedI r f) (q_ : Q (.val (nxt r f).D) tk) : sp_Lneighbour [f.D] tk Q := by
  unfold sp_Lneighbour
  exact ⟨f, r, rfl, hf, hr, hd, q_⟩
theorem ce_Lneighbour {ds_ : List D} {tk : Tk} {Q : EV → Tk → Prop} {f : F3} {r : Int} (hf : f.Sm 400) (hr : Rt f.disc r) (hd : RedI r f) (e_ : ds_ = [f.D]) (q_ : Q (.val (nxt r f).D) tk) : sp_Lneighbour ds_ tk Q := by
  subst e_
  unfold sp_Lneighbour
  exact ⟨f, r, rfl, hf, hr, hd, q_⟩
theorem redI_c {r : Int} {f : F3} (h : Rt f.disc r) (hf : RedI r f) : f.c ≠ 0 ∧ iabs f.c ≤ r := by
  have h2 := redI_nxt h hf
  have bd : f.b * f.b < f.disc := (h.lt (by have := hf.1; omega)).mpr hf.2.1
  have hc : f.c ≠ 0 := fun z => by unfold F3.disc at bd; rw [z] at bd; omega
  refine ⟨hc, ?_⟩
  have x1 := (nxt_ab (r := r) hc).1
  have k := h2.2.2.2
  have k2 := h2.2.1
  rw [x1] at k
  omega
theorem nxt_c {r : Int} {f : F3} (hc : f.c ≠ 0) : (stMid r f * stMid r f - f.disc).fdiv (4 * f.c) = (nxt r f).c := by
  obtain ⟨x1, x2⟩ := nxt_ab (r := r) hc
  have d := nxt_disc (r := r) (f := f)
  have e : stMid r f * stMid r f - f.disc = (4 * f.c) * (nxt r f).c := by
    rw [← d, ← x2]
    unfold F3.disc
    rw [x1]
    grind
  rw [e, Int.mul_fdiv_cancel_left _ (by omega)]
abbrev N_Lneighbour : List Str := ["_law_form_here", "_law_a", "_law_b", "_law_c", "_law_d", "_law_root_here", "_law_middle"]
def c_Lneighbour : WS :=
  (wSeq (wAsg (fz (wV 0)) (gT 3 (gCs (gN 1) (gCs (gN 2) (gCs (gN 3) gNl)))))
  (wSeq (wSet 4 (wOp fSub (fz (wOp fMul (wPk 2) (wPk 2))) (fz (wOp fMul (fz (wOp fMul (fz (wC (.int 4))) (wPk 1))) (wPk 3)))))
  (wSeq (wSet 5 (wCall sp_Lroot (wCons (fz (wV 4)) wNil)))
  (wSeq (wSet 6 (wOp fSub (wPk 5) (fz (wOp fMod (fz (wOp fAdd (wPk 5) (wPk 2))) (fz (wOp fMul (fz (wC (.int 2))) (fz (w1 fAbs (wPk 3)))))))))
  (wRet (wTup (wCons (fz (wV 3)) (wCons (fz (wV 6)) (wCons (fz (wOp fDiv (fz (wOp fSub (fz (wOp fMul (wPk 6) (wPk 6))) (wPk 4))) (fz (wOp fMul (fz (wC (.int 4))) (wPk 3))))) wNil)))))))))
theorem hw_Lneighbour : ∀ ds tk Q, sp_Lneighbour ds tk Q → c_Lneighbour { nx := fun _ t => Q (.val .non) t, rt := Q } (start N_Lneighbour.length ds) tk := by
  intro ds tk Q h_
  obtain ⟨f, r, rfl, hf, hr, hd, q⟩ := op_Lneighbour h_
  obtain ⟨hc, hcr⟩ := redI_c hr hd
  have sd := disc_sm2 hf
  have sr : Sm 1000 r := (hr.sm sd).mono (by decide)
  have d0 : 0 ≤ f.disc := by have := hr.lo; have := sq_nn r; omega
  obtain ⟨a1, a2, a3⟩ := hf
  have c0 := iabs_pos hc
  have sA : Sm 400 (iabs f.c) := a3.absif
  refine ⟨rfl, q1 a2 a2, q1 s4 a1, q1 (s4.mul a1) a3, ?_⟩
  obtain ⟨n, hn⟩ : ∃ n : Nat, f.disc = n := ⟨f.disc.toNat, by omega⟩
  refine ce_Lroot (n := n) (by have := sd; rw [hn] at this; unfold Sm at this; rw [Int.natAbs_natCast] at this; exact Nat.lt_of_lt_of_le this (Nat.pow_le_pow_right (by decide) (by decide))) (by rw [← hn]; rfl) fun s sa sb => ?_
  have es : (s : Int) = r := rt_uniq hr (by omega) (by rw [hn]; have := Int.ofNat_le.mpr sa; rw [Int.natCast_mul] at this; exact this) (by rw [hn]; have := Int.ofNat_lt.mpr sb; rw [Int.natCast_mul, Int.natCast_add] at this; exact this)
  rw [es]
  have mk : MulOk 2 (iabs f.c) := by walk_at "sd"
  have nz : 2 * iabs f.c ≠ 0 := by omega
  have top : stTop r f = r := if_neg (by omega)
  have em : r - (r + f.b).fmod (2 * iabs f.c) = stMid r f := by unfold stMid; rw [top]
  have smid : Sm 1001 (stMid r f) := by rw [← em]; exact sr.sub (((s2.mul sA).fmod nz).mono (by decide))
  have dk : DivOk (stMid r f * stMid r f - f.disc) (4 * f.c) := DivOk.of (k := 403) (by omega) (s4.mul a3) (by decide)
  obtain ⟨x1, x2⟩ := nxt_ab (r := r) hc
  have en : (⟨f.c, r - (r + f.b).fmod (2 * iabs f.c), ((r - (r + f.b).fmod (2 * iabs f.c)) * (r - (r + f.b).fmod (2 * iabs f.c)) - f.disc).fdiv (4 * f.c)⟩ : F3) = nxt r f := by
    apply F3.ext
    · exact x1.symm
    · rw [x2]; exact em
    · show _ = _
      rw [em]
      exact nxt_c hc
  rw [← em] at smid dk
  rw [← en] at q
  exact ⟨mk, nz, q1 smid smid, q1 s4 a3, dk, rfl, q⟩
/-! #### the reduction -/
def sN (r : Int) (f : F3) : Nat := if RedI r f then 0 else if r < iabs f.a then f.a.natAbs.log2 + 3 else 2
theorem sN_less {r : Int} {f : F3} (h : Rt f.disc r) (hs : ¬ IsSq f.disc) (N : Nrm r f) (hn : ¬ RedI r f) : sN r (nxt r f) < sN r f := by
  obtain ⟨ha, hc⟩ := ind_ac hs
  obtain ⟨k1, k2, k3⟩ := nrm_less h N hn ha
  have x1 := (nxt_ab (r := r) hc).1
  have N' := nrm_nxt (r := r) hc
  have ea := iabs_eq f.a
  have ec := iabs_eq f.c
  have e1 : sN r f = if r < iabs f.a then f.a.natAbs.log2 + 3 else 2 := if_neg hn
  rw [e1]
  by_cases z : r < iabs f.a
  · rw [if_pos z]
    have k2 := k2 z
    unfold sN
    split
    · omega
    · split
      · rw [x1]
        have c0 : f.c.natAbs ≠ 0 := by omega
        have l1 : f.c.natAbs.log2 < f.a.natAbs.log2 := by
          have h1 : 2 ^ f.c.natAbs.log2 ≤ f.c.natAbs := Nat.log2_self_le c0
          have h2 : f.a.natAbs < 2 ^ (f.a.natAbs.log2 + 1) := Nat.lt_log2_self
          have h3 : 2 ^ (f.c.natAbs.log2 + 1) < 2 ^ (f.a.natAbs.log2 + 1) := by rw [pow_s 2 f.c.natAbs.log2]; omega
          have := (Nat.pow_lt_pow_iff_right (a := 2) (by decide)).mp h3
          omega
        omega
      · omega
  · rw [if_neg z]
    have k3 := k3 (by omega)
    have hr' : RedI r (nxt r f) := nrm_small N' (by rw [x1]; exact hc) (by rw [x1]; exact k3)
    unfold sN
    rw [if_pos hr']
    omega
theorem sN_le {r : Int} {f : F3} (h : Sm 100 f.a) : sN r f ≤ 102 := by
  unfold sN
  split
  · omega
  · split
    · by_cases z : f.a.natAbs = 0
      · rw [z]; decide
      · have := (Nat.log2_lt z).mpr h; omega
    · omega
structure RiI (r : Int) (f g : F3) (m : M4) (s : Nat) : Prop where
  eq : f.act m = g
  det : m.det = 1
  ms : m.Sm ((110 - s) * 110 + 2)
  st : (g = f ∧ s = 110) ∨ (Nrm r g ∧ Sm 100 g.a ∧ s = sN r g)
theorem riI_disc {r : Int} {f g : F3} {m : M4} {s : Nat} (I : RiI r f g m s) : g.disc = f.disc := by rw [← I.eq]; exact F3.disc_act1 f I.det
theorem riI_size {r : Int} {f g : F3} {m : M4} {s : Nat} (hf : f.Sm 100) (hr : Rt f.disc r) (hs : ¬ IsSq f.disc) (I : RiI r f g m s) : g.Sm 220 ∧ Sm 103 g.b ∧ Sm 100 g.a ∧ (¬ RedI r g → Sm 100 g.c) := by
  have sd := disc_sm2 hf
  have sr : Sm 103 r := by
    have k : r.natAbs * r.natAbs < 2 ^ 206 := by
      have e : (r.natAbs * r.natAbs : Nat) = (r * r).natAbs := (Int.natAbs_mul r r).symm
      rw [e]
      have h1 := hr.lo
      have h2 := sq_nn r
      have h3 : f.disc.natAbs < 2 ^ 206 := sd.mono (show 2 * 100 + 5 ≤ 206 by decide)
      omega
    unfold Sm
    refine Nat.not_le.mp fun z => ?_
    have := Nat.mul_le_mul z z
    rw [← Nat.pow_add] at this
    exact absurd (Nat.lt_of_le_of_lt this k) (Nat.lt_irrefl _)
  rcases I.st with ⟨rfl, _⟩ | ⟨N, sa, _⟩
  · exact ⟨hf.up (by decide), hf.2.1.mono (by decide), hf.1, fun _ => hf.2.2⟩
  · have gd := riI_disc I
    have hr' : Rt g.disc r := by rw [gd]; exact hr
    have ha := (ind_ac (f := g) (by rw [gd]; exact hs)).1
    have lo := N.lo
    have hi := N.hi
    have sab : Sm 100 (iabs g.a) := sa.absif
    have sb : Sm 103 g.b := by
      unfold Sm at *
      have ea := iabs_eq g.a
      have r0 := hr.r0
      have p : (2 : Nat) ^ 100 ≤ 2 ^ 103 := by decide
      split at lo <;> split at hi <;> omega
    have e := four_ac (f := g)
    have sc : Sm 219 g.c := by
      have s1 : Sm 207 (iabs (g.b * g.b - g.disc)) := by
        rw [gd]
        exact (((sb.mul sb).mono (show _ ≤ 206 by decide)).sub (sd.mono (by decide))).absif
      rw [← e] at s1
      have a0 := iabs_pos ha
      have c0 := iabs_nn g.c
      have le : iabs g.c ≤ 4 * (iabs g.a * iabs g.c) := by
        have := Int.mul_le_mul_of_nonneg_right (show 1 ≤ iabs g.a by omega) c0
        omega
      have s2 := sm_le c0 le s1
      rw [iabs_eq] at s2
      unfold Sm at *
      rw [Int.natAbs_natCast] at s2
      exact Nat.lt_of_lt_of_le s2 (Nat.pow_le_pow_right (by decide) (by decide))
    refine ⟨⟨sa.mono (by decide), sb.mono (by decide), sc.mono (by decide)⟩, sb, sa, fun hn => ?_⟩
    have k := (nrm_less hr' N hn ha).1
    have ea := iabs_eq g.a
    have ec := iabs_eq g.c
    unfold Sm at *
    omega
theorem riI_next {r : Int} {f g : F3} {m : M4} {s : Nat} (hf : f.Sm 100) (hr : Rt f.disc r) (hs : ¬ IsSq f.disc) (I : RiI r f g m s) (hn : ¬ RedI r g) : ∃ s', s' < s ∧ (stepM (stNum r g)).Sm 108 ∧ RiI r f (g.act (stepM (stNum r g))) (m.mul (stepM (stNum r g))) s' := by
  obtain ⟨sg, sb, sa, sc⟩ := riI_size hf hr hs I
  have sc := sc hn
  have gd := riI_disc I
  have hr' : Rt g.disc r := by rw [gd]; exact hr
  have hs' : ¬ IsSq g.disc := by rw [gd]; exact hs
  obtain ⟨ha, hc⟩ := ind_ac hs'
  obtain ⟨x1, x2⟩ := nxt_ab (r := r) hc
  obtain ⟨y1, y2, y3⟩ := stMid_spec (r := r) hc
  have sd := disc_sm2 hf
  have sr : Sm 106 r := by
    have k : r.natAbs * r.natAbs < 2 ^ 206 := by
      have e : (r.natAbs * r.natAbs : Nat) = (r * r).natAbs := (Int.natAbs_mul r r).symm
      rw [e]
      have h1 := hr.lo
      have h2 := sq_nn r
      have h3 : f.disc.natAbs < 2 ^ 206 := sd.mono (show 2 * 100 + 5 ≤ 206 by decide)
      omega
    have : Sm 103 r := by
      unfold Sm
      refine Nat.not_le.mp fun z => ?_
      have := Nat.mul_le_mul z z
      rw [← Nat.pow_add] at this
      exact absurd (Nat.lt_of_le_of_lt this k) (Nat.lt_irrefl _)
    exact this.mono (by decide)
  have smid : Sm 106 (stMid r g) := by
    have r0 := hr.r0
    have c0 := iabs_pos hc
    have ec := iabs_eq g.c
    unfold stTop at y1 y2
    have p : (2 : Nat) ^ 100 ≤ 2 ^ 106 := by decide
    unfold Sm at *
    split at y1 <;> split at y2 <;> omega
  have sn : Sm 107 (stNum r g) := ((sb.mono (show 103 ≤ 106 by decide)).add smid).fdiv
  have ss : (stepM (stNum r g)).Sm 108 := ⟨sm_ss (x := 0) (by decide) (by decide), sm_ss (x := -1) (by decide) (by decide), sm_ss (x := 1) (by decide) (by decide), sn.mono (by decide)⟩
  have s' : sN r (nxt r g) < s ∧ s ≤ 110 := by
    rcases I.st with ⟨e, rfl⟩ | ⟨N, _, rfl⟩
    · have : sN r (nxt r g) ≤ 102 := sN_le (by rw [x1]; exact sc)
      omega
    · exact ⟨sN_less hr' hs' N hn, Nat.le_trans (sN_le sa) (by decide)⟩
  refine ⟨sN r (nxt r g), s'.1, ss, by rw [← F3.act_mul, I.eq], M4.det_mul1 I.det (det_stepM _), ?_, .inr ⟨nrm_nxt hc, ?_, rfl⟩⟩
  · exact (mul_size I.ms ss).up (by omega)
  · show Sm 100 (nxt r g).a
    rw [x1]; exact sc
@[irreducible] def sp_reduce_indefinite : FSpec := fun ds tk Q => ∃ (f : F3) (r : Int), ds = [f.D] ∧ (f.Sm 100) ∧ (Rt f.disc r) ∧ (¬ IsSq f.disc) ∧ ∀ (g : F3), ∀ (m : M4), ∀ (he : f.act m = g), ∀ (hd : m.det = 1), ∀ (hg : RedI r g), ∀ (sg : g.Sm 220), ∀ (sm : m.Sm 12200), Q (.val (.tup [g.D, m.D])) tk
theorem op_reduce_indefinite {ds : List D} {tk : Tk} {Q : EV → Tk → Prop} (h : sp_reduce_indefinite ds tk Q) : ∃ (f : F3) (r : Int), ds = [f.D] ∧ (f.Sm 100) ∧ (Rt f.disc r) ∧ (¬ IsSq f.disc) ∧ ∀ (g : F3), ∀ (m : M4), ∀ (he : f.act m = g), ∀ (hd : m.det = 1), ∀ (hg : RedI r g), ∀ (sg : g.Sm 220), ∀ (sm : m.Sm 12200), Q (.val (.tup [g.D, m.D])) tk := by unfold sp_reduce_indefinite at h; exact h
theorem mon_reduce_indefinite : MonFS sp_reduce_indefinite := fun ds tk Q Q' hq_ hs_ => by
  obtain ⟨f, r, e_, hf, hr, hs, q_⟩ := op_reduce_indefinite hs_
  unfold sp_reduce_indefinite
  exact ⟨f, r, e_, hf, hr, hs, fun g m he hd hg sg sm => hq_ _ _ (q_ g m he hd hg sg sm)⟩
theorem len_reduce_indefinite : ∀ ds tk Q, sp_reduce_indefinite ds tk Q → ds.length = 1 := fun ds tk Q hs_ => by
  obtain ⟨f, r, e_, hf, hr, hs, q_⟩ := op_reduce_indefinite hs_
  rw [e_]; rfl
theorem cl_reduce_indefinite {tk : Tk} {Q : EV → Tk → Prop} {f : F3} {r : Int} (hf : f.Sm 100) (hr : Rt f.disc r) (hs : ¬ IsSq f.disc) (q_ : ∀ (g : F3), ∀ (m : M4), ∀ (he : f.act m = g), ∀ (hd : m.det = 1), ∀ (hg : RedI r g), ∀ (sg : g.Sm 220), ∀ (sm : m.Sm 12200), Q (.val (.tup [g.D, m.D])) tk) : sp_reduce_indefinite [f.D] tk Q := by
  unfold sp_reduce_indefinite
  exact ⟨f, r, rfl, hf, hr, hs, q_⟩
theorem ce_reduce_indefinite {ds_ : List D} {tk : Tk} {Q : EV → Tk → Prop} {f : F3} {r : Int} (hf : f.Sm 100) (hr : Rt f.disc r) (hs : ¬ IsSq f.disc) (e_ : ds_ = [f.D]) (q_ : ∀ (g : F3), ∀ (m : M4), ∀ (he : f.act m = g), ∀ (hd : m.det = 1), ∀ (hg : RedI r g), ∀ (sg : g.Sm 220), ∀ (sm : m.Sm 12200), Q (.val (.tup [g.D, m.D])) tk) : sp_reduce_indefinite ds_ tk Q := by
  subst e_
  unfold sp_reduce_indefinite
  exact ⟨f, r, rfl, hf, hr, hs, q_⟩
abbrev N_reduce_indefinite : List Str := ["form", "m", "step"]
def c_reduce_indefinite : WS :=
  (wSeq (wSet 1 (wC kUNIT))
  (wSeq (wWhile (wNot (wT (wCall sp_is_reduced_v1 (wCons (fz (wV 0)) wNil)))) (wSeq (wSet 2 (wCall sp_step_of (wCons (fz (wV 0)) wNil)))
  (wSeq (wSet 0 (wCall sp_act (wCons (fz (wV 0)) (wCons (fz (wV 2)) wNil))))
  (wSet 1 (wCall sp_multiply (wCons (fz (wV 1)) (wCons (fz (wV 2)) wNil)))))))
  (wRet (wTup (wCons (fz (wV 0)) (wCons (fz (wV 1)) wNil))))))
theorem hw_reduce_indefinite : ∀ ds tk Q, sp_reduce_indefinite ds tk Q → c_reduce_indefinite { nx := fun _ t => Q (.val .non) t, rt := Q } (start N_reduce_indefinite.length ds) tk := by
  intro ds tk Q h_
  obtain ⟨f, r, rfl, hf, hr, hs, q⟩ := op_reduce_indefinite h_
  refine ⟨fun μ e t => t = tk ∧ ∃ (g : F3) (m : M4) (x2 : Option EV), RiI r f g m μ ∧ e = [some (.val (g.D)), some (.val (m.D)), x2], ⟨110, rfl, f, M4.one, none, ⟨F3.act_one f, rfl, ⟨sm_ss (x := 1) (by decide) (by decide), sm_ss (x := 0) (by decide) (by decide), sm_ss (x := 0) (by decide) (by decide), sm_ss (x := 1) (by decide) (by decide)⟩, .inl ⟨rfl, rfl⟩⟩, rfl⟩, ?_⟩
  rintro μ e t ⟨rfl, g, m, x2, I, rfl⟩
  obtain ⟨sg, _, _, _⟩ := riI_size hf hr hs I
  have gd := riI_disc I
  have hr' : Rt g.disc r := by rw [gd]; exact hr
  have hc := (ind_ac (f := g) (by rw [gd]; exact hs)).2
  have sm : m.Sm 12200 := I.ms.up (by omega)
  refine cl_is_reduced_v1 (f := g) (r := r) (sg.up (by decide)) hr' ?_
  by_cases hg : RedI r g
  · rw [decide_eq_true hg]
    refine ifBF rfl ?_
    exact ⟨rfl, q g m I.eq I.det hg sg sm⟩
  rw [decide_eq_false hg]
  refine ifB rfl ?_
  refine cl_step_of (f := g) (r := r) (sg.up (by decide)) hr' hc ?_
  obtain ⟨s', hl, ss, I'⟩ := riI_next hf hr hs I hg
  refine cl_act (f := g) (m := stepM (stNum r g)) (sg.up (by decide)) (ss.up (by decide)) ?_
  refine ⟨m, stepM (stNum r g), rfl, sm.up (by decide), ss.up (by decide), ?_⟩
  exact ⟨s', hl, rfl, _, _, _, I', rfl⟩
end DL
set_option maxHeartbeats 1000000
set_option pp.maxSteps 1200
namespace DL
open PySem PySem.Spec PyProof.Rows L2
/-! ### split and flat forms -/
theorem fr_sq {tk : Tk} {Q : EV → Tk → Prop} {d k : Int} (h0 : 0 ≤ k) (e : d = k * k) (hs : Sm 12000 d) (q : Q (.val (.int k)) tk) : sp_floor_root [.int d] tk Q := by
  subst e
  refine cl_floor_root (sq_nn k) ?_ fun s s0 s1 s2 => ?_
  · exact (sm_lt (hs.mono (show 12000 ≤ 13000 by decide))).2
  · have a : s ≤ k := by
      refine Int.not_lt.mp fun z => ?_
      have := Int.mul_le_mul (show k + 1 ≤ s by omega) (show k + 1 ≤ s by omega) (by omega) s0
      have e : (k + 1) * (k + 1) = k * k + 2 * k + 1 := by grind
      omega
    have b : k ≤ s := by
      refine Int.not_lt.mp fun z => ?_
      have := Int.mul_le_mul (show s + 1 ≤ k by omega) (show s + 1 ≤ k by omega) (by omega) h0
      omega
    rw [show s = k by omega]
    exact q
@[irreducible] def sp_divided : FSpec := fun ds tk Q => ∃ (f : F3) (n : Int), ds = [f.D, .int n] ∧ (n ≠ 0) ∧ (Sm 8000 n) ∧ Q (.val (F3.D ⟨f.a.fdiv n, f.b.fdiv n, f.c.fdiv n⟩)) tk
theorem op_divided {ds : List D} {tk : Tk} {Q : EV → Tk → Prop} (h : sp_divided ds tk Q) : ∃ (f : F3) (n : Int), ds = [f.D, .int n] ∧ (n ≠ 0) ∧ (Sm 8000 n) ∧ Q (.val (F3.D ⟨f.a.fdiv n, f.b.fdiv n, f.c.fdiv n⟩)) tk := by unfold sp_divided at h; exact h
theorem mon_divided : MonFS sp_divided := fun ds tk Q Q' hq_ hs_ => by
  obtain ⟨f, n, e_, hn, hs, q_⟩ := op_divided hs_
  unfold sp_divided
  exact ⟨f, n, e_, hn, hs, hq_ _ _ q_⟩
theorem len_divided : ∀ ds tk Q, sp_divided ds tk Q → ds.length = 2 := fun ds tk Q hs_ => by
  obtain ⟨f, n, e_, hn, hs, q_⟩ := op_divided hs_
  rw [e_]; rfl
theorem cl_divided {tk : Tk} {Q : EV → Tk → Prop} {f : F3} {n : Int} (hn : n ≠ 0) (hs : Sm 8000 n) (q_ : Q (.val (F3.D ⟨f.a.fdiv n, f.b.fdiv n, f.c.fdiv n⟩)) tk) : sp_divided [f.D, .int n] tk Q := by
  unfold sp_divided
  exact ⟨f, n, rfl, hn, hs, q_⟩
theorem ce_divided {ds_ : List D} {tk : Tk} {Q : EV → Tk → Prop} {f : F3} {n : Int} (hn : n ≠ 0) (hs : Sm 8000 n) (e_ : ds_ = [f.D, .int n]) (q_ : Q (.val (F3.D ⟨f.a.fdiv n, f.b.fdiv n, f.c.fdiv n⟩)) tk) : sp_divided ds_ tk Q := by
  subst e_
  unfold sp_divided
  exact ⟨f, n, rfl, hn, hs, q_⟩
abbrev N_divided : List Str := ["form", "number"]
def c_divided : WS :=
  (wRet (wTup (wCons (fz (wOp fDiv (fz (wOp fIdx (wPk 0) (fz (wC (.int 0))))) (wPk 1))) (wCons (fz (wOp fDiv (fz (wOp fIdx (wPk 0) (fz (wC (.int 1))))) (wPk 1))) (wCons (fz (wOp fDiv (fz (wOp fIdx (wPk 0) (fz (wC (.int 2))))) (wPk 1))) wNil)))))
theorem hw_divided : ∀ ds tk Q, sp_divided ds tk Q → c_divided { nx := fun _ t => Q (.val .non) t, rt := Q } (start N_divided.length ds) tk := by
  intro ds tk Q h_
  obtain ⟨f, n, rfl, hn, hs, q⟩ := op_divided h_
  have dk : ∀ {x : Int}, DivOk x n := fun {x} => DivOk.of hn hs (by decide)
  exact ⟨dk, dk, dk, rfl, q⟩
theorem gcds2 (x y : Int) : gcds [x, y] = (Int.gcd x y : Int) := by
  show (Int.gcd (Int.gcd 0 x : Int) y : Int) = _
  have : Int.gcd (Int.gcd 0 x : Int) y = Int.gcd x y := by
    rw [Int.gcd_zero_left]
    unfold Int.gcd
    rw [Int.natAbs_natCast]
  rw [this]
theorem gcd_div {x y : Int} (h : x ≠ 0 ∨ y ≠ 0) : (Int.gcd x y : Int) ≠ 0 ∧ (Int.gcd x y : Int) * x.fdiv (Int.gcd x y : Int) = x ∧ (Int.gcd x y : Int) * y.fdiv (Int.gcd x y : Int) = y ∧ Int.gcd (x.fdiv (Int.gcd x y : Int)) (y.fdiv (Int.gcd x y : Int)) = 1 := by
  have g0 : Int.gcd x y ≠ 0 := fun z => by have := Int.gcd_eq_zero_iff.mp z; omega
  have e1 : (Int.gcd x y : Int) * x.fdiv (Int.gcd x y : Int) = x := Int.mul_fdiv_cancel' (Int.gcd_dvd_left ..)
  have e2 : (Int.gcd x y : Int) * y.fdiv (Int.gcd x y : Int) = y := Int.mul_fdiv_cancel' (Int.gcd_dvd_right ..)
  refine ⟨by omega, e1, e2, ?_⟩
  have e : Int.gcd x y = (Int.gcd x y : Int).natAbs * Int.gcd (x.fdiv (Int.gcd x y : Int)) (y.fdiv (Int.gcd x y : Int)) := by
    have k := Int.gcd_mul_left (Int.gcd x y : Int) (x.fdiv (Int.gcd x y : Int)) (y.fdiv (Int.gcd x y : Int))
    rw [e1, e2] at k
    exact k
  rw [Int.natAbs_natCast] at e
  have : Int.gcd x y * 1 = Int.gcd x y * Int.gcd (x.fdiv (Int.gcd x y : Int)) (y.fdiv (Int.gcd x y : Int)) := by omega
  exact (Nat.eq_of_mul_eq_mul_left (by omega) this).symm
/-- a pair and its primitive one -/
structure Prim (x y : Int) (v : P2) : Prop where
  g : Int.gcd v.x v.y = 1
  s : 0 < v.x ∨ (v.x = 0 ∧ 0 < v.y)
  m : ∃ n : Int, n ≠ 0 ∧ x = n * v.x ∧ y = n * v.y
@[irreducible] def sp_primitive : FSpec := fun ds tk Q => ∃ (x y : Int), ds = [.int x, .int y] ∧ (Sm 4000 x) ∧ (Sm 4000 y) ∧ (x ≠ 0 ∨ y ≠ 0) ∧ ∀ (v : P2), ∀ (hv : Prim x y v), Q (.val v.D) tk
theorem op_primitive {ds : List D} {tk : Tk} {Q : EV → Tk → Prop} (h : sp_primitive ds tk Q) : ∃ (x y : Int), ds = [.int x, .int y] ∧ (Sm 4000 x) ∧ (Sm 4000 y) ∧ (x ≠ 0 ∨ y ≠ 0) ∧ ∀ (v : P2), ∀ (hv : Prim x y v), Q (.val v.D) tk := by unfold sp_primitive at h; exact h
theorem mon_primitive : MonFS sp_primitive := fun ds tk Q Q' hq_ hs_ => by
  obtain ⟨x, y, e_, hx, hy, h, q_⟩ := op_primitive hs_
  unfold sp_primitive
  exact ⟨x, y, e_, hx, hy, h, fun v hv => hq_ _ _ (q_ v hv)⟩
theorem len_primitive : ∀ ds tk Q, sp_primitive ds tk Q → ds.length = 2 := fun ds tk Q hs_ => by
  obtain ⟨x, y, e_, hx, hy, h, q_⟩ := op_primitive hs_
  rw [e_]; rfl
theorem cl_primitive {tk : Tk} {Q : EV → Tk → Prop} {x y : Int} (hx : Sm 4000 x) (hy : Sm 4000 y) (h : x ≠ 0 ∨ y ≠ 0) (q_ : ∀ (v : P2), ∀ (hv : Prim x y v), Q (.val v.D) tk) : sp_primitive [.int x, .int y] tk Q := by
  unfold sp_primitive
  exact ⟨x, y, rfl, hx, hy, h, q_⟩
theorem ce_primitive {ds_ : List D} {tk : Tk} {Q : EV → Tk → Prop} {x y : Int} (hx : Sm 4000 x) (hy : Sm 4000 y) (h : x ≠ 0 ∨ y ≠ 0) (e_ : ds_ = [.int x, .int y]) (q_ : ∀ (v : P2), ∀ (hv : Prim x y v), Q (.val v.D) tk) : sp_primitive ds_ tk Q := by
  subst e_
  unfold sp_primitive
  exact ⟨x, y, rfl, hx, hy, h, q_⟩
abbrev N_primitive : List Str := ["x", "y", "g"]
def c_primitive : WS :=
  (wSeq (wSet 2 (wCall sp_measure (wCons (fz (wTup (wCons (fz (wV 0)) (wCons (fz (wV 1)) wNil)))) wNil)))
  (wSeq (wSet 0 (wOp fDiv (wPk 0) (wPk 2)))
  (wSeq (wSet 1 (wOp fDiv (wPk 1) (wPk 2)))
  (wSeq (wIfS (wOr (wT (wOp fLt (wPk 0) (fz (wC (.int 0))))) (wAnd (wT (wOp fEq (wPk 0) (fz (wC (.int 0))))) (wT (wOp fLt (wPk 1) (fz (wC (.int 0))))))) (wRet (wTup (wCons (fz (w1 fNeg (wPk 0))) (wCons (fz (w1 fNeg (wPk 1))) wNil)))) wNext)
  (wRet (wTup (wCons (fz (wV 0)) (wCons (fz (wV 1)) wNil))))))))
theorem hw_primitive : ∀ ds tk Q, sp_primitive ds tk Q → c_primitive { nx := fun _ t => Q (.val .non) t, rt := Q } (start N_primitive.length ds) tk := by
  intro ds tk Q h_
  obtain ⟨x, y, rfl, hx, hy, h, q⟩ := op_primitive h_
  refine ⟨rfl, ?_⟩
  refine cl_measure (xs := [x, y]) (.inr rfl) (fun z hz => ?_) ?_
  · simp only [List.mem_cons, List.not_mem_nil, or_false] at hz
    rcases hz with rfl | rfl
    · exact hx.mono (by decide)
    · exact hy.mono (by decide)
  rw [gcds2]
  obtain ⟨g0, e1, e2, g1⟩ := gcd_div h
  have sg : Sm KB (Int.gcd x y : Int) := sm_gcd (hx.mono (by decide)) (hy.mono (by decide))
  have dk : ∀ {z : Int}, DivOk z (Int.gcd x y : Int) := fun {z} => DivOk.of g0 sg (by decide)
  have gp : 0 < (Int.gcd x y : Int) := by omega
  generalize (Int.gcd x y : Int) = g at *
  refine ⟨dk, dk, ?_⟩
  generalize hX : x.fdiv g = X at *
  generalize hY : y.fdiv g = Y at *
  have neg : (X < 0 ∨ (X = 0 ∧ Y < 0)) → Q (.val (P2.D ⟨-X, -Y⟩)) tk := fun c => q ⟨-X, -Y⟩ ⟨by rw [Int.gcd_neg, Int.neg_gcd]; exact g1, by dsimp only; omega, ⟨-g, by omega, by rw [Int.neg_mul_neg]; exact e1.symm, by rw [Int.neg_mul_neg]; exact e2.symm⟩⟩
  have nz : X ≠ 0 ∨ Y ≠ 0 := by
    refine Decidable.byContradiction fun z => ?_
    have : X = 0 ∧ Y = 0 := by omega
    rw [this.1, this.2] at g1
    exact absurd g1 (by decide)
  have pos : ¬ (X < 0 ∨ (X = 0 ∧ Y < 0)) → Q (.val (P2.D ⟨X, Y⟩)) tk := fun c => q ⟨X, Y⟩ ⟨g1, by dsimp only; omega, ⟨g, by omega, e1.symm, e2.symm⟩⟩
  rw [← hX, ← hY] at neg pos
  refine if2 (fun c => ⟨rfl, neg (.inl c)⟩) (fun c => ?_)
  refine if2 (fun c2 => if2 (fun c3 => ⟨rfl, neg (.inr ⟨c2, c3⟩)⟩) (fun c3 => ?_)) (fun c2 => ?_)
  · exact ⟨rfl, pos (fun z => z.elim c fun w => c3 w.2)⟩
  · exact ⟨rfl, pos (fun z => z.elim c fun w => c2 w.1)⟩
theorem gcd1_01 {x y : Int} (h : Int.gcd x y = 1) (hx : x = 0) (hy : 0 < y) : y = 1 := by
  subst hx
  rw [Int.gcd_zero_left] at h
  omega
theorem prim_size {x y : Int} {v : P2} {k : Nat} (h : Prim x y v) (hx : Sm k x) (hy : Sm k y) : v.Sm k := by
  obtain ⟨n, n0, e1, e2⟩ := h.m
  have key : ∀ {z w : Int}, z = n * w → Sm k z → Sm k w := fun {z w} e hz => by
    unfold Sm at *
    rw [e, Int.natAbs_mul] at hz
    exact Nat.lt_of_le_of_lt (Nat.le_mul_of_pos_left _ (by omega)) hz
  exact ⟨key e1 hx, key e2 hy⟩
theorem prim_z {f : F3} {x y : Int} {v : P2} (h : Prim x y v) (e : f.worth ⟨x, y⟩ = 0) : ZDir f v := by
  obtain ⟨n, n0, e1, e2⟩ := h.m
  refine ⟨?_, h.g, ?_⟩
  · have : n * n * f.worth v = 0 := by
      rw [← e, e1, e2]
      unfold F3.worth
      dsimp only
      grind
    rcases Int.mul_eq_zero.mp this with z | z
    · rcases Int.mul_eq_zero.mp z with w | w <;> exact absurd w n0
    · exact z
  · rcases h.s with z | ⟨z, w⟩
    · exact .inl z
    · exact .inr ⟨z, gcd1_01 h.g z w⟩
@[irreducible] def sp_zero_lines : FSpec := fun ds tk Q => ∃ (f : F3) (k : Int), ds = [f.D] ∧ (f.Sm 300) ∧ (0 < k) ∧ (f.disc = k * k) ∧ ∀ (v w : P2), ∀ (hv : ZDir f v), ∀ (hw : ZDir f w), ∀ (hne : v ≠ w), ∀ (sv : v.Sm 310), ∀ (sw : w.Sm 310), Q (.own [v.D, w.D]) tk
theorem op_zero_lines {ds : List D} {tk : Tk} {Q : EV → Tk → Prop} (h : sp_zero_lines ds tk Q) : ∃ (f : F3) (k : Int), ds = [f.D] ∧ (f.Sm 300) ∧ (0 < k) ∧ (f.disc = k * k) ∧ ∀ (v w : P2), ∀ (hv : ZDir f v), ∀ (hw : ZDir f w), ∀ (hne : v ≠ w), ∀ (sv : v.Sm 310), ∀ (sw : w.Sm 310), Q (.own [v.D, w.D]) tk := by unfold sp_zero_lines at h; exact h
theorem mon_zero_lines : MonFS sp_zero_lines := fun ds tk Q Q' hq_ hs_ => by
  obtain ⟨f, k, e_, hf, hk, hd, q_⟩ := op_zero_lines hs_
  unfold sp_zero_lines
  exact ⟨f, k, e_, hf, hk, hd, fun v w hv hw hne sv sw => hq_ _ _ (q_ v w hv hw hne sv sw)⟩
theorem len_zero_lines : ∀ ds tk Q, sp_zero_lines ds tk Q → ds.length = 1 := fun ds tk Q hs_ => by
  obtain ⟨f, k, e_, hf, hk, hd, q_⟩ := op_zero_lines hs_
  rw [e_]; rfl
theorem cl_zero_lines {tk : Tk} {Q : EV → Tk → Prop} {f : F3} {k : Int} (hf : f.Sm 300) (hk : 0 < k) (hd : f.disc = k * k) (q_ : ∀ (v w : P2), ∀ (hv : ZDir f v), ∀ (hw : ZDir f w), ∀ (hne : v ≠ w), ∀ (sv : v.Sm 310), ∀ (sw : w.Sm 310), Q (.own [v.D, w.D]) tk) : sp_zero_lines [f.D] tk Q := by
  unfold sp_zero_lines
  exact ⟨f, k, rfl, hf, hk, hd, q_⟩
theorem ce_zero_lines {ds_ : List D} {tk : Tk} {Q : EV → Tk → Prop} {f : F3} {k : Int} (hf : f.Sm 300) (hk : 0 < k) (hd : f.disc = k * k) (e_ : ds_ = [f.D]) (q_ : ∀ (v w : P2), ∀ (hv : ZDir f v), ∀ (hw : ZDir f w), ∀ (hne : v ≠ w), ∀ (sv : v.Sm 310), ∀ (sw : w.Sm 310), Q (.own [v.D, w.D]) tk) : sp_zero_lines ds_ tk Q := by
  subst e_
  unfold sp_zero_lines
  exact ⟨f, k, rfl, hf, hk, hd, q_⟩
theorem root_sm {k d : Int} {j : Nat} (e : d = k * k) (h : Sm (2 * j) d) : Sm j k := by
  unfold Sm at *
  rw [e, Int.natAbs_mul, Nat.two_mul, Nat.pow_add] at h
  refine Nat.not_le.mp fun z => ?_
  have := Nat.mul_le_mul z z
  omega
abbrev N_zero_lines : List Str := ["form", "a", "b", "c", "k"]
def c_zero_lines : WS :=
  (wSeq (wAsg (fz (wV 0)) (gT 3 (gCs (gN 1) (gCs (gN 2) (gCs (gN 3) gNl)))))
  (wSeq (wSet 4 (wCall sp_floor_root (wCons (fz (wCall sp_discriminant (wCons (fz (wV 0)) wNil))) wNil)))
  (wSeq (wIfS (wT (wOp fEq (wPk 1) (fz (wC (.int 0))))) (wRet (wLst (wCons (fz (wTup (wCons (fz (wC (.int 1))) (wCons (fz (wC (.int 0))) wNil)))) (wCons (fz (wCall sp_primitive (wCons (fz (w1 fNeg (wPk 3))) (wCons (fz (wV 2)) wNil)))) wNil)))) wNext)
  (wRet (wLst (wCons (fz (wCall sp_primitive (wCons (fz (wOp fSub (wPk 4) (wPk 2))) (wCons (fz (wOp fMul (fz (wC (.int 2))) (wPk 1))) wNil)))) (wCons (fz (wCall sp_primitive (wCons (fz (wOp fSub (fz (w1 fNeg (wPk 4))) (wPk 2))) (wCons (fz (wOp fMul (fz (wC (.int 2))) (wPk 1))) wNil)))) wNil)))))))
theorem hw_zero_lines : ∀ ds tk Q, sp_zero_lines ds tk Q → c_zero_lines { nx := fun _ t => Q (.val .non) t, rt := Q } (start N_zero_lines.length ds) tk := by
  intro ds tk Q h_
  obtain ⟨f, k, rfl, hf, hk, hd, q⟩ := op_zero_lines h_
  have sd := disc_sm2 hf
  have sk : Sm 303 k := root_sm hd (sd.mono (by decide))
  have hf' := hf
  obtain ⟨a1, a2, a3⟩ := hf
  refine ⟨rfl, ?_⟩
  refine cl_discriminant (f := f) (hf'.up (by decide)) ?_
  refine fr_sq (k := k) (by omega) hd (sd.mono (by decide)) ?_
  have hd' : f.b * f.b - 4 * f.a * f.c = k * k := hd
  refine if2 (fun h => ?_) (fun h => ?_)
  · have h : f.a = 0 := h
    have b0 : f.b ≠ 0 := fun z => by
      rw [h, z] at hd'
      have := Int.mul_pos hk hk
      omega
    refine ⟨rfl, ?_⟩
    refine cl_primitive (x := -f.c) (y := f.b) ((a3.neg).mono (by decide)) (a2.mono (by decide)) (.inr b0) fun w hw => ?_
    refine ⟨rfl, ?_⟩
    have zw : ZDir f w := prim_z hw (by unfold F3.worth; dsimp only; rw [h]; grind)
    refine q ⟨1, 0⟩ w ⟨by unfold F3.worth; dsimp only; rw [h]; omega, rfl, .inl (by show (0:Int) < 1; decide)⟩ zw (fun e => ?_) ⟨sm_ss (x := 1) (by decide) (by decide), sm_ss (x := 0) (by decide) (by decide)⟩ (prim_size hw ((a3.neg).mono (by decide)) (a2.mono (by decide)))
    obtain ⟨n, n0, e1, e2⟩ := hw.m
    rw [← e] at e2
    have e2 : f.b = n * 0 := e2
    omega
  · have h : f.a ≠ 0 := h
    have s2a : Sm 310 (2 * f.a) := (s2.mul a1).mono (by decide)
    have s3 : Sm 310 (k - f.b) := (sk.sub (a2.mono (show 300 ≤ 303 by decide))).mono (by decide)
    have s5 : Sm 310 (-k - f.b) := (sk.neg.sub (a2.mono (show 300 ≤ 303 by decide))).mono (by decide)
    refine ⟨q1 s2 a1, ?_⟩
    refine cl_primitive (x := k - f.b) (y := 2 * f.a) (s3.mono (by decide)) (s2a.mono (by decide)) (.inr (by omega)) fun v hv => ?_
    refine ⟨q1 s2 a1, ?_⟩
    refine cl_primitive (x := -k - f.b) (y := 2 * f.a) (s5.mono (by decide)) (s2a.mono (by decide)) (.inr (by omega)) fun w hw => ?_
    refine ⟨rfl, ?_⟩
    refine q v w (prim_z hv ?_) (prim_z hw ?_) (fun e => ?_) (prim_size hv s3 s2a) (prim_size hw s5 s2a)
    · unfold F3.worth
      dsimp only
      have : f.a * (k - f.b) * (k - f.b) + f.b * (k - f.b) * (2 * f.a) + f.c * (2 * f.a) * (2 * f.a) = f.a * (k * k - (f.b * f.b - 4 * f.a * f.c)) := by grind
      rw [this, hd', Int.sub_self, Int.mul_zero]
    · unfold F3.worth
      dsimp only
      have : f.a * (-k - f.b) * (-k - f.b) + f.b * (-k - f.b) * (2 * f.a) + f.c * (2 * f.a) * (2 * f.a) = f.a * (k * k - (f.b * f.b - 4 * f.a * f.c)) := by grind
      rw [this, hd', Int.sub_self, Int.mul_zero]
    · subst e
      obtain ⟨n, n0, e1, e2⟩ := hv.m
      obtain ⟨n', n0', e1', e2'⟩ := hw.m
      have vy : v.y ≠ 0 := fun z => by rw [z, Int.mul_zero] at e2; omega
      have : (n - n') * v.y = 0 := by
        have e3 : (n - n') * v.y = n * v.y - n' * v.y := Int.sub_mul ..
        omega
      have e4 := (Int.mul_eq_zero.mp this).resolve_right vy
      have e5 : n = n' := by omega
      subst e5
      omega
@[irreducible] def sp_leading : FSpec := fun ds tk Q => ∃ (v : P2), ds = [v.D] ∧ (v.Sm 4000) ∧ (Int.gcd v.x v.y = 1) ∧ ∀ (m : M4), ∀ (hd : m.det = 1), ∀ (hp : m.p = v.x), ∀ (hr : m.r = v.y), ∀ (hq : m.q.natAbs ≤ v.x.natAbs + 1), ∀ (hs : m.s.natAbs ≤ v.y.natAbs + 1), Q (.val m.D) tk
theorem op_leading {ds : List D} {tk : Tk} {Q : EV → Tk → Prop} (h : sp_leading ds tk Q) : ∃ (v : P2), ds = [v.D] ∧ (v.Sm 4000) ∧ (Int.gcd v.x v.y = 1) ∧ ∀ (m : M4), ∀ (hd : m.det = 1), ∀ (hp : m.p = v.x), ∀ (hr : m.r = v.y), ∀ (hq : m.q.natAbs ≤ v.x.natAbs + 1), ∀ (hs : m.s.natAbs ≤ v.y.natAbs + 1), Q (.val m.D) tk := by unfold sp_leading at h; exact h
theorem mon_leading : MonFS sp_leading := fun ds tk Q Q' hq_ hs_ => by
  obtain ⟨v, e_, hv, hg, q_⟩ := op_leading hs_
  unfold sp_leading
  exact ⟨v, e_, hv, hg, fun m hd hp hr hq hs => hq_ _ _ (q_ m hd hp hr hq hs)⟩
theorem len_leading : ∀ ds tk Q, sp_leading ds tk Q → ds.length = 1 := fun ds tk Q hs_ => by
  obtain ⟨v, e_, hv, hg, q_⟩ := op_leading hs_
  rw [e_]; rfl
theorem cl_leading {tk : Tk} {Q : EV → Tk → Prop} {v : P2} (hv : v.Sm 4000) (hg : Int.gcd v.x v.y = 1) (q_ : ∀ (m : M4), ∀ (hd : m.det = 1), ∀ (hp : m.p = v.x), ∀ (hr : m.r = v.y), ∀ (hq : m.q.natAbs ≤ v.x.natAbs + 1), ∀ (hs : m.s.natAbs ≤ v.y.natAbs + 1), Q (.val m.D) tk) : sp_leading [v.D] tk Q := by
  unfold sp_leading
  exact ⟨v, rfl, hv, hg, q_⟩
theorem ce_leading {ds_ : List D} {tk : Tk} {Q : EV → Tk → Prop} {v : P2} (hv : v.Sm 4000) (hg : Int.gcd v.x v.y = 1) (e_ : ds_ = [v.D]) (q_ : ∀ (m : M4), ∀ (hd : m.det = 1), ∀ (hp : m.p = v.x), ∀ (hr : m.r = v.y), ∀ (hq : m.q.natAbs ≤ v.x.natAbs + 1), ∀ (hs : m.s.natAbs ≤ v.y.natAbs + 1), Q (.val m.D) tk) : sp_leading ds_ tk Q := by
  subst e_
  unfold sp_leading
  exact ⟨v, rfl, hv, hg, q_⟩
abbrev N_leading : List Str := ["point", "_", "u", "v"]
def c_leading : WS :=
  (wSeq (wAsg (fz (wCall sp_bezout (wCons (fz (wOp fIdx (wPk 0) (fz (wC (.int 0))))) (wCons (fz (wOp fIdx (wPk 0) (fz (wC (.int 1))))) wNil)))) (gT 3 (gCs (gN 1) (gCs (gN 2) (gCs (gN 3) gNl)))))
  (wRet (wTup (wCons (fz (wOp fIdx (wPk 0) (fz (wC (.int 0))))) (wCons (fz (w1 fNeg (wPk 3))) (wCons (fz (wOp fIdx (wPk 0) (fz (wC (.int 1))))) (wCons (fz (wV 2)) wNil)))))))
theorem hw_leading : ∀ ds tk Q, sp_leading ds tk Q → c_leading { nx := fun _ t => Q (.val .non) t, rt := Q } (start N_leading.length ds) tk := by
  intro ds tk Q h_
  obtain ⟨v, rfl, hv, hg, q⟩ := op_leading h_
  refine cl_bezout (a := v.x) (b := v.y) (hv.1.mono (by decide)) (hv.2.mono (by decide)) fun u w e hu hw => ?_
  refine ⟨rfl, rfl, ?_⟩
  rw [hg] at e
  refine q ⟨v.x, -w, v.y, u⟩ ?_ rfl rfl (by show (-w).natAbs ≤ _; omega) hu
  show v.x * u - -w * v.y = 1
  rw [Int.neg_mul]
  have e1 : u * v.x = v.x * u := Int.mul_comm _ _
  have : ((1 : Nat) : Int) = 1 := rfl
  omega
theorem lead_size {v : P2} {m : M4} {k : Nat} (hv : v.Sm k) (hp : m.p = v.x) (hr : m.r = v.y) (hq : m.q.natAbs ≤ v.x.natAbs + 1) (hs : m.s.natAbs ≤ v.y.natAbs + 1) : m.Sm (k + 2) := by
  obtain ⟨v1, v2⟩ := hv
  have p : (2 : Nat) ^ (k + 2) = 2 ^ k * 2 * 2 := by rw [pow_s 2 (k + 1), pow_s 2 k]
  have p0 : 0 < (2 : Nat) ^ k := Nat.pow_pos (by decide)
  unfold DL.Sm at v1 v2
  unfold M4.Sm DL.Sm
  rw [hp, hr, p]
  generalize (2 : Nat) ^ k = A at *
  omega
@[irreducible] def sp_canonical_split : FSpec := fun ds tk Q => ∃ (f : F3) (k : Int), ds = [f.D] ∧ (f.Sm 300) ∧ (0 < k) ∧ (f.disc = k * k) ∧ ∀ (g : F3), ∀ (m : M4), ∀ (he : f.act m = g), ∀ (hm : m.det = 1), ∀ (hg : CanS k g), ∀ (sg : g.Sm 310), ∀ (sm : m.Sm 1300), Q (.val (.tup [g.D, m.D])) tk
theorem op_canonical_split {ds : List D} {tk : Tk} {Q : EV → Tk → Prop} (h : sp_canonical_split ds tk Q) : ∃ (f : F3) (k : Int), ds = [f.D] ∧ (f.Sm 300) ∧ (0 < k) ∧ (f.disc = k * k) ∧ ∀ (g : F3), ∀ (m : M4), ∀ (he : f.act m = g), ∀ (hm : m.det = 1), ∀ (hg : CanS k g), ∀ (sg : g.Sm 310), ∀ (sm : m.Sm 1300), Q (.val (.tup [g.D, m.D])) tk := by unfold sp_canonical_split at h; exact h
theorem mon_canonical_split : MonFS sp_canonical_split := fun ds tk Q Q' hq_ hs_ => by
  obtain ⟨f, k, e_, hf, hk, hd, q_⟩ := op_canonical_split hs_
  unfold sp_canonical_split
  exact ⟨f, k, e_, hf, hk, hd, fun g m he hm hg sg sm => hq_ _ _ (q_ g m he hm hg sg sm)⟩
theorem len_canonical_split : ∀ ds tk Q, sp_canonical_split ds tk Q → ds.length = 1 := fun ds tk Q hs_ => by
  obtain ⟨f, k, e_, hf, hk, hd, q_⟩ := op_canonical_split hs_
  rw [e_]; rfl
theorem cl_canonical_split {tk : Tk} {Q : EV → Tk → Prop} {f : F3} {k : Int} (hf : f.Sm 300) (hk : 0 < k) (hd : f.disc = k * k) (q_ : ∀ (g : F3), ∀ (m : M4), ∀ (he : f.act m = g), ∀ (hm : m.det = 1), ∀ (hg : CanS k g), ∀ (sg : g.Sm 310), ∀ (sm : m.Sm 1300), Q (.val (.tup [g.D, m.D])) tk) : sp_canonical_split [f.D] tk Q := by
  unfold sp_canonical_split
  exact ⟨f, k, rfl, hf, hk, hd, q_⟩
theorem ce_canonical_split {ds_ : List D} {tk : Tk} {Q : EV → Tk → Prop} {f : F3} {k : Int} (hf : f.Sm 300) (hk : 0 < k) (hd : f.disc = k * k) (e_ : ds_ = [f.D]) (q_ : ∀ (g : F3), ∀ (m : M4), ∀ (he : f.act m = g), ∀ (hm : m.det = 1), ∀ (hg : CanS k g), ∀ (sg : g.Sm 310), ∀ (sm : m.Sm 1300), Q (.val (.tup [g.D, m.D])) tk) : sp_canonical_split ds_ tk Q := by
  subst e_
  unfold sp_canonical_split
  exact ⟨f, k, rfl, hf, hk, hd, q_⟩
abbrev N_canonical_split : List Str := ["form", "k", "direction", "m", "_", "b", "c", "step"]
def c_canonical_split : WS :=
  (wSeq (wSet 1 (wCall sp_floor_root (wCons (fz (wCall sp_discriminant (wCons (fz (wV 0)) wNil))) wNil)))
  (wSeq (wFor (wSrc (fz (wCall sp_zero_lines (wCons (fz (wV 0)) wNil)))) (gN 2) (wSeq (wSet 3 (wCall sp_leading (wCons (fz (wV 2)) wNil)))
  (wSeq (wAsg (fz (wCall sp_act (wCons (fz (wV 0)) (wCons (fz (wV 3)) wNil)))) (gT 3 (gCs (gN 4) (gCs (gN 5) (gCs (gN 6) gNl)))))
  (wIfS (wT (wOp fEq (wPk 5) (wPk 1))) (wSeq (wSet 7 (wTup (wCons (fz (wC (.int 1))) (wCons (fz (w1 fNeg (fz (wOp fDiv (wPk 6) (wPk 1))))) (wCons (fz (wC (.int 0))) (wCons (fz (wC (.int 1))) wNil))))))
  (wSeq (wSet 3 (wCall sp_multiply (wCons (fz (wV 3)) (wCons (fz (wV 7)) wNil))))
  (wRet (wTup (wCons (fz (wCall sp_act (wCons (fz (wV 0)) (wCons (fz (wV 3)) wNil)))) (wCons (fz (wV 3)) wNil)))))) wNext))))
  (wRet (wTup (wCons (fz (wV 0)) (wCons (fz (wTup (wCons (fz (wC (.int 1))) (wCons (fz (wC (.int 0))) (wCons (fz (wC (.int 0))) (wCons (fz (wC (.int 1))) wNil)))))) wNil))))))
theorem hw_canonical_split : ∀ ds tk Q, sp_canonical_split ds tk Q → c_canonical_split { nx := fun _ t => Q (.val .non) t, rt := Q } (start N_canonical_split.length ds) tk := by
  intro ds tk Q h_
  obtain ⟨f, k, rfl, hf, hk, hd, q⟩ := op_canonical_split h_
  have sd := disc_sm2 hf
  have sk : Sm 303 k := root_sm hd (sd.mono (by decide))
  refine cl_discriminant (f := f) (hf.up (by decide)) ?_
  refine fr_sq (k := k) (by omega) hd (sd.mono (by decide)) ?_
  refine cl_zero_lines (f := f) (k := k) hf hk hd fun v w zv zw hne sv sw => ?_
  -- one direction with the right middle
  have fin : ∀ (m : M4) (x : P2), m.det = 1 → m.p = x.x → m.r = x.y → ZDir f x → m.Sm 312 → (f.act m).b = k → ∃ n : M4, n = tranM (-((f.act m).c.fdiv k)) ∧ n.Sm 940 ∧ MulOk 1 1 ∧ DivOk (f.act m).c k ∧ (m.mul n).Sm 1300 ∧ (m.mul n).det = 1 ∧ CanS k (f.act (m.mul n)) ∧ (f.act (m.mul n)).Sm 310 := by
    intro m x hm hp hr zx sm hb
    have a0 : (f.act m).a = 0 := by have := zx.z; rw [← show (⟨m.p, m.r⟩ : P2) = x from P2.ext hp hr] at this; exact this
    have sF := act_size hf sm
    have st : Sm 940 (-((f.act m).c.fdiv k)) := (sF.2.2.fdiv.mono (show 300 + 2 * 312 + 4 ≤ 940 by decide)).neg
    have sn : (tranM (-((f.act m).c.fdiv k))).Sm 940 := ⟨sm_ss (x := 1) (by decide) (by decide), st, sm_ss (x := 0) (by decide) (by decide), sm_ss (x := 1) (by decide) (by decide)⟩
    have dn : (tranM (-((f.act m).c.fdiv k))).det = 1 := by unfold M4.det tranM; dsimp only; omega
    have e : f.act (m.mul (tranM (-((f.act m).c.fdiv k)))) = ⟨0, k, (f.act m).c.fmod k⟩ := by
      rw [← F3.act_mul, act_tran, a0, hb]
      apply F3.ext
      · rfl
      · dsimp only; omega
      · dsimp only
        have := Int.mul_fdiv_add_fmod (f.act m).c k
        rw [Int.zero_mul, Int.zero_mul, Int.mul_neg]
        omega
    refine ⟨_, rfl, sn, q1 (k := 1) (j := 1) (by unfold Sm; decide) (by unfold Sm; decide), DivOk.of (by omega) sk (by decide), (mul_size sm sn).up (by decide), M4.det_mul1 hm dn, ?_, ?_⟩
    · rw [e]
      exact ⟨rfl, rfl, Int.fmod_nonneg_of_pos _ hk, Int.fmod_lt_of_pos _ hk⟩
    · rw [e]
      exact ⟨sm_ss (x := 0) (by decide) (by decide), sk.mono (by decide), (sk.fmod (by omega)).mono (by decide)⟩
  have bk : ∀ (m : M4) (x : P2), m.det = 1 → m.p = x.x → m.r = x.y → ZDir f x → (f.act m).b = k ∨ (f.act m).b = -k := by
    intro m x hm hp hr zx
    have a0 : (f.act m).a = 0 := by have := zx.z; rw [← show (⟨m.p, m.r⟩ : P2) = x from P2.ext hp hr] at this; exact this
    have dd := F3.disc_act1 f hm
    rw [hd] at dd
    have dd : (f.act m).b * (f.act m).b - 4 * (f.act m).a * (f.act m).c = k * k := dd
    rw [a0] at dd
    have : ((f.act m).b - k) * ((f.act m).b + k) = 0 := by grind
    rcases Int.mul_eq_zero.mp this with z | z <;> omega
  refine cl_leading (v := v) (sv.1.mono (by decide) |> fun a => ⟨a, sv.2.mono (by decide)⟩) zv.g fun m hm hp hr hq hs => ?_
  have sm := lead_size sv hp hr hq hs
  refine cl_act (f := f) (m := m) (hf.up (by decide)) (sm.up (by decide)) ?_
  refine ⟨rfl, ?_⟩
  simp only [gCs, gN, gNl, start_def, List.map_cons, List.map_nil, List.set_cons_zero, List.set_cons_succ, List.replicate_succ, List.replicate_zero, List.cons_append, List.nil_append, List.length_cons, List.length_nil, Nat.reduceAdd, Nat.reduceSub]
  refine if2 (fun hb => ?_) (fun hb => ?_)
  · have hb : (f.act m).b = k := hb
    obtain ⟨n, hn, sn, _, dk, smn, dmn, hC, sC⟩ := fin m v hm hp hr zv sm hb
    refine ⟨dk, rfl, ?_⟩
    refine ⟨m, n, by rw [hn]; rfl, sm.up (by decide), sn.up (by decide), ?_⟩
    refine cl_act (f := f) (m := m.mul n) (hf.up (by decide)) (smn.up (by decide)) ?_
    exact ⟨rfl, q _ _ rfl dmn hC sC smn⟩
  have hb : ¬ (f.act m).b = k := hb
  refine cl_leading (v := w) (sw.1.mono (by decide) |> fun a => ⟨a, sw.2.mono (by decide)⟩) zw.g fun m2 hm2 hp2 hr2 hq2 hs2 => ?_
  have sm2 := lead_size sw hp2 hr2 hq2 hs2
  refine cl_act (f := f) (m := m2) (hf.up (by decide)) (sm2.up (by decide)) ?_
  refine ⟨rfl, ?_⟩
  simp only [gCs, gN, gNl, start_def, List.map_cons, List.map_nil, List.set_cons_zero, List.set_cons_succ, List.replicate_succ, List.replicate_zero, List.cons_append, List.nil_append, List.length_cons, List.length_nil, Nat.reduceAdd, Nat.reduceSub]
  have hb2 : (f.act m2).b = k := by
    have e1 : (⟨m.p, m.r⟩ : P2) = v := P2.ext hp hr
    have e2 : (⟨m2.p, m2.r⟩ : P2) = w := P2.ext hp2 hr2
    have := zdir_opp hm hm2 (by rw [e1]; exact zv) (by rw [e2]; exact zw) (by rw [e1, e2]; exact hne)
    have := (bk m v hm hp hr zv).resolve_left hb
    omega
  refine ifT hb2 ?_
  obtain ⟨n, hn, sn, _, dk, smn, dmn, hC, sC⟩ := fin m2 w hm2 hp2 hr2 zw sm2 hb2
  refine ⟨dk, rfl, ?_⟩
  refine ⟨m2, n, by rw [hn]; rfl, sm2.up (by decide), sn.up (by decide), ?_⟩
  refine cl_act (f := f) (m := m2.mul n) (hf.up (by decide)) (smn.up (by decide)) ?_
  exact ⟨rfl, q _ _ rfl dmn hC sC smn⟩
end DL
set_option maxHeartbeats 1000000
set_option pp.maxSteps 1200
namespace DL
open PySem PySem.Spec PyProof.Rows L2
/-! ### flat forms -/
def flatG (f : F3) : Int := if f.a < 0 ∨ f.c < 0 then -(cont f) else cont f
structure FlatP (f : F3) (g p q : Int) : Prop where
  ff : f = flatF g p q
  gg : g = flatG f
  c : Int.gcd p q = 1
  s : 0 < p ∨ (p = 0 ∧ q = 1)
  z : g = 0 → p = 1 ∧ q = 0
theorem flat_sign {g x y : Int} (hc : Int.gcd x y = 1) : flatG (flatF g x y) = g := by
  unfold flatG
  rw [flat_cont hc]
  have hx := sq_nn x
  have hy := sq_nn y
  have ea : (flatF g x y).a = g * (x * x) := by unfold flatF; dsimp only; grind
  have ec : (flatF g x y).c = g * (y * y) := by unfold flatF; dsimp only; grind
  have nz : 1 ≤ x * x ∨ 1 ≤ y * y := by
    by_cases z : x = 0
    · refine .inr (sq_pos fun w => ?_)
      rw [z, w] at hc
      exact absurd hc (by decide)
    · exact .inl (sq_pos z)
  rw [ea, ec]
  rcases Int.lt_trichotomy g 0 with h | h | h
  · rw [if_pos ?_]
    · omega
    · rcases nz with z | z
      · left
        have := Int.mul_le_mul_of_nonpos_left (show g ≤ 0 by omega) z
        omega
      · right
        have := Int.mul_le_mul_of_nonpos_left (show g ≤ 0 by omega) z
        omega
  · subst h
    rw [if_neg (by omega)]
    rfl
  · have h1 := Int.mul_nonneg (show 0 ≤ g by omega) hx
    have h2 := Int.mul_nonneg (show 0 ≤ g by omega) hy
    rw [if_neg (by omega)]
    omega
theorem fl_div {g z : Int} (h : g ≠ 0) : (g * z).fdiv (g.natAbs : Int) = (if g < 0 then -1 else 1) * z := by
  have e : g * z = (g.natAbs : Int) * ((if g < 0 then -1 else 1) * z) := by
    split <;> rename_i w
    · rw [show (g.natAbs : Int) = -g by omega]; grind
    · rw [show (g.natAbs : Int) = g by omega]; grind
  rw [e, Int.mul_fdiv_cancel_left _ (by omega)]
@[irreducible] def sp_flat_parts : FSpec := fun ds tk Q => ∃ (f : F3), ds = [f.D] ∧ (f.Sm 300) ∧ (IsFlat f) ∧ ∀ (g p q : Int), ∀ (hp : FlatP f g p q), ∀ (sg : Sm 310 g), ∀ (sp : Sm 310 p), ∀ (sq : Sm 310 q), Q (.val (.tup [.int g, .int p, .int q])) tk
theorem op_flat_parts {ds : List D} {tk : Tk} {Q : EV → Tk → Prop} (h : sp_flat_parts ds tk Q) : ∃ (f : F3), ds = [f.D] ∧ (f.Sm 300) ∧ (IsFlat f) ∧ ∀ (g p q : Int), ∀ (hp : FlatP f g p q), ∀ (sg : Sm 310 g), ∀ (sp : Sm 310 p), ∀ (sq : Sm 310 q), Q (.val (.tup [.int g, .int p, .int q])) tk := by unfold sp_flat_parts at h; exact h
theorem mon_flat_parts : MonFS sp_flat_parts := fun ds tk Q Q' hq_ hs_ => by
  obtain ⟨f, e_, hf, h, q_⟩ := op_flat_parts hs_
  unfold sp_flat_parts
  exact ⟨f, e_, hf, h, fun g p q hp sg sp sq => hq_ _ _ (q_ g p q hp sg sp sq)⟩
theorem len_flat_parts : ∀ ds tk Q, sp_flat_parts ds tk Q → ds.length = 1 := fun ds tk Q hs_ => by
  obtain ⟨f, e_, hf, h, q_⟩ := op_flat_parts hs_
  rw [e_]; rfl
theorem cl_flat_parts {tk : Tk} {Q : EV → Tk → Prop} {f : F3} (hf : f.Sm 300) (h : IsFlat f) (q_ : ∀ (g p q : Int), ∀ (hp : FlatP f g p q), ∀ (sg : Sm 310 g), ∀ (sp : Sm 310 p), ∀ (sq : Sm 310 q), Q (.val (.tup [.int g, .int p, .int q])) tk) : sp_flat_parts [f.D] tk Q := by
  unfold sp_flat_parts
  exact ⟨f, rfl, hf, h, q_⟩
theorem ce_flat_parts {ds_ : List D} {tk : Tk} {Q : EV → Tk → Prop} {f : F3} (hf : f.Sm 300) (h : IsFlat f) (e_ : ds_ = [f.D]) (q_ : ∀ (g p q : Int), ∀ (hp : FlatP f g p q), ∀ (sg : Sm 310 g), ∀ (sp : Sm 310 p), ∀ (sq : Sm 310 q), Q (.val (.tup [.int g, .int p, .int q])) tk) : sp_flat_parts ds_ tk Q := by
  subst e_
  unfold sp_flat_parts
  exact ⟨f, rfl, hf, h, q_⟩
theorem iabs_natAbs (x : Int) : (if x < 0 then -x else x) = (x.natAbs : Int) := by split <;> omega
abbrev N_flat_parts : List Str := ["form", "g", "a", "b", "c", "sign", "p", "q"]
def c_flat_parts : WS :=
  (wSeq (wSet 1 (wCall sp_content (wCons (fz (wV 0)) wNil)))
  (wSeq (wIfS (wT (wOp fEq (wPk 1) (fz (wC (.int 0))))) (wRet (wTup (wCons (fz (wC (.int 0))) (wCons (fz (wC (.int 1))) (wCons (fz (wC (.int 0))) wNil))))) wNext)
  (wSeq (wAsg (fz (wCall sp_divided (wCons (fz (wV 0)) (wCons (fz (wV 1)) wNil)))) (gT 3 (gCs (gN 2) (gCs (gN 3) (gCs (gN 4) gNl)))))
  (wSeq (wSet 5 (wC (.int 1)))
  (wSeq (wIfS (wOr (wT (wOp fLt (wPk 2) (fz (wC (.int 0))))) (wT (wOp fLt (wPk 4) (fz (wC (.int 0)))))) (wSet 5 (w1 fNeg (fz (wC (.int 1))))) wNext)
  (wSeq (wSet 6 (wCall sp_floor_root (wCons (fz (w1 fAbs (wPk 2))) wNil)))
  (wSeq (wSet 7 (wCall sp_floor_root (wCons (fz (w1 fAbs (wPk 4))) wNil)))
  (wSeq (wIfS (wT (wOp fLt (fz (wOp fMul (wPk 3) (wPk 5))) (fz (wC (.int 0))))) (wSet 7 (w1 fNeg (wPk 7))) wNext)
  (wRet (wTup (wCons (fz (wOp fMul (wPk 5) (wPk 1))) (wCons (fz (wV 6)) (wCons (fz (wV 7)) wNil)))))))))))))
theorem hw_flat_parts : ∀ ds tk Q, sp_flat_parts ds tk Q → c_flat_parts { nx := fun _ t => Q (.val .non) t, rt := Q } (start N_flat_parts.length ds) tk := by
  intro ds tk Q h_
  obtain ⟨f, rfl, hf, h, q⟩ := op_flat_parts h_
  obtain ⟨g, x, y, e, hc⟩ := flat_prim h
  have sc : Sm 300 (cont f) := by
    obtain ⟨a1, a2, a3⟩ := hf
    unfold cont
    have k : ∀ {x y : Int}, Sm 300 x → Sm 300 y → Sm 300 (Int.gcd x y : Int) := fun {x y} ha hb => by
      unfold Sm at *
      rw [Int.natAbs_natCast]
      rcases Nat.eq_zero_or_pos y.natAbs with z | z
      · rw [show y = 0 by omega, Int.gcd_zero_right]; exact ha
      · exact Nat.lt_of_le_of_lt (Nat.gcd_le_right _ z) hb
    exact k (k a1 a2) a3
  have ce : cont f = (g.natAbs : Int) := by rw [e]; exact flat_cont hc
  have sg : Sm 300 g := by rw [ce] at sc; unfold Sm at *; rw [Int.natAbs_natCast] at sc; exact sc
  have fa : f.a = g * (x * x) := by rw [e]; unfold flatF; dsimp only; grind
  have fb : f.b = g * (2 * x * y) := by rw [e]; unfold flatF; dsimp only; grind
  have fc : f.c = g * (y * y) := by rw [e]; unfold flatF; dsimp only; grind
  refine cl_content (f := f) (hf.up (by decide)) ?_
  refine if2 (fun h0 => ?_) (fun h0 => ?_)
  · have g0 : g = 0 := by have h0 : cont f = 0 := h0; omega
    refine ⟨rfl, ?_⟩
    refine q 0 1 0 ⟨?_, ?_, rfl, .inl (by decide), fun _ => ⟨rfl, rfl⟩⟩ (sm_ss (by decide) (by decide)) (sm_ss (by decide) (by decide)) (sm_ss (by decide) (by decide))
    · rw [e, g0]; apply F3.ext <;> (unfold flatF; dsimp only; omega)
    · rw [e, g0, flat_sign hc]
  have g0 : g ≠ 0 := by have h0 : ¬ cont f = 0 := h0; omega
  refine cl_divided (f := f) (n := cont f) (by omega) (sc.mono (by decide)) ?_
  refine ⟨rfl, ?_⟩
  have da : f.a.fdiv (cont f) = (if g < 0 then -1 else 1) * (x * x) := by rw [ce, fa, fl_div g0]
  have db : f.b.fdiv (cont f) = (if g < 0 then -1 else 1) * (2 * x * y) := by rw [ce, fb, fl_div g0]
  have dc : f.c.fdiv (cont f) = (if g < 0 then -1 else 1) * (y * y) := by rw [ce, fc, fl_div g0]
  have sA : Sm 300 (f.a.fdiv (cont f)) := hf.1.fdiv
  have sB : Sm 300 (f.b.fdiv (cont f)) := hf.2.1.fdiv
  have sC : Sm 300 (f.c.fdiv (cont f)) := hf.2.2.fdiv
  simp only [gCs, gN, gNl, start_def, List.map_cons, List.map_nil, List.set_cons_zero, List.set_cons_succ, List.replicate_succ, List.replicate_zero, List.cons_append, List.nil_append, List.length_cons, List.length_nil, Nat.reduceAdd, Nat.reduceSub]
  generalize f.a.fdiv (cont f) = A at *
  generalize f.b.fdiv (cont f) = B at *
  generalize f.c.fdiv (cont f) = C at *
  have hx := sq_nn x
  have hy := sq_nn y
  obtain ⟨σ, hσ⟩ : ∃ σ : Int, σ = if g < 0 then -1 else 1 := ⟨_, rfl⟩
  rw [← hσ] at da db dc
  have σ1 : (g < 0 ∧ σ = -1) ∨ (0 < g ∧ σ = 1) := by
    rcases Int.lt_or_gt_of_ne g0 with z | z
    · exact .inl ⟨z, by rw [hσ, if_pos z]⟩
    · exact .inr ⟨z, by rw [hσ, if_neg (by omega)]⟩
  have nz : 1 ≤ x * x ∨ 1 ≤ y * y := by
    by_cases z : x = 0
    · refine .inr (sq_pos fun w => ?_)
      rw [z, w] at hc
      exact absurd hc (by decide)
    · exact .inl (sq_pos z)
  refine seq_cut (a := wSet _ _) (fun e t => t = tk ∧ e = [some (.val (f.D)), some (.val (.int (cont f))), some (.val (.int (A))), some (.val (.int (B))), some (.val (.int (C))), some (.val (.int (1))), none, none]) (fun R hR => hR _ _ ⟨rfl, rfl⟩) ?_
  rintro _ t ⟨rfl, rfl⟩
  refine seq_cut (a := wIfS _ _ _) (fun e t' => t' = t ∧ e = [some (.val (f.D)), some (.val (.int (cont f))), some (.val (.int (A))), some (.val (.int (B))), some (.val (.int (C))), some (.val (.int (σ))), none, none]) (fun R hR => ?_) ?_
  · have neg : (A < 0 ∨ C < 0) → R [some (.val (f.D)), some (.val (.int (cont f))), some (.val (.int (A))), some (.val (.int (B))), some (.val (.int (C))), some (.val (.int (-1))), none, none] t := fun w => hR _ _ ⟨rfl, by
      have : σ = -1 := by
        rcases σ1 with z | z
        · exact z.2
        · exfalso; rw [z.2] at da dc; omega
      rw [this]⟩
    have pos : ¬ (A < 0 ∨ C < 0) → R [some (.val (f.D)), some (.val (.int (cont f))), some (.val (.int (A))), some (.val (.int (B))), some (.val (.int (C))), some (.val (.int (1))), none, none] t := fun w => hR _ _ ⟨rfl, by
      have : σ = 1 := by
        rcases σ1 with z | z
        · exfalso; rw [z.2] at da dc; omega
        · exact z.2
      rw [this]⟩
    refine if2 (fun w => neg (.inl w)) (fun w => if2 (fun w2 => neg (.inr w2)) (fun w2 => pos (fun z => z.elim w w2)))
  rintro en t ⟨rfl, rfl⟩
  have aA : (if A < 0 then -A else A) = (x.natAbs : Int) * (x.natAbs : Int) := by
    rw [iabs_natAbs, ← Int.natCast_mul, ← Int.natAbs_mul, da]
    rcases σ1 with ⟨_, z⟩ | ⟨_, z⟩ <;> rw [z] <;> congr 1 <;> omega
  have aC : (if C < 0 then -C else C) = (y.natAbs : Int) * (y.natAbs : Int) := by
    rw [iabs_natAbs, ← Int.natCast_mul, ← Int.natAbs_mul, dc]
    rcases σ1 with ⟨_, z⟩ | ⟨_, z⟩ <;> rw [z] <;> congr 1 <;> omega
  refine fr_sq (k := (x.natAbs : Int)) (Int.natCast_nonneg _) aA (sA.absif.mono (by decide)) ?_
  refine fr_sq (k := (y.natAbs : Int)) (Int.natCast_nonneg _) aC (sC.absif.mono (by decide)) ?_
  have sx : Sm 300 x := by
    have := sA.absif
    rw [aA] at this
    have k : Sm 300 (x.natAbs : Int) := sm_sq (Int.le_refl _) this
    unfold Sm at *; rw [Int.natAbs_natCast] at k; exact k
  have sy : Sm 300 y := by
    have := sC.absif
    rw [aC] at this
    have k : Sm 300 (y.natAbs : Int) := sm_sq (Int.le_refl _) this
    unfold Sm at *; rw [Int.natAbs_natCast] at k; exact k
  have sσ : Sm 2 σ := by rcases σ1 with ⟨_, z⟩ | ⟨_, z⟩ <;> rw [z] <;> exact sm_ss (by decide) (by decide)
  have eB : B * σ = 2 * (x * y) := by
    rw [db]
    rcases σ1 with ⟨_, z⟩ | ⟨_, z⟩ <;> rw [z] <;> grind
  have eg : σ * cont f = g := by
    rw [ce]
    rcases σ1 with ⟨w, z⟩ | ⟨w, z⟩ <;> rw [z] <;> omega
  refine ⟨q1 sB sσ, ?_⟩
  have nx : (x.natAbs : Int) * (x.natAbs : Int) = x * x := Int.natAbs_mul_self' x
  have ny : (y.natAbs : Int) * (y.natAbs : Int) = y * y := Int.natAbs_mul_self' y
  have fin : ∀ w : Int, (w = (y.natAbs : Int) ∨ w = -(y.natAbs : Int)) → (x.natAbs : Int) * w = x * y → (x = 0 → w = (y.natAbs : Int)) → Q (.val (.tup [.int (σ * cont f), .int (x.natAbs : Int), .int w])) t := by
    intro w hw hxy hx0
    have ww : w * w = y * y := by rcases hw with rfl | rfl <;> grind
    rw [eg]
    refine q g _ w ⟨?_, ?_, ?_, ?_, fun z => absurd z g0⟩ (sg.mono (by decide)) (by unfold Sm at *; rw [Int.natAbs_natCast]; exact Nat.lt_of_lt_of_le sx (Nat.pow_le_pow_right (by decide) (by decide))) ?_
    · rw [e]
      apply F3.ext
      · show g * x * x = g * (x.natAbs : Int) * (x.natAbs : Int); rw [Int.mul_assoc, Int.mul_assoc, nx]
      · show 2 * g * x * y = 2 * g * (x.natAbs : Int) * w; rw [Int.mul_assoc (2 * g), Int.mul_assoc (2 * g), hxy]
      · show g * y * y = g * w * w; rw [Int.mul_assoc, Int.mul_assoc, ww]
    · rw [e, flat_sign hc]
    · rcases hw with rfl | rfl
      · unfold Int.gcd at *; rw [Int.natAbs_natCast, Int.natAbs_natCast]; exact hc
      · unfold Int.gcd at *; rw [Int.natAbs_neg, Int.natAbs_natCast, Int.natAbs_natCast]; exact hc
    · by_cases z : x = 0
      · right
        have w0 := hx0 z
        refine ⟨by omega, ?_⟩
        rw [z, Int.gcd_zero_left] at hc
        omega
      · left; omega
    · rcases hw with rfl | rfl
      · unfold Sm at *; rw [Int.natAbs_natCast]; exact Nat.lt_of_lt_of_le sy (Nat.pow_le_pow_right (by decide) (by decide))
      · unfold Sm at *; rw [Int.natAbs_neg, Int.natAbs_natCast]; exact Nat.lt_of_lt_of_le sy (Nat.pow_le_pow_right (by decide) (by decide))
  have sσc : MulOk σ (cont f) := q1 sσ sc
  have prod : (x.natAbs : Int) * (y.natAbs : Int) = ((x * y).natAbs : Int) := by rw [Int.natAbs_mul, Int.natCast_mul]
  refine if2 (fun hb => ?_) (fun hb => ?_)
  · have hb : x * y < 0 := by have hb : B * σ < 0 := hb; omega
    refine ⟨sσc, rfl, fin _ (.inr rfl) ?_ (fun z => ?_)⟩
    · rw [Int.mul_neg, prod]; omega
    · rw [z, Int.zero_mul] at hb; omega
  · have hb : 0 ≤ x * y := by have hb : ¬ B * σ < 0 := hb; omega
    refine ⟨sσc, rfl, fin _ (.inl rfl) ?_ (fun _ => rfl)⟩
    rw [prod]; omega
@[irreducible] def sp_canonical_flat : FSpec := fun ds tk Q => ∃ (f : F3), ds = [f.D] ∧ (f.Sm 300) ∧ (IsFlat f) ∧ ∀ (m : M4), ∀ (he : f.act m = ⟨flatG f, 0, 0⟩), ∀ (hm : m.det = 1), ∀ (sm : m.Sm 320), ∀ (sg : Sm 310 (flatG f)), Q (.val (.tup [F3.D ⟨flatG f, 0, 0⟩, m.D])) tk
theorem op_canonical_flat {ds : List D} {tk : Tk} {Q : EV → Tk → Prop} (h : sp_canonical_flat ds tk Q) : ∃ (f : F3), ds = [f.D] ∧ (f.Sm 300) ∧ (IsFlat f) ∧ ∀ (m : M4), ∀ (he : f.act m = ⟨flatG f, 0, 0⟩), ∀ (hm : m.det = 1), ∀ (sm : m.Sm 320), ∀ (sg : Sm 310 (flatG f)), Q (.val (.tup [F3.D ⟨flatG f, 0, 0⟩, m.D])) tk := by unfold sp_canonical_flat at h; exact h
theorem mon_canonical_flat : MonFS sp_canonical_flat := fun ds tk Q Q' hq_ hs_ => by
  obtain ⟨f, e_, hf, h, q_⟩ := op_canonical_flat hs_
  unfold sp_canonical_flat
  exact ⟨f, e_, hf, h, fun m he hm sm sg => hq_ _ _ (q_ m he hm sm sg)⟩
theorem len_canonical_flat : ∀ ds tk Q, sp_canonical_flat ds tk Q → ds.length = 1 := fun ds tk Q hs_ => by
  obtain ⟨f, e_, hf, h, q_⟩ := op_canonical_flat hs_
  rw [e_]; rfl
theorem cl_canonical_flat {tk : Tk} {Q : EV → Tk → Prop} {f : F3} (hf : f.Sm 300) (h : IsFlat f) (q_ : ∀ (m : M4), ∀ (he : f.act m = ⟨flatG f, 0, 0⟩), ∀ (hm : m.det = 1), ∀ (sm : m.Sm 320), ∀ (sg : Sm 310 (flatG f)), Q (.val (.tup [F3.D ⟨flatG f, 0, 0⟩, m.D])) tk) : sp_canonical_flat [f.D] tk Q := by
  unfold sp_canonical_flat
  exact ⟨f, rfl, hf, h, q_⟩
theorem ce_canonical_flat {ds_ : List D} {tk : Tk} {Q : EV → Tk → Prop} {f : F3} (hf : f.Sm 300) (h : IsFlat f) (e_ : ds_ = [f.D]) (q_ : ∀ (m : M4), ∀ (he : f.act m = ⟨flatG f, 0, 0⟩), ∀ (hm : m.det = 1), ∀ (sm : m.Sm 320), ∀ (sg : Sm 310 (flatG f)), Q (.val (.tup [F3.D ⟨flatG f, 0, 0⟩, m.D])) tk) : sp_canonical_flat ds_ tk Q := by
  subst e_
  unfold sp_canonical_flat
  exact ⟨f, rfl, hf, h, q_⟩
abbrev N_canonical_flat : List Str := ["form", "g", "p", "q", "_", "u", "v"]
def c_canonical_flat : WS :=
  (wSeq (wAsg (fz (wCall sp_flat_parts (wCons (fz (wV 0)) wNil))) (gT 3 (gCs (gN 1) (gCs (gN 2) (gCs (gN 3) gNl)))))
  (wSeq (wIfS (wT (wOp fEq (wPk 1) (fz (wC (.int 0))))) (wRet (wTup (wCons (fz (wV 0)) (wCons (fz (wTup (wCons (fz (wC (.int 1))) (wCons (fz (wC (.int 0))) (wCons (fz (wC (.int 0))) (wCons (fz (wC (.int 1))) wNil)))))) wNil)))) wNext)
  (wSeq (wAsg (fz (wCall sp_bezout (wCons (fz (wV 2)) (wCons (fz (wV 3)) wNil)))) (gT 3 (gCs (gN 4) (gCs (gN 5) (gCs (gN 6) gNl)))))
  (wRet (wTup (wCons (fz (wTup (wCons (fz (wV 1)) (wCons (fz (wC (.int 0))) (wCons (fz (wC (.int 0))) wNil))))) (wCons (fz (wTup (wCons (fz (wV 5)) (wCons (fz (w1 fNeg (wPk 3))) (wCons (fz (wV 6)) (wCons (fz (wV 2)) wNil)))))) wNil)))))))
theorem hw_canonical_flat : ∀ ds tk Q, sp_canonical_flat ds tk Q → c_canonical_flat { nx := fun _ t => Q (.val .non) t, rt := Q } (start N_canonical_flat.length ds) tk := by
  intro ds tk Q h_
  obtain ⟨f, rfl, hf, h, q⟩ := op_canonical_flat h_
  refine cl_flat_parts (f := f) hf h fun g p r I sg sp sr => ?_
  refine ⟨rfl, ?_⟩
  simp only [gCs, gN, gNl, start_def, List.map_cons, List.map_nil, List.set_cons_zero, List.set_cons_succ, List.replicate_succ, List.replicate_zero, List.cons_append, List.nil_append, List.length_cons, List.length_nil, Nat.reduceAdd, Nat.reduceSub]
  refine if2 (fun h0 => ?_) (fun h0 => ?_)
  · have h0 : g = 0 := h0
    have ef : f = ⟨flatG f, 0, 0⟩ := by
      obtain ⟨i1, i2⟩ := I.z h0
      rw [← I.gg]
      have := I.ff
      rw [h0, i1, i2] at this
      rw [this, h0]
      rfl
    refine ⟨rfl, rfl, ?_⟩
    have r := q M4.one (by rw [F3.act_one]; exact ef) rfl ⟨sm_ss (x := 1) (by decide) (by decide), sm_ss (x := 0) (by decide) (by decide), sm_ss (x := 0) (by decide) (by decide), sm_ss (x := 1) (by decide) (by decide)⟩ (by rw [← I.gg]; exact sg)
    rw [← ef] at r
    exact r
  · refine cl_bezout (a := p) (b := r) (sp.mono (by decide)) (sr.mono (by decide)) fun u v e hu hv => ?_
    refine ⟨rfl, rfl, rfl, rfl, ?_⟩
    rw [I.c] at e
    have e : u * p + v * r = 1 := e
    have k : ∀ {x y : Int}, x.natAbs ≤ y.natAbs + 1 → Sm 310 y → Sm 320 x := fun {x y} h hy => by
      unfold Sm at *
      have p0 : (2 : Nat) ^ 310 + 1 ≤ 2 ^ 320 := by decide
      omega
    have ez := q ⟨u, -r, v, p⟩ ?_ ?_ ⟨k hu sr, sr.neg.mono (by decide), k hv sp, sp.mono (by decide)⟩ (by rw [← I.gg]; exact sg)
    · rw [← I.gg] at ez
      exact ez
    · have e2 : p * u + r * v = 1 := by rw [Int.mul_comm p, Int.mul_comm r]; exact e
      rw [← I.gg]
      conv => lhs; rw [I.ff]
      rw [flat_act]
      dsimp only
      have e3 : p * -r + r * p = 0 := by grind
      rw [e2, e3]
      apply F3.ext <;> (unfold flatF; dsimp only; omega)
    · show u * p - -r * v = 1
      rw [Int.neg_mul, Int.mul_comm r]
      omega
end DL
set_option maxHeartbeats 1000000
namespace DL
/-! ### canonical forms of the four kinds -/
/-- if the product of two numbers without a common measure is a square, the first is one -/
theorem sq_first {a c t : Nat} (h : Nat.gcd a c = 1) (e : a * c = t * t) : Nat.gcd a t * Nat.gcd a t = a := by
  have k : Nat.gcd a t * Nat.gcd a t = Nat.gcd (a * Nat.gcd a t) (t * Nat.gcd a t) := by rw [Nat.gcd_mul_right]
  rw [k, ← Nat.gcd_mul_left, ← Nat.gcd_mul_left, ← e]
  have k2 : Nat.gcd (Nat.gcd (a * a) (a * t)) (Nat.gcd (t * a) (a * c)) = a * Nat.gcd (Nat.gcd a t) (Nat.gcd t c) := by
    rw [Nat.mul_comm t a, Nat.gcd_mul_left, Nat.gcd_mul_left, Nat.gcd_mul_left]
  rw [k2]
  have k3 : Nat.gcd (Nat.gcd a t) (Nat.gcd t c) = 1 := by
    have d1 : Nat.gcd (Nat.gcd a t) (Nat.gcd t c) ∣ a := Nat.dvd_trans (Nat.gcd_dvd_left _ _) (Nat.gcd_dvd_left _ _)
    have d2 : Nat.gcd (Nat.gcd a t) (Nat.gcd t c) ∣ c := Nat.dvd_trans (Nat.gcd_dvd_right _ _) (Nat.gcd_dvd_right _ _)
    have := Nat.dvd_gcd d1 d2
    rw [h] at this
    exact Nat.dvd_one.mp this
  rw [k3, Nat.mul_one]
theorem sq_eq_nat {a b : Nat} (h : a * a = b * b) : a = b := by
  rcases Nat.lt_trichotomy a b with z | z | z
  · have := Nat.mul_lt_mul'' z z; omega
  · exact z
  · have := Nat.mul_lt_mul'' z z; omega
theorem sq_dvd_nat {g b : Nat} (h : g * g ∣ b * b) : g ∣ b := by
  have : g ^ 2 ∣ b ^ 2 := by rw [Nat.pow_two, Nat.pow_two]; exact h
  exact (Nat.pow_dvd_pow_iff (by decide)).mp this
theorem flat_of0 {f : F3} (h : f.disc = 0) : IsFlat f := by
  unfold F3.disc at h
  have bev : f.b % 2 = 0 := by
    rcases (by omega : f.b % 2 = 0 ∨ f.b % 2 = 1) with z | z
    · exact z
    · exfalso
      have s : (f.b * f.b) % 2 = 1 := by rw [Int.mul_emod, z]; rfl
      have e : 4 * f.a * f.c = 2 * (2 * (f.a * f.c)) := by grind
      omega
  obtain ⟨β, hβ⟩ : ∃ β, f.b = 2 * β := ⟨f.b / 2, by omega⟩
  have e : f.a * f.c = β * β := by
    rw [hβ] at h
    have e1 : 2 * β * (2 * β) = 4 * (β * β) := by grind
    have e2 : 4 * f.a * f.c = 4 * (f.a * f.c) := by grind
    omega
  by_cases z : Int.gcd f.a f.c = 0
  · have k := Int.gcd_eq_zero_iff.mp z
    rw [k.1, Int.zero_mul] at e
    have b0 : β = 0 := by rcases Int.mul_eq_zero.mp e.symm with w | w <;> exact w
    refine ⟨0, 0, 0, ?_⟩
    apply F3.ext
    · rw [k.1]; rfl
    · rw [hβ, b0]; rfl
    · rw [k.2]; rfl
  · obtain ⟨g, hg⟩ : ∃ g, g = Int.gcd f.a f.c := ⟨_, rfl⟩
    have g0 : 0 < g := by omega
    have da : (g : Int) ∣ f.a := by rw [hg]; exact Int.gcd_dvd_left ..
    have dc : (g : Int) ∣ f.c := by rw [hg]; exact Int.gcd_dvd_right ..
    obtain ⟨a, ha⟩ := da
    obtain ⟨c, hc⟩ := dc
    have cop : Int.gcd a c = 1 := by
      have k := Int.gcd_mul_left (g : Int) a c
      rw [← ha, ← hc, ← hg, Int.natAbs_natCast] at k
      have : g * 1 = g * Int.gcd a c := by omega
      exact (Nat.eq_of_mul_eq_mul_left g0 this).symm
    have eN : g * g * (a.natAbs * c.natAbs) = β.natAbs * β.natAbs := by
      have k := congrArg Int.natAbs e
      rw [ha, hc, Int.natAbs_mul, Int.natAbs_mul, Int.natAbs_mul, Int.natAbs_mul, Int.natAbs_natCast] at k
      rw [← k]; grind
    obtain ⟨t, ht⟩ : g ∣ β.natAbs := sq_dvd_nat ⟨_, eN.symm⟩
    have eN2 : a.natAbs * c.natAbs = t * t := by
      rw [ht] at eN
      have : g * g * (a.natAbs * c.natAbs) = g * g * (t * t) := by rw [eN]; grind
      exact Nat.eq_of_mul_eq_mul_left (Nat.mul_pos g0 g0) this
    have pp := sq_first (a := a.natAbs) (c := c.natAbs) (t := t) cop eN2
    have qq := sq_first (a := c.natAbs) (c := a.natAbs) (t := t) (by rw [Nat.gcd_comm]; exact cop) (by rw [Nat.mul_comm]; exact eN2)
    generalize Nat.gcd a.natAbs t = p at pp
    generalize Nat.gcd c.natAbs t = q at qq
    have et : t = p * q := by
      refine sq_eq_nat ?_
      rw [← eN2, ← pp, ← qq]; grind
    -- the signs
    have sgn : (0 ≤ a ∧ 0 ≤ c) ∨ (a ≤ 0 ∧ c ≤ 0) := by
      have nn : 0 ≤ (g : Int) * a * ((g : Int) * c) := by
        rw [← ha, ← hc, e]
        rcases Int.le_total 0 β with w | w
        · exact Int.mul_nonneg w w
        · exact Int.mul_nonneg_of_nonpos_of_nonpos w w
      have e3 : (g : Int) * a * ((g : Int) * c) = (g : Int) * g * (a * c) := by grind
      rw [e3] at nn
      have gg : (0 : Int) < (g : Int) * g := Int.mul_pos (by omega) (by omega)
      have ac : 0 ≤ a * c := by
        refine Int.not_lt.mp fun w => ?_
        have := Int.mul_pos gg (show 0 < -(a * c) by omega)
        rw [Int.mul_neg] at this
        omega
      rcases Int.le_total 0 a with w | w <;> rcases Int.le_total 0 c with y | y
      · exact .inl ⟨w, y⟩
      · by_cases a0 : a = 0
        · exact .inr ⟨by omega, y⟩
        · by_cases c0 : c = 0
          · exact .inl ⟨w, by omega⟩
          · have := Int.mul_pos (show 0 < a by omega) (show 0 < -c by omega)
            rw [Int.mul_neg] at this
            omega
      · by_cases a0 : a = 0
        · exact .inl ⟨by omega, y⟩
        · by_cases c0 : c = 0
          · exact .inr ⟨w, by omega⟩
          · have := Int.mul_pos (show 0 < -a by omega) (show 0 < c by omega)
            rw [Int.neg_mul] at this
            omega
      · exact .inr ⟨w, y⟩
    obtain ⟨G, hG, eA, eC⟩ : ∃ G : Int, (G = g ∨ G = -g) ∧ f.a = G * (p * p : Nat) ∧ f.c = G * (q * q : Nat) := by
      rcases sgn with ⟨w, y⟩ | ⟨w, y⟩
      · refine ⟨g, .inl rfl, ?_, ?_⟩
        · rw [ha]; congr 1; omega
        · rw [hc]; congr 1; omega
      · refine ⟨-g, .inr rfl, ?_, ?_⟩
        · rw [ha, Int.neg_mul, ← Int.mul_neg]; congr 1; omega
        · rw [hc, Int.neg_mul, ← Int.mul_neg]; congr 1; omega
    have eB : β = G * (p * q : Nat) ∨ β = -(G * (p * q : Nat)) := by
      have k : β.natAbs = g * (p * q) := by rw [ht, et]
      have k2 : (β.natAbs : Int) = (g : Int) * ((p * q : Nat) : Int) := by rw [k, Int.natCast_mul]
      rcases hG with rfl | rfl
      · omega
      · rw [Int.neg_mul]; omega
    rcases eB with eB | eB
    · refine ⟨G, p, q, ?_⟩
      apply F3.ext
      · rw [eA, Int.natCast_mul]; unfold flatF; dsimp only; grind
      · rw [hβ, eB, Int.natCast_mul]; unfold flatF; dsimp only; grind
      · rw [eC, Int.natCast_mul]; unfold flatF; dsimp only; grind
    · refine ⟨G, p, -q, ?_⟩
      apply F3.ext
      · rw [eA, Int.natCast_mul]; unfold flatF; dsimp only; grind
      · rw [hβ, eB, Int.natCast_mul]; unfold flatF; dsimp only; grind
      · rw [eC, Int.natCast_mul]; unfold flatF; dsimp only; grind
/-! the canonical form, of any kind -/
structure CanF (f g : F3) : Prop where
  eqv : Eqv f g
  kind : (f.disc < 0 ∧ ∃ m, RdI f g m) ∨ (f.disc = 0 ∧ g.b = 0 ∧ g.c = 0) ∨ (∃ k, 0 < k ∧ f.disc = k * k ∧ CanS k g) ∨ (0 < f.disc ∧ ¬ IsSq f.disc ∧ ∃ r, Rt f.disc r ∧ LeastOf r f g)
theorem flat_one {G G' : Int} {m : M4} (d : m.det = 1) (e : F3.act ⟨G, 0, 0⟩ m = ⟨G', 0, 0⟩) : G = G' := by
  have e1 : (⟨G, 0, 0⟩ : F3) = flatF G 1 0 := by apply F3.ext <;> (unfold flatF; dsimp only; omega)
  have e2 : (⟨G', 0, 0⟩ : F3) = flatF G' 1 0 := by apply F3.ext <;> (unfold flatF; dsimp only; omega)
  have cop : Int.gcd (1 * m.p + 0 * m.r) (1 * m.q + 0 * m.s) = 1 := by
    have k1 : (Int.gcd (1 * m.p + 0 * m.r) (1 * m.q + 0 * m.s) : Int) ∣ 1 * m.p + 0 * m.r := Int.gcd_dvd_left ..
    have k2 : (Int.gcd (1 * m.p + 0 * m.r) (1 * m.q + 0 * m.s) : Int) ∣ 1 * m.q + 0 * m.s := Int.gcd_dvd_right ..
    rw [show 1 * m.p + 0 * m.r = m.p by omega] at k1 ⊢
    rw [show 1 * m.q + 0 * m.s = m.q by omega] at k2 ⊢
    rw [show 1 * m.p + 0 * m.r = m.p by omega, show 1 * m.q + 0 * m.s = m.q by omega] at *
    unfold M4.det at d
    have k3 : (Int.gcd m.p m.q : Int) ∣ 1 := by
      rw [← d]
      exact Int.dvd_sub (Int.dvd_mul_of_dvd_left k1) (Int.dvd_mul_of_dvd_left k2)
    exact Nat.dvd_one.mp (Int.natCast_dvd_natCast.mp k3)
  rw [e1, flat_act, e2] at e
  have a := flat_sign (g := G) cop
  have b := flat_sign (g := G') (x := 1) (y := 0) rfl
  rw [← a, e, b]
theorem canF_uniq {f f' g g' : F3} (h : CanF f g) (h' : CanF f' g') (e : Eqv f f') : g = g' := by
  obtain ⟨m, md, me⟩ := e
  have ed : f'.disc = f.disc := by rw [← me]; exact F3.disc_act1 f md
  obtain ⟨e1, k⟩ := h
  obtain ⟨e2, k'⟩ := h'
  have e12 : Eqv g g' := (e1.symm.trans ⟨m, md, me⟩).trans e2
  have sq0 : ∀ {k : Int}, 0 < k → 0 < k * k := fun h => Int.mul_pos h h
  rw [ed] at k'
  rcases k with ⟨d, n, I⟩ | ⟨d, gb, gc⟩ | ⟨k, k0, d, C⟩ | ⟨d, ns, r, hr, L⟩ <;> rcases k' with ⟨d', n', I'⟩ | ⟨d', gb', gc'⟩ | ⟨j, j0, d', C'⟩ | ⟨d', ns', r', hr', L'⟩
  · exact (rdI_uniq d I I' md me).symm
  · omega
  · have := sq0 j0; omega
  · omega
  · omega
  · obtain ⟨n, nd, ne⟩ := e12
    have eg : g = ⟨g.a, 0, 0⟩ := F3.ext rfl gb gc
    have eg' : g' = ⟨g'.a, 0, 0⟩ := F3.ext rfl gb' gc'
    rw [eg, eg'] at ne
    have := flat_one nd ne
    rw [eg, eg', this]
  · have := sq0 j0; omega
  · omega
  · have := sq0 k0; omega
  · have := sq0 k0; omega
  · have ej : j = k := by
      have : (j - k) * (j + k) = 0 := by
        have : (j - k) * (j + k) = j * j - k * k := by grind
        omega
      rcases Int.mul_eq_zero.mp this with w | w <;> omega
    subst ej
    obtain ⟨n, nd, ne⟩ := e12
    exact canS_uniq C C' nd ne
  · exact absurd ⟨k, d.symm⟩ ns'
  · omega
  · omega
  · exact absurd ⟨j, d'.symm⟩ ns
  · have er : r' = r := by
      have h1 := hr'.lo; have h2 := hr'.hi; have h3 := hr.lo; have h4 := hr.hi; have h5 := hr.r0; have h6 := hr'.r0
      rcases Int.lt_trichotomy r' r with z | z | z
      · have := Int.mul_le_mul (show r' + 1 ≤ r by omega) (show r' + 1 ≤ r by omega) (by omega) (by omega); omega
      · exact z
      · have := Int.mul_le_mul (show r + 1 ≤ r' by omega) (show r + 1 ≤ r' by omega) (by omega) (by omega); omega
    subst er
    exact least_uniq L L' ⟨m, md, me⟩
end DL
set_option maxHeartbeats 1000000
set_option pp.maxSteps 1200
namespace DL
open PySem PySem.Spec PyProof.Rows L2
/-! ### pairs of a form and a matrix -/
def pairD (f : F3) (m : M4) : D := .tup [f.D, m.D]
theorem p_pair (f : F3) (m : M4) : (pairD f m).p = .tuple [f.D.p, m.D.p] := by
  unfold pairD
  rw [p_tup]
  unfold D.ps
  unfold D.ps
  rfl
theorem alike_pair (f g : F3) (m n : M4) : alikeD (pairD f m) (pairD g n) = true := by
  have h1 : PySem.W.alike f.D.p g.D.p = true := alike_tI f.L g.L
  have h2 : PySem.W.alike m.D.p n.D.p = true := alike_tI m.L n.L
  unfold alikeD
  rw [p_pair, p_pair, PySem.W.alike, PySem.W.alikeAll, PySem.W.alikeAll, PySem.W.alikeAll, h1, h2]
  rfl
theorem dLt_pair {f g : F3} {m n : M4} (h : f.L < g.L) : dLt (pairD f m) (pairD g n) = true := by
  have h1 : PySem.W.alike f.D.p g.D.p = true := alike_tI f.L g.L
  have h2 : PySem.W.alike m.D.p n.D.p = true := alike_tI m.L n.L
  unfold dLt
  rw [p_pair, p_pair, PySem.W.dataLt_pair h1 h2]
  have e : PyData.eqv f.D.p g.D.p = decide (f.L = g.L) := eqv_tI f.L g.L
  rw [e, decide_eq_false (fun z => List.lt_irrefl _ (z ▸ h)), if_neg (by decide)]
  have k := dLt_tI f.L g.L
  unfold dLt at k
  exact k.trans (decide_eq_true h)
theorem ok_pair (f : F3) (m : M4) : okN 59 (pairD f m) = true := by
  unfold pairD okN okNs okNs okNs
  have k1 : okN 58 f.D = true := by
    show okN 58 (.tup [.int f.a, .int f.b, .int f.c]) = true
    unfold okN
    exact okNs_int (okNs_int (okNs_int okNs_nil))
  have k2 : okN 58 m.D = true := by
    show okN 58 (.tup [.int m.p, .int m.q, .int m.r, .int m.s]) = true
    unfold okN
    exact okNs_int (okNs_int (okNs_int (okNs_int okNs_nil)))
  rw [k1, k2]
  rfl
theorem okp (f : F3) (m : M4) : D.ok (pairD f m) = true := by
  unfold D.ok pairD okN okNs okNs okNs
  have k1 : okN 59 f.D = true := by
    show okN 59 (.tup [.int f.a, .int f.b, .int f.c]) = true
    unfold okN
    exact okNs_int (okNs_int (okNs_int okNs_nil))
  have k2 : okN 59 m.D = true := by
    show okN 59 (.tup [.int m.p, .int m.q, .int m.r, .int m.s]) = true
    unfold okN
    exact okNs_int (okNs_int (okNs_int (okNs_int okNs_nil)))
  rw [k1, k2]
  rfl
def cyL (r : Int) (f : F3) (l : Nat) : List D := (List.range l).map fun i => pairD (nxtN r i f) (cyM r f i)
theorem cyL_succ (r : Int) (f : F3) (l : Nat) : cyL r f (l + 1) = cyL r f l ++ [pairD (nxtN r l f) (cyM r f l)] := by unfold cyL; rw [List.range_succ, List.map_append]; rfl
theorem cyL_len (r : Int) (f : F3) (l : Nat) : (cyL r f l).length = l := by unfold cyL; rw [List.length_map, List.length_range]
theorem red_small {r : Int} {f : F3} (hr : Rt f.disc r) (hf : RedI r f) (hb : r ≤ 99) : f.Sm 8 := by
  have c := redI_c2 hr hf
  obtain ⟨h1, h2, h3, h4⟩ := hf
  have ea := iabs_eq f.a
  have ec := iabs_eq f.c
  exact ⟨show f.a.natAbs < 2 ^ 8 by omega, show f.b.natAbs < 2 ^ 8 by omega, show f.c.natAbs < 2 ^ 8 by omega⟩
theorem step_small {r : Int} {f : F3} (hr : Rt f.disc r) (hf : RedI r f) (hb : r ≤ 99) : (stepM (stNum r f)).Sm 8 := by
  have hn := redI_nxt hr hf
  have hc : f.c ≠ 0 := by have := red_sgn hr hf; omega
  have k := (nxt_ab (r := r) hc).2
  have m := (stMid_spec (r := r) hc).2.2
  rw [← k] at m
  have h1 := hn.1
  have h2 := hn.2.1
  have h3 := hf.1
  have h4 := hf.2.1
  have n1 : (stNum r f).natAbs ≤ 99 := by
    have e : iabs (2 * f.c * stNum r f) ≤ 198 := by rw [m]; unfold iabs; split <;> omega
    rw [iabs_mul, iabs_mul, show iabs 2 = 2 from rfl] at e
    have c0 := iabs_pos hc
    have p := Int.mul_le_mul_of_nonneg_right (show 2 ≤ 2 * iabs f.c by omega) (iabs_nn (stNum r f))
    have := iabs_eq (stNum r f)
    omega
  exact ⟨show (0 : Int).natAbs < 2 ^ 8 by decide, show (-1 : Int).natAbs < 2 ^ 8 by decide, show (1 : Int).natAbs < 2 ^ 8 by decide, show (stNum r f).natAbs < 2 ^ 8 by omega⟩
theorem cyM_sm {r : Int} {f : F3} (hr : Rt f.disc r) (hf : RedI r f) (hb : r ≤ 99) : ∀ n, (cyM r f n).Sm (9 * n + 2)
  | 0 => ⟨show (1 : Int).natAbs < 2 ^ 2 by decide, show (0 : Int).natAbs < 2 ^ 2 by decide, show (0 : Int).natAbs < 2 ^ 2 by decide, show (1 : Int).natAbs < 2 ^ 2 by decide⟩
  | n + 1 => (mul_size (cyM_sm hr hf hb n) (step_small (by rw [nxtN_disc]; exact hr) (nxtN_red hr hf n) hb)).up (by omega)
@[irreducible] def sp_cycle : FSpec := fun ds tk Q => ∃ (f : F3) (r : Int) (l : Nat), ds = [f.D] ∧ (Rt f.disc r) ∧ (RedI r f) ∧ (r ≤ 99) ∧ (CyP r f l) ∧ (l ≤ 5100) ∧ Q (.own (cyL r f l)) tk
theorem op_cycle {ds : List D} {tk : Tk} {Q : EV → Tk → Prop} (h : sp_cycle ds tk Q) : ∃ (f : F3) (r : Int) (l : Nat), ds = [f.D] ∧ (Rt f.disc r) ∧ (RedI r f) ∧ (r ≤ 99) ∧ (CyP r f l) ∧ (l ≤ 5100) ∧ Q (.own (cyL r f l)) tk := by unfold sp_cycle at h; exact h
theorem mon_cycle : MonFS sp_cycle := fun ds tk Q Q' hq_ hs_ => by
  obtain ⟨f, r, l, e_, hr, hf, hb, P, hl, q_⟩ := op_cycle hs_
  unfold sp_cycle
  exact ⟨f, r, l, e_, hr, hf, hb, P, hl, hq_ _ _ q_⟩
theorem len_cycle : ∀ ds tk Q, sp_cycle ds tk Q → ds.length = 1 := fun ds tk Q hs_ => by
  obtain ⟨f, r, l, e_, hr, hf, hb, P, hl, q_⟩ := op_cycle hs_
  rw [e_]; rfl
theorem cl_cycle {tk : Tk} {Q : EV → Tk → Prop} {f : F3} {r : Int} {l : Nat} (hr : Rt f.disc r) (hf : RedI r f) (hb : r ≤ 99) (P : CyP r f l) (hl : l ≤ 5100) (q_ : Q (.own (cyL r f l)) tk) : sp_cycle [f.D] tk Q := by
  unfold sp_cycle
  exact ⟨f, r, l, rfl, hr, hf, hb, P, hl, q_⟩
theorem ce_cycle {ds_ : List D} {tk : Tk} {Q : EV → Tk → Prop} {f : F3} {r : Int} {l : Nat} (hr : Rt f.disc r) (hf : RedI r f) (hb : r ≤ 99) (P : CyP r f l) (hl : l ≤ 5100) (e_ : ds_ = [f.D]) (q_ : Q (.own (cyL r f l)) tk) : sp_cycle ds_ tk Q := by
  subst e_
  unfold sp_cycle
  exact ⟨f, r, l, rfl, hr, hf, hb, P, hl, q_⟩
theorem eqf3 (f g : F3) : f.D.eqv g.D = decide (f = g) := by
  rw [F3.tI, F3.tI, eqv_tI]
  exact decide_eq_decide.mpr ⟨F3.L_inj2, fun h => by rw [h]⟩
theorem ifNBF2 {b : Bool} {A B : Prop} (h : b = false) (k : A) : if (!b) = true then A else B := by rw [h]; exact k
theorem eqf3_no {f g : F3} (h : f ≠ g) : f.D.eqv g.D = false := by
  rw [eqf3]
  by_cases z : f = g
  · exact absurd z h
  · exact decide_eq_false z
abbrev N_cycle : List Str := ["form", "found", "m", "neighbour", "step"]
def c_cycle : WS :=
  (wSeq (wSet 1 (wLst (wCons (fz (wTup (wCons (fz (wV 0)) (wCons (fz (wC kUNIT)) wNil)))) wNil)))
  (wSeq (wSet 2 (wCall sp_step_of (wCons (fz (wV 0)) wNil)))
  (wSeq (wSet 3 (wCall sp_act (wCons (fz (wV 0)) (wCons (fz (wV 2)) wNil))))
  (wSeq (wWhile (wT (wOp fNe (wPk 3) (wPk 0))) (wSeq (wApp 1 (fz (wTup (wCons (fz (wV 3)) (wCons (fz (wV 2)) wNil)))))
  (wSeq (wSet 4 (wCall sp_step_of (wCons (fz (wV 3)) wNil)))
  (wSeq (wSet 3 (wCall sp_act (wCons (fz (wV 3)) (wCons (fz (wV 4)) wNil))))
  (wSet 2 (wCall sp_multiply (wCons (fz (wV 2)) (wCons (fz (wV 4)) wNil))))))))
  (wRetV 1)))))
theorem hw_cycle : ∀ ds tk Q, sp_cycle ds tk Q → c_cycle { nx := fun _ t => Q (.val .non) t, rt := Q } (start N_cycle.length ds) tk := by
  intro ds tk Q h_
  obtain ⟨f, r, l, rfl, hr, hf, hb, P, hl, q⟩ := op_cycle h_
  have l0 := P.l0
  have sf := red_small hr hf hb
  have hc : f.c ≠ 0 := by have := red_sgn hr hf; omega
  refine ⟨rfl, rfl, ?_⟩
  refine cl_step_of (f := f) (r := r) (sf.up (by decide)) hr hc ?_
  have ss := step_small hr hf hb
  refine cl_act (f := f) (m := stepM (stNum r f)) (sf.up (by decide)) (ss.up (by decide)) ?_
  simp only [gCs, gN, gNl, start_def, List.map_cons, List.map_nil, List.set_cons_zero, List.set_cons_succ, List.replicate_succ, List.replicate_zero, List.cons_append, List.nil_append, List.length_cons, List.length_nil, Nat.reduceAdd, Nat.reduceSub]
  have m1 : stepM (stNum r f) = cyM r f 1 := (M4.one_mul _).symm
  refine seq_cut (a := wWhile _ _) (fun e t => t = tk ∧ ∃ x2 x3 x4 : Option EV, e = [some (.val (f.D)), some (.own (cyL r f l)), x2, x3, x4]) (fun R0 hR0 => ?_) ?_
  · refine ⟨fun μ e t => t = tk ∧ ∃ i : Nat, 1 ≤ i ∧ i ≤ l ∧ μ = l - i ∧ ∃ x4 : Option EV, e = [some (.val (f.D)), some (.own (cyL r f i)), some (.val ((cyM r f i).D)), some (.val ((nxtN r i f).D)), x4], ⟨_, rfl, 1, Nat.le_refl 1, l0, rfl, none, by rw [← m1]; rfl⟩, ?_⟩
    rintro μ e t ⟨rfl, i, i1, il, rfl, x4, rfl⟩
    refine ⟨F3.ok_ _, F3.ok_ _, ?_⟩
    by_cases hi : i = l
    · subst hi
      refine ifNB (eqv_eq (by rw [P.back]) (F3.ok_ _)) ?_
      exact hR0 _ _ ⟨rfl, _, _, x4, rfl⟩
    · refine ifNBF2 (eqf3_no (P.first i i1 (by omega))) ?_
      have hri : Rt (nxtN r i f).disc r := by rw [nxtN_disc]; exact hr
      have hfi := nxtN_red hr hf i
      have sfi := red_small hri hfi hb
      have ssi := step_small hri hfi hb
      have hci : (nxtN r i f).c ≠ 0 := by have := red_sgn hri hfi; omega
      have cs := cyM_sm hr hf hb i
      refine ⟨rfl, by rw [cyL_len]; exact szl (by omega), ?_⟩
      refine cl_step_of (f := nxtN r i f) (r := r) (sfi.up (by decide)) hri hci ?_
      refine cl_act (f := nxtN r i f) (m := stepM (stNum r (nxtN r i f))) (sfi.up (by decide)) (ssi.up (by decide)) ?_
      refine ⟨cyM r f i, stepM (stNum r (nxtN r i f)), rfl, cs.up (Nat.le_trans (show 9 * i + 2 ≤ 200000 by omega) (by decide)), ssi.up (by decide), ?_⟩
      exact ⟨l - (i + 1), by omega, rfl, i + 1, by omega, by omega, rfl, some (.val (stepM (stNum r (nxtN r i f))).D), by rw [cyL_succ, nxtN_succ]; rfl⟩
  rintro e t ⟨rfl, x2, x3, x4, rfl⟩
  exact q
theorem minOk_cy (r : Int) (f : F3) {l : Nat} (l0 : 1 ≤ l) : MinOk (cyL r f l) := by
  refine ⟨fun e => ?_, fun x hx => ?_, fun x hx y hy => ?_, fun x hx => ?_⟩
  · have := cyL_len r f l
    rw [e, List.length_nil] at this
    omega
  · obtain ⟨i, _, rfl⟩ := List.mem_map.mp hx; exact okp _ _
  · obtain ⟨i, _, rfl⟩ := List.mem_map.mp hx
    obtain ⟨j, _, rfl⟩ := List.mem_map.mp hy
    exact alike_pair _ _ _ _
  · obtain ⟨i, _, rfl⟩ := List.mem_map.mp hx
    exact fun z => nomatch z
theorem least_cy {r : Int} {f : F3} {l i : Nat} (hs : ¬ IsSq f.disc) (hr : Rt f.disc r) (hf : RedI r f) (P : CyP r f l) (h : ∀ j, j < l → ¬ (nxtN r j f).L < (nxtN r i f).L) : LeastOf r f (nxtN r i f) := by
  refine ⟨nxtN_red hr hf i, ⟨cyM r f i, cyM_det r f i, cyM_act r f i⟩, ?_⟩
  rintro g hg ⟨m, hm, rfl⟩
  obtain ⟨j, hj, e⟩ := in_cycle hs hr hf P hm hg
  rw [e]
  exact h j hj
@[irreducible] def sp_canonical : FSpec := fun ds tk Q => ∃ (f : F3) (r : Int), ds = [f.D] ∧ (f.Sm 100) ∧ (Rt f.disc r) ∧ (¬ IsSq f.disc) ∧ (r ≤ 99) ∧ ∀ (g : F3), ∀ (m : M4), ∀ (he : f.act m = g), ∀ (hd : m.det = 1), ∀ (hL : LeastOf r f g), ∀ (sg : g.Sm 8), ∀ (sm : m.Sm 60000), Q (.val (pairD g m)) tk
theorem op_canonical {ds : List D} {tk : Tk} {Q : EV → Tk → Prop} (h : sp_canonical ds tk Q) : ∃ (f : F3) (r : Int), ds = [f.D] ∧ (f.Sm 100) ∧ (Rt f.disc r) ∧ (¬ IsSq f.disc) ∧ (r ≤ 99) ∧ ∀ (g : F3), ∀ (m : M4), ∀ (he : f.act m = g), ∀ (hd : m.det = 1), ∀ (hL : LeastOf r f g), ∀ (sg : g.Sm 8), ∀ (sm : m.Sm 60000), Q (.val (pairD g m)) tk := by unfold sp_canonical at h; exact h
theorem mon_canonical : MonFS sp_canonical := fun ds tk Q Q' hq_ hs_ => by
  obtain ⟨f, r, e_, hf, hr, hs, hb, q_⟩ := op_canonical hs_
  unfold sp_canonical
  exact ⟨f, r, e_, hf, hr, hs, hb, fun g m he hd hL sg sm => hq_ _ _ (q_ g m he hd hL sg sm)⟩
theorem len_canonical : ∀ ds tk Q, sp_canonical ds tk Q → ds.length = 1 := fun ds tk Q hs_ => by
  obtain ⟨f, r, e_, hf, hr, hs, hb, q_⟩ := op_canonical hs_
  rw [e_]; rfl
theorem cl_canonical {tk : Tk} {Q : EV → Tk → Prop} {f : F3} {r : Int} (hf : f.Sm 100) (hr : Rt f.disc r) (hs : ¬ IsSq f.disc) (hb : r ≤ 99) (q_ : ∀ (g : F3), ∀ (m : M4), ∀ (he : f.act m = g), ∀ (hd : m.det = 1), ∀ (hL : LeastOf r f g), ∀ (sg : g.Sm 8), ∀ (sm : m.Sm 60000), Q (.val (pairD g m)) tk) : sp_canonical [f.D] tk Q := by
  unfold sp_canonical
  exact ⟨f, r, rfl, hf, hr, hs, hb, q_⟩
theorem ce_canonical {ds_ : List D} {tk : Tk} {Q : EV → Tk → Prop} {f : F3} {r : Int} (hf : f.Sm 100) (hr : Rt f.disc r) (hs : ¬ IsSq f.disc) (hb : r ≤ 99) (e_ : ds_ = [f.D]) (q_ : ∀ (g : F3), ∀ (m : M4), ∀ (he : f.act m = g), ∀ (hd : m.det = 1), ∀ (hL : LeastOf r f g), ∀ (sg : g.Sm 8), ∀ (sm : m.Sm 60000), Q (.val (pairD g m)) tk) : sp_canonical ds_ tk Q := by
  subst e_
  unfold sp_canonical
  exact ⟨f, r, rfl, hf, hr, hs, hb, q_⟩
abbrev N_canonical : List Str := ["form", "reduced", "m", "least", "step"]
def c_canonical : WS :=
  (wSeq (wAsg (fz (wCall sp_reduce_indefinite (wCons (fz (wV 0)) wNil))) (gT 2 (gCs (gN 1) (gCs (gN 2) gNl))))
  (wSeq (wAsg (fz (w1 fMin1 (fz (wCall sp_cycle (wCons (fz (wV 1)) wNil))))) (gT 2 (gCs (gN 3) (gCs (gN 4) gNl))))
  (wRet (wTup (wCons (fz (wV 3)) (wCons (fz (wCall sp_multiply (wCons (fz (wV 2)) (wCons (fz (wV 4)) wNil)))) wNil))))))
theorem hw_canonical : ∀ ds tk Q, sp_canonical ds tk Q → c_canonical { nx := fun _ t => Q (.val .non) t, rt := Q } (start N_canonical.length ds) tk := by
  intro ds tk Q h_
  obtain ⟨f, r, rfl, hf, hr, hs, hb, q⟩ := op_canonical h_
  refine cl_reduce_indefinite (f := f) (r := r) hf hr hs fun g m he hd hg sg sm => ?_
  have dg : g.disc = f.disc := by rw [← he]; exact F3.disc_act1 f hd
  have hrg : Rt g.disc r := by rw [dg]; exact hr
  have hsg : ¬ IsSq g.disc := by rw [dg]; exact hs
  obtain ⟨l, P, hl⟩ := cy_exists (B := 50) hrg hg (by omega)
  have hl : l ≤ 5100 := hl
  refine ⟨rfl, ?_⟩
  simp only [gCs, gN, gNl, start_def, List.map_cons, List.map_nil, List.set_cons_zero, List.set_cons_succ, List.replicate_succ, List.replicate_zero, List.cons_append, List.nil_append, List.length_cons, List.length_nil, Nat.reduceAdd, Nat.reduceSub]
  refine cl_cycle (f := g) (r := r) (l := l) hrg hg hb P hl ?_
  refine ⟨minOk_cy r g P.l0, fun d hd' hmin => ?_⟩
  obtain ⟨i, hi, rfl⟩ := List.mem_map.mp hd'
  have hi := List.mem_range.mp hi
  have hL : LeastOf r g (nxtN r i g) := least_cy hsg hrg hg P fun j hj z => by
    have k := hmin (pairD (nxtN r j g) (cyM r g j)) (List.mem_map.mpr ⟨j, List.mem_range.mpr hj, rfl⟩)
    rw [dLt_pair z] at k
    cases k
  have hrn : Rt (nxtN r i g).disc r := by rw [nxtN_disc]; exact hrg
  have cs := cyM_sm hrg hg hb i
  have cs2 : (cyM r g i).Sm 46000 := cs.up (by omega)
  refine ⟨rfl, ?_⟩
  refine ⟨m, cyM r g i, rfl, sm.up (by decide), cs2.up (by decide), rfl, ?_⟩
  refine q (nxtN r i g) (m.mul (cyM r g i)) ?_ ?_ ⟨hL.red, Eqv.trans ⟨m, hd, he⟩ hL.eqv, fun h hh e => hL.min h hh ((Eqv.symm ⟨m, hd, he⟩).trans e)⟩ (red_small hrn hL.red hb) ((mul_size sm cs2).up (by decide))
  · rw [← F3.act_mul, he, cyM_act]
  · rw [M4.det_mul, hd, cyM_det]; rfl
end DL
set_option maxHeartbeats 1000000
set_option pp.maxSteps 1200
namespace DL
open PySem PySem.Spec PyProof.Rows L2
@[irreducible] def sp_kind : FSpec := fun ds tk Q => ∃ (f : F3), ds = [f.D] ∧ (f.Sm 400) ∧ Q (.val (.str (kindS f))) tk
theorem op_kind {ds : List D} {tk : Tk} {Q : EV → Tk → Prop} (h : sp_kind ds tk Q) : ∃ (f : F3), ds = [f.D] ∧ (f.Sm 400) ∧ Q (.val (.str (kindS f))) tk := by unfold sp_kind at h; exact h
theorem mon_kind : MonFS sp_kind := fun ds tk Q Q' hq_ hs_ => by
  obtain ⟨f, e_, hf, q_⟩ := op_kind hs_
  unfold sp_kind
  exact ⟨f, e_, hf, hq_ _ _ q_⟩
theorem len_kind : ∀ ds tk Q, sp_kind ds tk Q → ds.length = 1 := fun ds tk Q hs_ => by
  obtain ⟨f, e_, hf, q_⟩ := op_kind hs_
  rw [e_]; rfl
theorem cl_kind {tk : Tk} {Q : EV → Tk → Prop} {f : F3} (hf : f.Sm 400) (q_ : Q (.val (.str (kindS f))) tk) : sp_kind [f.D] tk Q := by
  unfold sp_kind
  exact ⟨f, rfl, hf, q_⟩
theorem ce_kind {ds_ : List D} {tk : Tk} {Q : EV → Tk → Prop} {f : F3} (hf : f.Sm 400) (e_ : ds_ = [f.D]) (q_ : Q (.val (.str (kindS f))) tk) : sp_kind ds_ tk Q := by
  subst e_
  unfold sp_kind
  exact ⟨f, rfl, hf, q_⟩
abbrev N_kind : List Str := ["form", "d"]
def c_kind : WS :=
  (wSeq (wSet 1 (wCall sp_discriminant (wCons (fz (wV 0)) wNil)))
  (wSeq (wIfS (wT (wOp fLt (wPk 1) (fz (wC (.int 0))))) (wRet (wC (.str "definite"))) wNext)
  (wSeq (wIfS (wT (wOp fEq (wPk 1) (fz (wC (.int 0))))) (wRet (wC (.str "flat"))) wNext)
  (wRet (wIf (wT (wCall sp_is_square (wCons (fz (wV 1)) wNil))) (wC (.str "split")) (wC (.str "indefinite")))))))
theorem hw_kind : ∀ ds tk Q, sp_kind ds tk Q → c_kind { nx := fun _ t => Q (.val .non) t, rt := Q } (start N_kind.length ds) tk := by
  intro ds tk Q h_
  obtain ⟨f, rfl, hf, q⟩ := op_kind h_
  have hd := disc_sm hf (by decide)
  refine cl_discriminant (f := f) (hf.up (by decide)) ?_
  refine if2 (fun h1 => ?_) (fun h1 => ?_)
  · have h1 : f.disc < 0 := h1
    rw [kindS_1 h1] at q
    exact q
  have h1 : ¬ f.disc < 0 := h1
  refine if2 (fun h2 => ?_) (fun h2 => ?_)
  · have h2 : f.disc = 0 := h2
    rw [kindS_2 h2] at q
    exact q
  have h2 : ¬ f.disc = 0 := h2
  have dl : f.disc < 2 ^ 13000 := by
    unfold Sm at hd
    have a : (2 : Nat) ^ 999 ≤ 2 ^ 13000 := Nat.pow_le_pow_right (by decide) (by decide)
    have b : ((2 ^ 13000 : Nat) : Int) = (2 : Int) ^ 13000 := Int.natCast_pow ..
    omega
  refine cl_is_square (n := f.disc) dl ?_
  by_cases z : IsSq f.disc
  · rw [kindS_3 (by omega) z] at q
    exact ifB (isSqB_true z) q
  · rw [kindS_4 h1 z] at q
    exact ifBF (isSqB_false z) q
end DL
set_option maxHeartbeats 1000000
set_option pp.maxSteps 1200
namespace DL
open PySem PySem.Spec PyProof.Rows L2
theorem mc_hit {z x : Str} {w : WS} {cs : List (Str × WS)} {P : Post} {e : En} {t : Tk} (h : z = x) (k : w P e t) : mcGo z ((x, w) :: cs) P e t := (if_pos h).mpr k
theorem mc_miss {z x : Str} {w : WS} {cs : List (Str × WS)} {P : Post} {e : En} {t : Tk} (h : z ≠ x) (k : mcGo z cs P e t) : mcGo z ((x, w) :: cs) P e t := (if_neg h).mpr k
@[irreducible] def sp_canonical_form_v2 : FSpec := fun ds tk Q => ∃ (f : F3), ds = [f.D] ∧ (f.Sm 100) ∧ (f.disc < 9801) ∧ ∀ (g : F3), ∀ (m : M4), ∀ (he : f.act m = g), ∀ (hm : m.det = 1), ∀ (hC : CanF f g), ∀ (sg : g.Sm 480), ∀ (sm : m.Sm 60000), Q (.val (pairD g m)) tk
theorem op_canonical_form_v2 {ds : List D} {tk : Tk} {Q : EV → Tk → Prop} (h : sp_canonical_form_v2 ds tk Q) : ∃ (f : F3), ds = [f.D] ∧ (f.Sm 100) ∧ (f.disc < 9801) ∧ ∀ (g : F3), ∀ (m : M4), ∀ (he : f.act m = g), ∀ (hm : m.det = 1), ∀ (hC : CanF f g), ∀ (sg : g.Sm 480), ∀ (sm : m.Sm 60000), Q (.val (pairD g m)) tk := by unfold sp_canonical_form_v2 at h; exact h
theorem mon_canonical_form_v2 : MonFS sp_canonical_form_v2 := fun ds tk Q Q' hq_ hs_ => by
  obtain ⟨f, e_, hf, hd, q_⟩ := op_canonical_form_v2 hs_
  unfold sp_canonical_form_v2
  exact ⟨f, e_, hf, hd, fun g m he hm hC sg sm => hq_ _ _ (q_ g m he hm hC sg sm)⟩
theorem len_canonical_form_v2 : ∀ ds tk Q, sp_canonical_form_v2 ds tk Q → ds.length = 1 := fun ds tk Q hs_ => by
  obtain ⟨f, e_, hf, hd, q_⟩ := op_canonical_form_v2 hs_
  rw [e_]; rfl
theorem cl_canonical_form_v2 {tk : Tk} {Q : EV → Tk → Prop} {f : F3} (hf : f.Sm 100) (hd : f.disc < 9801) (q_ : ∀ (g : F3), ∀ (m : M4), ∀ (he : f.act m = g), ∀ (hm : m.det = 1), ∀ (hC : CanF f g), ∀ (sg : g.Sm 480), ∀ (sm : m.Sm 60000), Q (.val (pairD g m)) tk) : sp_canonical_form_v2 [f.D] tk Q := by
  unfold sp_canonical_form_v2
  exact ⟨f, rfl, hf, hd, q_⟩
theorem ce_canonical_form_v2 {ds_ : List D} {tk : Tk} {Q : EV → Tk → Prop} {f : F3} (hf : f.Sm 100) (hd : f.disc < 9801) (e_ : ds_ = [f.D]) (q_ : ∀ (g : F3), ∀ (m : M4), ∀ (he : f.act m = g), ∀ (hm : m.det = 1), ∀ (hC : CanF f g), ∀ (sg : g.Sm 480), ∀ (sm : m.Sm 60000), Q (.val (pairD g m)) tk) : sp_canonical_form_v2 ds_ tk Q := by
  subst e_
  unfold sp_canonical_form_v2
  exact ⟨f, rfl, hf, hd, q_⟩
abbrev N_canonical_form_v2 : List Str := ["form"]
def c_canonical_form_v2 : WS :=
  (wSeq (wMatch (wCall sp_kind (wCons (fz (wV 0)) wNil)) (("definite", (wRet (wCall sp_reduce_definite (wCons (fz (wV 0)) wNil)))) :: (("indefinite", (wRet (wCall sp_canonical (wCons (fz (wV 0)) wNil)))) :: (("split", (wRet (wCall sp_canonical_split (wCons (fz (wV 0)) wNil)))) :: []))))
  (wRet (wCall sp_canonical_flat (wCons (fz (wV 0)) wNil))))
theorem hw_canonical_form_v2 : ∀ ds tk Q, sp_canonical_form_v2 ds tk Q → c_canonical_form_v2 { nx := fun _ t => Q (.val .non) t, rt := Q } (start N_canonical_form_v2.length ds) tk := by
  intro ds tk Q h_
  obtain ⟨f, rfl, hf, hd, q⟩ := op_canonical_form_v2 h_
  refine seq_cut (a := wMatch _ _) (fun e t => t = tk ∧ f.disc = 0 ∧ e = [some (.val (f.D))]) (fun R hR => ?_) ?_
  · refine cl_kind (f := f) (hf.up (by decide)) ?_
    have de : f.disc < 0 ∨ f.disc = 0 ∨ (0 < f.disc ∧ IsSq f.disc) ∨ (0 < f.disc ∧ ¬ IsSq f.disc) := by
      by_cases z : IsSq f.disc
      · rcases Int.lt_trichotomy f.disc 0 with h | h | h
        · exact .inl h
        · exact .inr (.inl h)
        · exact .inr (.inr (.inl ⟨h, z⟩))
      · rcases Int.lt_trichotomy f.disc 0 with h | h | h
        · exact .inl h
        · exact .inr (.inl h)
        · exact .inr (.inr (.inr ⟨h, z⟩))
    rcases de with h | h | ⟨h, z⟩ | ⟨h, z⟩
    · refine mc_hit (kindS_1 h) ?_
      refine cl_reduce_definite (f := f) (hf.up (by decide)) h fun g m I sg sm => ?_
      exact q g m I.eq I.det ⟨⟨m, I.det, I.eq⟩, .inl ⟨h, m, I⟩⟩ sg (sm.up (by decide))
    · have k := kindS_2 h
      refine mc_miss (by rw [k]; decide) (mc_miss (by rw [k]; decide) (mc_miss (by rw [k]; decide) ?_))
      exact hR _ _ ⟨rfl, h, rfl⟩
    · have k := kindS_3 h z
      refine mc_miss (by rw [k]; decide) (mc_miss (by rw [k]; decide) (mc_hit k ?_))
      obtain ⟨w, hw⟩ := z
      obtain ⟨w', w0, hw'⟩ : ∃ w' : Int, 0 < w' ∧ f.disc = w' * w' := by
        rcases Int.lt_trichotomy w 0 with y | y | y
        · exact ⟨-w, by omega, by rw [Int.neg_mul_neg, hw]⟩
        · rw [y] at hw; omega
        · exact ⟨w, y, hw.symm⟩
      refine cl_canonical_split (f := f) (k := w') (hf.up (by decide)) w0 hw' fun g m he hm C sg sm => ?_
      exact q g m he hm ⟨⟨m, hm, he⟩, .inr (.inr (.inl ⟨w', w0, hw', C⟩))⟩ (sg.up (by decide)) (sm.up (by decide))
    · have k := kindS_4 (by omega) z
      refine mc_miss (by rw [k]; decide) (mc_hit k ?_)
      obtain ⟨a, b, c⟩ := isq_spec (n := f.disc) (by omega)
      have hr := rt_of a b c z
      have rb : (Float64.isqrt f.disc.toNat : Int) ≤ 99 := by
        refine Int.not_lt.mp fun y => ?_
        have := Int.mul_le_mul (show 100 ≤ (Float64.isqrt f.disc.toNat : Int) by omega) (show 100 ≤ (Float64.isqrt f.disc.toNat : Int) by omega) (by decide) (by omega)
        omega
      refine cl_canonical (f := f) (r := (Float64.isqrt f.disc.toNat : Int)) hf hr z rb fun g m he hm L sg sm => ?_
      exact q g m he hm ⟨⟨m, hm, he⟩, .inr (.inr (.inr ⟨h, z, _, hr, L⟩))⟩ (sg.up (by decide)) sm
  rintro e t ⟨rfl, d0, rfl⟩
  have hfl := flat_of0 d0
  refine cl_canonical_flat (f := f) (hf.up (by decide)) hfl fun m he hm sm sg => ?_
  exact q ⟨flatG f, 0, 0⟩ m he hm ⟨⟨m, hm, he⟩, .inr (.inl ⟨d0, rfl, rfl⟩)⟩ ⟨sg.mono (by decide), show (0 : Int).natAbs < 2 ^ 480 from Nat.two_pow_pos _, show (0 : Int).natAbs < 2 ^ 480 from Nat.two_pow_pos _⟩ (sm.up (by decide))
theorem inv_1 {m : M4} (h : m.det = 1) : m.inv = ⟨m.s, -m.q, -m.r, m.p⟩ := by
  unfold M4.inv
  rw [h]
  congr 1 <;> omega
@[irreducible] def sp_proper_change_v2 : FSpec := fun ds tk Q => ∃ (f f2 : F3), ds = [f.D, f2.D] ∧ (f.Sm 100) ∧ (f2.Sm 100) ∧ (f.disc < 9801) ∧ (f2.disc < 9801) ∧ ∀ (d : D), ∀ (h : (d = .non ∧ ¬ Eqv f f2) ∨ ∃ M : M4, d = M.D ∧ M.det = 1 ∧ f.act M = f2 ∧ M.Sm 120010), Q (.val d) tk
theorem op_proper_change_v2 {ds : List D} {tk : Tk} {Q : EV → Tk → Prop} (h : sp_proper_change_v2 ds tk Q) : ∃ (f f2 : F3), ds = [f.D, f2.D] ∧ (f.Sm 100) ∧ (f2.Sm 100) ∧ (f.disc < 9801) ∧ (f2.disc < 9801) ∧ ∀ (d : D), ∀ (h : (d = .non ∧ ¬ Eqv f f2) ∨ ∃ M : M4, d = M.D ∧ M.det = 1 ∧ f.act M = f2 ∧ M.Sm 120010), Q (.val d) tk := by unfold sp_proper_change_v2 at h; exact h
theorem mon_proper_change_v2 : MonFS sp_proper_change_v2 := fun ds tk Q Q' hq_ hs_ => by
  obtain ⟨f, f2, e_, hf, hf2, hd, hd2, q_⟩ := op_proper_change_v2 hs_
  unfold sp_proper_change_v2
  exact ⟨f, f2, e_, hf, hf2, hd, hd2, fun d h => hq_ _ _ (q_ d h)⟩
theorem len_proper_change_v2 : ∀ ds tk Q, sp_proper_change_v2 ds tk Q → ds.length = 2 := fun ds tk Q hs_ => by
  obtain ⟨f, f2, e_, hf, hf2, hd, hd2, q_⟩ := op_proper_change_v2 hs_
  rw [e_]; rfl
theorem cl_proper_change_v2 {tk : Tk} {Q : EV → Tk → Prop} {f f2 : F3} (hf : f.Sm 100) (hf2 : f2.Sm 100) (hd : f.disc < 9801) (hd2 : f2.disc < 9801) (q_ : ∀ (d : D), ∀ (h : (d = .non ∧ ¬ Eqv f f2) ∨ ∃ M : M4, d = M.D ∧ M.det = 1 ∧ f.act M = f2 ∧ M.Sm 120010), Q (.val d) tk) : sp_proper_change_v2 [f.D, f2.D] tk Q := by
  unfold sp_proper_change_v2
  exact ⟨f, f2, rfl, hf, hf2, hd, hd2, q_⟩
theorem ce_proper_change_v2 {ds_ : List D} {tk : Tk} {Q : EV → Tk → Prop} {f f2 : F3} (hf : f.Sm 100) (hf2 : f2.Sm 100) (hd : f.disc < 9801) (hd2 : f2.disc < 9801) (e_ : ds_ = [f.D, f2.D]) (q_ : ∀ (d : D), ∀ (h : (d = .non ∧ ¬ Eqv f f2) ∨ ∃ M : M4, d = M.D ∧ M.det = 1 ∧ f.act M = f2 ∧ M.Sm 120010), Q (.val d) tk) : sp_proper_change_v2 ds_ tk Q := by
  subst e_
  unfold sp_proper_change_v2
  exact ⟨f, f2, rfl, hf, hf2, hd, hd2, q_⟩
abbrev N_proper_change_v2 : List Str := ["form", "other", "first", "m", "second", "n"]
def c_proper_change_v2 : WS :=
  (wSeq (wAsg (fz (wCall sp_canonical_form_v2 (wCons (fz (wV 0)) wNil))) (gT 2 (gCs (gN 2) (gCs (gN 3) gNl))))
  (wSeq (wAsg (fz (wCall sp_canonical_form_v2 (wCons (fz (wV 1)) wNil))) (gT 2 (gCs (gN 4) (gCs (gN 5) gNl))))
  (wSeq (wIfS (wT (wOp fNe (wPk 2) (wPk 4))) (wRet (wC .non)) wNext)
  (wRet (wCall sp_multiply (wCons (fz (wV 3)) (wCons (fz (wCall sp_inverse (wCons (fz (wV 5)) wNil))) wNil)))))))
theorem hw_proper_change_v2 : ∀ ds tk Q, sp_proper_change_v2 ds tk Q → c_proper_change_v2 { nx := fun _ t => Q (.val .non) t, rt := Q } (start N_proper_change_v2.length ds) tk := by
  intro ds tk Q h_
  obtain ⟨f, f2, rfl, hf, hf2, hd, hd2, q⟩ := op_proper_change_v2 h_
  refine cl_canonical_form_v2 (f := f) hf hd fun g m he hm C sg sm => ?_
  refine ⟨rfl, ?_⟩
  refine cl_canonical_form_v2 (f := f2) hf2 hd2 fun g2 m2 he2 hm2 C2 sg2 sm2 => ?_
  refine ⟨rfl, ?_⟩
  refine ⟨F3.ok_ _, F3.ok_ _, ?_⟩
  by_cases z : g = g2
  · refine ifNB (eqv_eq (congrArg F3.D z) (F3.ok_ _)) ?_
    have si : m2.inv.Sm 60000 := by
      rw [inv_1 hm2]
      obtain ⟨b1, b2, b3, b4⟩ := sm2
      exact ⟨b4, b2.neg, b3.neg, b1⟩
    refine ⟨m2, rfl, sm2.up (by decide), by rw [hm2]; exact sm_ss (by decide) (by decide), ?_⟩
    refine ⟨m, m2.inv, rfl, sm.up (by decide), si.up (by decide), ?_⟩
    refine q _ (.inr ⟨m.mul m2.inv, rfl, ?_, ?_, (mul_size sm si).up (by decide)⟩)
    · rw [M4.det_mul, hm, inv_1 hm2]
      show 1 * m2.adj.det = 1
      rw [M4.det_adj, hm2]
      rfl
    · rw [← F3.act_mul, he, z, ← he2, F3.act_mul, (M4.mul_inv (.inl hm2)).1, F3.act_one]
  · refine ifNBF2 (eqf3_no z) ?_
    exact q _ (.inl ⟨rfl, fun e => z (canF_uniq C C2 e)⟩)
def mirM : M4 := ⟨1, 0, 0, -1⟩
def kMIRROR : D := mirM.D
@[irreducible] def sp_mirrored_change_v1 : FSpec := fun ds tk Q => ∃ (f f2 : F3), ds = [f.D, f2.D] ∧ (f.Sm 90) ∧ (f2.Sm 100) ∧ (f.disc < 9801) ∧ (f2.disc < 9801) ∧ ∀ (d : D), ∀ (h : (d = .non ∧ ¬ Eqv (f.act mirM) f2) ∨ ∃ M : M4, d = M.D ∧ M.det = -1 ∧ f.act M = f2 ∧ M.Sm 120020), Q (.val d) tk
theorem op_mirrored_change_v1 {ds : List D} {tk : Tk} {Q : EV → Tk → Prop} (h : sp_mirrored_change_v1 ds tk Q) : ∃ (f f2 : F3), ds = [f.D, f2.D] ∧ (f.Sm 90) ∧ (f2.Sm 100) ∧ (f.disc < 9801) ∧ (f2.disc < 9801) ∧ ∀ (d : D), ∀ (h : (d = .non ∧ ¬ Eqv (f.act mirM) f2) ∨ ∃ M : M4, d = M.D ∧ M.det = -1 ∧ f.act M = f2 ∧ M.Sm 120020), Q (.val d) tk := by unfold sp_mirrored_change_v1 at h; exact h
theorem mon_mirrored_change_v1 : MonFS sp_mirrored_change_v1 := fun ds tk Q Q' hq_ hs_ => by
  obtain ⟨f, f2, e_, hf, hf2, hd, hd2, q_⟩ := op_mirrored_change_v1 hs_
  unfold sp_mirrored_change_v1
  exact ⟨f, f2, e_, hf, hf2, hd, hd2, fun d h => hq_ _ _ (q_ d h)⟩
theorem len_mirrored_change_v1 : ∀ ds tk Q, sp_mirrored_change_v1 ds tk Q → ds.length = 2 := fun ds tk Q hs_ => by
  obtain ⟨f, f2, e_, hf, hf2, hd, hd2, q_⟩ := op_mirrored_change_v1 hs_
  rw [e_]; rfl
theorem cl_mirrored_change_v1 {tk : Tk} {Q : EV → Tk → Prop} {f f2 : F3} (hf : f.Sm 90) (hf2 : f2.Sm 100) (hd : f.disc < 9801) (hd2 : f2.disc < 9801) (q_ : ∀ (d : D), ∀ (h : (d = .non ∧ ¬ Eqv (f.act mirM) f2) ∨ ∃ M : M4, d = M.D ∧ M.det = -1 ∧ f.act M = f2 ∧ M.Sm 120020), Q (.val d) tk) : sp_mirrored_change_v1 [f.D, f2.D] tk Q := by
  unfold sp_mirrored_change_v1
  exact ⟨f, f2, rfl, hf, hf2, hd, hd2, q_⟩
theorem ce_mirrored_change_v1 {ds_ : List D} {tk : Tk} {Q : EV → Tk → Prop} {f f2 : F3} (hf : f.Sm 90) (hf2 : f2.Sm 100) (hd : f.disc < 9801) (hd2 : f2.disc < 9801) (e_ : ds_ = [f.D, f2.D]) (q_ : ∀ (d : D), ∀ (h : (d = .non ∧ ¬ Eqv (f.act mirM) f2) ∨ ∃ M : M4, d = M.D ∧ M.det = -1 ∧ f.act M = f2 ∧ M.Sm 120020), Q (.val d) tk) : sp_mirrored_change_v1 ds_ tk Q := by
  subst e_
  unfold sp_mirrored_change_v1
  exact ⟨f, f2, rfl, hf, hf2, hd, hd2, q_⟩
abbrev N_mirrored_change_v1 : List Str := ["form", "other", "found"]
def c_mirrored_change_v1 : WS :=
  (wSeq (wSet 2 (wCall sp_proper_change_v2 (wCons (fz (wCall sp_act (wCons (fz (wV 0)) (wCons (fz (wC kMIRROR)) wNil)))) (wCons (fz (wV 1)) wNil))))
  (wSeq (wIfS (wT (wOp fIsN (wPk 2) (fz (wC .non)))) (wRet (wC .non)) wNext)
  (wRet (wCall sp_multiply (wCons (fz (wC kMIRROR)) (wCons (fz (wV 2)) wNil))))))
theorem hw_mirrored_change_v1 : ∀ ds tk Q, sp_mirrored_change_v1 ds tk Q → c_mirrored_change_v1 { nx := fun _ t => Q (.val .non) t, rt := Q } (start N_mirrored_change_v1.length ds) tk := by
  intro ds tk Q h_
  obtain ⟨f, f2, rfl, hf, hf2, hd, hd2, q⟩ := op_mirrored_change_v1 h_
  have sj : mirM.Sm 2 := ⟨show (1 : Int).natAbs < 2 ^ 2 by decide, show (0 : Int).natAbs < 2 ^ 2 by decide, show (0 : Int).natAbs < 2 ^ 2 by decide, show (-1 : Int).natAbs < 2 ^ 2 by decide⟩
  have ej : (f.act mirM).disc = f.disc := by unfold F3.act F3.disc F3.worth mirM; dsimp only; grind
  refine cl_act (f := f) (m := mirM) (hf.up (by decide)) (sj.up (by decide)) ?_
  refine cl_proper_change_v2 (f := f.act mirM) (f2 := f2) ((act_size hf sj).up (by decide)) hf2 (by rw [ej]; exact hd) hd2 fun d h => ?_
  rcases h with ⟨rfl, h⟩ | ⟨M, rfl, dM, eM, sM⟩
  · exact q _ (.inl ⟨rfl, h⟩)
  · refine ⟨mirM, M, rfl, sj.up (by decide), sM.up (by decide), ?_⟩
    refine q _ (.inr ⟨mirM.mul M, rfl, ?_, ?_, (mul_size sj sM).up (by decide)⟩)
    · rw [M4.det_mul, dM]; rfl
    · rw [← F3.act_mul, eM]
end DL
set_option maxHeartbeats 1000000
set_option pp.maxSteps 1200
namespace DL
open PySem PySem.Spec PyProof.Rows L2
theorem idx_bb {b : Bool} {x y : D} {q : EV → Prop} (h1 : b = true → q (.val y)) (h2 : b = false → q (.val x)) : fIdx (.lst [x, y]) (.int (if b = true then 1 else 0)) q := by
  cases b
  · exact h2 rfl
  · exact h1 rfl
theorem at_nx15 {P : Post} {e : En} {t : Tk} (h : P.nx e t) : wNext P e t := h
@[irreducible] def sp_Llowered : FSpec := fun ds tk Q => ∃ (f : F3) (r : Int), ds = [f.D] ∧ (f.Sm 100) ∧ (Rt f.disc r) ∧ (¬ IsSq f.disc) ∧ ∀ (g : F3), ∀ (hg : RedI r g), ∀ (he : Eqv f g), ∀ (sg : g.Sm 220), Q (.val g.D) tk
theorem op_Llowered {ds : List D} {tk : Tk} {Q : EV → Tk → Prop} (h : sp_Llowered ds tk Q) : ∃ (f : F3) (r : Int), ds = [f.D] ∧ (f.Sm 100) ∧ (Rt f.disc r) ∧ (¬ IsSq f.disc) ∧ ∀ (g : F3), ∀ (hg : RedI r g), ∀ (he : Eqv f g), ∀ (sg : g.Sm 220), Q (.val g.D) tk := by unfold sp_Llowered at h; exact h
theorem mon_Llowered : MonFS sp_Llowered := fun ds tk Q Q' hq_ hs_ => by
  obtain ⟨f, r, e_, hf, hr, hs, q_⟩ := op_Llowered hs_
  unfold sp_Llowered
  exact ⟨f, r, e_, hf, hr, hs, fun g hg he sg => hq_ _ _ (q_ g hg he sg)⟩
theorem len_Llowered : ∀ ds tk Q, sp_Llowered ds tk Q → ds.length = 1 := fun ds tk Q hs_ => by
  obtain ⟨f, r, e_, hf, hr, hs, q_⟩ := op_Llowered hs_
  rw [e_]; rfl
theorem cl_Llowered {tk : Tk} {Q : EV → Tk → Prop} {f : F3} {r : Int} (hf : f.Sm 100) (hr : Rt f.disc r) (hs : ¬ IsSq f.disc) (q_ : ∀ (g : F3), ∀ (hg : RedI r g), ∀ (he : Eqv f g), ∀ (sg : g.Sm 220), Q (.val g.D) tk) : sp_Llowered [f.D] tk Q := by
  unfold sp_Llowered
  exact ⟨f, r, rfl, hf, hr, hs, q_⟩
theorem ce_Llowered {ds_ : List D} {tk : Tk} {Q : EV → Tk → Prop} {f : F3} {r : Int} (hf : f.Sm 100) (hr : Rt f.disc r) (hs : ¬ IsSq f.disc) (e_ : ds_ = [f.D]) (q_ : ∀ (g : F3), ∀ (hg : RedI r g), ∀ (he : Eqv f g), ∀ (sg : g.Sm 220), Q (.val g.D) tk) : sp_Llowered ds_ tk Q := by
  subst e_
  unfold sp_Llowered
  exact ⟨f, r, rfl, hf, hr, hs, q_⟩
abbrev N_Llowered : List Str := ["_law_form_here", "_law_a", "_law_b", "_law_c", "_law_d", "_law_root_here", "_law_k", "_law_top", "_law_middle"]
def c_Llowered : WS :=
  (wSeq (wAsg (fz (wV 0)) (gT 3 (gCs (gN 1) (gCs (gN 2) (gCs (gN 3) gNl)))))
  (wSeq (wSet 4 (wOp fSub (fz (wOp fMul (wPk 2) (wPk 2))) (fz (wOp fMul (fz (wOp fMul (fz (wC (.int 4))) (wPk 1))) (wPk 3)))))
  (wSeq (wSet 5 (wCall sp_Lroot (wCons (fz (wV 4)) wNil)))
  (wSeq (wFor (wR1 (fz (wC (.int 400)))) (gN 6) (wSeq (wIfS (wT (wCall sp_Lis_reduced (wCons (fz (wTup (wCons (fz (wV 1)) (wCons (fz (wV 2)) (wCons (fz (wV 3)) wNil))))) wNil))) (wRet (wTup (wCons (fz (wV 1)) (wCons (fz (wV 2)) (wCons (fz (wV 3)) wNil))))) wNext)
  (wSeq (wSet 7 (wOp fIdx (fz (wLst (wCons (fz (wV 5)) (wCons (fz (w1 fAbs (wPk 3))) wNil)))) (fz (w1 fInt (fz (wOp fGt (fz (w1 fAbs (wPk 3))) (wPk 5)))))))
  (wSeq (wSet 8 (wOp fSub (wPk 7) (fz (wOp fMod (fz (wOp fAdd (wPk 7) (wPk 2))) (fz (wOp fMul (fz (wC (.int 2))) (fz (w1 fAbs (wPk 3)))))))))
  (wPar3 1 2 3 (wCons (fz (wV 3)) (wCons (fz (wV 8)) (wCons (fz (wOp fDiv (fz (wOp fSub (fz (wOp fMul (wPk 8) (wPk 8))) (wPk 4))) (fz (wOp fMul (fz (wC (.int 4))) (wPk 3))))) wNil))))))))
  (wRet (wTup (wCons (fz (wV 1)) (wCons (fz (wV 2)) (wCons (fz (wV 3)) wNil)))))))))
theorem hw_Llowered : ∀ ds tk Q, sp_Llowered ds tk Q → c_Llowered { nx := fun _ t => Q (.val .non) t, rt := Q } (start N_Llowered.length ds) tk := by
  intro ds tk Q h_
  obtain ⟨f, r, rfl, hf, hr, hs, q⟩ := op_Llowered h_
  have sd := disc_sm2 hf
  have d0 : 0 < f.disc := by have := hr.lo; have := sq_nn r; omega
  obtain ⟨a1, a2, a3⟩ := id hf
  refine ⟨rfl, q1 a2 a2, q1 s4 a1, q1 (s4.mul a1) a3, ?_⟩
  obtain ⟨n, hn⟩ : ∃ n : Nat, f.disc = n := ⟨f.disc.toNat, by omega⟩
  refine ce_Lroot (n := n) (by have := sd; rw [hn] at this; unfold Sm at this; rw [Int.natAbs_natCast] at this; exact Nat.lt_of_lt_of_le this (Nat.pow_le_pow_right (by decide) (by decide))) (by rw [← hn]; rfl) fun s sa sb => ?_
  have es : (s : Int) = r := rt_uniq hr (by omega) (by rw [hn]; have := Int.ofNat_le.mpr sa; rw [Int.natCast_mul] at this; exact this) (by rw [hn]; have := Int.ofNat_lt.mpr sb; rw [Int.natCast_mul, Int.natCast_add] at this; exact this)
  rw [es]
  have sr : Sm 1000 r := (hr.sm sd).mono (by decide)
  simp only [gCs, gN, gNl, start_def, List.map_cons, List.map_nil, List.set_cons_zero, List.set_cons_succ, List.replicate_succ, List.replicate_zero, List.cons_append, List.nil_append, List.length_cons, List.length_nil, Nat.reduceAdd, Nat.reduceSub]
  refine seq_cut (a := wFor _ _ _) (fun e t => False) (fun R0 hR0 => ?_) (fun e t h => h.elim)
  refine ⟨by decide, by decide, ?_⟩
  refine forGo_rng (fun i e t => t = tk ∧ ∃ (g : F3) (m : M4) (w : Nat) (x6 x7 x8 : Option EV), RiI r f g m w ∧ w + i ≤ 110 ∧ e = [some (.val (f.D)), some (.val (.int (g.a))), some (.val (.int (g.b))), some (.val (.int (g.c))), some (.val (.int (f.disc))), some (.val (.int (r))), x6, x7, x8]) (fun i e t R hi hI hR => ?_) (fun e t hI => ?_) ⟨rfl, f, M4.one, 110, none, none, none, ⟨F3.act_one f, rfl, ⟨sm_ss (x := 1) (by decide) (by decide), sm_ss (x := 0) (by decide) (by decide), sm_ss (x := 0) (by decide) (by decide), sm_ss (x := 1) (by decide) (by decide)⟩, .inl ⟨rfl, rfl⟩⟩, by omega, rfl⟩
  rotate_left
  · obtain ⟨rfl, g, m, w, _, _, _, _, h, _⟩ := hI
    have : Int.toNat 400 = 400 := rfl
    omega
  obtain ⟨rfl, g, m, w, x6, x7, x8, I, hw, rfl⟩ := hI
  obtain ⟨sg, _, _, _⟩ := riI_size hf hr hs I
  have gd := riI_disc I
  have hr' : Rt g.disc r := by rw [gd]; exact hr
  have hc := (ind_ac (f := g) (by rw [gd]; exact hs)).2
  refine ⟨rfl, ?_⟩
  refine cl_Lis_reduced (f := g) (r := r) (sg.up (by decide)) hr' ?_
  by_cases hg : RedI r g
  · rw [decide_eq_true hg]
    exact ifB rfl ⟨rfl, q g hg ⟨m, I.det, I.eq⟩ sg⟩
  rw [decide_eq_false hg]
  refine ifBF rfl (at_nx15 ?_)
  dsimp only
  obtain ⟨b1, b2, b3⟩ := id sg
  have sc : Sm 220 (iabs g.c) := b3.absif
  have c0 := iabs_pos hc
  simp only [gCs, gN, gNl, start_def, List.map_cons, List.map_nil, List.set_cons_zero, List.set_cons_succ, List.replicate_succ, List.replicate_zero, List.cons_append, List.nil_append, List.length_cons, List.length_nil, Nat.reduceAdd, Nat.reduceSub]
  refine seq_cut (a := wSet _ _) (fun e t' => t' = t ∧ e = [some (.val (f.D)), some (.val (.int (g.a))), some (.val (.int (g.b))), some (.val (.int (g.c))), some (.val (.int (f.disc))), some (.val (.int (r))), some (.val (.int ((0+(i:Int))))), some (.val (.int ((stTop r g)))), x8]) (fun R1 hR1 => ?_) ?_
  · have key : fIdx (.lst [.int r, .int (iabs g.c)]) (.int (if decide (iabs g.c > r) = true then 1 else 0)) (fun ev => R1 [some (.val f.D), some (.val (.int g.a)), some (.val (.int g.b)), some (.val (.int g.c)), some (.val (.int f.disc)), some (.val (.int r)), some (.val (.int (0 + (i : Int)))), some ev, x8] t) := by
      have k := hR1 _ _ ⟨rfl, rfl⟩
      unfold stTop at k
      refine idx_bb (fun h => ?_) (fun h => ?_)
      · have h := of_decide_eq_true h
        rw [if_pos (by omega)] at k; exact k
      · have h := of_decide_eq_false h
        rw [if_neg (by omega)] at k; exact k
    exact ⟨rfl, key⟩
  rintro e t' ⟨rfl, rfl⟩
  have stp : Sm 1000 (stTop r g) := by unfold stTop; split; exact sc.mono (by decide); exact sr
  have nz : 2 * iabs g.c ≠ 0 := by omega
  have smid : Sm 1001 (stMid r g) := by unfold stMid; exact stp.sub (((s2.mul sc).fmod nz).mono (by decide))
  have dk : DivOk (stMid r g * stMid r g - f.disc) (4 * g.c) := DivOk.of (k := 223) (by omega) (s4.mul b3) (by decide)
  refine seq_cut (a := wSet _ _) (fun e t => t = t' ∧ e = [some (.val (f.D)), some (.val (.int (g.a))), some (.val (.int (g.b))), some (.val (.int (g.c))), some (.val (.int (f.disc))), some (.val (.int (r))), some (.val (.int ((0+(i:Int))))), some (.val (.int ((stTop r g)))), some (.val (.int ((stMid r g))))]) (fun R1 hR1 => ?_) ?_
  · have k := hR1 _ _ ⟨rfl, rfl⟩
    unfold stMid iabs at k
    have m2 : MulOk 2 (if g.c < 0 then -g.c else g.c) := q1 s2 sc
    have nz' : 2 * (if g.c < 0 then -g.c else g.c) ≠ 0 := nz
    exact ⟨m2, nz', k⟩
  rintro e t ⟨rfl, rfl⟩
  obtain ⟨w', hw', ss, I'⟩ := riI_next hf hr hs I hg
  obtain ⟨x1, x2⟩ := nxt_ab (r := r) hc
  have x3 := nxt_c (r := r) hc
  refine ⟨q1 smid smid, q1 s4 b3, dk, ?_⟩
  refine hR _ _ ⟨rfl, nxt r g, _, w', some (.val (.int (0 + (i : Int)))), some (.val (.int (stTop r g))), some (.val (.int (stMid r g))), I', by omega, ?_⟩
  rw [x1, x2, ← x3, gd]
  rfl
end DL
set_option maxHeartbeats 1000000
namespace DL
/-! ### the law's own way to the reduced positive form -/
def lwT (f : F3) : Int := (f.b + f.a - 1).fdiv (2 * f.a)
def lwN (f : F3) : F3 := ⟨f.a, f.b - 2 * f.a * lwT f, f.c - f.b * lwT f + f.a * lwT f * lwT f⟩
def lwS (f : F3) : F3 := ⟨f.c, -f.b, f.a⟩
theorem lwN_act (f : F3) : lwN f = f.act (tranM (-lwT f)) := by
  rw [act_tran]
  unfold lwN
  apply F3.ext <;> (dsimp only) <;> grind
theorem lwS_act (f : F3) : lwS f = f.act swapM := (act_swap f).symm
theorem det_tran (t : Int) : (tranM t).det = 1 := by unfold M4.det tranM; dsimp only; omega
theorem lwN_b {f : F3} (a0 : 0 < f.a) : -f.a < (lwN f).b ∧ (lwN f).b ≤ f.a := by
  have h1 := Int.mul_fdiv_add_fmod (f.b + f.a - 1) (2 * f.a)
  have h2 := Int.fmod_nonneg_of_pos (f.b + f.a - 1) (show 0 < 2 * f.a by omega)
  have h3 := Int.fmod_lt_of_pos (f.b + f.a - 1) (show 0 < 2 * f.a by omega)
  show -f.a < f.b - 2 * f.a * (f.b + f.a - 1).fdiv (2 * f.a) ∧ f.b - 2 * f.a * (f.b + f.a - 1).fdiv (2 * f.a) ≤ f.a
  omega
/-- normal: the middle is small -/
def NrmP (f : F3) : Prop := -f.a < f.b ∧ f.b ≤ f.a
theorem not_red {f : F3} (N : NrmP f) (h : ¬ Red f) : f.c < f.a ∨ (f.c = f.a ∧ f.b < 0) := by
  refine Classical.byContradiction fun z => h ⟨N.1, N.2, by omega, by omega⟩
theorem zone {f : F3} (a0 : 0 < f.a) (c0 : 0 < f.c) (N : NrmP f) (h : f.c < f.a) (hz : f.a * f.a < -f.disc) : f.c ≤ (lwN (lwS f)).c := by
  have nb := lwN_b (f := lwS f) c0
  have eb : (lwN (lwS f)).b = -f.b - 2 * f.c * lwT (lwS f) := rfl
  have ec : (lwN (lwS f)).c = f.a + f.b * lwT (lwS f) + f.c * lwT (lwS f) * lwT (lwS f) := by
    show f.a - -f.b * lwT (lwS f) + f.c * lwT (lwS f) * lwT (lwS f) = _
    rw [Int.neg_mul]; omega
  rw [eb] at nb
  have nb : -f.c < -f.b - 2 * f.c * lwT (lwS f) ∧ -f.b - 2 * f.c * lwT (lwS f) ≤ f.c := nb
  rw [ec]
  generalize lwT (lwS f) = t at nb ⊢
  unfold F3.disc at hz
  have e4 : 4 * f.a * f.c = 4 * (f.a * f.c) := by grind
  have sq := sq_nn (f.a - 2 * f.c)
  have es : (f.a - 2 * f.c) * (f.a - 2 * f.c) = f.a * f.a - 4 * (f.a * f.c) + 4 * (f.c * f.c) := by grind
  have b3 : -(3 * f.c) < f.b ∧ f.b < 3 * f.c := by
    have cc := Int.mul_pos c0 c0
    constructor
    · refine Int.not_le.mp fun z => ?_
      have := Int.mul_le_mul (show 3 * f.c ≤ -f.b by omega) (show 3 * f.c ≤ -f.b by omega) (by omega) (by omega)
      have e9 : 3 * f.c * (3 * f.c) = 9 * (f.c * f.c) := by grind
      rw [Int.neg_mul_neg] at this
      omega
    · refine Int.not_le.mp fun z => ?_
      have := Int.mul_le_mul z z (by omega) (by omega)
      have e9 : 3 * f.c * (3 * f.c) = 9 * (f.c * f.c) := by grind
      omega
  have t1 : -1 ≤ t ∧ t ≤ 1 := by
    have e2 : 2 * f.c * t = 2 * (f.c * t) := by grind
    constructor
    · refine Int.not_lt.mp fun z => ?_
      have := Int.mul_le_mul_of_nonneg_left (show t ≤ -2 by omega) (show 0 ≤ f.c by omega)
      omega
    · refine Int.not_lt.mp fun z => ?_
      have := Int.mul_le_mul_of_nonneg_left (show 2 ≤ t by omega) (show 0 ≤ f.c by omega)
      omega
  obtain ⟨n1, n2⟩ := N
  rcases (by omega : t = -1 ∨ t = 0 ∨ t = 1) with rfl | rfl | rfl
  · omega
  · omega
  · omega
def lwM (f : F3) : Nat := if Red f then 0 else if -f.disc ≤ f.a * f.a then f.a.toNat.log2 + 4 else if f.c < f.a then 2 else 1
theorem log2_half {a c : Nat} (c0 : 0 < c) (h : 2 * c ≤ a) : c.log2 < a.log2 := by
  have h1 : 2 ^ c.log2 ≤ c := Nat.log2_self_le (by omega)
  have h2 : 2 ^ (c.log2 + 1) ≤ a := by rw [Nat.pow_succ]; omega
  have h3 : c.log2 + 1 ≤ a.log2 := (Nat.le_log2 (by omega)).mpr h2
  omega
theorem lwM_less {f : F3} (a0 : 0 < f.a) (hd : f.disc < 0) (N : NrmP f) (hr : ¬ Red f) : lwM (lwN (lwS f)) < lwM f := by
  have c0 := def_c hd a0
  have nb := lwN_b (f := lwS f) c0
  have dd : (lwN (lwS f)).disc = f.disc := by rw [lwN_act, F3.disc_act1 _ (det_tran _), lwS_act]; exact F3.disc_act1 f rfl
  have ea : (lwN (lwS f)).a = f.c := rfl
  have mf : lwM f = if -f.disc ≤ f.a * f.a then f.a.toNat.log2 + 4 else if f.c < f.a then 2 else 1 := if_neg hr
  have up : lwM (lwN (lwS f)) ≤ f.c.toNat.log2 + 4 := by
    unfold lwM
    rw [ea]
    split
    · omega
    · split
      · omega
      · split <;> omega
  rcases not_red N hr with h | ⟨h, hb⟩
  · by_cases hz : -f.disc ≤ f.a * f.a
    · rw [mf, if_pos hz]
      -- c is at most half of a
      have half : 2 * f.c ≤ f.a := by
        refine Int.not_lt.mp fun z => ?_
        have bb : f.b * f.b ≤ f.a * f.a := by
          have h2 : 0 ≤ (f.a - f.b) * (f.a + f.b) := Int.mul_nonneg (by have := N.2; omega) (by have := N.1; omega)
          have e : (f.a - f.b) * (f.a + f.b) = f.a * f.a - f.b * f.b := by grind
          omega
        have := Int.mul_le_mul_of_nonneg_left (show f.a + 1 ≤ 2 * f.c by omega) (show 0 ≤ f.a by omega)
        unfold F3.disc at hz
        have e4 : 4 * f.a * f.c = 2 * (f.a * (2 * f.c)) := by grind
        have e5 : f.a * (f.a + 1) = f.a * f.a + f.a := by grind
        omega
      have := log2_half (a := f.a.toNat) (c := f.c.toNat) (by omega) (by omega)
      omega
    · have hz' : f.a * f.a < -f.disc := by omega
      rw [mf, if_neg hz, if_pos h]
      have k := zone a0 c0 N h hz'
      have cz : ¬ -(lwN (lwS f)).disc ≤ (lwN (lwS f)).a * (lwN (lwS f)).a := by
        rw [dd, ea]
        have := Int.mul_le_mul (show f.c ≤ f.a by omega) (show f.c ≤ f.a by omega) (by omega) (by omega)
        omega
      unfold lwM
      rw [if_neg cz]
      split
      · omega
      · rw [ea, if_neg (by omega)]; omega
  · -- c = a and b below 0: the next one is reduced
    have red : Red (lwN (lwS f)) := by
      have t0 : lwT (lwS f) = 0 := by
        show (-f.b + f.c - 1).fdiv (2 * f.c) = 0
        rw [Int.fdiv_eq_ediv_of_nonneg _ (by omega)]
        exact Int.ediv_eq_zero_of_lt (by omega) (by have := N.1; omega)
      have e : lwN (lwS f) = ⟨f.c, -f.b, f.a⟩ := by
        unfold lwN
        rw [t0]
        apply F3.ext
        · rfl
        · show -f.b - 2 * f.c * 0 = -f.b; omega
        · show f.a - -f.b * 0 + f.c * 0 * 0 = f.a; omega
      rw [e]
      exact ⟨by dsimp only; omega, by have := N.1; dsimp only; omega, by dsimp only; omega, .inl (by dsimp only; omega)⟩
    have : lwM (lwN (lwS f)) = 0 := if_pos red
    rw [this, mf]
    split
    · omega
    · split <;> omega
end DL
set_option maxHeartbeats 1000000
set_option pp.maxSteps 1200
namespace DL
open PySem PySem.Spec PyProof.Rows L2
structure LwI (f h : F3) (i : Nat) : Prop where
  eqv : Eqv f h
  a0 : 0 < h.a
  sa : Sm 100 h.a
  sb : Sm 101 h.b
  sc : Sm 220 h.c
  ms : lwM (lwN h) + i ≤ 110
theorem eqv_disc {f h : F3} (e : Eqv f h) : h.disc = f.disc := by
  obtain ⟨m, hm, rfl⟩ := e
  exact F3.disc_act1 f hm
theorem lwN_eqv {f h : F3} (e : Eqv f h) : Eqv f (lwN h) := e.trans ⟨_, det_tran _, (lwN_act h).symm⟩
theorem lwS_eqv {f h : F3} (e : Eqv f h) : Eqv f (lwS h) := e.trans ⟨swapM, rfl, (lwS_act h).symm⟩
theorem lwN_size {f h : F3} {i : Nat} (hf : f.Sm 100) (hd : f.disc < 0) (I : LwI f h i) : Sm 101 (lwN h).b ∧ Sm 220 (lwN h).c ∧ 0 < (lwN h).c ∧ NrmP (lwN h) := by
  have nb := lwN_b I.a0
  have dd := eqv_disc (lwN_eqv I.eqv)
  have sd := disc_sm2 hf
  have a0 := I.a0
  have c0 := def_c (f := lwN h) (by rw [dd]; exact hd) a0
  have la := sm_lt I.sa
  have ld := sm_lt sd
  refine ⟨?_, ?_, c0, nb⟩
  · have : (lwN h).b.natAbs < 2 ^ 100 := by
      have := I.sa
      unfold Sm at this
      omega
    exact Nat.lt_trans this (by decide)
  · -- 4 a c = b b - d
    have bb : (lwN h).b * (lwN h).b ≤ h.a * h.a := by
      have h2 : 0 ≤ (h.a - (lwN h).b) * (h.a + (lwN h).b) := Int.mul_nonneg (by omega) (by omega)
      have e : (h.a - (lwN h).b) * (h.a + (lwN h).b) = h.a * h.a - (lwN h).b * (lwN h).b := by grind
      omega
    have saa : Sm 200 (h.a * h.a) := I.sa.mul I.sa
    have laa := sm_lt saa
    have cc : (lwN h).c ≤ h.a * (lwN h).c := by
      have := Int.mul_le_mul_of_nonneg_right (show 1 ≤ h.a by omega) (show 0 ≤ (lwN h).c by omega)
      omega
    unfold F3.disc at dd
    have e4 : 4 * (lwN h).a * (lwN h).c = 4 * (h.a * (lwN h).c) := by
      show 4 * h.a * (lwN h).c = _
      grind
    have up : (lwN h).c < 2 ^ 210 := by
      have p1 : (2 : Int) ^ 200 + 2 ^ (2 * 100 + 5) ≤ 2 ^ 210 := by decide +kernel
      unfold F3.disc at ld
      omega
    show (lwN h).c.natAbs < 2 ^ 220
    have p2 : (2 : Int) ^ 210 ≤ ((2 ^ 220 : Nat) : Int) := by decide +kernel
    omega
@[irreducible] def sp_Lpositive : FSpec := fun ds tk Q => ∃ (f : F3) (x : D), ds = [x] ∧ (x = f.D ∨ x = .lst [.int f.a, .int f.b, .int f.c]) ∧ (0 < f.a) ∧ (f.disc < 0) ∧ (f.Sm 100) ∧ ∀ (g : F3), ∀ (he : Eqv f g), ∀ (hr : Red g), ∀ (ga : 0 < g.a), ∀ (sg : g.Sm 220), Q (.val g.D) tk
theorem op_Lpositive {ds : List D} {tk : Tk} {Q : EV → Tk → Prop} (h : sp_Lpositive ds tk Q) : ∃ (f : F3) (x : D), ds = [x] ∧ (x = f.D ∨ x = .lst [.int f.a, .int f.b, .int f.c]) ∧ (0 < f.a) ∧ (f.disc < 0) ∧ (f.Sm 100) ∧ ∀ (g : F3), ∀ (he : Eqv f g), ∀ (hr : Red g), ∀ (ga : 0 < g.a), ∀ (sg : g.Sm 220), Q (.val g.D) tk := by unfold sp_Lpositive at h; exact h
theorem mon_Lpositive : MonFS sp_Lpositive := fun ds tk Q Q' hq_ hs_ => by
  obtain ⟨f, x, e_, hx, a0, hd, hf, q_⟩ := op_Lpositive hs_
  unfold sp_Lpositive
  exact ⟨f, x, e_, hx, a0, hd, hf, fun g he hr ga sg => hq_ _ _ (q_ g he hr ga sg)⟩
theorem len_Lpositive : ∀ ds tk Q, sp_Lpositive ds tk Q → ds.length = 1 := fun ds tk Q hs_ => by
  obtain ⟨f, x, e_, hx, a0, hd, hf, q_⟩ := op_Lpositive hs_
  rw [e_]; rfl
theorem cl_Lpositive {tk : Tk} {Q : EV → Tk → Prop} {f : F3} {x : D} (hx : x = f.D ∨ x = .lst [.int f.a, .int f.b, .int f.c]) (a0 : 0 < f.a) (hd : f.disc < 0) (hf : f.Sm 100) (q_ : ∀ (g : F3), ∀ (he : Eqv f g), ∀ (hr : Red g), ∀ (ga : 0 < g.a), ∀ (sg : g.Sm 220), Q (.val g.D) tk) : sp_Lpositive [x] tk Q := by
  unfold sp_Lpositive
  exact ⟨f, x, rfl, hx, a0, hd, hf, q_⟩
theorem ce_Lpositive {ds_ : List D} {tk : Tk} {Q : EV → Tk → Prop} {f : F3} {x : D} (hx : x = f.D ∨ x = .lst [.int f.a, .int f.b, .int f.c]) (a0 : 0 < f.a) (hd : f.disc < 0) (hf : f.Sm 100) (e_ : ds_ = [x]) (q_ : ∀ (g : F3), ∀ (he : Eqv f g), ∀ (hr : Red g), ∀ (ga : 0 < g.a), ∀ (sg : g.Sm 220), Q (.val g.D) tk) : sp_Lpositive ds_ tk Q := by
  subst e_
  unfold sp_Lpositive
  exact ⟨f, x, rfl, hx, a0, hd, hf, q_⟩
theorem asg_u {g : WGs} {P : Post} {env : En} {tk : Tk} {x : D} {ds : List D} {i n : Nat} (hx : x = .tup ds ∨ x = .lst ds) (he : env[i]? = some (some (.val x))) (hn : ds.length = n) (h : g ds env fun e => P.nx e tk) : wAsg (fz (wV i)) (gU n g) P env tk := by
  unfold wAsg fz wV
  rw [he]
  rcases hx with rfl | rfl <;> exact ⟨hn, h⟩
abbrev N_Lpositive : List Str := ["_law_form_here", "_law_a", "_law_b", "_law_c", "_law_k", "_law_t"]
def c_Lpositive : WS :=
  (wSeq (wAsg (fz (wV 0)) (gU 3 (gCs (gN 1) (gCs (gN 2) (gCs (gN 3) gNl)))))
  (wSeq (wFor (wR1 (fz (wC (.int 400)))) (gN 4) (wSeq (wSet 5 (wOp fDiv (fz (wOp fSub (fz (wOp fAdd (wPk 2) (wPk 1))) (fz (wC (.int 1))))) (fz (wOp fMul (fz (wC (.int 2))) (wPk 1)))))
  (wSeq (wPar 2 3 (wCons (fz (wOp fSub (wPk 2) (fz (wOp fMul (fz (wOp fMul (fz (wC (.int 2))) (wPk 1))) (wPk 5))))) (wCons (fz (wOp fAdd (fz (wOp fSub (wPk 3) (fz (wOp fMul (wPk 2) (wPk 5))))) (fz (wOp fMul (fz (wOp fMul (wPk 1) (wPk 5))) (wPk 5))))) wNil)))
  (wSeq (wIfS (wOr (wT (wOp fLt (wPk 1) (wPk 3))) (wAnd (wT (wOp fEq (wPk 1) (wPk 3))) (wT (wOp fGe (wPk 2) (fz (wC (.int 0))))))) (wRet (wTup (wCons (fz (wV 1)) (wCons (fz (wV 2)) (wCons (fz (wV 3)) wNil))))) wNext)
  (wPar3 1 2 3 (wCons (fz (wV 3)) (wCons (fz (w1 fNeg (wPk 2))) (wCons (fz (wV 1)) wNil))))))))
  (wRet (wTup (wCons (fz (wV 1)) (wCons (fz (wV 2)) (wCons (fz (wV 3)) wNil)))))))
theorem hw_Lpositive : ∀ ds tk Q, sp_Lpositive ds tk Q → c_Lpositive { nx := fun _ t => Q (.val .non) t, rt := Q } (start N_Lpositive.length ds) tk := by
  intro ds tk Q h_
  obtain ⟨f, x, rfl, hx, a0, hd, hf, q⟩ := op_Lpositive h_
  obtain ⟨a1, a2, a3⟩ := id hf
  refine seq_cut (a := wAsg _ _) (fun e t => t = tk ∧ e = [some (.val (x)), some (.val (.int (f.a))), some (.val (.int (f.b))), some (.val (.int (f.c))), none, none]) (fun R hR => ?_) ?_
  · exact asg_u (ds := [.int f.a, .int f.b, .int f.c]) hx rfl rfl (hR _ _ ⟨rfl, rfl⟩)
  rintro e t ⟨rfl, rfl⟩
  have start : LwI f f 0 := by
    refine ⟨⟨M4.one, rfl, F3.act_one f⟩, a0, a1, a2.mono (by decide), a3.mono (by decide), ?_⟩
    have l : f.a.toNat.log2 < 100 := (Nat.log2_lt (by omega)).mpr (by have := a1; unfold Sm at this; omega)
    have e : (lwN f).a = f.a := rfl
    unfold lwM
    rw [e]
    split
    · omega
    · split
      · omega
      · split <;> omega
  refine seq_cut (a := wFor _ _ _) (fun e t => False) (fun R0 hR0 => ?_) (fun e t h => h.elim)
  refine ⟨by decide, by decide, ?_⟩
  refine forGo_rng (fun i e t' => t' = t ∧ ∃ (h : F3) (x4 x5 : Option EV), LwI f h i ∧ e = [some (.val (x)), some (.val (.int (h.a))), some (.val (.int (h.b))), some (.val (.int (h.c))), x4, x5]) (fun i e t' R hi hI hR => ?_) (fun e t' hI => ?_) ⟨rfl, f, none, none, start, rfl⟩
  rotate_left
  · obtain ⟨rfl, h, _, _, I, _⟩ := hI
    have := I.ms
    have : Int.toNat 400 = 400 := rfl
    omega
  obtain ⟨rfl, h, x4, x5, I, rfl⟩ := hI
  obtain ⟨sb', sc', c0, N⟩ := lwN_size hf hd I
  have ha := I.a0
  have st : Sm 103 (lwT h) := by
    show Sm 103 ((h.b + h.a - 1).fdiv (2 * h.a))
    exact ((I.sb.add (I.sa.mono (by decide))).sub (show Sm 102 1 by exact sm_ss (by decide) (by decide))).fdiv
  have nz : 2 * h.a ≠ 0 := by omega
  have dk : DivOk (h.b + h.a - 1) (2 * h.a) := DivOk.of (k := 102) nz (s2.mul I.sa) (by decide)
  have s2a : Sm 102 (2 * h.a) := s2.mul I.sa
  simp only [gCs, gN, gNl, start_def, List.map_cons, List.map_nil, List.set_cons_zero, List.set_cons_succ, List.replicate_succ, List.replicate_zero, List.cons_append, List.nil_append, List.length_cons, List.length_nil, Nat.reduceAdd, Nat.reduceSub]
  refine seq_cut (a := wSet _ _) (fun e t => t = t' ∧ e = [some (.val (x)), some (.val (.int (h.a))), some (.val (.int (h.b))), some (.val (.int (h.c))), some (.val (.int ((0+(i:Int))))), some (.val (.int ((lwT h))))]) (fun R1 hR1 => ?_) ?_
  · have k := hR1 _ _ ⟨rfl, rfl⟩
    unfold lwT at k
    exact ⟨q1 s2 I.sa, dk, k⟩
  rintro e t ⟨rfl, rfl⟩
  refine seq_cut (a := wPar _ _ _) (fun e t' => t' = t ∧ e = [some (.val (x)), some (.val (.int ((lwN h).a))), some (.val (.int ((lwN h).b))), some (.val (.int ((lwN h).c))), some (.val (.int ((0+(i:Int))))), some (.val (.int ((lwT h))))]) (fun R1 hR1 => ?_) ?_
  · exact ⟨q1 s2 I.sa, q1 s2a st, q1 I.sb st, q1 I.sa st, q1 (I.sa.mul st) st, hR1 _ _ ⟨rfl, rfl⟩⟩
  rintro e t' ⟨rfl, rfl⟩
  have eqg := lwN_eqv I.eqv
  have msg := I.ms
  have sga : Sm 100 (lwN h).a := I.sa
  have ga : 0 < (lwN h).a := I.a0
  have dg : (lwN h).disc < 0 := by rw [eqv_disc eqg]; exact hd
  generalize lwN h = g at *
  have yes : Red g → Q (.val g.D) t' := fun r => q g eqg r ga ⟨sga.mono (by decide), sb'.mono (by decide), sc'⟩
  have no : ¬ Red g → R [some (.val (x)), some (.val (.int (g.c))), some (.val (.int ((-g.b)))), some (.val (.int (g.a))), some (.val (.int ((0+(i:Int))))), some (.val (.int ((lwT h))))] t' := fun r => by
    have less := lwM_less ga dg N r
    have cle : g.c ≤ g.a := by have := not_red N r; omega
    refine hR _ _ ⟨rfl, lwS g, some (.val (.int (0 + (i : Int)))), some (.val (.int (lwT h))), ⟨lwS_eqv eqg, c0, ?_, sb'.neg, sga.mono (by decide), by omega⟩, rfl⟩
    show g.c.natAbs < 2 ^ 100
    unfold Sm at sga
    omega
  refine if2 (fun h1 => ?_) (fun h1 => ?_)
  · have h1 : g.a < g.c := h1
    exact ⟨rfl, yes ⟨N.1, N.2, by omega, .inr h1⟩⟩
  have h1 : ¬ g.a < g.c := h1
  refine if2 (fun h2 => ?_) (fun h2 => ?_)
  · have h2 : g.a = g.c := h2
    refine if2 (fun h3 => ?_) (fun h3 => ?_)
    · have h3 : g.b ≥ 0 := h3
      exact ⟨rfl, yes ⟨N.1, N.2, by omega, .inl (by omega)⟩⟩
    · have h3 : ¬ g.b ≥ 0 := h3
      exact no fun r => by have := r.2.2.2; omega
  · have h2 : ¬ g.a = g.c := h2
    exact no fun r => by have := r.2.2.1; omega
end DL
set_option maxHeartbeats 1000000
set_option pp.maxSteps 1200
namespace DL
open PySem PySem.Spec PyProof.Rows L2
def rgL (r : Int) (f : F3) (l : Nat) : List D := (List.range l).map fun i => (nxtN r i f).D
theorem rgL_succ (r : Int) (f : F3) (l : Nat) : rgL r f (l + 1) = rgL r f l ++ [(nxtN r l f).D] := by unfold rgL; rw [List.range_succ, List.map_append]; rfl
theorem rgL_len (r : Int) (f : F3) (l : Nat) : (rgL r f l).length = l := by unfold rgL; rw [List.length_map, List.length_range]
theorem at_nxt {P : Post} {e : En} {t : Tk} (h : P.nx e t) : wNext P e t := h
theorem idx_end {tl : List D} {b : D} {q : EV → Prop} (k : q (.val b)) : fIdx (.lst (tl ++ [b])) (.int (((tl ++ [b]).length : Int) - 1)) q := by
  have e : ((tl ++ [b]).length : Int) - 1 = ((tl.length : Nat) : Int) := by rw [List.length_append]; simp only [List.length_cons, List.length_nil]; omega
  rw [e]
  show (match atI (tl ++ [b]) ((tl.length : Nat) : Int) with | some d => q (.val d) | none => False)
  rw [atI_lit, List.getElem?_append_right (Nat.le_refl _), Nat.sub_self]
  exact k
@[irreducible] def sp_Lring_v1 : FSpec := fun ds tk Q => ∃ (f : F3) (r : Int) (l : Nat), ds = [f.D] ∧ (Rt f.disc r) ∧ (RedI r f) ∧ (r ≤ 99) ∧ (CyP r f l) ∧ (l ≤ 3000) ∧ Q (.own (rgL r f l)) tk
theorem op_Lring_v1 {ds : List D} {tk : Tk} {Q : EV → Tk → Prop} (h : sp_Lring_v1 ds tk Q) : ∃ (f : F3) (r : Int) (l : Nat), ds = [f.D] ∧ (Rt f.disc r) ∧ (RedI r f) ∧ (r ≤ 99) ∧ (CyP r f l) ∧ (l ≤ 3000) ∧ Q (.own (rgL r f l)) tk := by unfold sp_Lring_v1 at h; exact h
theorem mon_Lring_v1 : MonFS sp_Lring_v1 := fun ds tk Q Q' hq_ hs_ => by
  obtain ⟨f, r, l, e_, hr, hf, hb, P, hl, q_⟩ := op_Lring_v1 hs_
  unfold sp_Lring_v1
  exact ⟨f, r, l, e_, hr, hf, hb, P, hl, hq_ _ _ q_⟩
theorem len_Lring_v1 : ∀ ds tk Q, sp_Lring_v1 ds tk Q → ds.length = 1 := fun ds tk Q hs_ => by
  obtain ⟨f, r, l, e_, hr, hf, hb, P, hl, q_⟩ := op_Lring_v1 hs_
  rw [e_]; rfl
theorem cl_Lring_v1 {tk : Tk} {Q : EV → Tk → Prop} {f : F3} {r : Int} {l : Nat} (hr : Rt f.disc r) (hf : RedI r f) (hb : r ≤ 99) (P : CyP r f l) (hl : l ≤ 3000) (q_ : Q (.own (rgL r f l)) tk) : sp_Lring_v1 [f.D] tk Q := by
  unfold sp_Lring_v1
  exact ⟨f, r, l, rfl, hr, hf, hb, P, hl, q_⟩
theorem ce_Lring_v1 {ds_ : List D} {tk : Tk} {Q : EV → Tk → Prop} {f : F3} {r : Int} {l : Nat} (hr : Rt f.disc r) (hf : RedI r f) (hb : r ≤ 99) (P : CyP r f l) (hl : l ≤ 3000) (e_ : ds_ = [f.D]) (q_ : Q (.own (rgL r f l)) tk) : sp_Lring_v1 ds_ tk Q := by
  subst e_
  unfold sp_Lring_v1
  exact ⟨f, r, l, rfl, hr, hf, hb, P, hl, q_⟩
abbrev N_Lring_v1 : List Str := ["_law_form_here", "_law_found", "_law_k", "_law_other_here"]
def c_Lring_v1 : WS :=
  (wSeq (wSet 1 (wLst (wCons (fz (wV 0)) wNil)))
  (wSeq (wFor (wR1 (fz (wC (.int 3000)))) (gN 2) (wSeq (wSet 3 (wCall sp_Lneighbour (wCons (fz (wOp fIdx (wPk 1) (fz (wOp fSub (fz (w1 fLen (wPk 1))) (fz (wC (.int 1))))))) wNil)))
  (wSeq (wIfS (wT (wOp fEq (wPk 3) (wPk 0))) (wRetV 1) wNext)
  (wApp 1 (fz (wV 3))))))
  (wRetV 1)))
theorem hw_Lring_v1 : ∀ ds tk Q, sp_Lring_v1 ds tk Q → c_Lring_v1 { nx := fun _ t => Q (.val .non) t, rt := Q } (start N_Lring_v1.length ds) tk := by
  intro ds tk Q h_
  obtain ⟨f, r, l, rfl, hr, hf, hb, P, hl, q⟩ := op_Lring_v1 h_
  have l0 := P.l0
  refine ⟨rfl, ?_⟩
  simp only [gCs, gN, gNl, start_def, List.map_cons, List.map_nil, List.set_cons_zero, List.set_cons_succ, List.replicate_succ, List.replicate_zero, List.cons_append, List.nil_append, List.length_cons, List.length_nil, Nat.reduceAdd, Nat.reduceSub]
  refine seq_cut (a := wFor _ _ _) (fun e t => False) (fun R0 hR0 => ?_) (fun e t h => h.elim)
  refine ⟨by decide, by decide, ?_⟩
  refine forGo_rng (fun i e t => t = tk ∧ i + 1 ≤ l ∧ ∃ x2 x3 : Option EV, e = [some (.val (f.D)), some (.own (rgL r f (i + 1))), x2, x3]) (fun i e t R hi hI hR => ?_) (fun e t hI => ?_) ⟨rfl, l0, none, none, rfl⟩
  rotate_left
  · obtain ⟨rfl, h, _⟩ := hI
    have : Int.toNat 3000 = 3000 := rfl
    omega
  obtain ⟨rfl, il, x2, x3, rfl⟩ := hI
  have hri : Rt (nxtN r i f).disc r := by rw [nxtN_disc]; exact hr
  have hfi := nxtN_red hr hf i
  have sfi := red_small hri hfi hb
  refine seq_cut (a := wSet _ _) (fun e t' => t' = t ∧ e = [some (.val (f.D)), some (.own (rgL r f (i + 1))), some (.val (.int ((0+(i:Int))))), some (.val ((nxtN r (i + 1) f).D))]) (fun R1 hR1 => ?_) ?_
  · have key : fIdx (.lst (rgL r f (i + 1))) (.int (((rgL r f (i + 1)).length : Int) - 1)) (fun ev => sp_Lneighbour [ev.d] t fun ev t2 => R1 [some (.val f.D), some (.own (rgL r f (i + 1))), some (.val (.int (0 + (i : Int)))), some ev] t2) := by
      rw [rgL_succ] at hR1 ⊢
      refine idx_end ?_
      refine cl_Lneighbour (f := nxtN r i f) (r := r) (sfi.up (by decide)) hri hfi ?_
      rw [← nxtN_succ]
      exact hR1 _ _ ⟨rfl, rfl⟩
    exact key
  rintro e t' ⟨rfl, rfl⟩
  refine ⟨F3.ok_ _, F3.ok_ _, ?_⟩
  by_cases hi2 : i + 1 = l
  · refine ifB (eqv_eq (by rw [hi2, P.back]) (F3.ok_ _)) ?_
    have k := q
    rw [← hi2] at k
    exact k
  · refine ifBF (eqf3_no (P.first (i + 1) (by omega) (by omega))) ?_
    refine ⟨by rw [rgL_len]; exact szl (by omega), ?_⟩
    have e := rgL_succ r f (i + 1)
    rw [e] at hR
    exact hR _ _ ⟨rfl, by omega, _, _, rfl⟩
theorem ok_lst {ds : List D} (h : ∀ d ∈ ds, okN 59 d = true) : D.ok (.lst ds) = true := by
  unfold D.ok okN
  induction ds with
  | nil => exact okNs_nil
  | cons x ds ih =>
    unfold okNs
    rw [h x List.mem_cons_self, ih fun d hd => h d (List.mem_cons_of_mem _ hd)]
    rfl
theorem ok_rg (r : Int) (f : F3) (l : Nat) : D.ok (.lst (rgL r f l)) = true := ok_lst fun d hd => by
  obtain ⟨i, _, rfl⟩ := List.mem_map.mp hd
  show okN 59 (.tup [.int _, .int _, .int _]) = true
  unfold okN
  exact okNs_int (okNs_int (okNs_int okNs_nil))
theorem ok_cy (r : Int) (f : F3) (l : Nat) : D.ok (.lst (cyL r f l)) = true := ok_lst fun d hd => by
  obtain ⟨i, _, rfl⟩ := List.mem_map.mp hd
  exact ok_pair _ _
theorem minOk_rg (r : Int) (f : F3) {l : Nat} (l0 : 1 ≤ l) : MinOk (rgL r f l) := by
  refine ⟨fun e => ?_, fun x hx => ?_, fun x hx y hy => ?_, fun x hx => ?_⟩
  · have := rgL_len r f l
    rw [e, List.length_nil] at this
    omega
  · obtain ⟨i, _, rfl⟩ := List.mem_map.mp hx; exact F3.ok_ _
  · obtain ⟨i, _, rfl⟩ := List.mem_map.mp hx
    obtain ⟨j, _, rfl⟩ := List.mem_map.mp hy
    exact alike_tI (nxtN r i f).L (nxtN r j f).L
  · obtain ⟨i, _, rfl⟩ := List.mem_map.mp hx
    exact fun z => nomatch z
end DL
set_option maxHeartbeats 1000000
set_option pp.maxSteps 1200
namespace DL
open PySem PySem.Spec PyProof.Rows L2
/-- a row of the way: value, and the two factors -/
structure ColI (x y : Int) (i : Nat) (a u v b p q : Int) : Prop where
  e1 : a = u * x + v * y
  e2 : b = p * x + q * y
  g : Int.gcd a b = 1
  sa : Sm 60 a ∧ Sm 60 b
  su : (Sm (62 * i + 2) u ∧ Sm (62 * i + 2) v) ∧ Sm (62 * i + 2) p ∧ Sm (62 * i + 2) q
  ms : i = 0 ∨ (b.natAbs < a.natAbs ∧ ((0 ≤ a ∧ 0 ≤ b) ∨ (a ≤ 0 ∧ b ≤ 0)) ∧ (b ≠ 0 → a.natAbs * b.natAbs * 2 ^ i ≤ 2 * (2 ^ 60 * 2 ^ 60)))
theorem fmod_sgn {a b : Int} (b0 : b ≠ 0) : (a.fmod b).natAbs < b.natAbs ∧ ((0 ≤ b ∧ 0 ≤ a.fmod b) ∨ (b ≤ 0 ∧ a.fmod b ≤ 0)) := by
  rcases Int.lt_or_gt_of_ne b0 with z | z
  · have e : a.fmod b = -((-a).fmod (-b)) := by rw [Int.neg_fmod_neg, Int.neg_neg]
    have h1 := Int.fmod_nonneg_of_pos (-a) (show 0 < -b by omega)
    have h2 := Int.fmod_lt_of_pos (-a) (show 0 < -b by omega)
    rw [e]
    omega
  · have h1 := Int.fmod_nonneg_of_pos a z
    have h2 := Int.fmod_lt_of_pos a z
    omega
theorem fmod_half {a b : Int} (b0 : b ≠ 0) (lt : b.natAbs < a.natAbs) (sg : (0 ≤ a ∧ 0 ≤ b) ∨ (a ≤ 0 ∧ b ≤ 0)) : 2 * (a.fmod b).natAbs ≤ a.natAbs := by
  have key : ∀ {c d : Int}, 0 < d → d < c → 2 * c.fmod d ≤ c := fun {c d} d0 h => by
    have e := Int.mul_fdiv_add_fmod c d
    have h1 := Int.fmod_lt_of_pos c d0
    have h0 := Int.fmod_nonneg_of_pos c d0
    have q1 : 1 ≤ c.fdiv d := by
      refine Int.not_lt.mp fun z => ?_
      have := Int.mul_le_mul_of_nonneg_left (show c.fdiv d ≤ 0 by omega) (show 0 ≤ d by omega)
      omega
    have := Int.mul_le_mul_of_nonneg_left q1 (show 0 ≤ d by omega)
    omega
  rcases sg with ⟨x, y⟩ | ⟨x, y⟩
  · have k := key (c := a) (d := b) (by omega) (by omega)
    have h0 := Int.fmod_nonneg_of_pos a (show 0 < b by omega)
    omega
  · have k := key (c := -a) (d := -b) (by omega) (by omega)
    have h0 := Int.fmod_nonneg_of_pos (-a) (show 0 < -b by omega)
    have e : a.fmod b = -((-a).fmod (-b)) := by rw [Int.neg_fmod_neg, Int.neg_neg]
    rw [e]
    omega
theorem colI_step {x y : Int} {i : Nat} {a u v b p q : Int} (I : ColI x y i a u v b p q) (b0 : b ≠ 0) : ColI x y (i + 1) b p q (a - a.fdiv b * b) (u - a.fdiv b * p) (v - a.fdiv b * q) := by
  have em : a - a.fdiv b * b = a.fmod b := by have := Int.mul_fdiv_add_fmod a b; have c := Int.mul_comm b (a.fdiv b); omega
  have fs := fmod_sgn (a := a) b0
  have st : Sm 60 (a.fdiv b) := I.sa.1.fdiv
  obtain ⟨⟨s1, s2⟩, s3, s4⟩ := I.su
  refine ⟨I.e2, ?_, ?_, ⟨I.sa.2, ?_⟩, ⟨⟨s3.mono (by omega), s4.mono (by omega)⟩, ?_, ?_⟩, .inr ⟨by rw [em]; exact fs.1, by rw [em]; exact fs.2, fun r0 => ?_⟩⟩
  · have e1 := I.e1
    have e2 := I.e2
    generalize a.fdiv b = t
    rw [e1, e2]
    grind
  · rw [em]
    have k : Int.gcd b (a.fmod b) = Int.gcd a b := by
      have e : a = a.fmod b + b * a.fdiv b := by have := Int.mul_fdiv_add_fmod a b; omega
      conv => rhs; rw [e]
      rw [Int.gcd_comm (a.fmod b + b * a.fdiv b) b, Int.gcd_add_mul_left_right]
    rw [k]; exact I.g
  · rw [em]
    exact Nat.lt_trans fs.1 I.sa.2
  · exact (s1.mono (show _ ≤ 62 * i + 62 by omega)).sub ((st.mul s3).mono (by omega)) |>.mono (by omega)
  · exact (s2.mono (show _ ≤ 62 * i + 62 by omega)).sub ((st.mul s4).mono (by omega)) |>.mono (by omega)
  · rw [em] at r0 ⊢
    rcases I.ms with rfl | ⟨h1, h2, h3⟩
    · have l1 := Nat.le_of_lt I.sa.2
      have := Nat.mul_le_mul l1 (Nat.le_trans (Nat.le_of_lt fs.1) l1)
      have e : (2 : Nat) ^ (0 + 1) = 2 := rfl
      rw [e]
      omega
    · have half := fmod_half b0 h1 h2
      refine Nat.le_trans ?_ (h3 b0)
      have h5 := Nat.mul_le_mul_right (2 ^ i) (Nat.mul_le_mul_left b.natAbs half)
      rw [Nat.pow_succ]
      have e1 : b.natAbs * (a.fmod b).natAbs * (2 ^ i * 2) = b.natAbs * (2 * (a.fmod b).natAbs) * 2 ^ i := by grind
      rw [e1, Nat.mul_comm a.natAbs b.natAbs]
      exact h5
@[irreducible] def sp_Lcolumn : FSpec := fun ds tk Q => ∃ (x y : Int), ds = [.int x, .int y] ∧ (Sm 60 x) ∧ (Sm 60 y) ∧ (Int.gcd x y = 1) ∧ ∀ (m : M4), ∀ (hp : m.p = x), ∀ (hr : m.r = y), ∀ (hd : m.det = 1), ∀ (sm : m.Sm 26000), Q (.val m.D) tk
theorem op_Lcolumn {ds : List D} {tk : Tk} {Q : EV → Tk → Prop} (h : sp_Lcolumn ds tk Q) : ∃ (x y : Int), ds = [.int x, .int y] ∧ (Sm 60 x) ∧ (Sm 60 y) ∧ (Int.gcd x y = 1) ∧ ∀ (m : M4), ∀ (hp : m.p = x), ∀ (hr : m.r = y), ∀ (hd : m.det = 1), ∀ (sm : m.Sm 26000), Q (.val m.D) tk := by unfold sp_Lcolumn at h; exact h
theorem mon_Lcolumn : MonFS sp_Lcolumn := fun ds tk Q Q' hq_ hs_ => by
  obtain ⟨x, y, e_, hx, hy, hg, q_⟩ := op_Lcolumn hs_
  unfold sp_Lcolumn
  exact ⟨x, y, e_, hx, hy, hg, fun m hp hr hd sm => hq_ _ _ (q_ m hp hr hd sm)⟩
theorem len_Lcolumn : ∀ ds tk Q, sp_Lcolumn ds tk Q → ds.length = 2 := fun ds tk Q hs_ => by
  obtain ⟨x, y, e_, hx, hy, hg, q_⟩ := op_Lcolumn hs_
  rw [e_]; rfl
theorem cl_Lcolumn {tk : Tk} {Q : EV → Tk → Prop} {x y : Int} (hx : Sm 60 x) (hy : Sm 60 y) (hg : Int.gcd x y = 1) (q_ : ∀ (m : M4), ∀ (hp : m.p = x), ∀ (hr : m.r = y), ∀ (hd : m.det = 1), ∀ (sm : m.Sm 26000), Q (.val m.D) tk) : sp_Lcolumn [.int x, .int y] tk Q := by
  unfold sp_Lcolumn
  exact ⟨x, y, rfl, hx, hy, hg, q_⟩
theorem ce_Lcolumn {ds_ : List D} {tk : Tk} {Q : EV → Tk → Prop} {x y : Int} (hx : Sm 60 x) (hy : Sm 60 y) (hg : Int.gcd x y = 1) (e_ : ds_ = [.int x, .int y]) (q_ : ∀ (m : M4), ∀ (hp : m.p = x), ∀ (hr : m.r = y), ∀ (hd : m.det = 1), ∀ (sm : m.Sm 26000), Q (.val m.D) tk) : sp_Lcolumn ds_ tk Q := by
  subst e_
  unfold sp_Lcolumn
  exact ⟨x, y, rfl, hx, hy, hg, q_⟩
abbrev N_Lcolumn : List Str := ["_law_x", "_law_y", "_law_low", "_law_high", "_law_k", "_law_t"]
def c_Lcolumn : WS :=
  (wSeq (wSet 2 (wTup (wCons (fz (wV 0)) (wCons (fz (wC (.int 1))) (wCons (fz (wC (.int 0))) wNil)))))
  (wSeq (wSet 3 (wTup (wCons (fz (wV 1)) (wCons (fz (wC (.int 0))) (wCons (fz (wC (.int 1))) wNil)))))
  (wSeq (wFor (wR1 (fz (wC (.int 400)))) (gN 4) (wSeq (wIfS (wT (wOp fEq (fz (wOp fIdx (wPk 3) (fz (wC (.int 0))))) (fz (wC (.int 0))))) wBrk wNext)
  (wSeq (wSet 5 (wOp fDiv (fz (wOp fIdx (wPk 2) (fz (wC (.int 0))))) (fz (wOp fIdx (wPk 3) (fz (wC (.int 0)))))))
  (wPar 2 3 (wCons (fz (wV 3)) (wCons (fz (wTup (wCons (fz (wOp fSub (fz (wOp fIdx (wPk 2) (fz (wC (.int 0))))) (fz (wOp fMul (wPk 5) (fz (wOp fIdx (wPk 3) (fz (wC (.int 0))))))))) (wCons (fz (wOp fSub (fz (wOp fIdx (wPk 2) (fz (wC (.int 1))))) (fz (wOp fMul (wPk 5) (fz (wOp fIdx (wPk 3) (fz (wC (.int 1))))))))) (wCons (fz (wOp fSub (fz (wOp fIdx (wPk 2) (fz (wC (.int 2))))) (fz (wOp fMul (wPk 5) (fz (wOp fIdx (wPk 3) (fz (wC (.int 2))))))))) wNil))))) wNil))))))
  (wRet (wTup (wCons (fz (wV 0)) (wCons (fz (wOp fMul (fz (w1 fNeg (fz (wOp fIdx (wPk 2) (fz (wC (.int 2))))))) (fz (wOp fIdx (wPk 2) (fz (wC (.int 0))))))) (wCons (fz (wV 1)) (wCons (fz (wOp fMul (fz (wOp fIdx (wPk 2) (fz (wC (.int 1))))) (fz (wOp fIdx (wPk 2) (fz (wC (.int 0))))))) wNil)))))))))
theorem hw_Lcolumn : ∀ ds tk Q, sp_Lcolumn ds tk Q → c_Lcolumn { nx := fun _ t => Q (.val .non) t, rt := Q } (start N_Lcolumn.length ds) tk := by
  intro ds tk Q h_
  obtain ⟨x, y, rfl, hx, hy, hg, q⟩ := op_Lcolumn h_
  have s1 : Sm 2 1 := show (1 : Int).natAbs < 2 ^ 2 by decide
  have s0 : Sm 2 0 := show (0 : Int).natAbs < 2 ^ 2 by decide
  have start : ColI x y 0 x 1 0 y 0 1 := ⟨by omega, by omega, hg, ⟨hx, hy⟩, ⟨⟨s1, s0⟩, s0, s1⟩, .inl rfl⟩
  refine ⟨rfl, rfl, ?_⟩
  simp only [gCs, gN, gNl, start_def, List.map_cons, List.map_nil, List.set_cons_zero, List.set_cons_succ, List.replicate_succ, List.replicate_zero, List.cons_append, List.nil_append, List.length_cons, List.length_nil, Nat.reduceAdd, Nat.reduceSub]
  refine seq_cut (a := wFor _ _ _) (fun e t => t = tk ∧ ∃ (a u v : Int) (x3 x4 x5 : Option EV), a * a = 1 ∧ a = u * x + v * y ∧ Sm 25000 u ∧ Sm 25000 v ∧ Sm 60 a ∧ e = [some (.val (.int (x))), some (.val (.int (y))), some (.val (.tup [.int a, .int u, .int v])), x3, x4, x5]) (fun R0 hR0 => ?_) ?_
  · refine ⟨by decide, by decide, ?_⟩
    have fin : ∀ {i : Nat} {a u v p q : Int} (x3 x4 x5 : Option EV), i ≤ 400 → ColI x y i a u v 0 p q → R0 [some (.val (.int (x))), some (.val (.int (y))), some (.val (.tup [.int a, .int u, .int v])), x3, x4, x5] tk := fun {i a u v p q} x3 x4 x5 hi I => by
      have g := I.g
      have aa : a.natAbs = 1 := by
        have : Int.gcd a 0 = a.natAbs := Int.gcd_zero_right a
        omega
      refine hR0 _ _ ⟨rfl, a, u, v, x3, x4, x5, ?_, I.e1, I.su.1.1.mono (by omega), I.su.1.2.mono (by omega), I.sa.1, rfl⟩
      rcases (by omega : a = 1 ∨ a = -1) with rfl | rfl <;> decide
    refine forGo_rng (fun i e t => t = tk ∧ ∃ (a u v b p q : Int) (x4 x5 : Option EV), ColI x y i a u v b p q ∧ e = [some (.val (.int (x))), some (.val (.int (y))), some (.val (.tup [.int a, .int u, .int v])), some (.val (.tup [.int b, .int p, .int q])), x4, x5]) (fun i e t R hi hI hR => ?_) (fun e t hI => ?_) ⟨rfl, x, 1, 0, y, 0, 1, none, none, start, rfl⟩
    rotate_left
    · obtain ⟨rfl, a, u, v, b, p, q', x4, x5, I, rfl⟩ := hI
      have b0 : b = 0 := by
        refine Decidable.byContradiction fun z => ?_
        rcases I.ms with h | ⟨h1, h2, h3⟩
        · exact absurd h (by decide)
        · have k := h3 z
          have p1 : 1 ≤ a.natAbs * b.natAbs := Nat.mul_pos (by omega) (by omega)
          have := Nat.mul_le_mul_right (2 ^ (Int.toNat 400)) p1
          have big : 2 * (2 ^ 60 * 2 ^ 60) < 1 * 2 ^ (Int.toNat 400) := by decide +kernel
          omega
      subst b0
      exact fin _ _ _ (Nat.le_refl 400) I
    obtain ⟨rfl, a, u, v, b, p, q', x4, x5, I, rfl⟩ := hI
    have hi' : i < 400 := hi
    refine if2 (fun h => ?_) (fun h => ?_)
    · have h : b = 0 := h
      subst h
      exact fin _ _ _ (by omega) I
    · have b0 : ¬ b = 0 := h
      have st : Sm 60 (a.fdiv b) := I.sa.1.fdiv
      obtain ⟨⟨t1, t2⟩, t3, t4⟩ := I.su
      have m1 : MulOk (a.fdiv b) b := q1 st I.sa.2
      have m2 : MulOk (a.fdiv b) p := q1 st (t3.mono (show 62 * i + 2 ≤ 25000 by omega))
      have m3 : MulOk (a.fdiv b) q' := q1 st (t4.mono (show 62 * i + 2 ≤ 25000 by omega))
      have dk : DivOk a b := DivOk.of (k := 60) b0 I.sa.2 (by decide)
      refine ⟨dk, m1, m2, m3, rfl, ?_⟩
      exact hR _ _ ⟨rfl, b, p, q', a - a.fdiv b * b, u - a.fdiv b * p, v - a.fdiv b * q', _, _, colI_step I b0, rfl⟩
  rintro e t ⟨rfl, a, u, v, x3, x4, x5, aa, e1, su, sv, sa, rfl⟩
  refine ⟨q1 sv.neg sa, q1 su sa, rfl, ?_⟩
  refine q ⟨x, -v * a, y, u * a⟩ rfl rfl ?_ ⟨hx.mono (by decide), (sv.neg.mul sa).mono (by decide), hy.mono (by decide), (su.mul sa).mono (by decide)⟩
  unfold M4.det
  dsimp only
  have e : x * (u * a) - -v * a * y = a * (u * x + v * y) := by grind
  rw [e, ← e1, aa]
end DL
set_option maxHeartbeats 1000000
set_option pp.maxSteps 1200
namespace DL
open PySem PySem.Spec PyProof.Rows L2
/-! ### the law's own measure -/
def LmI (B g A0 B0 i : Nat) (x y : Nat) : Prop := Nat.gcd x y = g ∧ ((i = 0 ∧ x = A0 ∧ y = B0) ∨ (y < x ∧ x < B ∧ (y ≠ 0 → x * y * 2 ^ i ≤ 2 * (B * B))))
theorem lmI_step {B g A0 B0 i x y : Nat} (hA : A0 < B) (hB : B0 < B) (h : LmI B g A0 B0 i x y) (y0 : y ≠ 0) : LmI B g A0 B0 (i + 1) y (x % y) := by
  obtain ⟨hg, hs⟩ := h
  have hm : x % y < y := Nat.mod_lt _ (by omega)
  refine ⟨by rw [← hg, Nat.gcd_comm x y, Nat.gcd_rec y x, Nat.gcd_comm], .inr ⟨hm, ?_, fun r0 => ?_⟩⟩
  · rcases hs with ⟨rfl, rfl, rfl⟩ | ⟨h1, h2, h3⟩ <;> omega
  · rcases hs with ⟨rfl, rfl, rfl⟩ | ⟨h1, h2, h3⟩
    · have := Nat.mul_le_mul (show y ≤ B by omega) (show x % y ≤ B by omega)
      rw [show 2 ^ (0 + 1) = 2 from rfl]
      omega
    · refine Nat.le_trans ?_ (h3 y0)
      have h4 : 2 * (x % y) ≤ x := by
        have e := Nat.div_add_mod x y
        have : 1 ≤ x / y := (Nat.le_div_iff_mul_le (by omega)).mpr (by omega)
        have := Nat.mul_le_mul_left y this
        omega
      have h5 := Nat.mul_le_mul_right (2 ^ i) (Nat.mul_le_mul_left y h4)
      rw [Nat.pow_succ]
      have e1 : y * (x % y) * (2 ^ i * 2) = y * (2 * (x % y)) * 2 ^ i := by grind
      rw [e1, Nat.mul_comm x y]
      exact h5
theorem nat_abs_if {a : Int} : (if a < 0 then -a else a) = (a.natAbs : Int) := by split <;> omega
theorem fmod_nat {x y : Nat} : ((x : Int)).fmod (y : Int) = ((x % y : Nat) : Int) := by rw [Int.fmod_eq_emod_of_nonneg _ (Int.natCast_nonneg _)]; rfl
@[irreducible] def sp_Lmeasure_v1 : FSpec := fun ds tk Q => ∃ (a b : Int), ds = [.int a, .int b] ∧ (Sm 2000 a) ∧ (Sm 2000 b) ∧ Q (.val (.int (Int.gcd a b : Int))) tk
theorem op_Lmeasure_v1 {ds : List D} {tk : Tk} {Q : EV → Tk → Prop} (h : sp_Lmeasure_v1 ds tk Q) : ∃ (a b : Int), ds = [.int a, .int b] ∧ (Sm 2000 a) ∧ (Sm 2000 b) ∧ Q (.val (.int (Int.gcd a b : Int))) tk := by unfold sp_Lmeasure_v1 at h; exact h
theorem mon_Lmeasure_v1 : MonFS sp_Lmeasure_v1 := fun ds tk Q Q' hq_ hs_ => by
  obtain ⟨a, b, e_, ha, hb, q_⟩ := op_Lmeasure_v1 hs_
  unfold sp_Lmeasure_v1
  exact ⟨a, b, e_, ha, hb, hq_ _ _ q_⟩
theorem len_Lmeasure_v1 : ∀ ds tk Q, sp_Lmeasure_v1 ds tk Q → ds.length = 2 := fun ds tk Q hs_ => by
  obtain ⟨a, b, e_, ha, hb, q_⟩ := op_Lmeasure_v1 hs_
  rw [e_]; rfl
theorem cl_Lmeasure_v1 {tk : Tk} {Q : EV → Tk → Prop} {a b : Int} (ha : Sm 2000 a) (hb : Sm 2000 b) (q_ : Q (.val (.int (Int.gcd a b : Int))) tk) : sp_Lmeasure_v1 [.int a, .int b] tk Q := by
  unfold sp_Lmeasure_v1
  exact ⟨a, b, rfl, ha, hb, q_⟩
theorem ce_Lmeasure_v1 {ds_ : List D} {tk : Tk} {Q : EV → Tk → Prop} {a b : Int} (ha : Sm 2000 a) (hb : Sm 2000 b) (e_ : ds_ = [.int a, .int b]) (q_ : Q (.val (.int (Int.gcd a b : Int))) tk) : sp_Lmeasure_v1 ds_ tk Q := by
  subst e_
  unfold sp_Lmeasure_v1
  exact ⟨a, b, rfl, ha, hb, q_⟩
abbrev N_Lmeasure_v1 : List Str := ["_law_a", "_law_b", "_law_k"]
def c_Lmeasure_v1 : WS :=
  (wSeq (wSet 0 (w1 fAbs (wPk 0)))
  (wSeq (wSet 1 (w1 fAbs (wPk 1)))
  (wSeq (wFor (wR1 (fz (wC (.int 5000)))) (gN 2) (wSeq (wIfS (wT (wOp fEq (wPk 1) (fz (wC (.int 0))))) (wRetV 0) wNext)
  (wPar 0 1 (wCons (fz (wV 1)) (wCons (fz (wOp fMod (wPk 0) (wPk 1))) wNil)))))
  (wRetV 0))))
theorem hw_Lmeasure_v1 : ∀ ds tk Q, sp_Lmeasure_v1 ds tk Q → c_Lmeasure_v1 { nx := fun _ t => Q (.val .non) t, rt := Q } (start N_Lmeasure_v1.length ds) tk := by
  intro ds tk Q h_
  obtain ⟨a, b, rfl, ha, hb, q⟩ := op_Lmeasure_v1 h_
  obtain ⟨B, hB⟩ : ∃ B : Nat, B = 2 ^ 2000 := ⟨_, rfl⟩
  have ha' : a.natAbs < B := by rw [hB]; exact ha
  have hb' : b.natAbs < B := by rw [hB]; exact hb
  refine ⟨by decide, by decide, ?_⟩
  refine forGo_rng (fun i e t => t = tk ∧ ∃ (x y : Nat) (xi yi : Int) (x2 : Option EV), LmI B (Int.gcd a b) a.natAbs b.natAbs i x y ∧ xi = (x : Int) ∧ yi = (y : Int) ∧ e = [some (.val (.int xi)), some (.val (.int yi)), x2]) (fun i e t R hi hI hR => ?_) (fun e t hI => ?_) ⟨rfl, a.natAbs, b.natAbs, _, _, none, ⟨rfl, .inl ⟨rfl, rfl, rfl⟩⟩, nat_abs_if, nat_abs_if, rfl⟩
  · obtain ⟨rfl, x, y, xi, yi, x2, hI, hx, hy, rfl⟩ := hI
    refine if2 (fun h0 => ?_) (fun h0 => ?_)
    · have y0 : y = 0 := by omega
      subst y0
      have e : xi = (Int.gcd a b : Int) := by rw [← hI.1, Nat.gcd_zero_right]; exact hx
      rw [← e] at q
      exact q
    · refine ⟨h0, ?_⟩
      refine hR _ _ ⟨rfl, y, x % y, yi, xi.fmod yi, _, lmI_step ha' hb' hI (by omega), hy, by rw [hx, hy, fmod_nat], rfl⟩
  · obtain ⟨rfl, x, y, xi, yi, x2, ⟨hg, hs⟩, hx, hy, rfl⟩ := hI
    have y0 : y = 0 := by
      rcases hs with ⟨h, _⟩ | ⟨h1, h2, h3⟩
      · exact absurd h (by decide)
      · refine Decidable.byContradiction fun z => ?_
        have h4 := h3 z
        have h5 : 1 * 2 ^ 5000 ≤ x * y * 2 ^ 5000 := Nat.mul_le_mul_right _ (Nat.mul_pos (by omega) (by omega))
        have h6 : 2 * (B * B) = 2 ^ 4001 := by rw [show 4001 = 2000 + 2000 + 1 from rfl, Nat.pow_succ, Nat.pow_add, ← hB, Nat.mul_comm]
        have h7 : 2 ^ 4001 < 2 ^ 5000 := Nat.pow_lt_pow_right (by decide) (by decide)
        have h8 : x * y * 2 ^ 5000 ≤ 2 ^ 4001 := by rw [← h6]; exact h4
        rw [Nat.one_mul] at h5
        exact absurd (Nat.lt_of_le_of_lt (Nat.le_trans h5 h8) h7) (Nat.lt_irrefl _)
    subst y0
    have e : xi = (Int.gcd a b : Int) := by rw [← hg, Nat.gcd_zero_right]; exact hx
    rw [← e] at q
    exact q
end DL
set_option maxHeartbeats 1000000
set_option pp.maxSteps 1200
namespace DL
open PySem PySem.Spec PyProof.Rows L2
structure EndOk (f : F3) (l X Y : Int) : Prop where
  e1 : 2 * f.a * X + f.b * Y = -l * Y
  e2 : f.b * X + 2 * f.c * Y = l * X
  nz : X ≠ 0 ∨ Y ≠ 0
theorem end_div {f : F3} {l X Y : Int} (h : EndOk f l X Y) : (Int.gcd X Y : Int) ≠ 0 ∧ EndOk f l (X.fdiv (Int.gcd X Y : Int)) (Y.fdiv (Int.gcd X Y : Int)) ∧ Int.gcd (X.fdiv (Int.gcd X Y : Int)) (Y.fdiv (Int.gcd X Y : Int)) = 1 := by
  obtain ⟨g0, x1, x2, x3⟩ := gcd_div h.nz
  refine ⟨g0, ⟨?_, ?_, ?_⟩, x3⟩
  · have e := h.e1
    refine Int.eq_of_mul_eq_mul_left g0 ?_
    generalize (Int.gcd X Y : Int) = g at *
    generalize X.fdiv g = a at *
    generalize Y.fdiv g = b at *
    rw [← x1, ← x2] at e
    grind
  · have e := h.e2
    refine Int.eq_of_mul_eq_mul_left g0 ?_
    generalize (Int.gcd X Y : Int) = g at *
    generalize X.fdiv g = a at *
    generalize Y.fdiv g = b at *
    rw [← x1, ← x2] at e
    grind
  · refine Classical.byContradiction fun z => ?_
    have z1 : X.fdiv (Int.gcd X Y : Int) = 0 := by omega
    have z2 : Y.fdiv (Int.gcd X Y : Int) = 0 := by omega
    rw [z1, z2] at x3
    cases x3
theorem end_act {f : F3} {l : Int} {m : M4} (h : EndOk f l m.p m.r) (hd : m.det = 1) : (f.act m).a = 0 ∧ (f.act m).b = l := by
  obtain ⟨e1, e2, _⟩ := h
  unfold M4.det at hd
  constructor
  · have k : 2 * (f.act m).a = m.p * (2 * f.a * m.p + f.b * m.r) + m.r * (f.b * m.p + 2 * f.c * m.r) := by unfold F3.act F3.worth; dsimp only; grind
    rw [e1, e2] at k
    have : m.p * (-l * m.r) + m.r * (l * m.p) = 0 := by grind
    omega
  · have k : (f.act m).b = (2 * f.a * m.p + f.b * m.r) * m.q + (f.b * m.p + 2 * f.c * m.r) * m.s := by unfold F3.act; dsimp only; grind
    rw [k, e1, e2]
    have : -l * m.r * m.q + l * m.p * m.s = l * (m.p * m.s - m.q * m.r) := by grind
    rw [this, hd, Int.mul_one]
theorem split_can {f h : F3} {k : Int} (e : Eqv f h) (k0 : 0 < k) (ha : h.a = 0) (hb : h.b = k) : CanS k ⟨0, k, h.c.fmod k⟩ ∧ Eqv f ⟨0, k, h.c.fmod k⟩ := by
  have n1 := Int.fmod_nonneg_of_pos h.c k0
  have n2 := Int.fmod_lt_of_pos h.c k0
  refine ⟨⟨rfl, rfl, n1, n2⟩, e.trans ⟨tranM (-(h.c.fdiv k)), by unfold M4.det tranM; dsimp only; omega, ?_⟩⟩
  rw [act_tran]
  have em := Int.mul_fdiv_add_fmod h.c k
  apply F3.ext
  · exact ha
  · show h.b + 2 * h.a * -(h.c.fdiv k) = k
    rw [ha, hb]; omega
  · show h.a * -(h.c.fdiv k) * -(h.c.fdiv k) + h.b * -(h.c.fdiv k) + h.c = h.c.fmod k
    have e3 : k * -(h.c.fdiv k) = -(k * h.c.fdiv k) := Int.mul_neg _ _
    rw [ha, hb, Int.zero_mul, Int.zero_mul, e3]; omega
theorem ends_a {f : F3} {k : Int} (k0 : 0 < k) (hd : f.disc = k * k) (a0 : f.a ≠ 0) : EndOk f (-k) (k - f.b) (2 * f.a) ∧ EndOk f k (-k - f.b) (2 * f.a) := by
  unfold F3.disc at hd
  refine ⟨⟨by grind, by grind, .inr (by omega)⟩, ⟨by grind, by grind, .inr (by omega)⟩⟩
theorem ends_0 {f : F3} {k : Int} (k0 : 0 < k) (hd : f.disc = k * k) (a0 : f.a = 0) : EndOk f f.b 1 0 ∧ EndOk f (-f.b) f.c (-f.b) ∧ (f.b = k ∨ -f.b = k) := by
  unfold F3.disc at hd
  rw [a0] at hd
  have e : (f.b - k) * (f.b + k) = 0 := by grind
  have bk : f.b = k ∨ -f.b = k := by rcases Int.mul_eq_zero.mp e with z | z <;> omega
  refine ⟨⟨by rw [a0]; omega, by omega, .inl (by decide)⟩, ⟨by rw [a0]; grind, by grind, .inr (by omega)⟩, bk⟩
theorem for_ow15 {i : Nat} {ds : List D} {g : WG} {b : WS} {P : Post} {env : En} {tk : Tk} (he : env[i]? = some (some (.own ds))) (h : forGo g b P ds (env.set i (some (.val (.lst ds)))) tk) : wFor (wSrc (fz (wV i))) g b P env tk := by
  unfold wFor wSrc fz wV
  rw [he]
  exact h
@[irreducible] def sp_Lsplit_least : FSpec := fun ds tk Q => ∃ (f : F3) (k : Int), ds = [f.D] ∧ (f.Sm 50) ∧ (0 < k) ∧ (f.disc = k * k) ∧ ∀ (g : F3), ∀ (hC : CanS k g), ∀ (he : Eqv f g), Q (.val g.D) tk
theorem op_Lsplit_least {ds : List D} {tk : Tk} {Q : EV → Tk → Prop} (h : sp_Lsplit_least ds tk Q) : ∃ (f : F3) (k : Int), ds = [f.D] ∧ (f.Sm 50) ∧ (0 < k) ∧ (f.disc = k * k) ∧ ∀ (g : F3), ∀ (hC : CanS k g), ∀ (he : Eqv f g), Q (.val g.D) tk := by unfold sp_Lsplit_least at h; exact h
theorem mon_Lsplit_least : MonFS sp_Lsplit_least := fun ds tk Q Q' hq_ hs_ => by
  obtain ⟨f, k, e_, hf, hk, hd, q_⟩ := op_Lsplit_least hs_
  unfold sp_Lsplit_least
  exact ⟨f, k, e_, hf, hk, hd, fun g hC he => hq_ _ _ (q_ g hC he)⟩
theorem len_Lsplit_least : ∀ ds tk Q, sp_Lsplit_least ds tk Q → ds.length = 1 := fun ds tk Q hs_ => by
  obtain ⟨f, k, e_, hf, hk, hd, q_⟩ := op_Lsplit_least hs_
  rw [e_]; rfl
theorem cl_Lsplit_least {tk : Tk} {Q : EV → Tk → Prop} {f : F3} {k : Int} (hf : f.Sm 50) (hk : 0 < k) (hd : f.disc = k * k) (q_ : ∀ (g : F3), ∀ (hC : CanS k g), ∀ (he : Eqv f g), Q (.val g.D) tk) : sp_Lsplit_least [f.D] tk Q := by
  unfold sp_Lsplit_least
  exact ⟨f, k, rfl, hf, hk, hd, q_⟩
theorem ce_Lsplit_least {ds_ : List D} {tk : Tk} {Q : EV → Tk → Prop} {f : F3} {k : Int} (hf : f.Sm 50) (hk : 0 < k) (hd : f.disc = k * k) (e_ : ds_ = [f.D]) (q_ : ∀ (g : F3), ∀ (hC : CanS k g), ∀ (he : Eqv f g), Q (.val g.D) tk) : sp_Lsplit_least ds_ tk Q := by
  subst e_
  unfold sp_Lsplit_least
  exact ⟨f, k, rfl, hf, hk, hd, q_⟩
abbrev N_Lsplit_least : List Str := ["_law_form_here", "_law_a", "_law_b", "_law_c", "_law_root_here", "_law_ends", "_law_x", "_law_y", "_law_g", "_law_other_here"]
def c_Lsplit_least : WS :=
  (wSeq (wAsg (fz (wV 0)) (gT 3 (gCs (gN 1) (gCs (gN 2) (gCs (gN 3) gNl)))))
  (wSeq (wSet 4 (wCall sp_Lroot (wCons (fz (wOp fSub (fz (wOp fMul (wPk 2) (wPk 2))) (fz (wOp fMul (fz (wOp fMul (fz (wC (.int 4))) (wPk 1))) (wPk 3))))) wNil)))
  (wSeq (wSet 5 (wLst (wCons (fz (wTup (wCons (fz (wC (.int 1))) (wCons (fz (wC (.int 0))) wNil)))) (wCons (fz (wTup (wCons (fz (wV 3)) (wCons (fz (w1 fNeg (wPk 2))) wNil)))) wNil))))
  (wSeq (wIfS (wT (wOp fNe (wPk 1) (fz (wC (.int 0))))) (wSet 5 (wLst (wCons (fz (wTup (wCons (fz (wOp fSub (wPk 4) (wPk 2))) (wCons (fz (wOp fMul (fz (wC (.int 2))) (wPk 1))) wNil)))) (wCons (fz (wTup (wCons (fz (wOp fSub (fz (w1 fNeg (wPk 4))) (wPk 2))) (wCons (fz (wOp fMul (fz (wC (.int 2))) (wPk 1))) wNil)))) wNil)))) wNext)
  (wSeq (wFor (wSrc (fz (wV 5))) (gT 2 (gCs (gN 6) (gCs (gN 7) gNl))) (wSeq (wSet 8 (wCall sp_Lmeasure_v1 (wCons (fz (wV 6)) (wCons (fz (wV 7)) wNil))))
  (wSeq (wSet 9 (wCall sp_Lact_v1 (wCons (fz (wV 0)) (wCons (fz (wCall sp_Lcolumn (wCons (fz (wOp fDiv (wPk 6) (wPk 8))) (wCons (fz (wOp fDiv (wPk 7) (wPk 8))) wNil)))) wNil))))
  (wIfS (wT (wOp fEq (fz (wOp fIdx (wPk 9) (fz (wC (.int 1))))) (wPk 4))) (wRet (wTup (wCons (fz (wC (.int 0))) (wCons (fz (wV 4)) (wCons (fz (wOp fMod (fz (wOp fIdx (wPk 9) (fz (wC (.int 2))))) (wPk 4))) wNil))))) wNext))))
  (wRet (wC .non)))))))
theorem hw_Lsplit_least : ∀ ds tk Q, sp_Lsplit_least ds tk Q → c_Lsplit_least { nx := fun _ t => Q (.val .non) t, rt := Q } (start N_Lsplit_least.length ds) tk := by
  intro ds tk Q h_
  obtain ⟨f, k, rfl, hf, hk, hd, q⟩ := op_Lsplit_least h_
  have sd := disc_sm2 hf
  obtain ⟨a1, a2, a3⟩ := id hf
  have sk : Sm 54 k := by
    have kk : Sm 106 (k * k) := by rw [← hd]; exact sd.mono (by decide)
    unfold Sm at kk ⊢
    rw [Int.natAbs_mul] at kk
    refine Nat.not_le.mp fun z => ?_
    have := Nat.mul_le_mul z z
    rw [← Nat.pow_add] at this
    have p : 2 ^ 106 ≤ 2 ^ (54 + 54) := by decide
    omega
  refine ⟨rfl, q1 a2 a2, q1 s4 a1, q1 (s4.mul a1) a3, ?_⟩
  obtain ⟨n, hn⟩ : ∃ n : Nat, k = n := ⟨k.toNat, by omega⟩
  have nl : n * n < 2 ^ 1000 := by
    have kk : Sm 1000 (k * k) := (sk.mul sk).mono (by decide)
    unfold Sm at kk
    rw [hn, ← Int.natCast_mul, Int.natAbs_natCast] at kk
    exact kk
  refine ce_Lroot (n := n * n) nl (by rw [Int.natCast_mul, ← hn, ← hd]; rfl) fun s sa sb => ?_
  have es : (s : Int) = k := by
    have : s = n := by
      rcases Nat.lt_trichotomy s n with z | z | z
      · have := Nat.mul_le_mul (show s + 1 ≤ n by omega) (show s + 1 ≤ n by omega); omega
      · exact z
      · have := Nat.mul_lt_mul'' z z; omega
    omega
  rw [es]
  refine ⟨rfl, rfl, rfl, ?_⟩
  simp only [gCs, gN, gNl, start_def, List.map_cons, List.map_nil, List.set_cons_zero, List.set_cons_succ, List.replicate_succ, List.replicate_zero, List.cons_append, List.nil_append, List.length_cons, List.length_nil, Nat.reduceAdd, Nat.reduceSub]
  refine seq_cut (a := wIfS _ _ _) (fun e t => t = tk ∧ ∃ (X1 Y1 X2 Y2 l1 l2 : Int), EndOk f l1 X1 Y1 ∧ EndOk f l2 X2 Y2 ∧ (l1 = k ∨ l2 = k) ∧ (Sm 56 X1 ∧ Sm 56 Y1 ∧ Sm 56 X2 ∧ Sm 56 Y2) ∧ e = [some (.val (f.D)), some (.val (.int (f.a))), some (.val (.int (f.b))), some (.val (.int (f.c))), some (.val (.int (k))), some (.own ([.tup [.int X1, .int Y1], .tup [.int X2, .int Y2]])), none, none, none, none]) (fun R hR => ?_) ?_
  · by_cases z : f.a = 0
    · obtain ⟨e1, e2, e3⟩ := ends_0 hk hd z
      refine ifN z ?_
      exact hR _ _ ⟨rfl, 1, 0, f.c, -f.b, f.b, -f.b, e1, e2, e3, ⟨sm_ss (by decide) (by decide), sm_ss (by decide) (by decide), a3.mono (by decide), a2.neg.mono (by decide)⟩, rfl⟩
    · obtain ⟨e1, e2⟩ := ends_a hk hd z
      refine ifNT z ?_
      have m1 : MulOk 2 f.a := q1 s2 a1
      exact ⟨m1, rfl, m1, rfl, rfl, hR _ _ ⟨rfl, _, _, _, _, _, _, e1, e2, .inr rfl, ⟨(sk.sub (a2.mono (by decide))).mono (by decide), (s2.mul a1).mono (by decide), (sk.neg.sub (a2.mono (by decide))).mono (by decide), (s2.mul a1).mono (by decide)⟩, rfl⟩⟩
  rintro e t ⟨rfl, X1, Y1, X2, Y2, l1, l2, E1, E2, hl, ⟨sx1, sy1, sx2, sy2⟩, rfl⟩
  refine seq_cut (a := wFor _ _ _) (fun e t => False) (fun R0 hR0 => ?_) (fun e t h => h.elim)
  refine for_ow15 (ds := [.tup [.int X1, .int Y1], .tup [.int X2, .int Y2]]) rfl ?_
  simp only [gCs, gN, gNl, start_def, List.map_cons, List.map_nil, List.set_cons_zero, List.set_cons_succ, List.replicate_succ, List.replicate_zero, List.cons_append, List.nil_append, List.length_cons, List.length_nil, Nat.reduceAdd, Nat.reduceSub]
  refine forGo_inv (ds := [.tup [.int X1, .int Y1], .tup [.int X2, .int Y2]]) (fun i e t' => t' = t ∧ (1 ≤ i → l1 ≠ k) ∧ (2 ≤ i → l2 ≠ k) ∧ ∃ x6 x7 x8 x9 : Option EV, e = [some (.val (f.D)), some (.val (.int (f.a))), some (.val (.int (f.b))), some (.val (.int (f.c))), some (.val (.int (k))), some (.val (.lst [.tup [.int X1, .int Y1], .tup [.int X2, .int Y2]])), x6, x7, x8, x9]) (fun i z e t' R hz hI hR => ?_) (fun e t' hI => ?_) ⟨rfl, fun h => by omega, fun h => by omega, none, none, none, none, rfl⟩
  rotate_left
  · obtain ⟨rfl, h1, h2, _⟩ := hI
    rcases hl with h | h
    · exact absurd h (h1 (show 1 ≤ 2 by decide))
    · exact absurd h (h2 (show 2 ≤ 2 by decide))
  obtain ⟨rfl, h1, h2, x6, x7, x8, x9, rfl⟩ := hI
  obtain ⟨X, Y, l, rfl, E, sx, sy, nx1, nx2⟩ : ∃ X Y l : Int, z = .tup [.int X, .int Y] ∧ EndOk f l X Y ∧ Sm 56 X ∧ Sm 56 Y ∧ (l ≠ k → (1 ≤ i + 1 → l1 ≠ k)) ∧ (l ≠ k → (2 ≤ i + 1 → l2 ≠ k)) := by
    rcases i with _ | _ | i
    · cases hz; exact ⟨X1, Y1, l1, rfl, E1, sx1, sy1, fun h _ => h, fun h _ => by omega⟩
    · cases hz; exact ⟨X2, Y2, l2, rfl, E2, sx2, sy2, fun h _ => h1 (by omega), fun h _ => h⟩
    · cases hz
  obtain ⟨g0, E', cop⟩ := end_div E
  refine ⟨rfl, ?_⟩
  refine cl_Lmeasure_v1 (a := X) (b := Y) (sx.mono (by decide)) (sy.mono (by decide)) ?_
  have sg : Sm 57 (Int.gcd X Y : Int) := by
    have k : Int.gcd X Y ≤ X.natAbs ∨ Int.gcd X Y ≤ Y.natAbs := by
      rcases E.nz with z | z
      · exact .inl (Nat.gcd_le_left _ (by omega))
      · exact .inr (Nat.gcd_le_right _ (by omega))
    have p : (2 : Nat) ^ 56 ≤ 2 ^ 57 := by decide
    unfold Sm at sx sy ⊢
    rw [Int.natAbs_natCast]
    omega
  have dk : ∀ {x : Int}, DivOk x (Int.gcd X Y : Int) := fun {x} => DivOk.of (k := 57) g0 sg (by decide)
  refine ⟨dk, dk, ?_⟩
  refine cl_Lcolumn (x := X.fdiv (Int.gcd X Y : Int)) (y := Y.fdiv (Int.gcd X Y : Int)) (sx.fdiv.mono (by decide)) (sy.fdiv.mono (by decide)) cop fun m mp mr md sm => ?_
  refine cl_Lact_v1 (f := f) (m := m) (hf.up (by decide)) (sm.up (by decide)) ?_
  obtain ⟨ha, hb⟩ := end_act (m := m) (by rw [mp, mr]; exact E') md
  refine if2 (fun h => ?_) (fun h => ?_)
  · have h : (f.act m).b = k := h
    obtain ⟨C, e⟩ := split_can (f := f) (h := f.act m) ⟨m, md, rfl⟩ hk ha h
    have kz : k ≠ 0 := by omega
    exact ⟨kz, rfl, q _ C e⟩
  · have h : ¬ (f.act m).b = k := h
    have lk : l ≠ k := fun z => h (by rw [hb, z])
    exact hR _ _ ⟨rfl, nx1 lk, nx2 lk, _, _, _, _, rfl⟩
end DL
set_option maxHeartbeats 1000000
namespace DL
theorem bez (a b : Nat) : ∃ u v : Int, u * a + v * b = (Nat.gcd a b : Nat) := by
  induction a, b using Nat.gcd.induction with
  | H0 n => exact ⟨0, 1, by rw [Nat.gcd_zero_left]; omega⟩
  | H1 m n h ih =>
    obtain ⟨u, v, e⟩ := ih
    refine ⟨v - u * (n / m : Nat), u, ?_⟩
    rw [Nat.gcd_rec m n, ← e]
    have k : (n : Int) = (m : Int) * ((n / m : Nat) : Int) + ((n % m : Nat) : Int) := by
      have := Nat.div_add_mod n m
      have h2 := congrArg (fun z : Nat => (z : Int)) this
      simp only [Int.natCast_add, Int.natCast_mul] at h2
      exact h2.symm
    generalize ((n % m : Nat) : Int) = r at *
    generalize ((n / m : Nat) : Int) = t at *
    rw [k]
    grind
theorem bez_int {p q : Int} (h : Int.gcd p q = 1) : ∃ u v : Int, u * p + v * q = 1 := by
  obtain ⟨u, v, e⟩ := bez p.natAbs q.natAbs
  have hg : Nat.gcd p.natAbs q.natAbs = 1 := h
  rw [hg] at e
  obtain ⟨s, hs⟩ : ∃ s : Int, (p.natAbs : Int) = s * p := by
    rcases Int.le_total 0 p with z | z
    · exact ⟨1, by omega⟩
    · exact ⟨-1, by omega⟩
  obtain ⟨t, ht⟩ : ∃ t : Int, (q.natAbs : Int) = t * q := by
    rcases Int.le_total 0 q with z | z
    · exact ⟨1, by omega⟩
    · exact ⟨-1, by omega⟩
  refine ⟨u * s, v * t, ?_⟩
  rw [hs, ht] at e
  have e1 : u * s * p + v * t * q = u * (s * p) + v * (t * q) := by grind
  rw [e1, e]; rfl
theorem flat_eqv {f : F3} (h : IsFlat f) : Eqv f ⟨flatG f, 0, 0⟩ := by
  obtain ⟨g, p, q, rfl, c⟩ := flat_prim h
  obtain ⟨u, v, e⟩ := bez_int c
  rw [flat_sign c]
  refine ⟨⟨u, -q, v, p⟩, ?_, ?_⟩
  · unfold M4.det; dsimp only
    rw [← e]; grind
  · rw [flat_act]
    dsimp only
    have e1 : p * u + q * v = 1 := by rw [← e]; grind
    have e2 : p * -q + q * p = 0 := by grind
    rw [e1, e2]
    apply F3.ext <;> (unfold flatF; dsimp only) <;> omega
theorem flat_neg {f : F3} (h : IsFlat f) : (f.a < 0 ∨ f.c < 0) ↔ f.a + f.c < 0 := by
  obtain ⟨g, p, q, rfl⟩ := h
  unfold flatF
  dsimp only
  have pp := sq_nn p
  have qq := sq_nn q
  have ea : g * p * p = g * (p * p) := by grind
  have ec : g * q * q = g * (q * q) := by grind
  rw [ea, ec]
  rcases Int.le_total 0 g with z | z
  · have := Int.mul_nonneg z pp
    have := Int.mul_nonneg z qq
    omega
  · have h1 := Int.mul_nonneg (show 0 ≤ -g by omega) pp
    have h2 := Int.mul_nonneg (show 0 ≤ -g by omega) qq
    rw [Int.neg_mul] at h1 h2
    omega
end DL
set_option maxHeartbeats 1000000
set_option pp.maxSteps 1200
namespace DL
open PySem PySem.Spec PyProof.Rows L2
theorem lcM15 {α : Type} {g : WG} {elt : WE} {vs : List Nat} {env : En} {tk : Tk} {K : List D → Tk → Prop} (enc : α → D) (f : α → D) (mg : ∀ d e Q Q', (∀ x, Q x → Q' x) → g d e Q → g d e Q') : ∀ (xs : List α) (acc : List D)
    (hs : ∀ x ∈ xs, ∀ (C : D → Tk → Prop), C (f x) tk → g (enc x) (wipeE env vs) fun e1 => e1 = e1 ∧ elt e1 tk fun ev e3 t3 => e3 = e1 ∧ C ev.d t3), acc.length + xs.length < sizeLine → K (acc ++ xs.map f) tk → lcGo g wYes elt vs env (xs.map enc) acc tk K
  | [], acc, _, _, k => by
    rw [List.map_nil, List.append_nil] at k
    exact k
  | x :: xs, acc, hs, hl, k => by
    rw [List.length_cons] at hl
    have h := hs x List.mem_cons_self (fun d t => acc.length < sizeLine ∧ lcGo g wYes elt vs env (xs.map enc) (acc ++ [d]) t K) ⟨by omega, lcM15 enc f mg xs _ (fun y hy => hs y (List.mem_cons_of_mem _ hy)) (by rw [List.length_append]; simp only [List.length_cons, List.length_nil]; omega) (by rw [List.append_assoc]; exact k)⟩
    exact mg _ _ _ _ (fun e1 z => ⟨rfl, ifB rfl z.2⟩) h
theorem minOk_rg15 (r : Int) (f : F3) {l : Nat} (l0 : 1 ≤ l) : MinOk (rgL r f l) := by
  refine ⟨fun e => ?_, fun x hx => ?_, fun x hx y hy => ?_, fun x hx => ?_⟩
  · have := rgL_len r f l
    rw [e, List.length_nil] at this
    omega
  · obtain ⟨i, _, rfl⟩ := List.mem_map.mp hx; exact F3.ok_ _
  · obtain ⟨i, _, rfl⟩ := List.mem_map.mp hx
    obtain ⟨j, _, rfl⟩ := List.mem_map.mp hy
    exact alike_tI (nxtN r i f).L (nxtN r j f).L
  · obtain ⟨i, _, rfl⟩ := List.mem_map.mp hx
    exact fun z => nomatch z
theorem seq_no {f : F3} {s : Str} (h : kindS f ≠ s) : (kindS f == s) = false := beq_eq_false_iff_ne.mpr h
theorem seq_yes {f : F3} {s : Str} (h : kindS f = s) : (kindS f == s) = true := by rw [h]; exact beq_self_eq_true s
@[irreducible] def sp_Lcanonical : FSpec := fun ds tk Q => ∃ (f : F3), ds = [f.D] ∧ (f.Sm 50) ∧ (f.disc ≤ 3200) ∧ ∀ (g : F3), ∀ (hC : CanF f g), Q (.val g.D) tk
theorem op_Lcanonical {ds : List D} {tk : Tk} {Q : EV → Tk → Prop} (h : sp_Lcanonical ds tk Q) : ∃ (f : F3), ds = [f.D] ∧ (f.Sm 50) ∧ (f.disc ≤ 3200) ∧ ∀ (g : F3), ∀ (hC : CanF f g), Q (.val g.D) tk := by unfold sp_Lcanonical at h; exact h
theorem mon_Lcanonical : MonFS sp_Lcanonical := fun ds tk Q Q' hq_ hs_ => by
  obtain ⟨f, e_, hf, hd, q_⟩ := op_Lcanonical hs_
  unfold sp_Lcanonical
  exact ⟨f, e_, hf, hd, fun g hC => hq_ _ _ (q_ g hC)⟩
theorem len_Lcanonical : ∀ ds tk Q, sp_Lcanonical ds tk Q → ds.length = 1 := fun ds tk Q hs_ => by
  obtain ⟨f, e_, hf, hd, q_⟩ := op_Lcanonical hs_
  rw [e_]; rfl
theorem cl_Lcanonical {tk : Tk} {Q : EV → Tk → Prop} {f : F3} (hf : f.Sm 50) (hd : f.disc ≤ 3200) (q_ : ∀ (g : F3), ∀ (hC : CanF f g), Q (.val g.D) tk) : sp_Lcanonical [f.D] tk Q := by
  unfold sp_Lcanonical
  exact ⟨f, rfl, hf, hd, q_⟩
theorem ce_Lcanonical {ds_ : List D} {tk : Tk} {Q : EV → Tk → Prop} {f : F3} (hf : f.Sm 50) (hd : f.disc ≤ 3200) (e_ : ds_ = [f.D]) (q_ : ∀ (g : F3), ∀ (hC : CanF f g), Q (.val g.D) tk) : sp_Lcanonical ds_ tk Q := by
  subst e_
  unfold sp_Lcanonical
  exact ⟨f, rfl, hf, hd, q_⟩
abbrev N_Lcanonical : List Str := ["_law_form_here", "_law_sort", "_law_g", "_law_part"]
def c_Lcanonical : WS :=
  (wSeq (wSet 1 (wCall sp_Lkind (wCons (fz (wV 0)) wNil)))
  (wSeq (wIfS (wAnd (wT (wOp fEq (wPk 1) (fz (wC (.str "definite"))))) (wT (wOp fGt (fz (wOp fIdx (wPk 0) (fz (wC (.int 0))))) (fz (wC (.int 0)))))) (wRet (wCall sp_Lpositive (wCons (fz (wV 0)) wNil))) wNext)
  (wSeq (wIfS (wT (wOp fEq (wPk 1) (fz (wC (.str "definite"))))) (wRet (w1 fTuple (fz (wLc (wSrc (fz (wCall sp_Lpositive (wCons (fz (wLc (wSrc (fz (wV 0))) (gN 3) wYes (w1 fNeg (wPk 3)) [3])) wNil)))) (gN 3) wYes (w1 fNeg (wPk 3)) [3])))) wNext)
  (wSeq (wIfS (wT (wOp fEq (wPk 1) (fz (wC (.str "flat"))))) (wSeq (wSet 2 (wCall sp_Lmeasure_v1 (wCons (fz (wCall sp_Lmeasure_v1 (wCons (fz (wOp fIdx (wPk 0) (fz (wC (.int 0))))) (wCons (fz (wOp fIdx (wPk 0) (fz (wC (.int 1))))) wNil)))) (wCons (fz (wOp fIdx (wPk 0) (fz (wC (.int 2))))) wNil))))
  (wRet (wTup (wCons (fz (wOp fIdx (fz (wLst (wCons (fz (wV 2)) (wCons (fz (w1 fNeg (wPk 2))) wNil)))) (fz (w1 fInt (fz (wOp fLt (fz (wOp fAdd (fz (wOp fIdx (wPk 0) (fz (wC (.int 0))))) (fz (wOp fIdx (wPk 0) (fz (wC (.int 2))))))) (fz (wC (.int 0))))))))) (wCons (fz (wC (.int 0))) (wCons (fz (wC (.int 0))) wNil)))))) wNext)
  (wSeq (wIfS (wT (wOp fEq (wPk 1) (fz (wC (.str "split"))))) (wRet (wCall sp_Lsplit_least (wCons (fz (wV 0)) wNil))) wNext)
  (wRet (w1 fMin1 (fz (wCall sp_Lring_v1 (wCons (fz (wCall sp_Llowered (wCons (fz (wV 0)) wNil))) wNil))))))))))
theorem hw_Lcanonical : ∀ ds tk Q, sp_Lcanonical ds tk Q → c_Lcanonical { nx := fun _ t => Q (.val .non) t, rt := Q } (start N_Lcanonical.length ds) tk := by
  intro ds tk Q h_
  obtain ⟨f, rfl, hf, hd, q⟩ := op_Lcanonical h_
  refine cl_Lkind (f := f) (hf.up (by decide)) ?_
  obtain ⟨a1, a2, a3⟩ := id hf
  by_cases h1 : f.disc < 0
  · have k := kindS_1 h1
    refine ⟨kindS_ok f, ok_str1, ifB (seq_yes k) ?_⟩
    refine if2 (fun hp => ?_) (fun hp => ?_)
    · have hp : f.a > 0 := hp
      refine cl_Lpositive (f := f) (x := f.D) (.inl rfl) hp h1 (hf.up (by decide)) fun g he hr ga sg => ?_
      obtain ⟨m, hm, e⟩ := he
      exact q g ⟨⟨m, hm, e⟩, .inl ⟨h1, m, ⟨e, hm, .inl ⟨hp, ga, hr⟩⟩⟩⟩
    have hp : ¬ f.a > 0 := hp
    have an : f.a < 0 := by have := def_a h1; omega
    refine ⟨kindS_ok f, ok_str1, ifB (seq_yes k) ?_⟩
    have nd : F3.disc ⟨-f.a, -f.b, -f.c⟩ = f.disc := by unfold F3.disc; dsimp only; grind
    refine ⟨rfl, ?_⟩
    refine lcM15 (g := gN 3) D.int (fun x => D.int (-x)) (fun d e Q Q' h z => h _ z) [f.a, f.b, f.c] [] (fun x hx C hC => ⟨rfl, rfl, hC⟩) (show 3 < sizeLine by decide) ?_
    refine cl_Lpositive (f := ⟨-f.a, -f.b, -f.c⟩) (x := .lst [.int (-f.a), .int (-f.b), .int (-f.c)]) (.inr rfl) (show 0 < -f.a by omega) (by rw [nd]; exact h1) ⟨a1.neg.mono (by decide), a2.neg.mono (by decide), a3.neg.mono (by decide)⟩ fun g he hr ga sg => ?_
    refine ⟨rfl, ?_⟩
    refine lcM15 (g := gN 3) D.int (fun x => D.int (-x)) (fun d e Q Q' h z => h _ z) [g.a, g.b, g.c] [] (fun x hx C hC => ⟨rfl, rfl, hC⟩) (show 3 < sizeLine by decide) ?_
    obtain ⟨m, hm, e⟩ := he
    have e2 : f.act m = ⟨-g.a, -g.b, -g.c⟩ := by
      rw [neg_form] at e
      rw [← e]
      apply F3.ext <;> (dsimp only; omega)
    exact q ⟨-g.a, -g.b, -g.c⟩ ⟨⟨m, hm, e2⟩, .inl ⟨h1, m, ⟨e2, hm, .inr ⟨an, by dsimp only; omega, by rw [show F3.scale ⟨-g.a, -g.b, -g.c⟩ (-1) = g from by apply F3.ext <;> (unfold F3.scale; dsimp only; omega)]; exact hr⟩⟩⟩⟩
  have nd : kindS f ≠ "definite" := fun z => h1 (kind_def z)
  refine ⟨kindS_ok f, ok_str1, ifBF (seq_no nd) (at_nx15 ?_)⟩
  dsimp only
  refine ⟨kindS_ok f, ok_str1, ifBF (seq_no nd) (at_nx15 ?_)⟩
  dsimp only
  by_cases h2 : f.disc = 0
  · have k := kindS_2 h2
    have fl := flat_of0 h2
    refine ⟨kindS_ok f, ok_str2, ifB (seq_yes k) ?_⟩
    have sg : Sm 2000 ((Int.gcd f.a f.b : Nat) : Int) := by
      have h3 : Int.gcd f.a f.b ≤ f.a.natAbs + f.b.natAbs := by
        rcases Nat.eq_zero_or_pos f.a.natAbs with z | z
        · have : Int.gcd f.a f.b = f.b.natAbs := by show Nat.gcd _ _ = _; rw [z, Nat.gcd_zero_left]
          omega
        · have : Int.gcd f.a f.b ≤ f.a.natAbs := Nat.gcd_le_left _ z
          omega
      show ((Int.gcd f.a f.b : Nat) : Int).natAbs < 2 ^ 2000
      rw [Int.natAbs_natCast]
      have p1 : f.a.natAbs < 2 ^ 50 := a1
      have p2 : f.b.natAbs < 2 ^ 50 := a2
      have p3 : 2 ^ 50 + 2 ^ 50 ≤ 2 ^ 2000 := by decide +kernel
      omega
    refine cl_Lmeasure_v1 (a := f.a) (b := f.b) (a1.mono (by decide)) (a2.mono (by decide)) ?_
    refine cl_Lmeasure_v1 (a := ((Int.gcd f.a f.b : Nat) : Int)) (b := f.c) sg (a3.mono (by decide)) ?_
    have done : Q (.val (F3.D ⟨flatG f, 0, 0⟩)) tk := q _ ⟨flat_eqv fl, .inr (.inl ⟨h2, rfl, rfl⟩)⟩
    have key : fIdx (.lst [.int (cont f), .int (-(cont f))]) (.int (if decide (f.a + f.c < 0) = true then 1 else 0)) (fun ev => (Nat.ble 3 1000 = true) ∧ Q (.val (.tup [ev.d, .int 0, .int 0])) tk) := by
      unfold flatG at done
      refine idx_bb (fun h => ⟨rfl, ?_⟩) (fun h => ⟨rfl, ?_⟩)
      · rw [if_pos ((flat_neg fl).mpr (of_decide_eq_true h))] at done; exact done
      · rw [if_neg (fun z => (of_decide_eq_false h) ((flat_neg fl).mp z))] at done; exact done
    exact ⟨rfl, key⟩
  have nf : kindS f ≠ "flat" := fun z => by
    by_cases y : IsSq f.disc
    · rw [kindS_3 (by omega) y] at z; exact absurd z (by decide)
    · rw [kindS_4 h1 y] at z; exact absurd z (by decide)
  refine ⟨kindS_ok f, ok_str2, ifBF (seq_no nf) (at_nx15 ?_)⟩
  dsimp only
  by_cases h3 : IsSq f.disc
  · have k := kindS_3 (by omega) h3
    refine ⟨kindS_ok f, ok_str4, ifB (seq_yes k) ?_⟩
    obtain ⟨w, hw⟩ := h3
    obtain ⟨w', w0, hw'⟩ : ∃ w' : Int, 0 < w' ∧ f.disc = w' * w' := by
      rcases Int.lt_trichotomy w 0 with y | y | y
      · exact ⟨-w, by omega, by rw [Int.neg_mul_neg, hw]⟩
      · rw [y] at hw; omega
      · exact ⟨w, y, hw.symm⟩
    refine cl_Lsplit_least (f := f) (k := w') hf w0 hw' fun g C e => ?_
    exact q g ⟨e, .inr (.inr (.inl ⟨w', w0, hw', C⟩))⟩
  have k := kindS_4 h1 h3
  refine ⟨kindS_ok f, ok_str4, ifBF (seq_no (by rw [k]; decide)) (at_nx15 ?_)⟩
  dsimp only
  obtain ⟨a, b, c⟩ := isq_spec (n := f.disc) (by omega)
  have hr := rt_of a b c h3
  generalize (Float64.isqrt f.disc.toNat : Int) = r at hr
  have rb : r ≤ 56 := by
    refine Int.not_lt.mp fun y => ?_
    have := Int.mul_le_mul (show 57 ≤ r by omega) (show 57 ≤ r by omega) (by decide) (by omega)
    have := hr.lo
    omega
  refine cl_Llowered (f := f) (r := r) (hf.up (by decide)) hr h3 fun g hg e sg => ?_
  have gd := eqv_disc e
  have hrg : Rt g.disc r := by rw [gd]; exact hr
  have hsg : ¬ IsSq g.disc := by rw [gd]; exact h3
  obtain ⟨l, P, hl⟩ := cy_exists (B := 29) hrg hg (by omega)
  have hl : l ≤ 1740 := hl
  refine cl_Lring_v1 (f := g) (r := r) (l := l) hrg hg (by omega) P (by omega) ?_
  refine ⟨minOk_rg15 r g P.l0, fun d hd' hmin => ?_⟩
  obtain ⟨i, hi, rfl⟩ := List.mem_map.mp hd'
  have hL : LeastOf r g (nxtN r i g) := least_cy hsg hrg hg P fun j hj z => by
    have k := hmin (nxtN r j g).D (List.mem_map.mpr ⟨j, List.mem_range.mpr hj, rfl⟩)
    rw [F3.tI, F3.tI, dLt_tI, decide_eq_true z] at k
    cases k
  exact q _ ⟨e.trans hL.eqv, .inr (.inr (.inr ⟨by omega, h3, r, hr, ⟨hL.red, e.trans hL.eqv, fun h hh e' => hL.min h hh (e.symm.trans e')⟩⟩))⟩
end DL
set_option maxHeartbeats 1000000
set_option pp.maxSteps 1200
namespace DL
open PySem PySem.Spec PyProof.Rows L2
@[irreducible] def sp_Lring : FSpec := fun ds tk Q => ∃ (f : F3) (r : Int) (l : Nat), ds = [f.D] ∧ (Rt f.disc r) ∧ (RedI r f) ∧ (r ≤ 99) ∧ (CyP r f l) ∧ (l ≤ 3000) ∧ Q (.own (rgL r f l)) tk
theorem op_Lring {ds : List D} {tk : Tk} {Q : EV → Tk → Prop} (h : sp_Lring ds tk Q) : ∃ (f : F3) (r : Int) (l : Nat), ds = [f.D] ∧ (Rt f.disc r) ∧ (RedI r f) ∧ (r ≤ 99) ∧ (CyP r f l) ∧ (l ≤ 3000) ∧ Q (.own (rgL r f l)) tk := by unfold sp_Lring at h; exact h
theorem mon_Lring : MonFS sp_Lring := fun ds tk Q Q' hq_ hs_ => by
  obtain ⟨f, r, l, e_, hr, hf, hb, P, hl, q_⟩ := op_Lring hs_
  unfold sp_Lring
  exact ⟨f, r, l, e_, hr, hf, hb, P, hl, hq_ _ _ q_⟩
theorem len_Lring : ∀ ds tk Q, sp_Lring ds tk Q → ds.length = 1 := fun ds tk Q hs_ => by
  obtain ⟨f, r, l, e_, hr, hf, hb, P, hl, q_⟩ := op_Lring hs_
  rw [e_]; rfl
theorem cl_Lring {tk : Tk} {Q : EV → Tk → Prop} {f : F3} {r : Int} {l : Nat} (hr : Rt f.disc r) (hf : RedI r f) (hb : r ≤ 99) (P : CyP r f l) (hl : l ≤ 3000) (q_ : Q (.own (rgL r f l)) tk) : sp_Lring [f.D] tk Q := by
  unfold sp_Lring
  exact ⟨f, r, l, rfl, hr, hf, hb, P, hl, q_⟩
theorem ce_Lring {ds_ : List D} {tk : Tk} {Q : EV → Tk → Prop} {f : F3} {r : Int} {l : Nat} (hr : Rt f.disc r) (hf : RedI r f) (hb : r ≤ 99) (P : CyP r f l) (hl : l ≤ 3000) (e_ : ds_ = [f.D]) (q_ : Q (.own (rgL r f l)) tk) : sp_Lring ds_ tk Q := by
  subst e_
  unfold sp_Lring
  exact ⟨f, r, l, rfl, hr, hf, hb, P, hl, q_⟩
abbrev N_Lring : List Str := ["_law_form_here", "_law_found", "_law_k", "_law_other"]
def c_Lring : WS :=
  (wSeq (wSet 1 (wLst (wCons (fz (wV 0)) wNil)))
  (wSeq (wFor (wR1 (fz (wC (.int 3000)))) (gN 2) (wSeq (wSet 3 (wCall sp_Lneighbour (wCons (fz (wOp fIdx (wPk 1) (fz (wOp fSub (fz (w1 fLen (wPk 1))) (fz (wC (.int 1))))))) wNil)))
  (wSeq (wIfS (wT (wOp fEq (wPk 3) (wPk 0))) (wRetV 1) wNext)
  (wApp 1 (fz (wV 3))))))
  (wRetV 1)))
theorem hw_Lring : ∀ ds tk Q, sp_Lring ds tk Q → c_Lring { nx := fun _ t => Q (.val .non) t, rt := Q } (start N_Lring.length ds) tk := by
  intro ds tk Q h_
  obtain ⟨f, r, l, rfl, hr, hf, hb, P, hl, q⟩ := op_Lring h_
  have l0 := P.l0
  refine ⟨rfl, ?_⟩
  simp only [gCs, gN, gNl, start_def, List.map_cons, List.map_nil, List.set_cons_zero, List.set_cons_succ, List.replicate_succ, List.replicate_zero, List.cons_append, List.nil_append, List.length_cons, List.length_nil, Nat.reduceAdd, Nat.reduceSub]
  refine seq_cut (a := wFor _ _ _) (fun e t => False) (fun R0 hR0 => ?_) (fun e t h => h.elim)
  refine ⟨by decide, by decide, ?_⟩
  refine forGo_rng (fun i e t => t = tk ∧ i + 1 ≤ l ∧ ∃ x2 x3 : Option EV, e = [some (.val (f.D)), some (.own (rgL r f (i + 1))), x2, x3]) (fun i e t R hi hI hR => ?_) (fun e t hI => ?_) ⟨rfl, l0, none, none, rfl⟩
  rotate_left
  · obtain ⟨rfl, h, _⟩ := hI
    have : Int.toNat 3000 = 3000 := rfl
    omega
  obtain ⟨rfl, il, x2, x3, rfl⟩ := hI
  have hri : Rt (nxtN r i f).disc r := by rw [nxtN_disc]; exact hr
  have hfi := nxtN_red hr hf i
  have sfi := red_small hri hfi hb
  refine seq_cut (a := wSet _ _) (fun e t' => t' = t ∧ e = [some (.val (f.D)), some (.own (rgL r f (i + 1))), some (.val (.int ((0+(i:Int))))), some (.val ((nxtN r (i + 1) f).D))]) (fun R1 hR1 => ?_) ?_
  · have key : fIdx (.lst (rgL r f (i + 1))) (.int (((rgL r f (i + 1)).length : Int) - 1)) (fun ev => sp_Lneighbour [ev.d] t fun ev t2 => R1 [some (.val f.D), some (.own (rgL r f (i + 1))), some (.val (.int (0 + (i : Int)))), some ev] t2) := by
      rw [rgL_succ] at hR1 ⊢
      refine idx_end ?_
      refine cl_Lneighbour (f := nxtN r i f) (r := r) (sfi.up (by decide)) hri hfi ?_
      rw [← nxtN_succ]
      exact hR1 _ _ ⟨rfl, rfl⟩
    exact key
  rintro e t' ⟨rfl, rfl⟩
  refine ⟨F3.ok_ _, F3.ok_ _, ?_⟩
  by_cases hi2 : i + 1 = l
  · refine ifB (eqv_eq (by rw [hi2, P.back]) (F3.ok_ _)) ?_
    have k := q
    rw [← hi2] at k
    exact k
  · refine ifBF (eqf3_no (P.first (i + 1) (by omega) (by omega))) ?_
    refine ⟨by rw [rgL_len]; exact szl (by omega), ?_⟩
    have e := rgL_succ r f (i + 1)
    rw [e] at hR
    exact hR _ _ ⟨rfl, by omega, _, _, rfl⟩
@[irreducible] def sp_Lcanonical_v1 : FSpec := fun ds tk Q => ∃ (f : F3), ds = [f.D] ∧ (f.Sm 50) ∧ (f.disc ≤ 3200) ∧ (f.disc ≠ 0) ∧ (¬ IsSq f.disc) ∧ ∀ (g : F3), ∀ (hC : CanF f g), Q (.val g.D) tk
theorem op_Lcanonical_v1 {ds : List D} {tk : Tk} {Q : EV → Tk → Prop} (h : sp_Lcanonical_v1 ds tk Q) : ∃ (f : F3), ds = [f.D] ∧ (f.Sm 50) ∧ (f.disc ≤ 3200) ∧ (f.disc ≠ 0) ∧ (¬ IsSq f.disc) ∧ ∀ (g : F3), ∀ (hC : CanF f g), Q (.val g.D) tk := by unfold sp_Lcanonical_v1 at h; exact h
theorem mon_Lcanonical_v1 : MonFS sp_Lcanonical_v1 := fun ds tk Q Q' hq_ hs_ => by
  obtain ⟨f, e_, hf, hd, h0, h3, q_⟩ := op_Lcanonical_v1 hs_
  unfold sp_Lcanonical_v1
  exact ⟨f, e_, hf, hd, h0, h3, fun g hC => hq_ _ _ (q_ g hC)⟩
theorem len_Lcanonical_v1 : ∀ ds tk Q, sp_Lcanonical_v1 ds tk Q → ds.length = 1 := fun ds tk Q hs_ => by
  obtain ⟨f, e_, hf, hd, h0, h3, q_⟩ := op_Lcanonical_v1 hs_
  rw [e_]; rfl
theorem cl_Lcanonical_v1 {tk : Tk} {Q : EV → Tk → Prop} {f : F3} (hf : f.Sm 50) (hd : f.disc ≤ 3200) (h0 : f.disc ≠ 0) (h3 : ¬ IsSq f.disc) (q_ : ∀ (g : F3), ∀ (hC : CanF f g), Q (.val g.D) tk) : sp_Lcanonical_v1 [f.D] tk Q := by
  unfold sp_Lcanonical_v1
  exact ⟨f, rfl, hf, hd, h0, h3, q_⟩
theorem ce_Lcanonical_v1 {ds_ : List D} {tk : Tk} {Q : EV → Tk → Prop} {f : F3} (hf : f.Sm 50) (hd : f.disc ≤ 3200) (h0 : f.disc ≠ 0) (h3 : ¬ IsSq f.disc) (e_ : ds_ = [f.D]) (q_ : ∀ (g : F3), ∀ (hC : CanF f g), Q (.val g.D) tk) : sp_Lcanonical_v1 ds_ tk Q := by
  subst e_
  unfold sp_Lcanonical_v1
  exact ⟨f, rfl, hf, hd, h0, h3, q_⟩
abbrev N_Lcanonical_v1 : List Str := ["_law_form_here", "_law_sort", "_law_part"]
def c_Lcanonical_v1 : WS :=
  (wSeq (wSet 1 (wCall sp_Lkind (wCons (fz (wV 0)) wNil)))
  (wSeq (wIfS (wAnd (wT (wOp fEq (wPk 1) (fz (wC (.str "definite"))))) (wT (wOp fGt (fz (wOp fIdx (wPk 0) (fz (wC (.int 0))))) (fz (wC (.int 0)))))) (wRet (wCall sp_Lpositive (wCons (fz (wV 0)) wNil))) wNext)
  (wSeq (wIfS (wT (wOp fEq (wPk 1) (fz (wC (.str "definite"))))) (wRet (w1 fTuple (fz (wLc (wSrc (fz (wCall sp_Lpositive (wCons (fz (wLc (wSrc (fz (wV 0))) (gN 2) wYes (w1 fNeg (wPk 2)) [2])) wNil)))) (gN 2) wYes (w1 fNeg (wPk 2)) [2])))) wNext)
  (wRet (w1 fMin1 (fz (wCall sp_Lring (wCons (fz (wCall sp_Llowered (wCons (fz (wV 0)) wNil))) wNil))))))))
theorem hw_Lcanonical_v1 : ∀ ds tk Q, sp_Lcanonical_v1 ds tk Q → c_Lcanonical_v1 { nx := fun _ t => Q (.val .non) t, rt := Q } (start N_Lcanonical_v1.length ds) tk := by
  intro ds tk Q h_
  obtain ⟨f, rfl, hf, hd, h0, h3, q⟩ := op_Lcanonical_v1 h_
  refine cl_Lkind (f := f) (hf.up (by decide)) ?_
  obtain ⟨a1, a2, a3⟩ := id hf
  by_cases h1 : f.disc < 0
  · have k := kindS_1 h1
    refine ⟨kindS_ok f, ok_str1, ifB (seq_yes k) ?_⟩
    refine if2 (fun hp => ?_) (fun hp => ?_)
    · have hp : f.a > 0 := hp
      refine cl_Lpositive (f := f) (x := f.D) (.inl rfl) hp h1 (hf.up (by decide)) fun g he hr ga sg => ?_
      obtain ⟨m, hm, e⟩ := he
      exact q g ⟨⟨m, hm, e⟩, .inl ⟨h1, m, ⟨e, hm, .inl ⟨hp, ga, hr⟩⟩⟩⟩
    have hp : ¬ f.a > 0 := hp
    have an : f.a < 0 := by have := def_a h1; omega
    refine ⟨kindS_ok f, ok_str1, ifB (seq_yes k) ?_⟩
    have nd : F3.disc ⟨-f.a, -f.b, -f.c⟩ = f.disc := by unfold F3.disc; dsimp only; grind
    refine ⟨rfl, ?_⟩
    refine lcM15 (g := gN 2) D.int (fun x => D.int (-x)) (fun d e Q Q' h z => h _ z) [f.a, f.b, f.c] [] (fun x hx C hC => ⟨rfl, rfl, hC⟩) (show 3 < sizeLine by decide) ?_
    refine cl_Lpositive (f := ⟨-f.a, -f.b, -f.c⟩) (x := .lst [.int (-f.a), .int (-f.b), .int (-f.c)]) (.inr rfl) (show 0 < -f.a by omega) (by rw [nd]; exact h1) ⟨a1.neg.mono (by decide), a2.neg.mono (by decide), a3.neg.mono (by decide)⟩ fun g he hr ga sg => ?_
    refine ⟨rfl, ?_⟩
    refine lcM15 (g := gN 2) D.int (fun x => D.int (-x)) (fun d e Q Q' h z => h _ z) [g.a, g.b, g.c] [] (fun x hx C hC => ⟨rfl, rfl, hC⟩) (show 3 < sizeLine by decide) ?_
    obtain ⟨m, hm, e⟩ := he
    have e2 : f.act m = ⟨-g.a, -g.b, -g.c⟩ := by
      rw [neg_form] at e
      rw [← e]
      apply F3.ext <;> (dsimp only; omega)
    exact q ⟨-g.a, -g.b, -g.c⟩ ⟨⟨m, hm, e2⟩, .inl ⟨h1, m, ⟨e2, hm, .inr ⟨an, by dsimp only; omega, by rw [show F3.scale ⟨-g.a, -g.b, -g.c⟩ (-1) = g from by apply F3.ext <;> (unfold F3.scale; dsimp only; omega)]; exact hr⟩⟩⟩⟩
  have nd : kindS f ≠ "definite" := fun z => h1 (kind_def z)
  refine ⟨kindS_ok f, ok_str1, ifBF (seq_no nd) (at_nx15 ?_)⟩
  dsimp only
  refine ⟨kindS_ok f, ok_str1, ifBF (seq_no nd) (at_nx15 ?_)⟩
  dsimp only
  obtain ⟨a, b, c⟩ := isq_spec (n := f.disc) (by omega)
  have hr := rt_of a b c h3
  generalize (Float64.isqrt f.disc.toNat : Int) = r at hr
  have rb : r ≤ 56 := by
    refine Int.not_lt.mp fun y => ?_
    have := Int.mul_le_mul (show 57 ≤ r by omega) (show 57 ≤ r by omega) (by decide) (by omega)
    have := hr.lo
    omega
  refine cl_Llowered (f := f) (r := r) (hf.up (by decide)) hr h3 fun g hg e sg => ?_
  have gd := eqv_disc e
  have hrg : Rt g.disc r := by rw [gd]; exact hr
  have hsg : ¬ IsSq g.disc := by rw [gd]; exact h3
  obtain ⟨l, P, hl⟩ := cy_exists (B := 29) hrg hg (by omega)
  have hl : l ≤ 1740 := hl
  refine cl_Lring (f := g) (r := r) (l := l) hrg hg (by omega) P (by omega) ?_
  refine ⟨minOk_rg15 r g P.l0, fun d hd' hmin => ?_⟩
  obtain ⟨i, hi, rfl⟩ := List.mem_map.mp hd'
  have hL : LeastOf r g (nxtN r i g) := least_cy hsg hrg hg P fun j hj z => by
    have k := hmin (nxtN r j g).D (List.mem_map.mpr ⟨j, List.mem_range.mpr hj, rfl⟩)
    rw [F3.tI, F3.tI, dLt_tI, decide_eq_true z] at k
    cases k
  exact q _ ⟨e.trans hL.eqv, .inr (.inr (.inr ⟨by omega, h3, r, hr, ⟨hL.red, e.trans hL.eqv, fun h hh e' => hL.min h hh (e.symm.trans e')⟩⟩))⟩
end DL
namespace DL
/-! ### the self-changes of a reduced positive form -/
def jM : M4 := ⟨0, -1, 1, 0⟩
def rM : M4 := ⟨0, -1, 1, 1⟩
def tM : M4 := ⟨1, 1, -1, 0⟩
def selfB (f : F3) : List M4 := ([M4.one] ++ (if f.a = f.c ∧ f.b = 0 then [jM] else [])) ++ (if f.a = f.b ∧ f.b = f.c then [rM, tM] else [])
def selfL (f : F3) : List M4 := selfB f ++ (selfB f).map M4.neg
def SelfAt (f : F3) (m : M4) : Prop := (m = M4.one ∨ m = M4.one.neg) ∨ (f.a = f.c ∧ f.b = 0 ∧ (m = jM ∨ m = jM.neg)) ∨ (f.a = f.b ∧ f.b = f.c ∧ (m = rM ∨ m = tM ∨ m = rM.neg ∨ m = tM.neg))
theorem mem_selfL {f : F3} {m : M4} : m ∈ selfL f ↔ SelfAt f m := by
  unfold selfL selfB SelfAt
  generalize hA : jM = A
  generalize hB : rM = B
  generalize hC : tM = C
  by_cases h1 : f.a = f.c ∧ f.b = 0 <;> by_cases h2 : f.a = f.b ∧ f.b = f.c
  all_goals
    first | rw [if_pos h1] | rw [if_neg h1]
    first | rw [if_pos h2] | rw [if_neg h2]
    simp only [List.append_nil, List.cons_append, List.nil_append, List.map_cons, List.map_nil, List.mem_cons, List.not_mem_nil, or_false]
    grind
theorem selfL_nodup {f : F3} (a0 : 0 < f.a) : (selfL f).Nodup := by
  unfold selfL selfB
  split <;> split
  · rename_i h1 h2; omega
  all_goals decide
theorem neg_act (f : F3) (m : M4) : f.act m.neg = f.act m := by apply F3.ext <;> (unfold F3.act F3.worth M4.neg; dsimp only; grind)
theorem self_fix {f : F3} {m : M4} (h : SelfAt f m) : f.act m = f ∧ m.det = 1 := by
  rcases h with (rfl | rfl) | ⟨h1, h2, (rfl | rfl)⟩ | ⟨h1, h2, (rfl | rfl | rfl | rfl)⟩
  · exact ⟨F3.act_one f, rfl⟩
  · exact ⟨by rw [neg_act, F3.act_one], rfl⟩
  · refine ⟨?_, rfl⟩
    apply F3.ext <;> (unfold F3.act F3.worth jM; dsimp only; omega)
  · refine ⟨?_, rfl⟩
    rw [neg_act]
    apply F3.ext <;> (unfold F3.act F3.worth jM; dsimp only; omega)
  · refine ⟨?_, rfl⟩
    apply F3.ext <;> (unfold F3.act F3.worth rM; dsimp only; omega)
  · refine ⟨?_, rfl⟩
    apply F3.ext <;> (unfold F3.act F3.worth tM; dsimp only; omega)
  · refine ⟨?_, rfl⟩
    rw [neg_act]
    apply F3.ext <;> (unfold F3.act F3.worth rM; dsimp only; omega)
  · refine ⟨?_, rfl⟩
    rw [neg_act]
    apply F3.ext <;> (unfold F3.act F3.worth tM; dsimp only; omega)
theorem one_of_sq {x a : Int} (a0 : 0 < a) (h : 3 * (a * a) * (x * x) ≤ 4 * (a * a)) : x = -1 ∨ x = 0 ∨ x = 1 := by
  have aa : 0 < a * a := Int.mul_pos a0 a0
  have k : x * x < 2 := by
    refine Int.not_le.mp fun z => ?_
    have := Int.mul_le_mul_of_nonneg_left z (show 0 ≤ 3 * (a * a) by omega)
    omega
  have h1 : -2 < x := by
    refine Int.not_le.mp fun z => ?_
    have := Int.mul_le_mul (show 2 ≤ -x by omega) (show 2 ≤ -x by omega) (by omega) (by omega)
    rw [Int.neg_mul_neg] at this
    omega
  have h2 : x < 2 := by
    refine Int.not_le.mp fun z => ?_
    have := Int.mul_le_mul z z (by omega) (by omega)
    omega
  omega
/-- every self-change is told -/
theorem aut_red {f : F3} {m : M4} (a0 : 0 < f.a) (h : Red f) (hd : m.det = 1) (e : f.act m = f) : SelfAt f m := by
  have ea : f.worth ⟨m.p, m.r⟩ = f.a := congrArg F3.a e
  have eb : 2 * f.a * m.p * m.q + f.b * (m.p * m.s + m.q * m.r) + 2 * f.c * m.r * m.s = f.b := congrArg F3.b e
  have ec : f.worth ⟨m.q, m.s⟩ = f.c := congrArg F3.c e
  have hd' : m.p * m.s - m.q * m.r = 1 := hd
  obtain ⟨h1, h2, h3, h4⟩ := id h
  by_cases hr : m.r = 0
  · rw [hr, Int.mul_zero] at hd'
    have hps : m.p * m.s = 1 := by omega
    have hq : m.q = 0 := by
      rw [hr, hps] at eb
      have k : f.a * (m.p * m.q) = 0 := by grind
      have k2 := (Int.mul_eq_zero.mp k).resolve_left (by omega)
      refine (Int.mul_eq_zero.mp k2).resolve_left fun z => ?_
      rw [z, Int.zero_mul] at hps
      omega
    have hp : m.p = 1 ∨ m.p = -1 := by
      have : m.p ∣ 1 := ⟨m.s, hps.symm⟩
      have := Nat.le_of_dvd (by decide) (Int.natAbs_dvd_natAbs.mpr this)
      have : m.p ≠ 0 := fun z => by rw [z, Int.zero_mul] at hps; omega
      omega
    left
    rcases hp with hp | hp
    · rw [hp] at hps
      exact .inl (M4.ext hp hq hr (by show m.s = 1; omega))
    · rw [hp] at hps
      exact .inr (M4.ext hp (by rw [hq]; rfl) (by rw [hr]; rfl) (by show m.s = -1; omega))
  · have c1 := (red_min (v := ⟨m.p, m.r⟩) a0 h (det_col hd)).2 hr
    rw [ea] at c1
    have ca : f.c = f.a := by omega
    have b0 : 0 ≤ f.b := h4.resolve_right (by omega)
    -- |D| >= 3 a a
    have dd : 3 * (f.a * f.a) ≤ -f.disc := by
      unfold F3.disc
      rw [ca]
      have : f.b * f.b ≤ f.a * f.a := Int.mul_le_mul h2 h2 b0 (by omega)
      have e4 : 4 * f.a * f.a = 4 * (f.a * f.a) := by grind
      omega
    have col : ∀ v : P2, f.worth v = f.a → (v.x = -1 ∨ v.x = 0 ∨ v.x = 1) ∧ (v.y = -1 ∨ v.y = 0 ∨ v.y = 1) := fun v hv => by
      have e1 : 4 * f.a * f.worth v = (2 * f.a * v.x + f.b * v.y) * (2 * f.a * v.x + f.b * v.y) + (-f.disc) * (v.y * v.y) := by unfold F3.worth F3.disc; grind
      have e2 : 4 * f.c * f.worth v = (2 * f.c * v.y + f.b * v.x) * (2 * f.c * v.y + f.b * v.x) + (-f.disc) * (v.x * v.x) := by unfold F3.worth F3.disc; grind
      rw [hv] at e1 e2
      rw [ca] at e2
      have n1 := sq_nn (2 * f.a * v.x + f.b * v.y)
      have n2 := sq_nn (2 * f.a * v.y + f.b * v.x)
      have k1 := Int.mul_le_mul_of_nonneg_right dd (sq_nn v.y)
      have k2 := Int.mul_le_mul_of_nonneg_right dd (sq_nn v.x)
      have e4 : 4 * f.a * f.a = 4 * (f.a * f.a) := by grind
      exact ⟨one_of_sq a0 (by omega), one_of_sq a0 (by omega)⟩
    obtain ⟨kp, kr⟩ := col ⟨m.p, m.r⟩ ea
    obtain ⟨kq, ks⟩ := col ⟨m.q, m.s⟩ (by rw [ec, ca])
    have ea' : f.a * m.p * m.p + f.b * m.p * m.r + f.c * m.r * m.r = f.a := ea
    have ec' : f.a * m.q * m.q + f.b * m.q * m.s + f.c * m.s * m.s = f.c := ec
    obtain ⟨p, q, r, s⟩ := m
    dsimp only at *
    clear ea ec col e hd c1
    rcases kr with rfl | rfl | rfl
    · rcases kp with rfl | rfl | rfl <;> rcases kq with rfl | rfl | rfl <;> rcases ks with rfl | rfl | rfl <;> first
        | (exfalso; omega)
        | exact .inr (.inl ⟨by omega, by omega, .inl rfl⟩)
        | exact .inr (.inl ⟨by omega, by omega, .inr rfl⟩)
        | exact .inr (.inr ⟨by omega, by omega, .inl rfl⟩)
        | exact .inr (.inr ⟨by omega, by omega, .inr (.inl rfl)⟩)
        | exact .inr (.inr ⟨by omega, by omega, .inr (.inr (.inl rfl))⟩)
        | exact .inr (.inr ⟨by omega, by omega, .inr (.inr (.inr rfl))⟩)
    · exact absurd rfl hr
    · rcases kp with rfl | rfl | rfl <;> rcases kq with rfl | rfl | rfl <;> rcases ks with rfl | rfl | rfl <;> first
        | (exfalso; omega)
        | exact .inr (.inl ⟨by omega, by omega, .inl rfl⟩)
        | exact .inr (.inl ⟨by omega, by omega, .inr rfl⟩)
        | exact .inr (.inr ⟨by omega, by omega, .inl rfl⟩)
        | exact .inr (.inr ⟨by omega, by omega, .inr (.inl rfl)⟩)
        | exact .inr (.inr ⟨by omega, by omega, .inr (.inr (.inl rfl))⟩)
        | exact .inr (.inr ⟨by omega, by omega, .inr (.inr (.inr rfl))⟩)
theorem self_small {f : F3} {m : M4} (h : SelfAt f m) : (-1 ≤ m.p ∧ m.p ≤ 1) ∧ (-1 ≤ m.q ∧ m.q ≤ 1) ∧ (-1 ≤ m.r ∧ m.r ≤ 1) ∧ (-1 ≤ m.s ∧ m.s ≤ 1) := by
  rcases h with (rfl | rfl) | ⟨h1, h2, (rfl | rfl)⟩ | ⟨h1, h2, (rfl | rfl | rfl | rfl)⟩ <;> decide
/-! ### classes of reduced positive forms -/
def Good (d : Int) (f : F3) : Prop := Red f ∧ 0 < f.a ∧ f.disc = d ∧ cont f = 1
structure PC (d : Int) (fs : List F3) : Prop where
  mem : ∀ f, f ∈ fs ↔ Good d f
  asc : (fs.map F3.L).Pairwise (· < ·)
theorem lt_L {f g : F3} (h : f.a < g.a ∨ (f.a = g.a ∧ f.b < g.b)) : f.L < g.L := by
  unfold F3.L
  rcases h with h | ⟨h, h2⟩
  · exact List.cons_lt_cons_iff.mpr (.inl h)
  · exact List.cons_lt_cons_iff.mpr (.inr ⟨h, List.cons_lt_cons_iff.mpr (.inl h2)⟩)
theorem asc_snoc {gs : List F3} {f : F3} (h : (gs.map F3.L).Pairwise (· < ·)) (k : ∀ g ∈ gs, g.L < f.L) : ((gs ++ [f]).map F3.L).Pairwise (· < ·) := by
  rw [List.map_append, List.pairwise_append]
  refine ⟨h, List.pairwise_singleton _ _, fun x hx y hy => ?_⟩
  rw [List.map_singleton, List.mem_singleton] at hy
  obtain ⟨g, hg, rfl⟩ := List.mem_map.mp hx
  rw [hy]
  exact k g hg
theorem ltL_asymm {a b : List Int} (h : a < b) (h2 : b < a) : False := by
  have := List.not_lt.mpr (List.le_of_lt h)
  exact this h2
theorem pc_uniq {d : Int} {fs gs : List F3} (hf : PC d fs) (hg : PC d gs) : fs = gs := by
  refine asc_ext (lt := fun a b : F3 => a.L < b.L) (fun a b x y => ltL_asymm x y) (List.pairwise_map.mp hf.asc) (List.pairwise_map.mp hg.asc) fun x => ?_
  rw [hf.mem, hg.mem]
theorem good_bound {d : Int} {f : F3} (h : Good d f) : 3 * f.a * f.a ≤ -d := by
  obtain ⟨⟨h1, h2, h3, _⟩, a0, hd, _⟩ := h
  unfold F3.disc at hd
  have k1 : f.b * f.b ≤ f.a * f.a := by
    have : 0 ≤ (f.a - f.b) * (f.a + f.b) := Int.mul_nonneg (by omega) (by omega)
    have e : (f.a - f.b) * (f.a + f.b) = f.a * f.a - f.b * f.b := by grind
    omega
  have k2 := Int.mul_le_mul_of_nonneg_left h3 (show 0 ≤ 4 * f.a by omega)
  have e1 : 4 * f.a * f.a = 4 * (f.a * f.a) := by grind
  have e2 : 3 * f.a * f.a = 3 * (f.a * f.a) := by grind
  omega
/-- the last number by the first two -/
theorem disc_c {a b c d : Int} (a0 : 0 < a) : F3.disc ⟨a, b, c⟩ = d ↔ ((b * b - d).fmod (4 * a) = 0 ∧ c = (b * b - d).fdiv (4 * a)) := by
  have e := Int.mul_fdiv_add_fmod (b * b - d) (4 * a)
  unfold F3.disc
  dsimp only
  constructor
  · intro h
    have h2 : b * b - d = 4 * a * c := by omega
    rw [h2, Int.mul_fdiv_cancel_left _ (by omega)]
    exact ⟨Int.fmod_eq_zero_of_dvd ⟨c, rfl⟩, rfl⟩
  · rintro ⟨h1, rfl⟩
    rw [h1] at e
    omega
/-- found so far: all below (a, b) -/
structure PcI (d : Int) (a b : Int) (gs : List F3) : Prop where
  mem : ∀ f, f ∈ gs ↔ Good d f ∧ (f.a < a ∨ (f.a = a ∧ f.b < b))
  asc : (gs.map F3.L).Pairwise (· < ·)
theorem pcI_skip {d a b : Int} {gs : List F3} (I : PcI d a b gs) (h : ∀ c, ¬ Good d ⟨a, b, c⟩) : PcI d a (b + 1) gs := by
  refine ⟨fun f => ?_, I.asc⟩
  rw [I.mem]
  constructor
  · rintro ⟨x, y⟩; exact ⟨x, by omega⟩
  · rintro ⟨x, y⟩
    refine ⟨x, ?_⟩
    by_cases z : f.a = a ∧ f.b = b
    · exfalso
      refine h f.c ?_
      have : f = ⟨a, b, f.c⟩ := F3.ext z.1 z.2 rfl
      rw [← this]; exact x
    · omega
theorem pcI_add {d a b c : Int} {gs : List F3} (I : PcI d a b gs) (h : Good d ⟨a, b, c⟩) : PcI d a (b + 1) (gs ++ [⟨a, b, c⟩]) := by
  refine ⟨fun f => ?_, asc_snoc I.asc fun g hg => lt_L ((I.mem g).mp hg).2⟩
  rw [List.mem_append, List.mem_singleton, I.mem]
  constructor
  · rintro (⟨x, y⟩ | rfl)
    · exact ⟨x, by omega⟩
    · exact ⟨h, .inr ⟨rfl, by show b < b + 1; omega⟩⟩
  · rintro ⟨x, y⟩
    by_cases z : f.a = a ∧ f.b = b
    · right
      have a0 : 0 < a := h.2.1
      have k1 := (disc_c (b := b) (c := c) (d := d) a0).mp h.2.2.1
      have k2 := (disc_c (b := b) (c := f.c) (d := d) a0).mp (by rw [← show f = ⟨a, b, f.c⟩ from F3.ext z.1 z.2 rfl]; exact x.2.2.1)
      exact F3.ext z.1 z.2 (by show f.c = c; omega)
    · left; exact ⟨x, by omega⟩
theorem pcI_row {d a : Int} {gs : List F3} (I : PcI d a (a + 1) gs) : PcI d (a + 1) (-(a + 1) + 1) gs := by
  refine ⟨fun f => ?_, I.asc⟩
  rw [I.mem]
  constructor
  · rintro ⟨x, y⟩; exact ⟨x, by omega⟩
  · rintro ⟨x, y⟩
    refine ⟨x, ?_⟩
    obtain ⟨⟨h1, h2, _⟩, _⟩ := x
    omega
theorem pcI_zero {d : Int} : PcI d 1 0 [] := by
  refine ⟨fun f => ⟨fun h => (by cases h), fun ⟨x, y⟩ => ?_⟩, List.Pairwise.nil⟩
  obtain ⟨⟨h1, h2, _⟩, h3, _⟩ := x
  omega
theorem pcI_end {d a b : Int} {gs : List F3} (I : PcI d a b gs) (a0 : 0 < a) (h : -d < 3 * a * a) : PC d gs := by
  refine ⟨fun f => ?_, I.asc⟩
  rw [I.mem]
  refine ⟨fun x => x.1, fun x => ⟨x, .inl ?_⟩⟩
  have k := good_bound x
  refine Int.not_le.mp fun z => ?_
  have := Int.mul_le_mul z z (by omega) (by have := x.2.1; omega)
  have e1 : 3 * a * a = 3 * (a * a) := by grind
  have e2 : 3 * f.a * f.a = 3 * (f.a * f.a) := by grind
  omega
end DL
set_option maxHeartbeats 1000000
set_option pp.maxSteps 1200
namespace DL
open PySem PySem.Spec PyProof.Rows L2
/-! ### self-changes, classes of positive forms -/
theorem ok_lstT {l : List (List Int)} : D.ok (.lst (l.map tI)) = true := by
  unfold D.ok okN
  induction l with
  | nil => exact okNs_nil
  | cons x l ih =>
    rw [List.map_cons]
    unfold okNs
    have k : okN 59 (tI x) = true := by
      unfold tI okN
      have : ∀ xs : List Int, okNs 58 (xs.map D.int) = true := fun xs => by
        induction xs with
        | nil => exact okNs_nil
        | cons y ys ih => exact okNs_int ih
      exact this x
    rw [k, ih]; rfl
theorem at_next {P : Post} {e : En} {t : Tk} (h : P.nx e t) : wNext P e t := h
/-- [g(x) for x in xs] -/
theorem lcGo_map {α : Type} {g : WG} {elt : WE} {vs : List Nat} {env : En} {tk : Tk} {K : List D → Tk → Prop} (enc : α → D) (f : α → D) : ∀ (xs : List α) (acc : List D)
    (hs : ∀ x ∈ xs, ∀ (C : D → Tk → Prop), C (f x) tk → g (enc x) (wipeE env vs) fun e1 => e1 = e1 ∧ elt e1 tk fun ev e3 t3 => e3 = e1 ∧ C ev.d t3), acc.length + xs.length < sizeLine → K (acc ++ xs.map f) tk → (∀ d e Q Q', (∀ x, Q x → Q' x) → g d e Q → g d e Q') → lcGo g wYes elt vs env (xs.map enc) acc tk K
  | [], acc, _, _, k, _ => by
    rw [List.map_nil, List.append_nil] at k
    exact k
  | x :: xs, acc, hs, hl, k, mg => by
    rw [List.length_cons] at hl
    have h := hs x List.mem_cons_self (fun d t => acc.length < sizeLine ∧ lcGo g wYes elt vs env (xs.map enc) (acc ++ [d]) t K) ⟨by omega, lcGo_map enc f xs _ (fun y hy => hs y (List.mem_cons_of_mem _ hy)) (by rw [List.length_append]; simp only [List.length_cons, List.length_nil]; omega) (by rw [List.append_assoc]; exact k) mg⟩
    exact mg _ _ _ _ (fun e1 z => ⟨rfl, ifB rfl z.2⟩) h
@[irreducible] def sp_self_changes : FSpec := fun ds tk Q => ∃ (f : F3), ds = [f.D] ∧ Q (.own ((selfL f).map M4.D)) tk
theorem op_self_changes {ds : List D} {tk : Tk} {Q : EV → Tk → Prop} (h : sp_self_changes ds tk Q) : ∃ (f : F3), ds = [f.D] ∧ Q (.own ((selfL f).map M4.D)) tk := by unfold sp_self_changes at h; exact h
theorem mon_self_changes : MonFS sp_self_changes := fun ds tk Q Q' hq_ hs_ => by
  obtain ⟨f, e_, q_⟩ := op_self_changes hs_
  unfold sp_self_changes
  exact ⟨f, e_, hq_ _ _ q_⟩
theorem len_self_changes : ∀ ds tk Q, sp_self_changes ds tk Q → ds.length = 1 := fun ds tk Q hs_ => by
  obtain ⟨f, e_, q_⟩ := op_self_changes hs_
  rw [e_]; rfl
theorem cl_self_changes {tk : Tk} {Q : EV → Tk → Prop} {f : F3} (q_ : Q (.own ((selfL f).map M4.D)) tk) : sp_self_changes [f.D] tk Q := by
  unfold sp_self_changes
  exact ⟨f, rfl, q_⟩
theorem ce_self_changes {ds_ : List D} {tk : Tk} {Q : EV → Tk → Prop} {f : F3} (e_ : ds_ = [f.D]) (q_ : Q (.own ((selfL f).map M4.D)) tk) : sp_self_changes ds_ tk Q := by
  subst e_
  unfold sp_self_changes
  exact ⟨f, rfl, q_⟩
abbrev N_self_changes : List Str := ["form", "a", "b", "c", "found", "m"]
def c_self_changes : WS :=
  (wSeq (wAsg (fz (wV 0)) (gT 3 (gCs (gN 1) (gCs (gN 2) (gCs (gN 3) gNl)))))
  (wSeq (wSet 4 (wLst (wCons (fz (wC kUNIT)) wNil)))
  (wSeq (wIfS (wAnd (wT (wOp fEq (wPk 1) (wPk 3))) (wT (wOp fEq (wPk 2) (fz (wC (.int 0)))))) (wApp 4 (fz (wTup (wCons (fz (wC (.int 0))) (wCons (fz (w1 fNeg (fz (wC (.int 1))))) (wCons (fz (wC (.int 1))) (wCons (fz (wC (.int 0))) wNil))))))) wNext)
  (wSeq (wIfS (wAnd (wT (wOp fEq (wPk 1) (wPk 2))) (wT (wOp fEq (wPk 2) (wPk 3)))) (wSeq (wApp 4 (fz (wTup (wCons (fz (wC (.int 0))) (wCons (fz (w1 fNeg (fz (wC (.int 1))))) (wCons (fz (wC (.int 1))) (wCons (fz (wC (.int 1))) wNil)))))))
  (wApp 4 (fz (wTup (wCons (fz (wC (.int 1))) (wCons (fz (wC (.int 1))) (wCons (fz (w1 fNeg (fz (wC (.int 1))))) (wCons (fz (wC (.int 0))) wNil)))))))) wNext)
  (wRet (wOp fAdd (wPk 4) (fz (wLc (wSrc (fz (wV 4))) (gN 5) wYes (wCall sp_negative (wCons (fz (wV 5)) wNil)) [5]))))))))
theorem hw_self_changes : ∀ ds tk Q, sp_self_changes ds tk Q → c_self_changes { nx := fun _ t => Q (.val .non) t, rt := Q } (start N_self_changes.length ds) tk := by
  intro ds tk Q h_
  obtain ⟨f, rfl, q⟩ := op_self_changes h_
  refine ⟨rfl, rfl, ?_⟩
  simp only [gCs, gN, gNl, start_def, List.map_cons, List.map_nil, List.set_cons_zero, List.set_cons_succ, List.replicate_succ, List.replicate_zero, List.cons_append, List.nil_append, List.length_cons, List.length_nil, Nat.reduceAdd, Nat.reduceSub]
  refine seq_cut (a := wIfS _ _ _) (fun e t => t = tk ∧ e = [some (.val (f.D)), some (.val (.int (f.a))), some (.val (.int (f.b))), some (.val (.int (f.c))), some (.own (([M4.one] ++ (if f.a = f.c ∧ f.b = 0 then [jM] else [])).map M4.D)), none]) (fun R hR => ?_) ?_
  · have k1 : (f.a = f.c ∧ f.b = 0) → R [some (.val (f.D)), some (.val (.int (f.a))), some (.val (.int (f.b))), some (.val (.int (f.c))), some (.own ([M4.one.D, jM.D])), none] tk := fun h => hR _ _ ⟨rfl, by rw [if_pos h]; rfl⟩
    have k0 : ¬ (f.a = f.c ∧ f.b = 0) → R [some (.val (f.D)), some (.val (.int (f.a))), some (.val (.int (f.b))), some (.val (.int (f.c))), some (.own ([M4.one.D])), none] tk := fun h => hR _ _ ⟨rfl, by rw [if_neg h]; rfl⟩
    refine if2 (fun h => if2 (fun h2 => ?_) (fun h2 => ?_)) (fun h => ?_)
    · exact ⟨rfl, (show 1 < sizeLine by decide), k1 ⟨h, h2⟩⟩
    · exact k0 fun z => h2 z.2
    · exact k0 fun z => h z.1
  rintro e t ⟨rfl, rfl⟩
  generalize hA : ([M4.one] ++ (if f.a = f.c ∧ f.b = 0 then [jM] else [])) = A
  have lA : A.length ≤ 2 := by rw [← hA]; split <;> decide
  refine seq_cut (a := wIfS _ _ _) (fun e t' => t' = t ∧ e = [some (.val (f.D)), some (.val (.int (f.a))), some (.val (.int (f.b))), some (.val (.int (f.c))), some (.own ((selfB f).map M4.D)), none]) (fun R hR => ?_) ?_
  · have eB : selfB f = A ++ (if f.a = f.b ∧ f.b = f.c then [rM, tM] else []) := by unfold selfB; rw [hA]
    rw [eB] at hR
    have k1 : (f.a = f.b ∧ f.b = f.c) → R [some (.val (f.D)), some (.val (.int (f.a))), some (.val (.int (f.b))), some (.val (.int (f.c))), some (.own ((A.map M4.D ++ [rM.D]) ++ [tM.D])), none] t := fun h => hR _ _ ⟨rfl, by rw [if_pos h, List.map_append, List.append_assoc]; rfl⟩
    have k0 : ¬ (f.a = f.b ∧ f.b = f.c) → R [some (.val (f.D)), some (.val (.int (f.a))), some (.val (.int (f.b))), some (.val (.int (f.c))), some (.own (A.map M4.D)), none] t := fun h => hR _ _ ⟨rfl, by rw [if_neg h, List.append_nil]⟩
    have l1 : (A.map M4.D).length < sizeLine := by rw [List.length_map]; exact szl (by omega)
    have l2 : (A.map M4.D ++ [rM.D]).length < sizeLine := by rw [List.length_append, List.length_map]; exact szl (by simp only [List.length_cons, List.length_nil]; omega)
    refine if2 (fun h => if2 (fun h2 => ?_) (fun h2 => ?_)) (fun h => ?_)
    · exact ⟨rfl, l1, rfl, l2, k1 ⟨h, h2⟩⟩
    · exact k0 fun z => h2 z.2
    · exact k0 fun z => h z.1
  rintro e t' ⟨rfl, rfl⟩
  have lB : (selfB f).length ≤ 4 := by unfold selfB; split <;> split <;> decide
  have fin : (((selfB f).map M4.D).length + ((selfB f).map fun m => (M4.neg m).D).length ≤ sizeLine ∧ Q (.own ((selfB f).map M4.D ++ (selfB f).map fun m => (M4.neg m).D)) t') := by
    refine ⟨by rw [List.length_map, List.length_map]; exact Nat.le_of_lt (szl (by omega)), ?_⟩
    have : selfL f = selfB f ++ (selfB f).map M4.neg := rfl
    rw [this, List.map_append, List.map_map] at q
    exact q
  refine ⟨rfl, ?_⟩
  refine lcGo_map (α := M4) (enc := M4.D) (f := fun m => (M4.neg m).D) (selfB f) [] (fun m _ C hC => ?_) (by rw [List.length_nil]; exact szl (by omega)) fin (fun d e Q Q' h z => h _ z)
  exact ⟨rfl, m, rfl, rfl, hC⟩
@[irreducible] def sp_positive_classes : FSpec := fun ds tk Q => ∃ (d : Int), ds = [.int d] ∧ (d < 0) ∧ (-4000 ≤ d) ∧ ∀ (fs : List F3), ∀ (h : PC d fs), Q (.own (fs.map F3.D)) tk
theorem op_positive_classes {ds : List D} {tk : Tk} {Q : EV → Tk → Prop} (h : sp_positive_classes ds tk Q) : ∃ (d : Int), ds = [.int d] ∧ (d < 0) ∧ (-4000 ≤ d) ∧ ∀ (fs : List F3), ∀ (h : PC d fs), Q (.own (fs.map F3.D)) tk := by unfold sp_positive_classes at h; exact h
theorem mon_positive_classes : MonFS sp_positive_classes := fun ds tk Q Q' hq_ hs_ => by
  obtain ⟨d, e_, h0, h1, q_⟩ := op_positive_classes hs_
  unfold sp_positive_classes
  exact ⟨d, e_, h0, h1, fun fs h => hq_ _ _ (q_ fs h)⟩
theorem len_positive_classes : ∀ ds tk Q, sp_positive_classes ds tk Q → ds.length = 1 := fun ds tk Q hs_ => by
  obtain ⟨d, e_, h0, h1, q_⟩ := op_positive_classes hs_
  rw [e_]; rfl
theorem cl_positive_classes {tk : Tk} {Q : EV → Tk → Prop} {d : Int} (h0 : d < 0) (h1 : -4000 ≤ d) (q_ : ∀ (fs : List F3), ∀ (h : PC d fs), Q (.own (fs.map F3.D)) tk) : sp_positive_classes [.int d] tk Q := by
  unfold sp_positive_classes
  exact ⟨d, rfl, h0, h1, q_⟩
theorem ce_positive_classes {ds_ : List D} {tk : Tk} {Q : EV → Tk → Prop} {d : Int} (h0 : d < 0) (h1 : -4000 ≤ d) (e_ : ds_ = [.int d]) (q_ : ∀ (fs : List F3), ∀ (h : PC d fs), Q (.own (fs.map F3.D)) tk) : sp_positive_classes ds_ tk Q := by
  subst e_
  unfold sp_positive_classes
  exact ⟨d, rfl, h0, h1, q_⟩
theorem good_size {d : Int} {f : F3} (h : Good d f) (h1 : -4000 ≤ d) : (1 ≤ f.a ∧ f.a ≤ 36) ∧ (-36 < f.b ∧ f.b ≤ 36) := by
  have k := good_bound h
  have a36 : f.a ≤ 36 := by
    refine Int.not_lt.mp fun z => ?_
    have := Int.mul_le_mul (show 37 ≤ f.a by omega) (show 37 ≤ f.a by omega) (by omega) (by omega)
    have e2 : 3 * f.a * f.a = 3 * (f.a * f.a) := by grind
    omega
  obtain ⟨⟨x1, x2, _⟩, x3, _⟩ := h
  omega
theorem nodup_len : ∀ (N : Nat) (l : List Nat), l.Nodup → (∀ x ∈ l, x < N) → l.length ≤ N
  | 0, [], _, _ => Nat.le_refl 0
  | 0, x :: l, _, h => absurd (h x List.mem_cons_self) (by omega)
  | N + 1, l, hn, h => by
    by_cases z : N ∈ l
    · have := nodup_len N (l.erase N) (hn.erase N) fun x hx => by
        have hx := (hn.mem_erase_iff).mp hx
        have := h x hx.2
        omega
      rw [List.length_erase_of_mem z] at this
      omega
    · have := nodup_len N l hn fun x hx => by
        have := h x hx
        have : x ≠ N := fun e => z (e ▸ hx)
        omega
      omega
theorem pcI_len {d a b : Int} {gs : List F3} (I : PcI d a b gs) (h1 : -4000 ≤ d) : gs.length ≤ 2700 := by
  -- the pairs (a, b) are unlike
  have nd : (gs.map fun f => (f.a * 72 + f.b + 36).toNat).Nodup := by
    refine List.pairwise_map.mpr ((List.pairwise_map.mp I.asc).imp_of_mem fun {x y} hx hy e z => ?_)
    have gx := good_size ((I.mem x).mp hx).1 h1
    have gy := good_size ((I.mem y).mp hy).1 h1
    have ab : x.a = y.a ∧ x.b = y.b := by omega
    have a0 : 0 < x.a := by omega
    have k1 := (disc_c (a := x.a) (b := x.b) (c := x.c) (d := d) a0).mp ((I.mem x).mp hx).1.2.2.1
    have k2 := (disc_c (a := x.a) (b := x.b) (c := y.c) (d := d) a0).mp (by rw [ab.1, ab.2]; exact ((I.mem y).mp hy).1.2.2.1)
    have : x = y := F3.ext ab.1 ab.2 (by omega)
    rw [this] at e
    exact ltL_asymm e e
  have k := nodup_len 2700 _ nd fun x hx => by
    obtain ⟨f, hf, rfl⟩ := List.mem_map.mp hx
    have gx := good_size ((I.mem f).mp hf).1 h1
    omega
  rw [List.length_map] at k
  exact k
theorem redB_of {f : F3} (h : Red f) : redB f = true := decide_eq_true h
theorem redB_no {f : F3} (h : ¬ Red f) : redB f = false := decide_eq_false h
theorem F3.Lne (f : F3) : f.L ≠ [] := by unfold F3.L; exact fun z => by cases z
theorem f3_perm {m : List (List Int)} {gs : List F3} (pm : List.Perm m (gs.map F3.L)) (hs : m.Pairwise (· ≤ ·)) (hg : (gs.map F3.L).Pairwise (· < ·)) : m.map tI = gs.map F3.D := by
  have e := asc_perm pm hs (hg.imp fun h => List.le_of_lt h)
  rw [e, List.map_map]
  rfl
abbrev N_positive_classes : List Str := ["d", "found", "a", "b", "form"]
def c_positive_classes : WS :=
  (wSeq (wSet 1 (wLst wNil))
  (wSeq (wSet 2 (wC (.int 1)))
  (wSeq (wWhile (wT (wOp fLe (fz (wOp fMul (fz (wOp fMul (fz (wC (.int 3))) (wPk 2))) (wPk 2))) (fz (w1 fNeg (wPk 0))))) (wSeq (wFor (wR2 (fz (wOp fAdd (fz (w1 fNeg (wPk 2))) (fz (wC (.int 1))))) (fz (wOp fAdd (wPk 2) (fz (wC (.int 1)))))) (gN 3) (wIfS (wT (wOp fEq (fz (wOp fMod (fz (wOp fSub (fz (wOp fMul (wPk 3) (wPk 3))) (wPk 0))) (fz (wOp fMul (fz (wC (.int 4))) (wPk 2))))) (fz (wC (.int 0))))) (wSeq (wSet 4 (wTup (wCons (fz (wV 2)) (wCons (fz (wV 3)) (wCons (fz (wOp fDiv (fz (wOp fSub (fz (wOp fMul (wPk 3) (wPk 3))) (wPk 0))) (fz (wOp fMul (fz (wC (.int 4))) (wPk 2))))) wNil)))))
  (wIfS (wAnd (wT (wCall sp_is_reduced (wCons (fz (wV 4)) wNil))) (wT (wOp fEq (fz (wCall sp_content (wCons (fz (wV 4)) wNil))) (fz (wC (.int 1)))))) (wApp 1 (fz (wV 4))) wNext)) wNext))
  (wSet 2 (wOp fAdd (wPk 2) (fz (wC (.int 1)))))))
  (wRet (w1 fSorted (wPk 1))))))
theorem hw_positive_classes : ∀ ds tk Q, sp_positive_classes ds tk Q → c_positive_classes { nx := fun _ t => Q (.val .non) t, rt := Q } (start N_positive_classes.length ds) tk := by
  intro ds tk Q h_
  obtain ⟨d, rfl, h0, h1, q⟩ := op_positive_classes h_
  have sd : Sm 20 d := show d.natAbs < 2 ^ 20 by omega
  refine ⟨rfl, ?_⟩
  refine ⟨fun μ e t => t = tk ∧ ∃ (a : Int) (gs : List F3) (x3 x4 : Option EV), PcI d a (-a + 1) gs ∧ 0 < a ∧ a ≤ 40 ∧ μ = (40 - a).toNat ∧ e = [some (.val (.int (d))), some (.own (gs.map F3.D)), some (.val (.int (a))), x3, x4], ⟨_, rfl, 1, [], none, none, pcI_zero, by decide, by decide, rfl, rfl⟩, ?_⟩
  rintro μ e t ⟨rfl, a, gs, x3, x4, I, a0, a40, rfl, rfl⟩
  have sa : Sm 10 a := show a.natAbs < 2 ^ 10 by omega
  refine ⟨by walk_at "sd", by walk_at "sd", ?_⟩
  refine if2 (fun hc => ?_) (fun hc => ?_)
  · have hc : 3 * a * a ≤ -d := hc
    have a37 : a < 37 := by
      refine Int.not_le.mp fun z => ?_
      have := Int.mul_le_mul z z (by omega) (by omega)
      have e2 : 3 * a * a = 3 * (a * a) := by grind
      omega
    refine ⟨by omega, ?_⟩
    have e0 : (a + 1 - (-a + 1)).toNat = (2 * a).toNat := by omega
    rw [e0]
    refine forGo_rng (fun i e t' => t' = t ∧ ∃ (gs : List F3) (x3 x4 : Option EV), PcI d a (-a + 1 + (i : Int)) gs ∧ e = [some (.val (.int (d))), some (.own (gs.map F3.D)), some (.val (.int (a))), x3, x4]) (fun i e t' R hi hI hR => ?_) (fun e t' hI => ?_) ⟨rfl, gs, x3, x4, by rw [show -a + 1 + ((0 : Nat) : Int) = -a + 1 by omega]; exact I, rfl⟩
    · obtain ⟨rfl, gs, x3, x4, I, rfl⟩ := hI
      have en : -a + 1 + ((i + 1 : Nat) : Int) = -a + 1 + (i : Int) + 1 := by omega
      rw [en] at hR
      have hb : -a + 1 + (i : Int) ≤ a := by omega
      have hb2 : -a < -a + 1 + (i : Int) := by omega
      generalize -a + 1 + (i : Int) = b at *
      have sb : Sm 10 b := show b.natAbs < 2 ^ 10 by omega
      have mb : MulOk b b := by walk_at "sd"
      have ma : MulOk 4 a := by walk_at "sd"
      have nz : 4 * a ≠ 0 := by omega
      have dk : DivOk (b * b - d) (4 * a) := DivOk.of (k := 13) nz (s4.mul sa) (by decide)
      refine ⟨mb, ma, nz, ?_⟩
      refine if2 (fun hm => ?_) (fun hm => ?_)
      · have hm : (b * b - d).fmod (4 * a) = 0 := hm
        refine ⟨mb, ma, dk, rfl, ?_⟩
        obtain ⟨f, hf⟩ : ∃ f : F3, f = ⟨a, b, (b * b - d).fdiv (4 * a)⟩ := ⟨_, rfl⟩
        have fd : f.disc = d := by rw [hf]; exact (disc_c a0).mpr ⟨hm, rfl⟩
        have sf : f.Sm 100 := by
          rw [hf]
          refine ⟨sa.mono (by decide), sb.mono (by decide), ?_⟩
          exact ((((sb.mul sb).mono (show 10 + 10 ≤ 20 by decide)).sub sd).fdiv.mono (by decide))
        refine ce_is_reduced (f := f) (by rw [hf]; rfl) ?_
        have only : ∀ c, Good d ⟨a, b, c⟩ → c = f.c := fun c g => by
          have := (disc_c a0).mp g.2.2.1
          rw [hf]; exact this.2
        have len := pcI_len I (by omega)
        by_cases hr : Red f
        · rw [redB_of hr]
          refine ifB rfl ?_
          refine ce_content (f := f) (sf.up (by decide)) (by rw [hf]; rfl) ?_
          refine if2 (fun hk => ?_) (fun hk => ?_)
          · have g : Good d ⟨a, b, f.c⟩ := by
              have : (⟨a, b, f.c⟩ : F3) = f := by rw [hf]
              rw [this]
              exact ⟨hr, by rw [hf]; exact a0, fd, hk⟩
            refine ⟨by rw [List.length_map]; exact szl (by omega), ?_⟩
            refine hR _ _ ⟨rfl, gs ++ [⟨a, b, f.c⟩], some (.val (.int b)), some (.val f.D), pcI_add I g, ?_⟩
            have ed : (gs ++ [(⟨a, b, f.c⟩ : F3)]).map F3.D = gs.map F3.D ++ [f.D] := by
              rw [List.map_append, hf]; rfl
            rw [ed, hf]
            rfl
          · refine hR _ _ ⟨rfl, gs, _, _, pcI_skip I fun c g => hk ?_, rfl⟩
            have e := only c g
            have : (⟨a, b, c⟩ : F3) = f := by rw [e, hf]
            rw [this] at g
            exact g.2.2.2
        · rw [redB_no hr]
          refine ifBF rfl ?_
          refine hR _ _ ⟨rfl, gs, _, _, pcI_skip I fun c g => hr ?_, rfl⟩
          have e := only c g
          have : (⟨a, b, c⟩ : F3) = f := by rw [e, hf]
          rw [this] at g
          exact g.1
      · refine hR _ _ ⟨rfl, gs, _, _, pcI_skip I fun c g => hm ?_, rfl⟩
        exact ((disc_c a0).mp g.2.2.1).1
    · obtain ⟨rfl, gs, x3, x4, I, rfl⟩ := hI
      have e3 : -a + 1 + (((2 * a).toNat : Nat) : Int) = a + 1 := by omega
      rw [e3] at I
      exact ⟨(40 - (a + 1)).toNat, by omega, rfl, a + 1, gs, x3, x4, pcI_row I, by omega, by omega, rfl, rfl⟩
  · have hc : ¬ 3 * a * a ≤ -d := hc
    have P := pcI_end I a0 (by omega)
    show fSorted (.lst (gs.map F3.D)) fun ev => Q ev t
    rw [map_D F3.tI]
    refine sorted_tI (fun x hx => ?_) fun m pm hs => ?_
    · obtain ⟨f, _, rfl⟩ := List.mem_map.mp hx; exact F3.Lne f
    · rw [f3_perm pm hs P.asc]
      exact q gs P
end DL
set_option maxHeartbeats 1000000
namespace DL
open PySem PySem.Spec PyProof.Rows L2
/-! ### contents -/
theorem Fcont_dvd (f : F3) : cont f ∣ f.a ∧ cont f ∣ f.b ∧ cont f ∣ f.c := by
  unfold cont
  have h1 := Int.gcd_dvd_left (Int.gcd f.a f.b : Int) f.c
  have h2 := Int.gcd_dvd_right (Int.gcd f.a f.b : Int) f.c
  exact ⟨Int.dvd_trans h1 (Int.gcd_dvd_left f.a f.b), Int.dvd_trans h1 (Int.gcd_dvd_right f.a f.b), h2⟩
theorem dvd_contF {f : F3} {x : Int} (ha : x ∣ f.a) (hb : x ∣ f.b) (hc : x ∣ f.c) : x ∣ cont f := by
  unfold cont
  exact Int.dvd_coe_gcd (Int.dvd_coe_gcd ha hb) hc
theorem cont_nn (f : F3) : 0 ≤ cont f := by unfold cont; omega
theorem cont_actF {f : F3} {m : M4} (d : m.det = 1) : cont (f.act m) = cont f := by
  have key : ∀ (g : F3) (n : M4), cont g ∣ cont (g.act n) := by
    intro g n
    obtain ⟨h1, h2, h3⟩ := Fcont_dvd g
    obtain ⟨x, hx⟩ := h1
    obtain ⟨y, hy⟩ := h2
    obtain ⟨z, hz⟩ := h3
    refine dvd_contF ?_ ?_ ?_
    · refine ⟨x * n.p * n.p + y * n.p * n.r + z * n.r * n.r, ?_⟩
      show g.a * n.p * n.p + g.b * n.p * n.r + g.c * n.r * n.r = _
      generalize cont g = k at *
      rw [hx, hy, hz]; grind
    · refine ⟨2 * x * n.p * n.q + y * (n.p * n.s + n.q * n.r) + 2 * z * n.r * n.s, ?_⟩
      show 2 * g.a * n.p * n.q + g.b * (n.p * n.s + n.q * n.r) + 2 * g.c * n.r * n.s = _
      generalize cont g = k at *
      rw [hx, hy, hz]; grind
    · refine ⟨x * n.q * n.q + y * n.q * n.s + z * n.s * n.s, ?_⟩
      show g.a * n.q * n.q + g.b * n.q * n.s + g.c * n.s * n.s = _
      generalize cont g = k at *
      rw [hx, hy, hz]; grind
  have k1 := key f m
  have k2 := key (f.act m) m.adj
  rw [F3.back d rfl] at k2
  exact Int.dvd_antisymm (cont_nn _) (cont_nn _) k2 k1
def prim (f : F3) : F3 := ⟨f.a.fdiv (cont f), f.b.fdiv (cont f), f.c.fdiv (cont f)⟩
theorem cont_pos {f : F3} (h : f.disc ≠ 0) : 0 < cont f := by
  have n := cont_nn f
  refine Int.lt_iff_le_and_ne.mpr ⟨n, fun z => h ?_⟩
  obtain ⟨h1, h2, h3⟩ := Fcont_dvd f
  rw [← z] at h1 h2 h3
  unfold F3.disc
  rw [Int.zero_dvd.mp h1, Int.zero_dvd.mp h2]
  simp
end DL
set_option maxHeartbeats 1000000
namespace DL
open PySem PySem.Spec PyProof.Rows L2
/-! ### lists of tuples of ints: the same, in -/
theorem okN_tI (xs : List Int) (n : Nat) : okN (n + 1) (tI xs) = true := by
  have : ∀ (n : Nat) (xs : List Int), okNs n (xs.map D.int) = true := fun n xs => by
    induction xs with
    | nil => exact okNs_nil
    | cons x xs ih => exact okNs_int ih
  unfold tI okN
  exact this n xs
theorem okL_tI (l : List (List Int)) : D.ok (.lst (l.map tI)) = true := by
  unfold D.ok okN
  induction l with
  | nil => exact okNs_nil
  | cons x l ih =>
    rw [List.map_cons]
    unfold okNs
    rw [okN_tI x 58, ih]
    rfl
theorem okL_i (xs : List Int) : D.ok (.lst (xs.map D.int)) = true := by
  unfold D.ok okN
  induction xs with
  | nil => exact okNs_nil
  | cons x xs ih => exact okNs_int ih
theorem p_lst (ds : List D) : (D.lst ds).p = .list (ds.map D.p) := by
  conv => lhs; unfold D.p
  rw [ps_map]
theorem eqvL_i (xs ys : List Int) : D.eqv (.lst (xs.map D.int)) (.lst (ys.map D.int)) = decide (xs = ys) := by
  unfold D.eqv
  rw [p_lst, p_lst, List.map_map, List.map_map]
  show PyData.eqvAll (xs.map .int) (ys.map .int) = _
  exact eqvAll_int xs ys
theorem eqvAll_tI : ∀ l m : List (List Int), PyData.eqvAll (l.map fun x => (tI x).p) (m.map fun x => (tI x).p) = decide (l = m)
  | [], [] => rfl
  | [], y :: ys => by
    rw [decide_eq_false (by intro h; cases h)]
    rfl
  | x :: xs, [] => by
    rw [decide_eq_false (by intro h; cases h)]
    rfl
  | x :: xs, y :: ys => by
    have e : PyData.eqvAll ((x :: xs).map fun x => (tI x).p) ((y :: ys).map fun x => (tI x).p) = (D.eqv (tI x) (tI y) && PyData.eqvAll (xs.map fun x => (tI x).p) (ys.map fun x => (tI x).p)) := by
      rw [List.map_cons, List.map_cons]
      conv => lhs; unfold PyData.eqvAll
      rfl
    rw [e, eqvAll_tI xs ys, eqv_tI]
    by_cases h1 : x = y <;> by_cases h2 : xs = ys <;> simp [h1, h2]
theorem eqvL_tI (l m : List (List Int)) : D.eqv (.lst (l.map tI)) (.lst (m.map tI)) = decide (l = m) := by
  unfold D.eqv
  rw [p_lst, p_lst, List.map_map, List.map_map]
  exact eqvAll_tI l m
theorem any_tI (x : List Int) : ∀ l : List (List Int), ((l.map tI).any fun z => z.eqv (tI x)) = decide (x ∈ l)
  | [] => rfl
  | y :: l => by
    rw [List.map_cons, List.any_cons, any_tI x l, eqv_tI]
    by_cases h1 : y = x
    · subst h1; simp
    · by_cases h2 : x ∈ l
      · simp [h2]
      · have h3 : ¬ x = y := fun z => h1 z.symm
        simp [h1, h2, h3]
end DL
set_option maxHeartbeats 1000000
namespace DL
open PySem PySem.Spec PyProof.Rows L2
/-! ### points of a form of square discriminant -/
theorem fm0 {x w : Int} : x.fmod w = 0 ↔ w ∣ x := by
  constructor
  · intro h
    have := Int.mul_fdiv_add_fmod x w
    exact ⟨x.fdiv w, by omega⟩
  · rintro ⟨y, rfl⟩
    exact Int.mul_fmod_right _ _
theorem fd_mul {x w : Int} (h : w ≠ 0) : (w * x).fdiv w = x := Int.mul_fdiv_cancel_left _ h
theorem fd_of {x w : Int} (h : w ∣ x) : w * x.fdiv w = x := by
  have := Int.mul_fdiv_add_fmod x w
  rw [fm0.mpr h] at this
  omega
theorem M4.at_adj {m : M4} (h : m.det = 1) (v : P2) : m.at (m.adj.at v) = v := by
  unfold M4.det at h
  apply P2.ext <;> (unfold M4.at M4.adj; dsimp only; grind)
theorem M4.adj_at {m : M4} (h : m.det = 1) (v : P2) : m.adj.at (m.at v) = v := by
  unfold M4.det at h
  apply P2.ext <;> (unfold M4.at M4.adj; dsimp only; grind)
theorem M4.at_inj {m : M4} (h : m.det = 1) {v w : P2} (e : m.at v = m.at w) : v = w := by
  rw [← M4.adj_at h v, e, M4.adj_at h]
def spF (m : M4) (k c n y : Int) : Option P2 := if (n.fdiv y - c * y).fmod k = 0 then some (m.at ⟨(n.fdiv y - c * y).fdiv k, y⟩) else none
theorem spF_nodup {m : M4} {k c n : Int} {ml : List Int} (hm : m.det = 1) (nd : ml.Nodup) : (ml.filterMap (spF m k c n)).Nodup := by
  unfold List.Nodup
  rw [List.pairwise_filterMap]
  refine nd.imp (fun {a b} ne u hu w hw e => ne ?_)
  unfold spF at hu hw
  split at hu
  · split at hw
    · injection hu with hu
      injection hw with hw
      have := M4.at_inj hm (hu.trans (e.trans hw.symm))
      injection this
    · cases hw
  · cases hu
theorem spF_mem {f g : F3} {m : M4} {k n : Int} {ml : List Int} (he : f.act m = g) (hm : m.det = 1) (hg : CanS k g) (k0 : 0 < k) (n0 : n ≠ 0) (hml : ∀ y, y ∈ ml ↔ y ∣ n) (P : P2) : P ∈ ml.filterMap (spF m k g.c n) ↔ f.worth P = n := by
  rw [List.mem_filterMap]
  have W : ∀ v : P2, f.worth (m.at v) = v.y * (k * v.x + g.c * v.y) := fun v => by
    rw [← F3.worth_act, he]
    unfold F3.worth
    rw [hg.a, hg.b]
    grind
  constructor
  · rintro ⟨y, hy, e⟩
    unfold spF at e
    split at e
    · rename_i h
      injection e with e
      rw [← e, W]
      dsimp only
      have a := fd_of (fm0.mp h)
      have b := fd_of ((hml y).mp hy)
      rw [a]
      have : y * (n.fdiv y - g.c * y + g.c * y) = y * n.fdiv y := by congr 1; omega
      rw [this, b]
    · cases e
  · intro h
    obtain ⟨v, rfl⟩ : ∃ v, P = m.at v := ⟨m.adj.at P, (M4.at_adj hm P).symm⟩
    rw [W] at h
    have y0 : v.y ≠ 0 := fun z => n0 (by rw [← h, z, Int.zero_mul])
    refine ⟨v.y, (hml _).mpr ⟨_, h.symm⟩, ?_⟩
    unfold spF
    have e1 : n.fdiv v.y = k * v.x + g.c * v.y := by rw [← h, fd_mul y0]
    have e2 : n.fdiv v.y - g.c * v.y = k * v.x := by rw [e1]; omega
    rw [e2, if_pos (fm0.mpr ⟨_, rfl⟩), fd_mul (by omega)]
/-! ### sorting what is told by lists -/
theorem perm_map_inv {α β : Type} {F : α → β} : ∀ {ms ns : List β}, ms.Perm ns → ∀ {l : List α}, ns = l.map F → ∃ l' : List α, ms = l'.map F ∧ l'.Perm l := by
  intro ms ns h
  induction h with
  | nil => intro l e; exact ⟨[], rfl, by cases l with | nil => exact .nil | cons _ _ => cases e⟩
  | cons x p ih =>
    intro l e
    cases l with
    | nil => cases e
    | cons a l =>
      injection e with e1 e2
      obtain ⟨l', rfl, hp⟩ := ih e2
      exact ⟨a :: l', by rw [e1]; rfl, hp.cons a⟩
  | swap x y t =>
    intro l e
    match l, e with
    | [], e => cases e
    | [_], e => injection e with _ e; cases e
    | a :: b :: l, e =>
      injection e with e1 e2
      injection e2 with e2 e3
      exact ⟨b :: a :: l, by rw [e1, e2, e3]; rfl, .swap _ _ _⟩
  | trans p1 p2 ih1 ih2 =>
    intro l e
    obtain ⟨l2, e2, hp2⟩ := ih2 e
    obtain ⟨l1, e1, hp1⟩ := ih1 e2
    exact ⟨l1, e1, hp1.trans hp2⟩
theorem alike_i (a b : Int) : alikeD (.int a) (.int b) = true := by
  have e : ∀ x : Int, (D.int x).p = .int x := fun x => by unfold D.p; rfl
  unfold alikeD
  rw [e, e]
  rfl
theorem dLt_i (a b : Int) : dLt (.int a) (.int b) = decide (a < b) := by
  have e : ∀ x : Int, (D.int x).p = .int x := fun x => by unfold D.p; rfl
  unfold dLt
  rw [e, e]
  exact PySem.W.dataLt_int a b
theorem sorted_i {l : List Int} {q : EV → Prop} (k : ∀ m : List Int, m.Perm l → m.Pairwise (· ≤ ·) → q (.own (m.map D.int))) : fSorted (.lst (l.map D.int)) q := by
  refine ⟨⟨fun x hx => ?_, fun x hx y hy => ?_, .inr fun x hx => ?_⟩, fun ds' hp hs => ?_⟩
  · obtain ⟨a, _, rfl⟩ := List.mem_map.mp hx; exact ok_int
  · obtain ⟨a, _, rfl⟩ := List.mem_map.mp hx
    obtain ⟨b, _, rfl⟩ := List.mem_map.mp hy
    exact alike_i a b
  · obtain ⟨a, _, rfl⟩ := List.mem_map.mp hx
    exact ⟨(fun z => nomatch z), fun r z => nomatch z⟩
  · obtain ⟨m, rfl, pm⟩ := perm_map_inv hp rfl
    refine k m pm ?_
    refine (List.pairwise_map.mp hs).imp fun {x y} e => ?_
    rw [dLt_i] at e
    have := of_decide_eq_false e
    omega
theorem P2.L_inj {f g : P2} (h : f.L = g.L) : f = g := by
  unfold P2.L at h
  injection h with h1 h
  injection h with h2 _
  exact P2.ext h1 h2
/-- points in order -/
def PAsc (l : List P2) : Prop := l.Pairwise fun a b => a.L < b.L
theorem li_lt {a b : List Int} (h : a ≤ b) (ne : a ≠ b) : a < b := by
  by_cases z : a < b
  · exact z
  · exact absurd (List.le_antisymm h (List.not_lt.mp z)) ne
theorem sorted_P2 {l : List P2} {q : EV → Prop} (nd : l.Nodup) (k : ∀ m : List P2, m.Perm l → PAsc m → q (.own (m.map P2.D))) : fSorted (.lst (l.map P2.D)) q := by
  rw [map_D P2.tI]
  refine sorted_tI (fun x hx => ?_) fun m pm pw => ?_
  · obtain ⟨m, _, rfl⟩ := List.mem_map.mp hx
    intro z; cases z
  · obtain ⟨l', rfl, hp⟩ := perm_map_inv pm rfl
    have nd' : l'.Nodup := hp.nodup_iff.mpr nd
    have := k l' hp (List.pairwise_iff_getElem.mpr fun i j hi hj ij => li_lt (by
      have := List.pairwise_iff_getElem.mp (List.pairwise_map.mp pw) i j hi hj ij
      exact this) fun e => List.pairwise_iff_getElem.mp nd' i j hi hj ij (P2.L_inj e))
    rw [map_D P2.tI] at this
    exact this
theorem li_irr (a : List Int) : ¬ a < a := List.lt_irrefl a
theorem pasc_nd {l : List P2} (h : PAsc l) : l.Nodup := by
  unfold PAsc at h
  unfold List.Nodup
  refine List.Pairwise.imp ?_ h
  intro a b lt e
  rw [e] at lt
  exact li_irr _ lt
theorem pasc_ext {l m : List P2} (hl : PAsc l) (hm : PAsc m) (h : ∀ P, P ∈ l ↔ P ∈ m) : l = m := by
  have pm : (l.map P2.L).Perm (m.map P2.L) := ((List.perm_ext_iff_of_nodup (pasc_nd hl) (pasc_nd hm)).mpr h).map _
  have le : ∀ {l : List P2}, PAsc l → (l.map P2.L).Pairwise (· ≤ ·) := fun h => List.pairwise_map.mpr (List.Pairwise.imp (fun lt => List.le_of_lt lt) h)
  have e := asc_perm pm (le hl) (le hm)
  exact (List.map_inj_right fun a b e => P2.L_inj e).mp e
end DL
set_option maxHeartbeats 1000000
namespace DL
open PySem PySem.Spec PyProof.Rows L2
/-! ### points in lists: places, cuts, members -/
theorem pt_memL {P : P2} {l : List P2} : P.L ∈ l.map P2.L ↔ P ∈ l := by
  rw [List.mem_map]
  exact ⟨fun ⟨X, hX, e⟩ => P2.L_inj e ▸ hX, fun h => ⟨P, h, rfl⟩⟩
theorem pt_any {P : P2} {l : List P2} : ((l.map P2.D).any fun z => z.eqv P.D) = decide (P ∈ l) := by
  rw [map_D P2.tI, show P.D = tI P.L from rfl, any_tI]
  exact decide_eq_decide.mpr pt_memL
theorem pt_okL (l : List P2) : D.ok (.lst (l.map P2.D)) = true := by rw [map_D P2.tI]; exact okL_tI _
theorem pt_ok (P : P2) : D.ok P.D = true := ok_tI P.L
theorem pt_notIn {P : P2} {l : List P2} {q : EV → Prop} (h : q (.val (.bl (!decide (P ∈ l))))) : fNotIn P.D (.lst (l.map P2.D)) q := by
  refine ⟨pt_ok P, pt_okL l, ?_⟩
  rw [pt_any]
  exact h
theorem pt_in {P : P2} {l : List P2} {q : EV → Prop} (h : q (.val (.bl (decide (P ∈ l))))) : fIn P.D (.lst (l.map P2.D)) q := by
  refine ⟨pt_ok P, pt_okL l, ?_⟩
  rw [pt_any]
  exact h
theorem idx_at {ds : List D} {i : Nat} {d : D} {q : EV → Prop} (h : ds[i]? = some d) (k : q (.val d)) : fIdx (.lst ds) (.int (0 + (i : Int))) q := by
  show (match atI ds (0 + (i : Int)) with | some d => q (.val d) | none => False)
  rw [Int.zero_add, atI_lit, h]
  exact k
theorem idx_atN {ds : List D} {i : Nat} {d : D} {q : EV → Prop} (h : ds[i]? = some d) (k : q (.val d)) : fIdx (.lst ds) (.int (i : Int)) q := by
  have := idx_at h k
  rwa [Int.zero_add] at this
theorem cut_take {α : Type} (ds : List α) (i : Nat) (h : i ≤ ds.length) : cutG ds none (some (0 + (i : Int))) = ds.take i := by
  unfold cutG
  rw [Int.zero_add, HT.sIx_nat]
  show (ds.drop 0).take (min i ds.length - 0) = ds.take i
  rw [List.drop_zero, Nat.sub_zero, Nat.min_eq_left h]
theorem nd_take {α : Type} {l : List α} (nd : l.Nodup) {i : Nat} {x : α} (h : l[i]? = some x) : x ∉ l.take i := fun z => by
  obtain ⟨j, hj⟩ := List.mem_iff_getElem?.mp z
  have jl : j < (l.take i).length := (List.getElem?_eq_some_iff.mp hj).1
  rw [List.length_take] at jl
  rw [List.getElem?_take, if_pos (by omega)] at hj
  obtain ⟨h1, e1⟩ := List.getElem?_eq_some_iff.mp h
  obtain ⟨h2, e2⟩ := List.getElem?_eq_some_iff.mp hj
  exact (List.pairwise_iff_getElem.mp nd) j i h2 h1 (by omega) (by rw [e1, e2])
/-- xs[k] not in xs[:k] -/
theorem nodup_test {i j k : Nat} {ds : List D} {d : D} {env : En} {tk : Tk} {K : Bool → En → Tk → Prop} (he : env[i]? = some (some (.own ds))) (hk : env[j]? = some (some (.val (.int (0 + (k : Int)))))) (hd : ds[k]? = some d)
    (h : fNotIn d (.lst (ds.take k)) fun ev => match ev with | .val (.bl b) => K b env tk | _ => False) : wT (wOp fNotIn (fz (wOp fIdx (wPk i) (wPk j))) (fz (wSl (wPk i) wNo (wSo (wPk j))))) env tk K := by
  have hl : k ≤ ds.length := Nat.le_of_lt (List.getElem?_eq_some_iff.mp hd).1
  simp only [wT, wOp, fz, wPk, wSl, wNo, wSo, he, hk, EV.d]
  refine idx_at hd ?_
  unfold fSl
  dsimp only
  rw [cut_take _ _ hl]
  exact h
/-- points: [k for k in range(len(xs)) if xs[k] not in xs[:k]] of unlike ones -/
theorem nodup_pts {i j k : Nat} {l : List P2} {env : En} {tk : Tk} {K : Bool → En → Tk → Prop} (nd : l.Nodup) (he : env[i]? = some (some (.own (l.map P2.D)))) (hk : env[j]? = some (some (.val (.int (0 + (k : Int)))))) (hl : k < l.length)
    (h : K true env tk) : wT (wOp fNotIn (fz (wOp fIdx (wPk i) (wPk j))) (fz (wSl (wPk i) wNo (wSo (wPk j))))) env tk K := by
  have hX : l[k]? = some l[k] := List.getElem?_eq_getElem hl
  refine nodup_test he hk (show (l.map P2.D)[k]? = some (l[k]).D by rw [List.getElem?_map, hX]; rfl) ?_
  rw [← List.map_take]
  refine pt_notIn ?_
  rw [decide_eq_false (nd_take nd hX)]
  exact h
/-- x not in xs, x in xs: of points in slots -/
theorem notin_test {i j : Nat} {P : P2} {l : List P2} {ev : EV} {env : En} {tk : Tk} {K : Bool → En → Tk → Prop} (he : env[i]? = some (some (.val P.D))) (hj : env[j]? = some (some ev)) (hev : ev.d = .lst (l.map P2.D)) (h : K (!decide (P ∈ l)) env tk) : wT (wOp fNotIn (wPk i) (wPk j)) env tk K := by
  simp only [wT, wOp, wPk, he, hj]
  rw [hev]
  exact pt_notIn h
theorem in_test {i j : Nat} {P : P2} {l : List P2} {ev : EV} {env : En} {tk : Tk} {K : Bool → En → Tk → Prop} (he : env[i]? = some (some (.val P.D))) (hj : env[j]? = some (some ev)) (hev : ev.d = .lst (l.map P2.D)) (h : K (decide (P ∈ l)) env tk) : wT (wOp fIn (wPk i) (wPk j)) env tk K := by
  simp only [wT, wOp, wPk, he, hj]
  rw [hev]
  exact pt_in h
theorem noOwn2 {env : En} {v w : Nat} (h1 : ∀ ds, env[v]? ≠ some (some (.own ds))) (h2 : ∀ ds, env[w]? ≠ some (some (.own ds))) : noOwn env [v, w] = true := by
  have a := noOwn1 h1
  have b := noOwn1 h2
  unfold noOwn at a b ⊢
  rw [List.all_cons, List.all_nil, Bool.and_true] at a b
  rw [List.all_cons, List.all_cons, List.all_nil, Bool.and_true, a, b]
  rfl
end DL
set_option maxHeartbeats 1000000
namespace DL
open PySem PySem.Spec PyProof.Rows L2
/-! ### sorted(set(..)): of ints, of tuples -/
theorem map_inv {α : Type} {F : α → D} : ∀ {ds : List D}, (∀ x ∈ ds, ∃ a, x = F a) → ∃ l : List α, ds = l.map F
  | [], _ => ⟨[], rfl⟩
  | d :: ds, h => by
    obtain ⟨a, e⟩ := h d List.mem_cons_self
    obtain ⟨l, e2⟩ := map_inv (ds := ds) fun x hx => h x (List.mem_cons_of_mem _ hx)
    exact ⟨a :: l, by rw [e, e2]; rfl⟩
theorem sset_ints {ns : List Int} {q : EV → Prop} (len : ns.length < 4000) (k : ∀ ms : List Int, ms.Pairwise (· < ·) → (∀ x, x ∈ ms ↔ x ∈ ns) → q (.own (ms.map D.int))) : fSortSet (.lst (ns.map D.int)) q := by
  refine ⟨.inl ⟨ns, rfl, len⟩, fun ds' pw nd mem => ?_⟩
  obtain ⟨ms, rfl⟩ := map_inv (F := D.int) (ds := ds') fun x hx => by
    obtain ⟨y, _, e⟩ := List.mem_map.mp ((mem x).mp hx)
    exact ⟨y, e.symm⟩
  have pw2 := List.pairwise_map.mp pw
  have nd2 := List.pairwise_map.mp nd
  refine k ms (List.pairwise_iff_getElem.mpr fun i j hi hj ij => ?_) fun x => ?_
  · have a := List.pairwise_iff_getElem.mp pw2 i j hi hj ij
    have b := List.pairwise_iff_getElem.mp nd2 i j hi hj ij
    rw [dLt_i] at a
    have a := of_decide_eq_false a
    have : ms[i] ≠ ms[j] := fun e => b (by rw [e])
    omega
  · have := mem (.int x)
    have inj : ∀ l : List Int, D.int x ∈ l.map D.int ↔ x ∈ l := fun l => by
      rw [List.mem_map]
      exact ⟨fun ⟨y, hy, e⟩ => by injection e with e; rw [← e]; exact hy, fun h => ⟨x, h, rfl⟩⟩
    rw [inj, inj] at this
    exact this
theorem sset_tI {kss : List (List Int)} {q : EV → Prop} (len : kss.length < 64) (ne : ∀ k ∈ kss, k ≠ []) (k : ∀ ms : List (List Int), ms.Pairwise (· < ·) → (∀ x, x ∈ ms ↔ x ∈ kss) → q (.own (ms.map tI))) : fSortSet (.lst (kss.map tI)) q := by
  have inj : ∀ a b : List Int, tI a = tI b → a = b := fun a b e => by
    unfold tI at e
    injection e with e
    exact (List.map_inj_right fun a b e => by injection e).mp e
  refine ⟨.inr ⟨kss, rfl, len, ne⟩, fun ds' pw nd mem => ?_⟩
  obtain ⟨ms, rfl⟩ := map_inv (F := tI) (ds := ds') fun x hx => by
    obtain ⟨y, _, e⟩ := List.mem_map.mp ((mem x).mp hx)
    exact ⟨y, e.symm⟩
  have pw2 := List.pairwise_map.mp pw
  have nd2 := List.pairwise_map.mp nd
  refine k ms (List.pairwise_iff_getElem.mpr fun i j hi hj ij => ?_) fun x => ?_
  · have a := List.pairwise_iff_getElem.mp pw2 i j hi hj ij
    have b := List.pairwise_iff_getElem.mp nd2 i j hi hj ij
    rw [dLt_tI] at a
    have a := of_decide_eq_false a
    exact li_lt (List.not_lt.mp a) fun e => b (by rw [e])
  · have := mem (tI x)
    have mm : ∀ l : List (List Int), tI x ∈ l.map tI ↔ x ∈ l := fun l => by
      rw [List.mem_map]
      exact ⟨fun ⟨y, hy, e⟩ => by rw [← inj _ _ e]; exact hy, fun h => ⟨x, h, rfl⟩⟩
    rw [mm, mm] at this
    exact this
end DL
set_option maxHeartbeats 1000000
set_option pp.maxSteps 1200
namespace DL
open PySem PySem.Spec PyProof.Rows L2
/-! ### classes of indefinite forms -/
theorem sset_F3 {gl : List F3} {q : EV → Prop} (len : gl.length < 64) (k : ∀ fs : List F3, (fs.map F3.L).Pairwise (· < ·) → (∀ g, g ∈ fs ↔ g ∈ gl) → q (.own (fs.map F3.D))) : fSortSet (.lst (gl.map F3.D)) q := by
  rw [map_D F3.tI]
  refine sset_tI (by rw [List.length_map]; exact len) (fun x hx => ?_) fun ms pw mem => ?_
  · obtain ⟨m, _, rfl⟩ := List.mem_map.mp hx
    intro z; cases z
  · have ex : ∀ ms : List (List Int), (∀ x ∈ ms, ∃ f : F3, x = f.L) → ∃ fs : List F3, ms = fs.map F3.L := fun ms => by
      induction ms with
      | nil => exact fun _ => ⟨[], rfl⟩
      | cons x ms ih =>
        intro h
        obtain ⟨f, e⟩ := h x List.mem_cons_self
        obtain ⟨fs, e2⟩ := ih fun y hy => h y (List.mem_cons_of_mem _ hy)
        exact ⟨f :: fs, by rw [e, e2]; rfl⟩
    obtain ⟨fs, rfl⟩ := ex ms fun x hx => by
      obtain ⟨f, _, e⟩ := List.mem_map.mp ((mem x).mp hx)
      exact ⟨f, e.symm⟩
    have mm : ∀ (l : List F3) (g : F3), g.L ∈ l.map F3.L ↔ g ∈ l := fun l g => by
      rw [List.mem_map]
      exact ⟨fun ⟨f, hf, e⟩ => F3.L_inj2 e ▸ hf, fun h => ⟨g, h, rfl⟩⟩
    have := k fs pw fun g => by
      have := mem g.L
      rw [mm, mm] at this
      exact this
    rw [map_D F3.tI] at this
    exact this
structure IC (d r : Int) (fs : List F3) : Prop where
  mem : ∀ g, g ∈ fs ↔ g.disc = d ∧ cont g = 1 ∧ LeastOf r g g
  asc : (fs.map F3.L).Pairwise (· < ·)
/-- how many reduced forms the walk meets -/
def cA (d r b : Int) : Nat → Nat
  | 0 => 0
  | j + 1 => cA d r b j + (if ((d - b * b).fdiv 4).fmod (1 + (j : Int)) = 0 ∧ r - b < 2 * (1 + (j : Int)) then 2 else 0)
def cB (d r : Int) : Nat → Nat
  | 0 => 0
  | i + 1 => cB d r i + (if (d - (1 + (i : Int)) * (1 + (i : Int))).fmod 4 = 0 then cA d r (1 + (i : Int)) ((r + (1 + (i : Int))).fdiv 2).toNat else 0)
theorem cA_mono (d r b : Int) {j : Nat} : ∀ {k : Nat}, j ≤ k → cA d r b j ≤ cA d r b k
  | 0, h => by rw [Nat.le_zero.mp h]; exact Nat.le_refl _
  | k + 1, h => by
    rcases Nat.lt_or_ge j (k + 1) with z | z
    · exact Nat.le_trans (cA_mono d r b (k := k) (by omega)) (Nat.le_add_right _ _)
    · rw [Nat.le_antisymm h z]; exact Nat.le_refl _
theorem cB_mono (d r : Int) {j : Nat} : ∀ {k : Nat}, j ≤ k → cB d r j ≤ cB d r k
  | 0, h => by rw [Nat.le_zero.mp h]; exact Nat.le_refl _
  | k + 1, h => by
    rcases Nat.lt_or_ge j (k + 1) with z | z
    · exact Nat.le_trans (cB_mono d r (k := k) (by omega)) (Nat.le_add_right _ _)
    · rw [Nat.le_antisymm h z]; exact Nat.le_refl _
theorem cB_all : ((List.range 400).all fun D => (List.range 20).all fun R => !decide (R * R < D ∧ D < (R + 1) * (R + 1)) || decide (cB (D : Int) (R : Int) R ≤ 60)) = true := by decide +kernel
theorem cB_few {d r : Int} (hr : Rt d r) (hd : d < 400) : cB d r r.toNat ≤ 60 := by
  obtain ⟨h0, h1, h2⟩ := hr
  have r19 : r < 20 := Int.not_le.mp fun z => by
    have := Int.mul_le_mul z z (by decide) (by omega)
    omega
  have d0 : 0 ≤ d := by have := Int.mul_nonneg h0 h0; omega
  obtain ⟨D, hD⟩ : ∃ D : Nat, d = (D : Int) := ⟨d.toNat, by omega⟩
  obtain ⟨R, hR⟩ : ∃ R : Nat, r = (R : Int) := ⟨r.toNat, by omega⟩
  subst hD hR
  have a := List.all_eq_true.mp (List.all_eq_true.mp cB_all D (List.mem_range.mpr (by omega))) R (List.mem_range.mpr (by omega))
  have c : R * R < D ∧ D < (R + 1) * (R + 1) := by
    constructor
    · have : ((R * R : Nat) : Int) < (D : Int) := by rw [Int.natCast_mul]; exact h1
      omega
    · have : (D : Int) < (((R + 1) * (R + 1) : Nat) : Int) := by rw [Int.natCast_mul, Int.natCast_add]; exact h2
      omega
  rw [decide_eq_true c] at a
  have := of_decide_eq_true (by simpa using a : decide (cB (D : Int) (R : Int) R ≤ 60) = true)
  rw [Int.toNat_natCast]
  exact this
/-- what has been found of the reduced forms met so far -/
structure ICi (d r : Int) (V : F3 → Prop) (gl : List F3) : Prop where
  ok : ∀ g ∈ gl, ∃ F, RedI r F ∧ F.disc = d ∧ cont F = 1 ∧ LeastOf r F g
  all : ∀ F, RedI r F → F.disc = d → cont F = 1 → V F → ∃ g ∈ gl, LeastOf r F g
theorem ICi.up {d r : Int} {V V' : F3 → Prop} {gl : List F3} (h : ICi d r V gl) (k : ∀ F, RedI r F → F.disc = d → cont F = 1 → V' F → V F) : ICi d r V' gl := ⟨h.ok, fun F a b c v => h.all F a b c (k F a b c v)⟩
theorem ICi.add {d r : Int} {V : F3 → Prop} {gl : List F3} {F g : F3} (h : ICi d r V gl) (a : RedI r F) (b : F.disc = d) (c : cont F = 1) (l : LeastOf r F g) : ICi d r (fun X => V X ∨ X = F) (gl ++ [g]) := by
  refine ⟨fun x hx => ?_, fun X a' b' c' v => ?_⟩
  · rcases List.mem_append.mp hx with z | z
    · exact h.ok x z
    · rw [List.mem_singleton] at z; rw [z]; exact ⟨F, a, b, c, l⟩
  · rcases v with v | v
    · obtain ⟨y, hy, hl⟩ := h.all X a' b' c' v
      exact ⟨y, List.mem_append_left _ hy, hl⟩
    · rw [v]; exact ⟨g, List.mem_append_right _ List.mem_cons_self, l⟩
theorem least_self {r : Int} {f g : F3} (h : LeastOf r f g) : LeastOf r g g := ⟨h.red, ⟨M4.one, rfl, F3.act_one _⟩, fun x hx e => h.min x hx (h.eqv.trans e)⟩
/-- a reduced form is one of the two of its row -/
theorem red_row {d r b : Int} {F : F3} (hr : Rt d r) (h : RedI r F) (hd : F.disc = d) (hb : F.b = b) : (d - b * b).fmod 4 = 0 ∧ ((d - b * b).fdiv 4).fmod (iabs F.a) = 0 ∧ r - b < 2 * iabs F.a ∧ 1 ≤ iabs F.a ∧ iabs F.a ≤ (r + b).fdiv 2 ∧
    (F = ⟨iabs F.a, b, (-((d - b * b).fdiv 4)).fdiv (iabs F.a)⟩ ∨ F = ⟨-iabs F.a, b, ((d - b * b).fdiv 4).fdiv (iabs F.a)⟩) := by
  obtain ⟨h1, h2, h3, h4⟩ := h
  rw [hb] at h1 h2 h3 h4
  have a0 : F.a ≠ 0 := fun z => by
    rw [z] at h3
    unfold iabs at h3
    simp only [Int.lt_irrefl, if_false, Int.mul_zero] at h3
    omega
  have ap := iabs_pos a0
  have e1 : d - b * b = 4 * (-(F.a * F.c)) := by rw [← hd, ← hb]; unfold F3.disc; grind
  have e2 : (d - b * b).fdiv 4 = -(F.a * F.c) := by rw [e1]; exact fd_mul (by decide)
  refine ⟨fm0.mpr ⟨_, e1⟩, ?_, h3, by omega, ?_, ?_⟩
  · rw [e2]
    refine fm0.mpr ?_
    refine Int.dvd_neg.mpr (Int.dvd_mul_of_dvd_left ?_)
    unfold iabs
    split
    · exact ⟨-1, by omega⟩
    · exact Int.dvd_refl _
  · have : 2 * iabs F.a ≤ r + b := h4
    have e3 := Int.mul_fdiv_add_fmod (r + b) 2
    have e4 := Int.fmod_lt_of_pos (r + b) (show (0 : Int) < 2 by decide)
    omega
  · rw [e2]
    by_cases z : F.a < 0
    · have ei : iabs F.a = -F.a := if_pos z
      refine .inr (F3.ext (by rw [ei]; dsimp only; omega) hb ?_)
      dsimp only
      rw [ei, show -(F.a * F.c) = -F.a * F.c by rw [Int.neg_mul], fd_mul (by omega)]
    · have ei : iabs F.a = F.a := if_neg z
      refine .inl (F3.ext (by rw [ei]) hb ?_)
      dsimp only
      rw [ei, Int.neg_neg, fd_mul a0]
theorem row_red {d r b a : Int} (hr : Rt d r) (hb0 : 0 < b) (hb1 : b ≤ r) (ha : 1 ≤ a) (ha2 : a ≤ (r + b).fdiv 2) (h1 : (d - b * b).fmod 4 = 0) (h2 : ((d - b * b).fdiv 4).fmod a = 0) (h3 : r - b < 2 * a) :
    (RedI r ⟨a, b, (-((d - b * b).fdiv 4)).fdiv a⟩ ∧ F3.disc ⟨a, b, (-((d - b * b).fdiv 4)).fdiv a⟩ = d) ∧ RedI r ⟨-a, b, ((d - b * b).fdiv 4).fdiv a⟩ ∧ F3.disc ⟨-a, b, ((d - b * b).fdiv 4).fdiv a⟩ = d := by
  have e1 := fd_of (fm0.mp h1)
  have e2 := fd_of (fm0.mp h2)
  have e2' : a * (-((d - b * b).fdiv 4)).fdiv a = -((d - b * b).fdiv 4) := fd_of (Int.dvd_neg.mpr (fm0.mp h2))
  have e3 := Int.mul_fdiv_add_fmod (r + b) 2
  have e4 := Int.fmod_nonneg_of_pos (r + b) (show (0 : Int) < 2 by decide)
  have i1 : iabs a = a := if_neg (by omega)
  have i2 : iabs (-a) = a := by rw [iabs_neg, i1]
  refine ⟨⟨⟨hb0, hb1, ?_, ?_⟩, ?_⟩, ⟨hb0, hb1, ?_, ?_⟩, ?_⟩
  · show r - b < 2 * iabs a; rw [i1]; exact h3
  · show 2 * iabs a ≤ r + b; rw [i1]; omega
  · unfold F3.disc
    dsimp only
    rw [Int.mul_assoc, e2']
    omega
  · show r - b < 2 * iabs (-a); rw [i2]; exact h3
  · show 2 * iabs (-a) ≤ r + b; rw [i2]; omega
  · unfold F3.disc
    dsimp only
    rw [Int.mul_assoc, Int.neg_mul, e2]
    omega
theorem map_getE17 {α : Type} {F : α → D} {l : List α} {i : Nat} {d : D} (h : (l.map F)[i]? = some d) : ∃ x, d = F x ∧ l[i]? = some x := by
  rw [List.getElem?_map] at h
  cases e : l[i]? with
  | none => rw [e] at h; cases h
  | some x => rw [e] at h; exact ⟨x, (Option.some.inj h).symm, rfl⟩
@[irreducible] def sp_indefinite_classes_v1 : FSpec := fun ds tk Q => ∃ (d r : Int), ds = [.int d] ∧ (d < 400) ∧ (Rt d r) ∧ (¬ IsSq d) ∧ ∀ (fs : List F3), ∀ (h : IC d r fs), Q (.own (fs.map F3.D)) tk
theorem op_indefinite_classes_v1 {ds : List D} {tk : Tk} {Q : EV → Tk → Prop} (h : sp_indefinite_classes_v1 ds tk Q) : ∃ (d r : Int), ds = [.int d] ∧ (d < 400) ∧ (Rt d r) ∧ (¬ IsSq d) ∧ ∀ (fs : List F3), ∀ (h : IC d r fs), Q (.own (fs.map F3.D)) tk := by unfold sp_indefinite_classes_v1 at h; exact h
theorem mon_indefinite_classes_v1 : MonFS sp_indefinite_classes_v1 := fun ds tk Q Q' hq_ hs_ => by
  obtain ⟨d, r, e_, hd, hr, hs, q_⟩ := op_indefinite_classes_v1 hs_
  unfold sp_indefinite_classes_v1
  exact ⟨d, r, e_, hd, hr, hs, fun fs h => hq_ _ _ (q_ fs h)⟩
theorem len_indefinite_classes_v1 : ∀ ds tk Q, sp_indefinite_classes_v1 ds tk Q → ds.length = 1 := fun ds tk Q hs_ => by
  obtain ⟨d, r, e_, hd, hr, hs, q_⟩ := op_indefinite_classes_v1 hs_
  rw [e_]; rfl
theorem cl_indefinite_classes_v1 {tk : Tk} {Q : EV → Tk → Prop} {d r : Int} (hd : d < 400) (hr : Rt d r) (hs : ¬ IsSq d) (q_ : ∀ (fs : List F3), ∀ (h : IC d r fs), Q (.own (fs.map F3.D)) tk) : sp_indefinite_classes_v1 [.int d] tk Q := by
  unfold sp_indefinite_classes_v1
  exact ⟨d, r, rfl, hd, hr, hs, q_⟩
theorem ce_indefinite_classes_v1 {ds_ : List D} {tk : Tk} {Q : EV → Tk → Prop} {d r : Int} (hd : d < 400) (hr : Rt d r) (hs : ¬ IsSq d) (e_ : ds_ = [.int d]) (q_ : ∀ (fs : List F3), ∀ (h : IC d r fs), Q (.own (fs.map F3.D)) tk) : sp_indefinite_classes_v1 ds_ tk Q := by
  subst e_
  unfold sp_indefinite_classes_v1
  exact ⟨d, r, rfl, hd, hr, hs, q_⟩
abbrev N_indefinite_classes_v1 : List Str := ["d", "found", "root", "b", "rest", "a", "form"]
def c_indefinite_classes_v1 : WS :=
  (wSeq (wSet 1 (wLst wNil))
  (wSeq (wSet 2 (wCall sp_floor_root (wCons (fz (wV 0)) wNil)))
  (wSeq (wFor (wR2 (fz (wC (.int 1))) (fz (wOp fAdd (wPk 2) (fz (wC (.int 1)))))) (gN 3) (wIfS (wT (wOp fEq (fz (wOp fMod (fz (wOp fSub (wPk 0) (fz (wOp fMul (wPk 3) (wPk 3))))) (fz (wC (.int 4))))) (fz (wC (.int 0))))) (wSeq (wSet 4 (wOp fDiv (fz (wOp fSub (wPk 0) (fz (wOp fMul (wPk 3) (wPk 3))))) (fz (wC (.int 4)))))
  (wFor (wR2 (fz (wC (.int 1))) (fz (wOp fAdd (fz (wOp fDiv (fz (wOp fAdd (wPk 2) (wPk 3))) (fz (wC (.int 2))))) (fz (wC (.int 1)))))) (gN 5) (wIfS (wAnd (wT (wOp fEq (fz (wOp fMod (wPk 4) (wPk 5))) (fz (wC (.int 0))))) (wT (wOp fLt (fz (wOp fSub (wPk 2) (wPk 3))) (fz (wOp fMul (fz (wC (.int 2))) (wPk 5)))))) (wFor (wSrc (fz (wLst (wCons (fz (wTup (wCons (fz (wV 5)) (wCons (fz (wV 3)) (wCons (fz (wOp fDiv (fz (w1 fNeg (wPk 4))) (wPk 5))) wNil))))) (wCons (fz (wTup (wCons (fz (w1 fNeg (wPk 5))) (wCons (fz (wV 3)) (wCons (fz (wOp fDiv (wPk 4) (wPk 5))) wNil))))) wNil))))) (gN 6) (wIfS (wT (wOp fEq (fz (wCall sp_content (wCons (fz (wV 6)) wNil))) (fz (wC (.int 1))))) (wApp 1 (fz (wOp fIdx (fz (wCall sp_canonical (wCons (fz (wV 6)) wNil))) (fz (wC (.int 0)))))) wNext)) wNext))) wNext))
  (wRet (w1 fSortSet (wPk 1))))))
theorem hw_indefinite_classes_v1 : ∀ ds tk Q, sp_indefinite_classes_v1 ds tk Q → c_indefinite_classes_v1 { nx := fun _ t => Q (.val .non) t, rt := Q } (start N_indefinite_classes_v1.length ds) tk := by
  intro ds tk Q h_
  obtain ⟨d, r, rfl, hd, hr, hs, q⟩ := op_indefinite_classes_v1 h_
  have r19 : r < 20 := Int.not_le.mp fun z => by
    have := Int.mul_le_mul z z (by decide) (by omega)
    have := hr.lo
    omega
  have r0 := hr.r0
  have d0 : 0 ≤ d := by have := Int.mul_nonneg hr.r0 hr.r0; have := hr.lo; omega
  have sd : Sm 10 d := show d.natAbs < 2 ^ 10 by omega
  have few := cB_few hr hd
  refine seq_cut (a := wSet _ _) (fun e t => t = tk ∧ e = [some (.val (.int (d))), some (.own ([])), none, none, none, none, none]) (fun R hR => ⟨rfl, hR _ _ ⟨rfl, rfl⟩⟩) ?_
  rintro e t ⟨rfl, rfl⟩
  refine seq_cut (a := wSet _ _) (fun e t' => t' = t ∧ e = [some (.val (.int (d))), some (.own ([])), some (.val (.int (r))), none, none, none, none]) (fun R hR => ?_) ?_
  · exact fr_root hr (sd.mono (by decide)) (hR _ _ ⟨rfl, rfl⟩)
  rintro e t' ⟨rfl, rfl⟩
  refine seq_cut (a := wFor _ _ _) (fun e t => t = t' ∧ ∃ (gl : List F3) (x3 x4 x5 x6 : Option EV), ICi d r (fun _ => True) gl ∧ gl.length ≤ cB d r r.toNat ∧ e = [some (.val (.int (d))), some (.own ((gl.map F3.D))), some (.val (.int (r))), x3, x4, x5, x6]) (fun R0 hR0 => ?_) ?_
  · refine ⟨by omega, ?_⟩
    have e0 : (r + 1 - 1).toNat = r.toNat := by omega
    rw [e0]
    refine forGo_rng (fun i e t => t = t' ∧ ∃ (gl : List F3) (x3 x4 x5 x6 : Option EV), ICi d r (fun F => F.b < 1 + (i : Int)) gl ∧ gl.length ≤ cB d r i ∧ e = [some (.val (.int (d))), some (.own ((gl.map F3.D))), some (.val (.int (r))), x3, x4, x5, x6]) (fun i e t R hi hI hR => ?_) (fun e t hI => ?_) ⟨rfl, [], none, none, none, none, ⟨(fun g hg => nomatch hg), fun F h1 h2 h3 v => absurd h1.1 (by omega)⟩, Nat.zero_le _, rfl⟩
    · obtain ⟨rfl, gl, x3, x4, x5, x6, I, len, rfl⟩ := hI
      obtain ⟨b, hb⟩ : ∃ b, b = 1 + (i : Int) := ⟨_, rfl⟩
      rw [← hb] at I ⊢
      have sb : Sm 10 b := show b.natAbs < 2 ^ 10 by omega
      have n4 : (4 : Int) ≠ 0 := by decide
      refine ⟨q1 sb sb, n4, ?_⟩
      refine if2 (fun h1 => ?_) (fun h1 => ?_)
      · have h1 : (d - b * b).fmod 4 = 0 := h1
        refine seq_cut (a := wSet _ _) (fun e t' => t' = t ∧ e = [some (.val (.int (d))), some (.own ((gl.map F3.D))), some (.val (.int (r))), some (.val (.int (b))), some (.val (.int (((d - b * b).fdiv 4)))), x5, x6]) (fun R1 hR1 => ⟨q1 sb sb, divOk_lit n4 (by decide), hR1 _ _ ⟨rfl, rfl⟩⟩) ?_
        rintro e t' ⟨rfl, rfl⟩
        obtain ⟨w, hw⟩ : ∃ w, w = (d - b * b).fdiv 4 := ⟨_, rfl⟩
        have sw : Sm 30 w := by
          rw [hw]
          exact Sm.fdiv (((sd.mono (show 10 ≤ 20 by decide)).sub (sb.mul sb)).mono (by decide))
        rw [← hw]
        have ct : cB d r (i + 1) = cB d r i + cA d r b ((r + b).fdiv 2).toNat := by
          show cB d r i + (if _ then _ else 0) = _
          rw [← hb, if_pos h1]
        have A0 := Int.fmod_nonneg_of_pos (r + b) (show (0 : Int) < 2 by decide)
        have A1 := Int.mul_fdiv_add_fmod (r + b) 2
        have A2 := Int.fmod_lt_of_pos (r + b) (show (0 : Int) < 2 by decide)
        refine ⟨divOk_lit (by decide) (by decide), by omega, ?_⟩
        have e1 : ((r + b).fdiv 2 + 1 - 1).toNat = ((r + b).fdiv 2).toNat := by omega
        rw [e1]
        refine forGo_rng (fun j e t => t = t' ∧ ∃ (gl : List F3) (x5 x6 : Option EV), ICi d r (fun F => F.b < b ∨ (F.b = b ∧ iabs F.a < 1 + (j : Int))) gl ∧ gl.length ≤ cB d r i + cA d r b j ∧ e = [some (.val (.int (d))), some (.own ((gl.map F3.D))), some (.val (.int (r))), some (.val (.int (b))), some (.val (.int (w))), x5, x6]) (fun j e t R' hj hI hR' => ?_) (fun e t hI => ?_) ⟨rfl, gl, x5, x6, I.up fun F a1 a2 a3 v => ?_, len, rfl⟩
        · obtain ⟨rfl, gl, x5, x6, I, len, rfl⟩ := hI
          obtain ⟨a, ha⟩ : ∃ a, a = 1 + (j : Int) := ⟨_, rfl⟩
          rw [← ha] at I ⊢
          have sa : Sm 10 a := show a.natAbs < 2 ^ 10 by omega
          have a0 : a ≠ 0 := by omega
          have lim1 := cA_mono d r b (j := j) (k := ((r + b).fdiv 2).toNat) (by omega)
          have lim2 := cB_mono d r (j := i + 1) (k := r.toNat) (by omega)
          have skip : (¬ (w.fmod a = 0 ∧ r - b < 2 * a)) → R' [some (.val (.int (d))), some (.own ((gl.map F3.D))), some (.val (.int (r))), some (.val (.int (b))), some (.val (.int (w))), some (.val (.int (a))), x6] t := fun no => by
            refine hR' _ _ ⟨rfl, gl, some (.val (.int a)), x6, I.up fun F a1 a2 a3 v => ?_, ?_, rfl⟩
            · rcases v with v | ⟨v, v2⟩
              · exact .inl v
              · refine .inr ⟨v, Int.not_le.mp fun z => no ?_⟩
                obtain ⟨k1, k2, k3, k4, k5, k6⟩ := red_row hr a1 a2 v
                rw [← hw, show iabs F.a = a by omega] at k2
                rw [show iabs F.a = a by omega] at k3
                exact ⟨k2, k3⟩
            · show gl.length ≤ cB d r i + (cA d r b j + _)
              omega
          refine ⟨a0, ?_⟩
          refine if2 (fun h2 => ?_) (fun h2 => skip fun z => h2 z.1)
          have h2 : w.fmod a = 0 := h2
          refine ⟨q1 s2 sa, ?_⟩
          refine if2 (fun h3 => ?_) (fun h3 => skip fun z => h3 z.2)
          have h3 : r - b < 2 * a := h3
          rw [hw] at h2
          obtain ⟨⟨f1, f2⟩, f3, f4⟩ := row_red (a := a) hr (by omega) (by omega) (by omega) (by omega) h1 h2 h3
          rw [← hw] at f1 f2 f3 f4 h2
          have dk : ∀ z : Int, DivOk z a := fun z => DivOk.of a0 sa (by decide)
          refine ⟨dk _, rfl, dk _, rfl, rfl, ?_⟩
          obtain ⟨F1, hF1⟩ : ∃ F1 : F3, F1 = ⟨a, b, (-w).fdiv a⟩ := ⟨_, rfl⟩
          obtain ⟨F2, hF2⟩ : ∃ F2 : F3, F2 = ⟨-a, b, w.fdiv a⟩ := ⟨_, rfl⟩
          rw [← hF1] at f1 f2
          rw [← hF2] at f3 f4
          have two : ∀ F ∈ [F1, F2], RedI r F ∧ F.disc = d := fun F hF => by
            simp only [List.mem_cons, List.not_mem_nil, or_false] at hF
            rcases hF with rfl | rfl
            · exact ⟨f1, f2⟩
            · exact ⟨f3, f4⟩
          have go : forGo (gN 6) (wIfS (wT (wOp fEq (fz (wCall sp_content (wCons (fz (wV 6)) wNil))) (fz (wC (.int 1))))) (wApp 1 (fz (wOp fIdx (fz (wCall sp_canonical (wCons (fz (wV 6)) wNil))) (fz (wC (.int 0)))))) wNext) { nx := R', rt := Q, bk := R, ct := R' } ([F1, F2].map F3.D) [some (.val (.int (d))), some (.own ((gl.map F3.D))), some (.val (.int (r))), some (.val (.int (b))), some (.val (.int (w))), some (.val (.int (a))), x6] t := by
            have hX : ∀ (k : Nat) (X : F3), [F1, F2][k]? = some X → k < 2 ∧ X ∈ [F1, F2] := fun k X h => ⟨(List.getElem?_eq_some_iff.mp h).1, List.mem_of_getElem? h⟩
            refine forGo_inv (ds := [F1, F2].map F3.D) (fun k e t2 => t2 = t ∧ ∃ (g2 : List F3) (x6 : Option EV), ICi d r (fun F => (F.b < b ∨ (F.b = b ∧ iabs F.a < a)) ∨ F ∈ [F1, F2].take k) g2 ∧ g2.length ≤ cB d r i + cA d r b j + k ∧ e = [some (.val (.int (d))), some (.own ((g2.map F3.D))), some (.val (.int (r))), some (.val (.int (b))), some (.val (.int (w))), some (.val (.int (a))), x6]) (fun k d' e t2 R3 hd' hI hR3 => ?_) (fun e t2 hI => ?_) ⟨rfl, gl, x6, I.up fun F a1 a2 a3 v => ?_, by omega, rfl⟩
            · obtain ⟨rfl, g2, x6, I2, len2, rfl⟩ := hI
              obtain ⟨X, rfl, hk⟩ := map_getE17 hd'
              obtain ⟨k2, mX⟩ := hX k X hk
              obtain ⟨rX, dX⟩ := two X mX
              have hrX : Rt X.disc r := by rw [dX]; exact hr
              have sX := red_small hrX rX (by omega)
              have tk1 : [F1, F2].take (k + 1) = [F1, F2].take k ++ [X] := by rw [List.take_add_one, hk]; rfl
              refine cl_content (f := X) (sX.up (by decide)) ?_
              refine if2 (fun h4 => ?_) (fun h4 => ?_)
              · have h4 : cont X = 1 := h4
                refine cl_canonical (f := X) (r := r) (sX.up (by decide)) hrX (by rw [dX]; exact hs) (by omega) fun g m he hdm hL sg sm => ?_
                refine ⟨by rw [List.length_map]; exact szl (by omega), ?_⟩
                refine hR3 _ _ ⟨rfl, g2 ++ [g], some (.val X.D), (I2.add rX dX h4 hL).up fun F a1 a2 a3 v => ?_, by rw [List.length_append]; show g2.length + 1 ≤ _; omega, ?_⟩
                · rcases v with v | v
                  · exact .inl (.inl v)
                  · rw [tk1] at v
                    rcases List.mem_append.mp v with v | v
                    · exact .inl (.inr v)
                    · exact .inr (List.mem_singleton.mp v)
                · rw [List.map_append]; rfl
              · have h4 : ¬ cont X = 1 := h4
                refine hR3 _ _ ⟨rfl, g2, some (.val X.D), I2.up fun F a1 a2 a3 v => ?_, by omega, rfl⟩
                rcases v with v | v
                · exact .inl v
                · rw [tk1] at v
                  rcases List.mem_append.mp v with v | v
                  · exact .inr v
                  · rw [List.mem_singleton.mp v] at a3
                    exact absurd a3 h4
            · obtain ⟨rfl, g2, x6, I2, len2, rfl⟩ := hI
              refine hR' _ _ ⟨rfl, g2, some (.val (.int a)), x6, I2.up fun F a1 a2 a3 v => ?_, ?_, rfl⟩
              · rcases v with v | ⟨v, v2⟩
                · exact .inl (.inl v)
                · by_cases z : iabs F.a < a
                  · exact .inl (.inr ⟨v, z⟩)
                  · refine .inr ?_
                    have ea : iabs F.a = a := by omega
                    obtain ⟨k1, k2, k3, k4, k5, k6⟩ := red_row hr a1 a2 v
                    rw [ea, ← hw, ← hF1, ← hF2] at k6
                    show F ∈ [F1, F2]
                    rcases k6 with k6 | k6
                    · rw [k6]; exact List.mem_cons_self
                    · rw [k6]; exact List.mem_cons_of_mem _ List.mem_cons_self
              · have len2 : g2.length ≤ cB d r i + cA d r b j + 2 := len2
                have ca : cA d r b (j + 1) = cA d r b j + 2 := by
                  show cA d r b j + (if _ then _ else 0) = _
                  rw [← ha, ← hw, if_pos ⟨h2, h3⟩]
                omega
            · rcases v with v | v
              · exact v
              · exact nomatch v
          rw [hF1, hF2] at go
          exact go
        · obtain ⟨rfl, gl, x5, x6, I, len, rfl⟩ := hI
          refine hR _ _ ⟨rfl, gl, some (.val (.int b)), some (.val (.int w)), x5, x6, I.up fun F a1 a2 a3 v => ?_, by rw [ct]; exact len, rfl⟩
          rcases (by omega : F.b < b ∨ F.b = b) with z | z
          · exact .inl z
          · refine .inr ⟨z, ?_⟩
            obtain ⟨k1, k2, k3, k4, k5, k6⟩ := red_row hr a1 a2 z
            omega
        · rcases v with v | ⟨v, v2⟩
          · exact v
          · have := (red_row hr a1 a2 v).2.2.2.1
            omega
      · have h1 : ¬ (d - b * b).fmod 4 = 0 := h1
        refine hR _ _ ⟨rfl, gl, some (.val (.int b)), x4, x5, x6, I.up fun F a1 a2 a3 v => ?_, ?_, rfl⟩
        · refine Classical.byContradiction fun z => h1 ?_
          exact (red_row hr a1 a2 (show F.b = b by omega)).1
        · show gl.length ≤ cB d r i + _
          omega
    · obtain ⟨rfl, gl, x3, x4, x5, x6, I, len, rfl⟩ := hI
      refine hR0 _ _ ⟨rfl, gl, x3, x4, x5, x6, I.up fun F a1 a2 a3 _ => ?_, len, rfl⟩
      have := a1.2.1
      omega
  rintro e t ⟨rfl, gl, x3, x4, x5, x6, I, len, rfl⟩
  show fSortSet (.lst (gl.map F3.D)) fun ev => Q ev t
  refine sset_F3 (by omega) fun fs asc mem => q fs ⟨fun g => ?_, asc⟩
  rw [mem]
  constructor
  · intro hg
    obtain ⟨F, a1, a2, a3, a4⟩ := I.ok g hg
    obtain ⟨m, md, me⟩ := a4.eqv
    exact ⟨by rw [← me, F3.disc_act1 F md, a2], by rw [← me, cont_actF md, a3], least_self a4⟩
  · rintro ⟨a1, a2, a3⟩
    obtain ⟨g', hg', l⟩ := I.all g a3.red a1 a2 trivial
    rw [least_uniq a3 l ⟨M4.one, rfl, F3.act_one _⟩]
    exact hg'
end DL
set_option maxHeartbeats 1000000
set_option pp.maxSteps 1200
namespace DL
open PySem PySem.Spec PyProof.Rows L2
/-! ### classes -/
/-- the canonical forms of content 1 and a discriminant -/
def Cn (d : Int) (g : F3) : Prop := (d < 0 ∧ Good d g) ∨ (0 < d ∧ ∃ r, Rt d r ∧ g.disc = d ∧ cont g = 1 ∧ LeastOf r g g)
structure CnL (d : Int) (fs : List F3) : Prop where
  mem : ∀ g, g ∈ fs ↔ Cn d g
  asc : (fs.map F3.L).Pairwise (· < ·)
theorem rt_uniq17 {d r s : Int} (h : Rt d r) (h' : Rt d s) : r = s := by
  obtain ⟨a, b, c⟩ := h
  obtain ⟨a', b', c'⟩ := h'
  rcases Int.lt_trichotomy r s with z | z | z
  · have := Int.mul_le_mul (show r + 1 ≤ s by omega) (show r + 1 ≤ s by omega) (by omega) (by omega)
    omega
  · exact z
  · have := Int.mul_le_mul (show s + 1 ≤ r by omega) (show s + 1 ≤ r by omega) (by omega) (by omega)
    omega
theorem cnL_uniq {d : Int} {fs gs : List F3} (h : CnL d fs) (h' : CnL d gs) : fs = gs := by
  have nd : ∀ {l : List F3}, (l.map F3.L).Pairwise (· < ·) → l.Nodup := fun {l} h => by
    unfold List.Nodup
    refine (List.pairwise_map.mp h).imp fun {a b} lt e => ?_
    rw [e] at lt
    exact li_irr _ lt
  have pm : (fs.map F3.L).Perm (gs.map F3.L) := ((List.perm_ext_iff_of_nodup (nd h.asc) (nd h'.asc)).mpr fun g => by rw [h.mem, h'.mem]).map _
  have e := asc_perm pm (h.asc.imp fun lt => List.le_of_lt lt) (h'.asc.imp fun lt => List.le_of_lt lt)
  exact (List.map_inj_right fun a b e => F3.L_inj2 e).mp e
@[irreducible] def sp_classes_v1 : FSpec := fun ds tk Q => ∃ (d : Int), ds = [.int d] ∧ (-4000 ≤ d) ∧ (d < 400) ∧ (d < 0 ∨ ¬ IsSq d) ∧ ∀ (fs : List F3), ∀ (h : CnL d fs), Q (.own (fs.map F3.D)) tk
theorem op_classes_v1 {ds : List D} {tk : Tk} {Q : EV → Tk → Prop} (h : sp_classes_v1 ds tk Q) : ∃ (d : Int), ds = [.int d] ∧ (-4000 ≤ d) ∧ (d < 400) ∧ (d < 0 ∨ ¬ IsSq d) ∧ ∀ (fs : List F3), ∀ (h : CnL d fs), Q (.own (fs.map F3.D)) tk := by unfold sp_classes_v1 at h; exact h
theorem mon_classes_v1 : MonFS sp_classes_v1 := fun ds tk Q Q' hq_ hs_ => by
  obtain ⟨d, e_, h0, h1, hs, q_⟩ := op_classes_v1 hs_
  unfold sp_classes_v1
  exact ⟨d, e_, h0, h1, hs, fun fs h => hq_ _ _ (q_ fs h)⟩
theorem len_classes_v1 : ∀ ds tk Q, sp_classes_v1 ds tk Q → ds.length = 1 := fun ds tk Q hs_ => by
  obtain ⟨d, e_, h0, h1, hs, q_⟩ := op_classes_v1 hs_
  rw [e_]; rfl
theorem cl_classes_v1 {tk : Tk} {Q : EV → Tk → Prop} {d : Int} (h0 : -4000 ≤ d) (h1 : d < 400) (hs : d < 0 ∨ ¬ IsSq d) (q_ : ∀ (fs : List F3), ∀ (h : CnL d fs), Q (.own (fs.map F3.D)) tk) : sp_classes_v1 [.int d] tk Q := by
  unfold sp_classes_v1
  exact ⟨d, rfl, h0, h1, hs, q_⟩
theorem ce_classes_v1 {ds_ : List D} {tk : Tk} {Q : EV → Tk → Prop} {d : Int} (h0 : -4000 ≤ d) (h1 : d < 400) (hs : d < 0 ∨ ¬ IsSq d) (e_ : ds_ = [.int d]) (q_ : ∀ (fs : List F3), ∀ (h : CnL d fs), Q (.own (fs.map F3.D)) tk) : sp_classes_v1 ds_ tk Q := by
  subst e_
  unfold sp_classes_v1
  exact ⟨d, rfl, h0, h1, hs, q_⟩
abbrev N_classes_v1 : List Str := ["d"]
def c_classes_v1 : WS :=
  (wSeq (wIfS (wT (wOp fLt (wPk 0) (fz (wC (.int 0))))) (wRet (wCall sp_positive_classes (wCons (fz (wV 0)) wNil))) wNext)
  (wRet (wCall sp_indefinite_classes_v1 (wCons (fz (wV 0)) wNil))))
theorem hw_classes_v1 : ∀ ds tk Q, sp_classes_v1 ds tk Q → c_classes_v1 { nx := fun _ t => Q (.val .non) t, rt := Q } (start N_classes_v1.length ds) tk := by
  intro ds tk Q h_
  obtain ⟨d, rfl, h0, h1, hs, q⟩ := op_classes_v1 h_
  refine if2 (fun z => ?_) (fun z => ?_)
  · have z : d < 0 := z
    refine cl_positive_classes (d := d) z h0 fun fs h => q fs ⟨fun g => ?_, h.asc⟩
    rw [h.mem]
    exact ⟨fun y => .inl ⟨z, y⟩, fun y => y.elim (fun y => y.2) fun y => absurd y.1 (by omega)⟩
  · have z : ¬ d < 0 := z
    have ns : ¬ IsSq d := hs.resolve_left z
    have p : 0 < d := by
      rcases (by omega : d = 0 ∨ 0 < d) with y | y
      · exact absurd ⟨0, by rw [y]; rfl⟩ ns
      · exact y
    obtain ⟨a, b, c⟩ := isq_spec (n := d) (by omega)
    have hr := rt_of a b c ns
    generalize (Float64.isqrt d.toNat : Int) = r at hr
    refine cl_indefinite_classes_v1 (d := d) (r := r) h1 hr ns fun fs h => q fs ⟨fun g => ?_, h.asc⟩
    rw [h.mem]
    refine ⟨fun y => .inr ⟨p, r, hr, y⟩, fun y => ?_⟩
    rcases y with y | ⟨_, r', hr', y⟩
    · exact absurd y.1 (by omega)
    · rw [rt_uniq17 hr hr']; exact y
@[irreducible] def sp_principal_v1 : FSpec := fun ds tk Q => ∃ (d : Int), ds = [.int d] ∧ (-4000 ≤ d) ∧ (d < 400) ∧ ∀ (g : F3), ∀ (h : CanF ⟨1, d.fmod 2, (d.fmod 2 - d).fdiv 4⟩ g), Q (.val g.D) tk
theorem op_principal_v1 {ds : List D} {tk : Tk} {Q : EV → Tk → Prop} (h : sp_principal_v1 ds tk Q) : ∃ (d : Int), ds = [.int d] ∧ (-4000 ≤ d) ∧ (d < 400) ∧ ∀ (g : F3), ∀ (h : CanF ⟨1, d.fmod 2, (d.fmod 2 - d).fdiv 4⟩ g), Q (.val g.D) tk := by unfold sp_principal_v1 at h; exact h
theorem mon_principal_v1 : MonFS sp_principal_v1 := fun ds tk Q Q' hq_ hs_ => by
  obtain ⟨d, e_, h0, h1, q_⟩ := op_principal_v1 hs_
  unfold sp_principal_v1
  exact ⟨d, e_, h0, h1, fun g h => hq_ _ _ (q_ g h)⟩
theorem len_principal_v1 : ∀ ds tk Q, sp_principal_v1 ds tk Q → ds.length = 1 := fun ds tk Q hs_ => by
  obtain ⟨d, e_, h0, h1, q_⟩ := op_principal_v1 hs_
  rw [e_]; rfl
theorem cl_principal_v1 {tk : Tk} {Q : EV → Tk → Prop} {d : Int} (h0 : -4000 ≤ d) (h1 : d < 400) (q_ : ∀ (g : F3), ∀ (h : CanF ⟨1, d.fmod 2, (d.fmod 2 - d).fdiv 4⟩ g), Q (.val g.D) tk) : sp_principal_v1 [.int d] tk Q := by
  unfold sp_principal_v1
  exact ⟨d, rfl, h0, h1, q_⟩
theorem ce_principal_v1 {ds_ : List D} {tk : Tk} {Q : EV → Tk → Prop} {d : Int} (h0 : -4000 ≤ d) (h1 : d < 400) (e_ : ds_ = [.int d]) (q_ : ∀ (g : F3), ∀ (h : CanF ⟨1, d.fmod 2, (d.fmod 2 - d).fdiv 4⟩ g), Q (.val g.D) tk) : sp_principal_v1 ds_ tk Q := by
  subst e_
  unfold sp_principal_v1
  exact ⟨d, rfl, h0, h1, q_⟩
abbrev N_principal_v1 : List Str := ["d"]
def c_principal_v1 : WS :=
  (wRet (wOp fIdx (fz (wCall sp_canonical_form_v2 (wCons (fz (wTup (wCons (fz (wC (.int 1))) (wCons (fz (wOp fMod (wPk 0) (fz (wC (.int 2))))) (wCons (fz (wOp fDiv (fz (wOp fSub (fz (wOp fMod (wPk 0) (fz (wC (.int 2))))) (wPk 0))) (fz (wC (.int 4))))) wNil))))) wNil))) (fz (wC (.int 0)))))
theorem hw_principal_v1 : ∀ ds tk Q, sp_principal_v1 ds tk Q → c_principal_v1 { nx := fun _ t => Q (.val .non) t, rt := Q } (start N_principal_v1.length ds) tk := by
  intro ds tk Q h_
  obtain ⟨d, rfl, h0, h1, q⟩ := op_principal_v1 h_
  have a0 := Int.fmod_nonneg_of_pos d (show (0 : Int) < 2 by decide)
  have a1 := Int.fmod_lt_of_pos d (show (0 : Int) < 2 by decide)
  have b1 := Int.mul_fdiv_add_fmod (d.fmod 2 - d) 4
  have b2 := Int.fmod_nonneg_of_pos (d.fmod 2 - d) (show (0 : Int) < 4 by decide)
  have b3 := Int.fmod_lt_of_pos (d.fmod 2 - d) (show (0 : Int) < 4 by decide)
  have up : ∀ {z : Int}, z.natAbs ≤ 4000 → Sm 100 z := fun h => Nat.lt_of_le_of_lt h (by decide)
  refine ⟨(show (2 : Int) ≠ 0 by decide), (show (2 : Int) ≠ 0 by decide), divOk_lit (by decide) (by decide), rfl, ?_⟩
  refine cl_canonical_form_v2 (f := ⟨1, d.fmod 2, (d.fmod 2 - d).fdiv 4⟩) ⟨up (show (1 : Int).natAbs ≤ 4000 by decide), up (by dsimp only; omega), up (by dsimp only; omega)⟩ ?_ fun g m he hm hC sg sm => ?_
  · unfold F3.disc
    dsimp only
    have : d.fmod 2 * d.fmod 2 ≤ 1 := by
      rcases (by omega : d.fmod 2 = 0 ∨ d.fmod 2 = 1) with y | y <;> rw [y] <;> decide
    omega
  exact q g hC
@[irreducible] def sp_opposite_v1 : FSpec := fun ds tk Q => ∃ (f : F3), ds = [f.D] ∧ (f.Sm 90) ∧ (f.disc < 9801) ∧ ∀ (g : F3), ∀ (h : CanF ⟨f.a, -f.b, f.c⟩ g), ∀ (sg : g.Sm 480), Q (.val g.D) tk
theorem op_opposite_v1 {ds : List D} {tk : Tk} {Q : EV → Tk → Prop} (h : sp_opposite_v1 ds tk Q) : ∃ (f : F3), ds = [f.D] ∧ (f.Sm 90) ∧ (f.disc < 9801) ∧ ∀ (g : F3), ∀ (h : CanF ⟨f.a, -f.b, f.c⟩ g), ∀ (sg : g.Sm 480), Q (.val g.D) tk := by unfold sp_opposite_v1 at h; exact h
theorem mon_opposite_v1 : MonFS sp_opposite_v1 := fun ds tk Q Q' hq_ hs_ => by
  obtain ⟨f, e_, hf, hd, q_⟩ := op_opposite_v1 hs_
  unfold sp_opposite_v1
  exact ⟨f, e_, hf, hd, fun g h sg => hq_ _ _ (q_ g h sg)⟩
theorem len_opposite_v1 : ∀ ds tk Q, sp_opposite_v1 ds tk Q → ds.length = 1 := fun ds tk Q hs_ => by
  obtain ⟨f, e_, hf, hd, q_⟩ := op_opposite_v1 hs_
  rw [e_]; rfl
theorem cl_opposite_v1 {tk : Tk} {Q : EV → Tk → Prop} {f : F3} (hf : f.Sm 90) (hd : f.disc < 9801) (q_ : ∀ (g : F3), ∀ (h : CanF ⟨f.a, -f.b, f.c⟩ g), ∀ (sg : g.Sm 480), Q (.val g.D) tk) : sp_opposite_v1 [f.D] tk Q := by
  unfold sp_opposite_v1
  exact ⟨f, rfl, hf, hd, q_⟩
theorem ce_opposite_v1 {ds_ : List D} {tk : Tk} {Q : EV → Tk → Prop} {f : F3} (hf : f.Sm 90) (hd : f.disc < 9801) (e_ : ds_ = [f.D]) (q_ : ∀ (g : F3), ∀ (h : CanF ⟨f.a, -f.b, f.c⟩ g), ∀ (sg : g.Sm 480), Q (.val g.D) tk) : sp_opposite_v1 ds_ tk Q := by
  subst e_
  unfold sp_opposite_v1
  exact ⟨f, rfl, hf, hd, q_⟩
abbrev N_opposite_v1 : List Str := ["form"]
def c_opposite_v1 : WS :=
  (wRet (wOp fIdx (fz (wCall sp_canonical_form_v2 (wCons (fz (wTup (wCons (fz (wOp fIdx (wPk 0) (fz (wC (.int 0))))) (wCons (fz (w1 fNeg (fz (wOp fIdx (wPk 0) (fz (wC (.int 1))))))) (wCons (fz (wOp fIdx (wPk 0) (fz (wC (.int 2))))) wNil))))) wNil))) (fz (wC (.int 0)))))
theorem hw_opposite_v1 : ∀ ds tk Q, sp_opposite_v1 ds tk Q → c_opposite_v1 { nx := fun _ t => Q (.val .non) t, rt := Q } (start N_opposite_v1.length ds) tk := by
  intro ds tk Q h_
  obtain ⟨f, rfl, hf, hd, q⟩ := op_opposite_v1 h_
  have ed : F3.disc ⟨f.a, -f.b, f.c⟩ = f.disc := by unfold F3.disc; dsimp only; grind
  refine ⟨rfl, ?_⟩
  refine cl_canonical_form_v2 (f := ⟨f.a, -f.b, f.c⟩) ⟨hf.1.mono (by decide), hf.2.1.neg.mono (by decide), hf.2.2.mono (by decide)⟩ (by rw [ed]; exact hd) fun g m he hm hC sg sm => ?_
  exact q g hC sg
end DL
set_option maxHeartbeats 1000000
set_option pp.maxSteps 1200
namespace DL
open PySem PySem.Spec PyProof.Rows L2
/-! ### the first times in a list -/
def fstK (l : List F3) (k : Nat) : Bool := !decide (l.getD k ⟨0, 0, 0⟩ ∈ l.take k)
def dedup (l : List F3) : List F3 := ((List.range l.length).filter (fstK l)).map fun k => l.getD k ⟨0, 0, 0⟩
theorem dedup_mem {l : List F3} {x : F3} : x ∈ dedup l ↔ x ∈ l := by
  unfold dedup
  rw [List.mem_map]
  constructor
  · rintro ⟨k, hk, rfl⟩
    have hk := List.mem_range.mp (List.mem_filter.mp hk).1
    rw [List.getD_eq_getElem?_getD, List.getElem?_eq_getElem hk]
    exact List.getElem_mem hk
  · intro h
    have ex : ∃ k, l[k]? = some x := List.mem_iff_getElem?.mp h
    obtain ⟨k, hk, hmin⟩ : ∃ k, l[k]? = some x ∧ ∀ j, j < k → l[j]? ≠ some x := by
      obtain ⟨k, hk⟩ := ex
      induction k using Nat.strongRecOn with
      | ind k ih =>
        by_cases z : ∃ j, j < k ∧ l[j]? = some x
        · obtain ⟨j, hj, e⟩ := z
          exact ih j hj e
        · exact ⟨k, hk, fun j hj e => z ⟨j, hj, e⟩⟩
    have kl := (List.getElem?_eq_some_iff.mp hk).1
    have eg : l.getD k ⟨0, 0, 0⟩ = x := by rw [List.getD_eq_getElem?_getD, hk]; rfl
    refine ⟨k, List.mem_filter.mpr ⟨List.mem_range.mpr kl, ?_⟩, eg⟩
    unfold fstK
    rw [eg, decide_eq_false]
    · rfl
    · intro z
      obtain ⟨j, hj⟩ := List.mem_iff_getElem?.mp z
      have jk : j < (l.take k).length := (List.getElem?_eq_some_iff.mp hj).1
      rw [List.length_take] at jk
      rw [List.getElem?_take, if_pos (by omega)] at hj
      exact hmin j (by omega) hj
theorem dedup_nd (l : List F3) : (dedup l).Nodup := by
  unfold dedup List.Nodup
  rw [List.pairwise_map]
  have pw : ((List.range l.length).filter (fstK l)).Pairwise (· < ·) := List.Pairwise.filter _ List.pairwise_lt_range
  refine pw.imp_of_mem fun {i j} hi hj ij e => ?_
  have h1 := List.mem_range.mp (List.mem_filter.mp hi).1
  have h2 := List.mem_range.mp (List.mem_filter.mp hj).1
  have f := (List.mem_filter.mp hj).2
  unfold fstK at f
  have : l.getD j ⟨0, 0, 0⟩ ∈ l.take j := by
    rw [← e, List.getD_eq_getElem?_getD, List.getElem?_eq_getElem h1]
    refine List.mem_iff_getElem?.mpr ⟨i, ?_⟩
    rw [List.getElem?_take, if_pos ij, List.getElem?_eq_getElem h1]
    rfl
  rw [decide_eq_true this] at f
  exact absurd f (by decide)
theorem f3_any {P : F3} {l : List F3} : ((l.map F3.D).any fun z => z.eqv P.D) = decide (P ∈ l) := by
  rw [map_D F3.tI, show P.D = tI P.L from rfl, any_tI]
  refine decide_eq_decide.mpr ?_
  rw [List.mem_map]
  exact ⟨fun ⟨X, hX, e⟩ => F3.L_inj2 e ▸ hX, fun h => ⟨P, h, rfl⟩⟩
theorem f3_okL (l : List F3) : D.ok (.lst (l.map F3.D)) = true := by rw [map_D F3.tI]; exact okL_tI _
theorem dedup_test {i j k : Nat} {l : List F3} {env : En} {tk : Tk} {K : Bool → En → Tk → Prop} (he : env[i]? = some (some (.own (l.map F3.D)))) (hk : env[j]? = some (some (.val (.int (0 + (k : Int)))))) (hl : k < l.length)
    (h : K (fstK l k) env tk) : wT (wOp fNotIn (fz (wOp fIdx (wPk i) (wPk j))) (fz (wSl (wPk i) wNo (wSo (wPk j))))) env tk K := by
  have hX : l[k]? = some l[k] := List.getElem?_eq_getElem hl
  have eg : l.getD k ⟨0, 0, 0⟩ = l[k] := by rw [List.getD_eq_getElem?_getD, hX]; rfl
  refine nodup_test he hk (show (l.map F3.D)[k]? = some (l[k]).D by rw [List.getElem?_map, hX]; rfl) ?_
  rw [← List.map_take]
  refine ⟨F3.ok_ _, f3_okL _, ?_⟩
  rw [f3_any]
  unfold fstK at h
  rw [eg] at h
  exact h
theorem idx_slot {i j k : Nat} {l : List F3} {env : En} {tk : Tk} {K : EV → En → Tk → Prop} (he : env[i]? = some (some (.own (l.map F3.D)))) (hk : env[j]? = some (some (.val (.int (0 + (k : Int)))))) (hl : k < l.length)
    (h : K (.val (l.getD k ⟨0, 0, 0⟩).D) env tk) : wOp fIdx (wPk i) (wPk j) env tk K := by
  have hX : l[k]? = some l[k] := List.getElem?_eq_getElem hl
  have eg : l.getD k ⟨0, 0, 0⟩ = l[k] := by rw [List.getD_eq_getElem?_getD, hX]; rfl
  rw [eg] at h
  simp only [wOp, wPk, he, hk, EV.d]
  exact idx_at (show (l.map F3.D)[k]? = some (l[k]).D by rw [List.getElem?_map, hX]; rfl) h
theorem sorted_nd {l : List F3} {q : EV → Prop} (nd : l.Nodup) (k : ∀ fs : List F3, (fs.map F3.L).Pairwise (· < ·) → (∀ g, g ∈ fs ↔ g ∈ l) → q (.own (fs.map F3.D))) : fSorted (.lst (l.map F3.D)) q := by
  rw [map_D F3.tI]
  refine sorted_tI (fun x hx => ?_) fun m pm pw => ?_
  · obtain ⟨m, _, rfl⟩ := List.mem_map.mp hx
    intro z; cases z
  · obtain ⟨fs, rfl, hp⟩ := perm_map_inv pm rfl
    have nd' : fs.Nodup := hp.nodup_iff.mpr nd
    have := k fs (List.pairwise_map.mpr (List.pairwise_iff_getElem.mpr fun i j hi hj ij => li_lt (List.pairwise_iff_getElem.mp (List.pairwise_map.mp pw) i j hi hj ij) fun e => List.pairwise_iff_getElem.mp nd' i j hi hj ij (F3.L_inj2 e))) fun g => hp.mem_iff
    rw [map_D F3.tI] at this
    exact this
/-! ### all by trying -/
structure LAi (d r : Int) (V : F3 → Prop) (gl : List F3) : Prop where
  ok : ∀ g ∈ gl, Cn d g
  all1 : d < 0 → ∀ F, Good d F → V F → F ∈ gl
  all2 : 0 < d → ∀ F, RedI r F → F.disc = d → cont F = 1 → V F → ∃ g ∈ gl, LeastOf r F g
theorem LAi.up {d r : Int} {V V' : F3 → Prop} {gl : List F3} (h : LAi d r V gl) (k : ∀ F, F.disc = d → F.a ≠ 0 → V' F → V F) : LAi d r V' gl :=
  ⟨h.ok, fun a F b c => h.all1 a F b (k F b.2.2.1 (by have := b.2.1; omega) c), fun a F b c e v => h.all2 a F b c e (k F c (by
    obtain ⟨x1, x2, x3, x4⟩ := b
    intro z
    rw [z] at x3
    unfold iabs at x3
    simp only [Int.lt_irrefl, if_false, Int.mul_zero] at x3
    omega) v)⟩
theorem good11 {d : Int} {F : F3} (h : Good d F) (h0 : -400 ≤ d) : F.a ≤ 11 ∧ 0 < F.a ∧ -F.a < F.b ∧ F.b ≤ F.a := by
  refine ⟨?_, h.2.1, h.1.1, h.1.2.1⟩
  have k := good_bound h
  refine Int.not_lt.mp fun z => ?_
  have := Int.mul_le_mul (show 12 ≤ F.a by omega) (show 12 ≤ F.a by omega) (by omega) (by omega)
  have e2 : 3 * F.a * F.a = 3 * (F.a * F.a) := by grind
  omega
theorem redI_a {r : Int} {F : F3} (h : RedI r F) : -r ≤ F.a ∧ F.a ≤ r := by
  obtain ⟨h1, h2, h3, h4⟩ := h
  have := iabs_eq F.a
  omega
@[irreducible] def sp_Lall : FSpec := fun ds tk Q => ∃ (d r : Int), ds = [.int d] ∧ (-400 ≤ d) ∧ (d < 400) ∧ (d < 0 ∨ (0 < d ∧ Rt d r ∧ ¬ IsSq d)) ∧ ∀ (fs : List F3), ∀ (h : CnL d fs), Q (.own (fs.map F3.D)) tk
theorem op_Lall {ds : List D} {tk : Tk} {Q : EV → Tk → Prop} (h : sp_Lall ds tk Q) : ∃ (d r : Int), ds = [.int d] ∧ (-400 ≤ d) ∧ (d < 400) ∧ (d < 0 ∨ (0 < d ∧ Rt d r ∧ ¬ IsSq d)) ∧ ∀ (fs : List F3), ∀ (h : CnL d fs), Q (.own (fs.map F3.D)) tk := by unfold sp_Lall at h; exact h
theorem mon_Lall : MonFS sp_Lall := fun ds tk Q Q' hq_ hs_ => by
  obtain ⟨d, r, e_, h0, h1, hs, q_⟩ := op_Lall hs_
  unfold sp_Lall
  exact ⟨d, r, e_, h0, h1, hs, fun fs h => hq_ _ _ (q_ fs h)⟩
theorem len_Lall : ∀ ds tk Q, sp_Lall ds tk Q → ds.length = 1 := fun ds tk Q hs_ => by
  obtain ⟨d, r, e_, h0, h1, hs, q_⟩ := op_Lall hs_
  rw [e_]; rfl
theorem cl_Lall {tk : Tk} {Q : EV → Tk → Prop} {d r : Int} (h0 : -400 ≤ d) (h1 : d < 400) (hs : d < 0 ∨ (0 < d ∧ Rt d r ∧ ¬ IsSq d)) (q_ : ∀ (fs : List F3), ∀ (h : CnL d fs), Q (.own (fs.map F3.D)) tk) : sp_Lall [.int d] tk Q := by
  unfold sp_Lall
  exact ⟨d, r, rfl, h0, h1, hs, q_⟩
theorem ce_Lall {ds_ : List D} {tk : Tk} {Q : EV → Tk → Prop} {d r : Int} (h0 : -400 ≤ d) (h1 : d < 400) (hs : d < 0 ∨ (0 < d ∧ Rt d r ∧ ¬ IsSq d)) (e_ : ds_ = [.int d]) (q_ : ∀ (fs : List F3), ∀ (h : CnL d fs), Q (.own (fs.map F3.D)) tk) : sp_Lall ds_ tk Q := by
  subst e_
  unfold sp_Lall
  exact ⟨d, r, rfl, h0, h1, hs, q_⟩
abbrev N_Lall : List Str := ["_law_d", "_law_found", "_law_a", "_law_b", "_law_form_here", "_law_good", "_law_k"]
def c_Lall : WS :=
  (wSeq (wSet 1 (wLst wNil))
  (wSeq (wFor (wR2 (fz (w1 fNeg (fz (wC (.int 40))))) (fz (wC (.int 41)))) (gN 2) (wFor (wR2 (fz (w1 fNeg (fz (wC (.int 20))))) (fz (wC (.int 41)))) (gN 3) (wIfS (wAnd (wT (wOp fNe (wPk 2) (fz (wC (.int 0))))) (wT (wOp fEq (fz (wOp fMod (fz (wOp fSub (fz (wOp fMul (wPk 3) (wPk 3))) (wPk 0))) (fz (wOp fMul (fz (wC (.int 4))) (wPk 2))))) (fz (wC (.int 0)))))) (wSeq (wSet 4 (wTup (wCons (fz (wV 2)) (wCons (fz (wV 3)) (wCons (fz (wOp fDiv (fz (wOp fSub (fz (wOp fMul (wPk 3) (wPk 3))) (wPk 0))) (fz (wOp fMul (fz (wC (.int 4))) (wPk 2))))) wNil)))))
  (wSeq (wSet 5 (wOp fEq (fz (wCall sp_Lmeasure_v1 (wCons (fz (wCall sp_Lmeasure_v1 (wCons (fz (wV 2)) (wCons (fz (wV 3)) wNil)))) (wCons (fz (wOp fIdx (wPk 4) (fz (wC (.int 2))))) wNil)))) (fz (wC (.int 1)))))
  (wSeq (wIfS (wAnd (wT (wV 5)) (wAnd (wT (wOp fLt (wPk 0) (fz (wC (.int 0))))) (wAnd (wT (wOp fGt (wPk 2) (fz (wC (.int 0))))) (wAnd (wT (wOp fLt (fz (w1 fNeg (wPk 2))) (wPk 3))) (wAnd (wT (wOp fLe (wPk 3) (wPk 2))) (wAnd (wT (wOp fLe (wPk 2) (fz (wOp fIdx (wPk 4) (fz (wC (.int 2))))))) (wOr (wT (wOp fGe (wPk 3) (fz (wC (.int 0))))) (wT (wOp fNe (wPk 2) (fz (wOp fIdx (wPk 4) (fz (wC (.int 2)))))))))))))) (wApp 1 (fz (wV 4))) wNext)
  (wIfS (wAnd (wT (wV 5)) (wAnd (wT (wOp fGt (wPk 0) (fz (wC (.int 0))))) (wT (wCall sp_Lis_reduced (wCons (fz (wV 4)) wNil))))) (wApp 1 (fz (w1 fMin1 (fz (wCall sp_Lring (wCons (fz (wV 4)) wNil)))))) wNext)))) wNext)))
  (wRet (w1 fSorted (fz (wLc (wR1 (fz (w1 fLen (wPk 1)))) (gN 6) (wT (wOp fNotIn (fz (wOp fIdx (wPk 1) (wPk 6))) (fz (wSl (wPk 1) wNo (wSo (wPk 6)))))) (wOp fIdx (wPk 1) (wPk 6)) [6]))))))
theorem hw_Lall : ∀ ds tk Q, sp_Lall ds tk Q → c_Lall { nx := fun _ t => Q (.val .non) t, rt := Q } (start N_Lall.length ds) tk := by
  intro ds tk Q h_
  obtain ⟨d, r, rfl, h0, h1, hs, q⟩ := op_Lall h_
  have sd : Sm 10 d := show d.natAbs < 2 ^ 10 by omega
  have r19 : 0 < d → r < 20 := fun p => Int.not_le.mp fun z => by
    obtain ⟨_, hr, _⟩ := hs.resolve_left (by omega)
    have := Int.mul_le_mul z z (by decide) (by omega)
    have := hr.lo
    omega
  refine seq_cut (a := wSet _ _) (fun e t => t = tk ∧ e = [some (.val (.int (d))), some (.own ((([] : List F3).map F3.D))), none, none, none, none, none]) (fun R hR => ⟨rfl, hR _ _ ⟨rfl, rfl⟩⟩) ?_
  rintro e t ⟨rfl, rfl⟩
  refine seq_cut (a := wFor _ _ _) (fun e t' => t' = t ∧ ∃ (gl : List F3) (x2 x3 x4 x5 : Option EV), LAi d r (fun _ => True) gl ∧ gl.length ≤ 81 * 61 ∧ e = [some (.val (.int (d))), some (.own ((gl.map F3.D))), x2, x3, x4, x5, none]) (fun R0 hR0 => ?_) ?_
  · refine ⟨by decide, ?_⟩
    refine forGo_rng (fun i e t' => t' = t ∧ ∃ (gl : List F3) (x2 x3 x4 x5 : Option EV), LAi d r (fun F => F.a < -40 + (i : Int)) gl ∧ gl.length ≤ i * 61 ∧ e = [some (.val (.int (d))), some (.own ((gl.map F3.D))), x2, x3, x4, x5, none]) (fun i e t' R hi hI hR => ?_) (fun e t' hI => ?_) ⟨rfl, [], none, none, none, none, ⟨(fun g hg => nomatch hg), fun p F h2 v => ?_, fun p F h2 h3 h4 v => ?_⟩, Nat.le_refl _, rfl⟩
    · obtain ⟨rfl, gl, x2, x3, x4, x5, I, len, rfl⟩ := hI
      obtain ⟨a, ha⟩ : ∃ a, a = -40 + (i : Int) := ⟨_, rfl⟩
      rw [← ha] at I ⊢
      have hi : i < 81 := hi
      have sa : Sm 10 a := show a.natAbs < 2 ^ 10 by omega
      refine ⟨by decide, ?_⟩
      refine forGo_rng (fun j e t => t = t' ∧ ∃ (gl : List F3) (x3 x4 x5 : Option EV), LAi d r (fun F => F.a < a ∨ (F.a = a ∧ F.b < -20 + (j : Int))) gl ∧ gl.length ≤ i * 61 + j ∧ e = [some (.val (.int (d))), some (.own ((gl.map F3.D))), some (.val (.int (a))), x3, x4, x5, none]) (fun j e t R' hj hI hR' => ?_) (fun e t hI => ?_) ⟨rfl, gl, x3, x4, x5, ?_, len, rfl⟩
      · obtain ⟨rfl, gl, x3, x4, x5, I, len, rfl⟩ := hI
        obtain ⟨b, hb⟩ : ∃ b, b = -20 + (j : Int) := ⟨_, rfl⟩
        rw [← hb] at I ⊢
        have hj : j < 61 := hj
        have sb : Sm 10 b := show b.natAbs < 2 ^ 10 by omega
        have sbb : Sm 21 (b * b - d) := (sb.mul sb).sub (sd.mono (by decide))
        have skip : ∀ (x4 x5 : Option EV), (∀ F : F3, F.disc = d → F.a = a → F.b = b → F.a ≠ 0 → False) → R' [some (.val (.int (d))), some (.own ((gl.map F3.D))), some (.val (.int (a))), some (.val (.int (b))), x4, x5, none] t := fun x4 x5 no => by
          refine hR' _ _ ⟨rfl, gl, _, x4, x5, I.up fun F e0 e1 v => ?_, by omega, rfl⟩
          rcases v with v | ⟨v, v2⟩
          · exact .inl v
          · refine .inr ⟨v, Int.not_le.mp fun z => no F e0 v (by omega) e1⟩
        refine ifN2 (fun a0 => ?_) (fun a0 => skip x4 x5 fun F _ e1 _ e2 => e2 (e1.trans a0))
        have a0 : ¬ a = 0 := a0
        have n4a : 4 * a ≠ 0 := by omega
        refine ⟨q1 sb sb, q1 s4 sa, n4a, ?_⟩
        refine if2 (fun hm => ?_) (fun hm => skip x4 x5 fun F e0 e1 e2 _ => hm ?_)
        · have hm : (b * b - d).fmod (4 * a) = 0 := hm
          obtain ⟨c, hc⟩ : ∃ c, c = (b * b - d).fdiv (4 * a) := ⟨_, rfl⟩
          have ec : 4 * a * c = b * b - d := by rw [hc]; exact fd_of (fm0.mp hm)
          have sc : Sm 21 c := by rw [hc]; exact sbb.fdiv
          obtain ⟨F0, hF0⟩ : ∃ F0 : F3, F0 = ⟨a, b, c⟩ := ⟨_, rfl⟩
          have fd0 : F0.disc = d := by rw [hF0]; unfold F3.disc; dsimp only; omega
          have sF : F0.Sm 25 := by rw [hF0]; exact ⟨sa.mono (by decide), sb.mono (by decide), sc.mono (by decide)⟩
          have only : ∀ F : F3, F.disc = d → F.a = a → F.b = b → F = F0 := fun F e0 e1 e2 => by
            rw [hF0]
            refine F3.ext e1 e2 ?_
            refine Int.eq_of_mul_eq_mul_left n4a ?_
            dsimp only
            rw [ec, ← e0]
            unfold F3.disc
            rw [e1, e2]; omega
          refine seq_cut (a := wSet _ _) (fun e t' => t' = t ∧ e = [some (.val (.int (d))), some (.own ((gl.map F3.D))), some (.val (.int (a))), some (.val (.int (b))), some (.val (F0.D)), x5, none]) (fun R1 hR1 => ⟨q1 sb sb, q1 s4 sa, DivOk.of n4a (s4.mul sa) (by decide), rfl, hR1 _ _ ⟨rfl, by rw [hF0, hc]; rfl⟩⟩) ?_
          rintro e t' ⟨rfl, rfl⟩
          refine seq_cut (a := wSet _ _) (fun e t => t = t' ∧ e = [some (.val (.int (d))), some (.own ((gl.map F3.D))), some (.val (.int (a))), some (.val (.int (b))), some (.val (F0.D)), some (.val (.bl (decide (cont F0 = 1)))), none]) (fun R1 hR1 => ?_) ?_
          · have sg : Sm 2000 (Int.gcd a b : Int) := by
              unfold Sm
              rw [Int.natAbs_natCast]
              refine Nat.lt_of_le_of_lt (Int.gcd_le_natAbs_left (b := b) a0) ?_
              exact (sa.mono (show 10 ≤ 2000 by decide))
            refine cl_Lmeasure_v1 (a := a) (b := b) (sa.mono (by decide)) (sb.mono (by decide)) ?_
            have ea : F0.a = a := by rw [hF0]
            have eb : F0.b = b := by rw [hF0]
            refine cl_Lmeasure_v1 (a := (Int.gcd a b : Int)) (b := F0.c) sg (sF.2.2.mono (by decide)) ?_
            refine hR1 _ _ ⟨rfl, ?_⟩
            unfold cont
            rw [ea, eb]
            rfl
          rintro e t ⟨rfl, rfl⟩
          refine seq_cut (a := wIfS _ _ _) (fun e t' => t' = t ∧ ∃ g1 : List F3, (∀ g ∈ gl, g ∈ g1) ∧ (∀ g ∈ g1, g ∈ gl ∨ (g = F0 ∧ d < 0 ∧ Good d F0)) ∧ (d < 0 → Good d F0 → F0 ∈ g1) ∧ g1.length ≤ gl.length + 1 ∧ (0 < d → g1 = gl) ∧ e = [some (.val (.int (d))), some (.own ((g1.map F3.D))), some (.val (.int (a))), some (.val (.int (b))), some (.val (F0.D)), some (.val (.bl (decide (cont F0 = 1)))), none]) (fun R1 hR1 => ?_) ?_
          · have ea : F0.a = a := by rw [hF0]
            have eb : F0.b = b := by rw [hF0]
            have no : ¬ (d < 0 ∧ Good d F0) → R1 [some (.val (.int (d))), some (.own ((gl.map F3.D))), some (.val (.int (a))), some (.val (.int (b))), some (.val (F0.D)), some (.val (.bl (decide (cont F0 = 1)))), none] t := fun z => hR1 _ _ ⟨rfl, gl, fun g h => h, fun g h => .inl h, fun z1 z2 => absurd ⟨z1, z2⟩ z, by omega, fun _ => rfl, rfl⟩
            have yes : d < 0 → Good d F0 → (gl.map F3.D).length < sizeLine ∧ R1 [some (.val (.int (d))), some (.own (((gl ++ [F0]).map F3.D))), some (.val (.int (a))), some (.val (.int (b))), some (.val (F0.D)), some (.val (.bl (decide (cont F0 = 1)))), none] t := fun z1 z2 => ⟨by rw [List.length_map]; exact szl (by omega), hR1 _ _ ⟨rfl, gl ++ [F0], fun g h => List.mem_append_left _ h, fun g h => (List.mem_append.mp h).imp id fun y => ⟨List.mem_singleton.mp y, z1, z2⟩, fun _ _ => List.mem_append_right _ List.mem_cons_self, by rw [List.length_append]; exact Nat.le_refl _, fun p => absurd p (by omega), rfl⟩⟩
            rw [List.map_append] at yes
            refine if2 (fun g1 => ?_) (fun g1 => ifBF rfl (no fun z => g1 z.2.2.2.2))
            refine if2 (fun g2 => ?_) (fun g2 => ifBF rfl (no fun z => g2 z.1))
            refine if2 (fun g3 => ?_) (fun g3 => ifBF rfl (no fun z => g3 (by have := z.2.2.1; rw [ea] at this; exact this)))
            refine if2 (fun g4 => ?_) (fun g4 => ifBF rfl (no fun z => g4 (by have := z.2.1.1; rw [ea, eb] at this; exact this)))
            refine if2 (fun g5 => ?_) (fun g5 => ifBF rfl (no fun z => g5 (by have := z.2.1.2.1; rw [ea, eb] at this; exact this)))
            refine if2 (fun g6 => ?_) (fun g6 => ifBF rfl (no fun z => g6 (by have := z.2.1.2.2.1; rw [ea] at this; exact this)))
            have g1 : cont F0 = 1 := g1
            have g2 : d < 0 := g2
            have g3 : a > 0 := g3
            have g4 : -a < b := g4
            have g5 : b ≤ a := g5
            have g6 : a ≤ F0.c := g6
            have good : (0 ≤ b ∨ a < F0.c) → Good d F0 := fun z => ⟨⟨by rw [ea, eb]; exact g4, by rw [ea, eb]; exact g5, by rw [ea]; exact g6, by rw [ea, eb]; exact z⟩, by rw [ea]; exact g3, fd0, g1⟩
            refine if2 (fun g7 => ifB rfl (yes g2 (good (.inl g7)))) (fun g7 => ?_)
            refine ifN2 (fun g8 => yes g2 (good (.inr ?_))) (fun g8 => no fun z => ?_)
            · have g8 : ¬ a = F0.c := g8
              omega
            · have g8 : a = F0.c := g8
              have g7 : ¬ b ≥ 0 := g7
              have := z.2.1.2.2.2
              rw [ea, eb] at this
              omega
          rintro e t' ⟨rfl, g1, m1, m2, m3, l1, m4, rfl⟩
          have next : ∀ (g2 : List F3), (∀ g ∈ g1, g ∈ g2) → (∀ g ∈ g2, g ∈ g1 ∨ (0 < d ∧ RedI r F0 ∧ cont F0 = 1 ∧ LeastOf r F0 g)) → (0 < d → RedI r F0 → cont F0 = 1 → ∃ g ∈ g2, LeastOf r F0 g) → g2.length ≤ gl.length + 1 → R' [some (.val (.int (d))), some (.own ((g2.map F3.D))), some (.val (.int (a))), some (.val (.int (b))), some (.val (F0.D)), some (.val (.bl (decide (cont F0 = 1)))), none] t' := fun g2 n1 n2 n3 l2 => by
            refine hR' _ _ ⟨rfl, g2, _, _, _, ⟨fun g hg => ?_, fun p F h v => ?_, fun p F h2 h3 h4 v => ?_⟩, by omega, rfl⟩
            · rcases n2 g hg with z | ⟨p, z1, z2, z3⟩
              · rcases m2 g z with z | ⟨rfl, z1, z2⟩
                · exact I.ok g z
                · exact .inl ⟨z1, z2⟩
              · obtain ⟨_, hr, _⟩ := hs.resolve_left (by omega)
                obtain ⟨mm, md, me⟩ := z3.eqv
                exact .inr ⟨p, r, hr, by rw [← me, F3.disc_act1 F0 md, fd0], by rw [← me, cont_actF md, z2], least_self z3⟩
            · by_cases z : F.a = a ∧ F.b = b
              · have e := only F h.2.2.1 z.1 z.2
                rw [e] at h ⊢
                exact n1 _ (m3 p h)
              · refine n1 _ (m1 _ (I.all1 p F h ?_))
                rcases v with v | ⟨v, v2⟩
                · exact .inl v
                · exact .inr ⟨v, by omega⟩
            · by_cases z : F.a = a ∧ F.b = b
              · have e := only F h3 z.1 z.2
                rw [e] at h2 h4 ⊢
                exact n3 p h2 h4
              · obtain ⟨g, hg, l⟩ := I.all2 p F h2 h3 h4 (by
                  rcases v with v | ⟨v, v2⟩
                  · exact .inl v
                  · exact .inr ⟨v, by omega⟩)
                exact ⟨g, n1 _ (m1 _ hg), l⟩
          have pass : (0 < d → RedI r F0 → cont F0 = 1 → False) → R' [some (.val (.int (d))), some (.own ((g1.map F3.D))), some (.val (.int (a))), some (.val (.int (b))), some (.val (F0.D)), some (.val (.bl (decide (cont F0 = 1)))), none] t' := fun z => next g1 (fun g h => h) (fun g h => .inl h) (fun a1 a2 a3 => (z a1 a2 a3).elim) l1
          refine if2 (fun k1 => ?_) (fun k1 => ifBF rfl (pass fun _ _ z => k1 z))
          refine if2 (fun k2 => ?_) (fun k2 => ifBF rfl (pass fun z _ _ => k2 z))
          have k1 : cont F0 = 1 := k1
          have k2 : 0 < d := k2
          obtain ⟨_, hr, hns⟩ := hs.resolve_left (by omega)
          have r19' := r19 k2
          have hrF : Rt F0.disc r := by rw [fd0]; exact hr
          refine cl_Lis_reduced (f := F0) (r := r) (sF.up (by decide)) hrF ?_
          refine if2 (fun k3 => ?_) (fun k3 => pass fun _ z _ => k3 z)
          have k3 : RedI r F0 := k3
          obtain ⟨l, P, hl⟩ := cy_exists (B := 10) hrF k3 (by omega)
          have hl : l ≤ 220 := hl
          refine cl_Lring (f := F0) (r := r) (l := l) hrF k3 (by omega) P (by omega) ?_
          refine ⟨minOk_rg15 r F0 P.l0, fun d' hd' hmin => ?_⟩
          obtain ⟨i', hi', rfl⟩ := List.mem_map.mp hd'
          have hL : LeastOf r F0 (nxtN r i' F0) := least_cy (by rw [fd0]; exact hns) hrF k3 P fun j' hj' z => by
            have k := hmin (nxtN r j' F0).D (List.mem_map.mpr ⟨j', List.mem_range.mpr hj', rfl⟩)
            rw [F3.tI, F3.tI, dLt_tI, decide_eq_true z] at k
            cases k
          have e1 := m4 k2
          refine ⟨by rw [List.length_map]; exact szl (by omega), ?_⟩
          have fin := next (g1 ++ [nxtN r i' F0]) (fun g h => List.mem_append_left _ h) (fun g h => (List.mem_append.mp h).imp id fun y => by rw [List.mem_singleton.mp y]; exact ⟨k2, k3, k1, hL⟩) (fun _ _ _ => ⟨_, List.mem_append_right _ List.mem_cons_self, hL⟩) (by rw [List.length_append, e1]; exact Nat.le_refl _)
          rw [List.map_append] at fin
          exact fin
        · refine fm0.mpr ⟨F.c, ?_⟩
          rw [← e0]
          unfold F3.disc
          rw [e1, e2]; omega
      · obtain ⟨rfl, gl, x3, x4, x5, I, len, rfl⟩ := hI
        have len : gl.length ≤ i * 61 + 61 := len
        refine hR _ _ ⟨rfl, gl, _, x3, x4, x5, ⟨I.ok, fun p F h v => I.all1 p F h ?_, fun p F h2 h3 h4 v => I.all2 p F h2 h3 h4 ?_⟩, by omega, rfl⟩
        · rcases (by omega : F.a < a ∨ F.a = a) with z | z
          · exact .inl z
          · have := good_size h (by omega)
            have k := good_bound h
            refine .inr ⟨z, ?_⟩
            show F.b < -20 + (61 : Nat)
            omega
        · rcases (by omega : F.a < a ∨ F.a = a) with z | z
          · exact .inl z
          · have := h2.2.1
            have := r19 p
            refine .inr ⟨z, ?_⟩
            show F.b < -20 + (61 : Nat)
            omega
      · refine ⟨I.ok, fun p F h v => I.all1 p F h ?_, fun p F h2 h3 h4 v => I.all2 p F h2 h3 h4 ?_⟩
        · rcases v with v | ⟨v, v2⟩
          · exact v
          · have := good11 h h0
            have : F.b < -20 + (0 : Nat) := v2
            omega
        · rcases v with v | ⟨v, v2⟩
          · exact v
          · have := h2.1
            have : F.b < -20 + (0 : Nat) := v2
            omega
    · obtain ⟨rfl, gl, x2, x3, x4, x5, I, len, rfl⟩ := hI
      have len : gl.length ≤ 81 * 61 := len
      refine hR0 _ _ ⟨rfl, gl, x2, x3, x4, x5, ⟨I.ok, fun p F h v => I.all1 p F h ?_, fun p F h2 h3 h4 v => I.all2 p F h2 h3 h4 ?_⟩, len, rfl⟩
      · have := good11 h h0
        show F.a < -40 + (81 : Nat)
        omega
      · have := redI_a h2
        have := r19 p
        show F.a < -40 + (81 : Nat)
        omega
    · have := good11 h2 h0
      have : F.a < -40 + (0 : Nat) := v
      omega
    · have := redI_a h2
      have := r19 p
      have : F.a < -40 + (0 : Nat) := v
      omega
  rintro e t' ⟨rfl, gl, x2, x3, x4, x5, I, len, rfl⟩
  have el : (((gl.map F3.D).length : Nat) : Int).toNat = gl.length := by rw [Int.toNat_natCast, List.length_map]
  refine ⟨by rw [List.length_map]; omega, by rw [List.length_map]; omega, rfl, ?_⟩
  rw [el]
  refine lcFilt (g := gN 6) (fun k : Nat => D.int (0 + (k : Int))) (fstK gl) (fun k => (gl.getD k ⟨0, 0, 0⟩).D) (List.range gl.length) [] (fun k hk C1 C0 h1 h0 => ?_) (by rw [List.length_range, List.length_nil]; exact szl (by omega)) ?_
  · rw [List.mem_range] at hk
    refine dedup_test (l := gl) (k := k) rfl rfl hk ⟨rfl, ?_⟩
    by_cases z : fstK gl k = true
    · exact ifB z (idx_slot (l := gl) (k := k) rfl rfl hk ⟨rfl, h1 z⟩)
    · have z : fstK gl k = false := by simpa using z
      exact ifBF z (h0 z)
  · have e1 : ([] : List D) ++ ((List.range gl.length).filter (fstK gl)).map (fun k => (gl.getD k ⟨0, 0, 0⟩).D) = (dedup gl).map F3.D := by
      unfold dedup
      rw [List.nil_append, List.map_map]
      rfl
    rw [e1]
    show fSorted (.lst ((dedup gl).map F3.D)) fun ev => Q ev t'
    refine sorted_nd (dedup_nd gl) fun fs asc mem => q fs ⟨fun g => ?_, asc⟩
    rw [mem, dedup_mem]
    refine ⟨I.ok g, fun h => ?_⟩
    rcases h with ⟨p, h⟩ | ⟨p, r', hr', a1, a2, a3⟩
    · exact I.all1 p g h trivial
    · obtain ⟨_, hr, _⟩ := hs.resolve_left (by omega)
      have er := rt_uniq17 hr hr'
      subst er
      obtain ⟨g', hg', l⟩ := I.all2 p g a3.red a1 a2 trivial
      rw [least_uniq a3 l ⟨M4.one, rfl, F3.act_one _⟩]
      exact hg'
end DL
set_option maxHeartbeats 1000000
set_option pp.maxSteps 1200
namespace DL
open PySem PySem.Spec PyProof.Rows L2
theorem nsq_neg {d : Int} (h : d < 0) : ¬ IsSq d := fun ⟨s, e⟩ => by
  have := sq_nn s
  omega
theorem prin_disc {d : Int} (h : d.fmod 4 = 0 ∨ d.fmod 4 = 1) : F3.disc ⟨1, d.fmod 2, (d.fmod 2 - d).fdiv 4⟩ = d := by
  have a0 := Int.mul_fdiv_add_fmod d 4
  have a1 := Int.mul_fdiv_add_fmod d 2
  have a2 := Int.fmod_nonneg_of_pos d (show (0 : Int) < 2 by decide)
  have a3 := Int.fmod_lt_of_pos d (show (0 : Int) < 2 by decide)
  have b1 := Int.mul_fdiv_add_fmod (d.fmod 2 - d) 4
  have b2 := Int.fmod_nonneg_of_pos (d.fmod 2 - d) (show (0 : Int) < 4 by decide)
  have b3 := Int.fmod_lt_of_pos (d.fmod 2 - d) (show (0 : Int) < 4 by decide)
  unfold F3.disc
  dsimp only
  have e : d.fmod 2 * d.fmod 2 = d.fmod 2 := by
    rcases (by omega : d.fmod 2 = 0 ∨ d.fmod 2 = 1) with y | y <;> rw [y] <;> decide
  rw [e]
  omega
theorem cont_one17 {b c : Int} : cont ⟨1, b, c⟩ = 1 := by
  unfold cont
  dsimp only
  rw [Int.one_gcd]
  have : Int.gcd ((1 : Nat) : Int) c = 1 := by rw [Int.natCast_one, Int.one_gcd]
  rw [this]; rfl
/-- a canonical form of a form of content 1 is one of the classes -/
theorem canF_cn {d : Int} {f g : F3} (h : CanF f g) (hd : f.disc = d) (hc : cont f = 1) (hp : d < 0 → 0 < f.a) (h0 : d ≠ 0) (hs : ¬ IsSq d) : Cn d g := by
  obtain ⟨⟨m, md, me⟩, k⟩ := h
  have gd : g.disc = d := by rw [← me, F3.disc_act1 f md, hd]
  have gc : cont g = 1 := by rw [← me, cont_actF md, hc]
  rcases k with ⟨k, n, hn⟩ | ⟨k, _⟩ | ⟨k, k0, k1, _⟩ | ⟨k0, k1, r, hr, l⟩
  · rw [hd] at k
    rcases hn.sgn with ⟨_, z1, z2⟩ | ⟨z, _⟩
    · exact .inl ⟨k, z2, z1, gd, gc⟩
    · have := hp k; omega
  · exact absurd (hd ▸ k) h0
  · exact absurd ⟨k, by rw [← k1, hd]⟩ hs
  · rw [hd] at k0 hr
    exact .inr ⟨k0, r, hr, gd, gc, least_self l⟩
theorem cn_size {d : Int} {g : F3} (h : Cn d g) (h0 : -400 ≤ d) (h1 : d < 400) : g.Sm 12 ∧ g.disc = d := by
  rcases h with ⟨p, h⟩ | ⟨p, r, hr, a1, a2, a3⟩
  · have k := good11 h h0
    have e := h.2.2.1
    refine ⟨⟨show g.a.natAbs < 2 ^ 12 by omega, show g.b.natAbs < 2 ^ 12 by omega, ?_⟩, e⟩
    have h3 := h.1.2.2.1
    unfold F3.disc at e
    have bb : g.b * g.b ≤ 121 := by
      have := Int.mul_nonneg (show 0 ≤ 11 - g.b by omega) (show 0 ≤ 11 + g.b by omega)
      have : (11 - g.b) * (11 + g.b) = 121 - g.b * g.b := by grind
      omega
    have ac : 1 * g.c ≤ g.a * g.c := Int.mul_le_mul_of_nonneg_right (by omega) (by omega)
    have e2 : 4 * g.a * g.c = 4 * (g.a * g.c) := Int.mul_assoc ..
    show g.c.natAbs < 2 ^ 12
    omega
  · have r19 : r < 20 := Int.not_le.mp fun z => by
      have := Int.mul_le_mul z z (by decide) (by omega)
      have := hr.lo
      omega
    exact ⟨(red_small (by rw [a1]; exact hr) a3.red (by omega)).up (by decide), a1⟩
theorem mir_eqv {f g : F3} (e : Eqv f g) : Eqv ⟨f.a, -f.b, f.c⟩ ⟨g.a, -g.b, g.c⟩ := by
  obtain ⟨m, md, rfl⟩ := e
  refine ⟨⟨m.p, -m.q, -m.r, m.s⟩, ?_, ?_⟩
  · unfold M4.det at md ⊢
    dsimp only
    rw [Int.neg_mul_neg]; exact md
  · unfold F3.act
    apply F3.ext
    · unfold F3.worth; dsimp only; grind
    · dsimp only; grind
    · unfold F3.worth; dsimp only; grind
theorem cn_ab {d : Int} {g : F3} (h : Cn d g) (h0 : -400 ≤ d) (h1 : d < 400) : (-20 < g.a ∧ g.a < 20) ∧ (-20 < g.b ∧ g.b < 20) ∧ g.a ≠ 0 := by
  rcases h with ⟨p, h⟩ | ⟨p, r, hr, a1, a2, a3⟩
  · have k := good11 h h0
    omega
  · have r19 : r < 20 := Int.not_le.mp fun z => by
      have := Int.mul_le_mul z z (by decide) (by omega)
      have := hr.lo
      omega
    have k := redI_a a3.red
    obtain ⟨k1, k2, k3, k4⟩ := a3.red
    refine ⟨by omega, by omega, fun z => ?_⟩
    rw [z] at k3
    unfold iabs at k3
    simp only [Int.lt_irrefl, if_false, Int.mul_zero] at k3
    omega
theorem cnl_len {d : Int} {fs : List F3} (h : CnL d fs) (h0 : -400 ≤ d) (h1 : d < 400) : fs.length ≤ 2600 := by
  have nd : (fs.map fun f => ((f.a + 20) * 64 + (f.b + 20)).toNat).Nodup := by
    unfold List.Nodup
    rw [List.pairwise_map]
    refine (List.pairwise_map.mp h.asc).imp_of_mem fun {x y} hx hy lt e => ?_
    have cx := (h.mem x).mp hx
    have cy := (h.mem y).mp hy
    have kx := cn_ab cx h0 h1
    have ky := cn_ab cy h0 h1
    have ex := (cn_size cx h0 h1).2
    have ey := (cn_size cy h0 h1).2
    have ea : x.a = y.a := by omega
    have eb : x.b = y.b := by omega
    have ec : x.c = y.c := by
      unfold F3.disc at ex ey
      rw [← ea, ← eb] at ey
      have : 4 * x.a * x.c = 4 * x.a * y.c := by omega
      exact Int.eq_of_mul_eq_mul_left (by omega) this
    rw [F3.ext ea eb ec] at lt
    exact li_irr _ lt
  have := nodup_len 2600 _ nd fun x hx => by
    obtain ⟨f, hf, rfl⟩ := List.mem_map.mp hx
    have := cn_ab ((h.mem f).mp hf) h0 h1
    omega
  rwa [List.length_map] at this
abbrev N_law_v44 : List Str := ["_law_script", "_law_state_here", "_law_d", "_law_told", "_law_form_here"]
def c_law_v44 : WS :=
  (wSeq (wSet 1 (wCall sp_Lstate (wCons (fz (wV 0)) wNil)))
  (wSeq (wSet 2 (wOp fAdd (fz (wOp fMul (fz (wC (.int 4))) (fz (wOp fAdd (fz (wC (.int 1))) (fz (wCall sp_Lnext (wCons (fz (wV 1)) (wCons (fz (wC (.int 99))) wNil)))))))) (fz (wCall sp_Lnext (wCons (fz (wV 1)) (wCons (fz (wC (.int 2))) wNil))))))
  (wSeq (wIfS (wT (wOp fEq (fz (wCall sp_Lnext (wCons (fz (wV 1)) (wCons (fz (wC (.int 2))) wNil)))) (fz (wC (.int 0))))) (wSet 2 (wOp fSub (fz (wOp fSub (fz (wC (.int 1))) (fz (wOp fMul (fz (wC (.int 4))) (fz (wOp fAdd (fz (wC (.int 1))) (fz (wCall sp_Lnext (wCons (fz (wV 1)) (wCons (fz (wC (.int 99))) wNil)))))))))) (fz (wCall sp_Lnext (wCons (fz (wV 1)) (wCons (fz (wC (.int 2))) wNil)))))) wNext)
  (wSeq (wIfS (wAnd (wT (wOp fGe (wPk 2) (fz (wC (.int 0))))) (wT (wCall sp_Lsquare (wCons (fz (wV 2)) wNil)))) (wRet (wC (.bl true))) wNext)
  (wSeq (wSet 3 (wCall sp_classes_v1 (wCons (fz (wV 2)) wNil)))
  (wSeq (wIfS (wOr (wNot (wT (w1 fIsi_list (wPk 3)))) (wT (wOp fNe (wPk 3) (fz (wCall sp_Lall (wCons (fz (wV 2)) wNil)))))) (wRet (wC (.bl false))) wNext)
  (wSeq (wAppX (wCall sp_classes_v1 (wCons (fz (wV 2)) wNil)) (fz (wTup (wCons (fz (wC (.int 0))) (wCons (fz (wC (.int 0))) (wCons (fz (wC (.int 0))) wNil))))))
  (wSeq (wIfS (wT (wOp fNe (fz (wCall sp_classes_v1 (wCons (fz (wV 2)) wNil))) (wPk 3))) (wRet (wC (.bl false))) wNext)
  (wSeq (wIfS (wT (wOp fNe (fz (wCall sp_principal_v1 (wCons (fz (wV 2)) wNil))) (fz (wCall sp_Lcanonical_v1 (wCons (fz (wTup (wCons (fz (wC (.int 1))) (wCons (fz (wOp fMod (wPk 2) (fz (wC (.int 2))))) (wCons (fz (wOp fDiv (fz (wOp fSub (fz (wOp fMod (wPk 2) (fz (wC (.int 2))))) (wPk 2))) (fz (wC (.int 4))))) wNil))))) wNil))))) (wRet (wC (.bl false))) wNext)
  (wSeq (wSet 4 (wOp fIdx (wPk 3) (fz (wCall sp_Lnext (wCons (fz (wV 1)) (wCons (fz (w1 fLen (wPk 3))) wNil))))))
  (wRet (wOp fEq (fz (wCall sp_opposite_v1 (wCons (fz (wCall sp_Lact_v1 (wCons (fz (wV 4)) (wCons (fz (wCall sp_Lchange (wCons (fz (wV 1)) (wCons (fz (wC (.int 3))) wNil)))) wNil)))) wNil))) (fz (wCall sp_Lcanonical_v1 (wCons (fz (wTup (wCons (fz (wOp fIdx (wPk 4) (fz (wC (.int 0))))) (wCons (fz (w1 fNeg (fz (wOp fIdx (wPk 4) (fz (wC (.int 1))))))) (wCons (fz (wOp fIdx (wPk 4) (fz (wC (.int 2))))) wNil))))) wNil)))))))))))))))
theorem hw_law_v44 : ∀ ds tk Q, sp_law ds tk Q → c_law_v44 { nx := fun _ t => Q (.val .non) t, rt := Q } (start N_law_v44.length ds) tk := by
  rintro ds tk Q ⟨xs, rfl, hl, rfl, q⟩
  refine ⟨xs, rfl, rfl, ?_⟩
  simp only [gCs, gN, gNl, start_def, List.map_cons, List.map_nil, List.set_cons_zero, List.set_cons_succ, List.replicate_succ, List.replicate_zero, List.cons_append, List.nil_append, List.length_cons, List.length_nil, Nat.reduceAdd, Nat.reduceSub]
  refine seq_cut (a := wSet _ _) (fun e t => ∃ (d : Int) (c : Nat), t = some c ∧ c ≤ 5 ∧ d ≠ 0 ∧ -400 ≤ d ∧ d < 400 ∧ (d.fmod 4 = 0 ∨ d.fmod 4 = 1) ∧ e = [some (.val (.lst (xs.map D.int))), some (.val .st), some (.val (.int (d))), none, none]) (fun R hR => ?_) ?_
  · refine ⟨_, _, rfl, rfl, by first | decide | omega, by first | decide | omega, fun v0 v0_0 v0_1 => ?_⟩
    refine ⟨mulOk_l (by decide), ?_⟩
    refine ⟨_, _, rfl, rfl, by first | decide | omega, by first | decide | omega, fun v1 v1_0 v1_1 => ?_⟩
    refine hR _ _ ⟨4 * (1 + v0) + v1, _, rfl, by decide, by omega, by omega, by omega, ?_, rfl⟩
    rw [Int.fmod_eq_emod_of_nonneg _ (by decide)]
    omega
  rintro e t ⟨d0, c0, rfl, hc0, h1, h2, h3, h4, rfl⟩
  refine seq_cut (a := wIfS _ _ _) (fun e t => ∃ (d : Int) (c : Nat), t = some c ∧ c ≤ 10 ∧ d ≠ 0 ∧ -400 ≤ d ∧ d < 400 ∧ (d.fmod 4 = 0 ∨ d.fmod 4 = 1) ∧ e = [some (.val (.lst (xs.map D.int))), some (.val .st), some (.val (.int (d))), none, none]) (fun R hR => ?_) ?_
  · refine ⟨_, _, rfl, rfl, by first | decide | omega, by first | decide | omega, fun v0 v0_0 v0_1 => ?_⟩
    refine if2 (fun z => ?_) (fun z => hR _ _ ⟨d0, _, rfl, by omega, h1, h2, h3, h4, rfl⟩)
    refine ⟨_, _, rfl, rfl, by first | decide | omega, by first | decide | omega, fun v1 v1_0 v1_1 => ?_⟩
    refine ⟨mulOk_l (by decide), ?_⟩
    refine ⟨_, _, rfl, rfl, by first | decide | omega, by first | decide | omega, fun v2 v2_0 v2_1 => ?_⟩
    refine hR _ _ ⟨1 - 4 * (1 + v1) - v2, _, rfl, by omega, by omega, by omega, by omega, ?_, rfl⟩
    rw [Int.fmod_eq_emod_of_nonneg _ (by decide)]
    omega
  rintro e t ⟨d, c, rfl, hc, h1, h2, h3, h4, rfl⟩
  have sd : Sm 10 d := show d.natAbs < 2 ^ 10 by omega
  refine seq_cut (a := wIfS _ _ _) (fun e t => t = some c ∧ (d < 0 ∨ ¬ IsSq d) ∧ e = [some (.val (.lst (xs.map D.int))), some (.val .st), some (.val (.int (d))), none, none]) (fun R hR => ?_) ?_
  · refine if2 (fun z => ?_) (fun z => ifBF rfl (hR _ _ ⟨rfl, .inl (by have z : ¬ d ≥ 0 := z; omega), rfl⟩))
    refine cl_Lsquare (n := d) (sd.mono (by decide)) ?_
    by_cases y : IsSq d
    · exact ifB (isSqB_true y) (q _)
    · exact ifBF (isSqB_false y) (hR _ _ ⟨rfl, .inr y, rfl⟩)
  rintro e t ⟨rfl, hs, rfl⟩
  have hns : ¬ IsSq d := hs.elim nsq_neg id
  have sign : d < 0 ∨ ∃ r, 0 < d ∧ Rt d r ∧ ¬ IsSq d := by
    by_cases p : d < 0
    · exact .inl p
    · obtain ⟨a, b, c⟩ := isq_spec (n := d) (by omega)
      exact .inr ⟨_, by omega, rt_of a b c hns, hns⟩
  refine seq_cut (a := wSet _ _) (fun e t => t = some c ∧ ∃ fs : List F3, CnL d fs ∧ e = [some (.val (.lst (xs.map D.int))), some (.val .st), some (.val (.int (d))), some (.own ((fs.map F3.D))), none]) (fun R hR => ?_) ?_
  · exact cl_classes_v1 (d := d) (by omega) h3 hs fun fs h => hR _ _ ⟨rfl, fs, h, rfl⟩
  rintro e t ⟨rfl, fs, hfs, rfl⟩
  refine seq_cut (a := wIfS _ _ _) (fun e t => t = some c ∧ e = [some (.val (.lst (xs.map D.int))), some (.val .st), some (.val (.int (d))), some (.own ((fs.map F3.D))), none]) (fun R hR => ?_) ?_
  · have all : ∀ {K : EV → Tk → Prop}, K (.own (fs.map F3.D)) (some c) → sp_Lall [.int d] (some c) K := fun {K} hK => by
      rcases sign with p | ⟨r, p⟩
      · exact cl_Lall (d := d) (r := 0) h2 h3 (.inl p) fun gs h => by rw [cnL_uniq h hfs]; exact hK
      · exact cl_Lall (d := d) (r := r) h2 h3 (.inr p) fun gs h => by rw [cnL_uniq h hfs]; exact hK
    refine all ?_
    refine fNe_f rfl (f3_okL fs) ?_
    exact hR _ _ ⟨rfl, rfl⟩
  rintro e t ⟨rfl, rfl⟩
  refine seq_cut (a := wAppX _ _) (fun e t => t = some c ∧ e = [some (.val (.lst (xs.map D.int))), some (.val .st), some (.val (.int (d))), some (.own ((fs.map F3.D))), none]) (fun R hR => ?_) ?_
  · refine cl_classes_v1 (d := d) (by omega) h3 hs fun gs h => ?_
    refine ⟨by rw [List.length_map]; have := cnl_len h h2 h3; exact szl (by omega), rfl, ?_⟩
    exact hR _ _ ⟨rfl, rfl⟩
  rintro e t ⟨rfl, rfl⟩
  refine seq_cut (a := wIfS _ _ _) (fun e t => t = some c ∧ e = [some (.val (.lst (xs.map D.int))), some (.val .st), some (.val (.int (d))), some (.own ((fs.map F3.D))), none]) (fun R hR => ?_) ?_
  · refine cl_classes_v1 (d := d) (by omega) h3 hs fun gs h => ?_
    rw [cnL_uniq h hfs]
    refine ⟨f3_okL fs, f3_okL fs, ?_⟩
    refine ifNB (eqv_self (f3_okL fs)) ?_
    exact hR _ _ ⟨rfl, rfl⟩
  rintro e t ⟨rfl, rfl⟩
  have pd := prin_disc h4
  have a0 := Int.fmod_nonneg_of_pos d (show (0 : Int) < 2 by decide)
  have a1 := Int.fmod_lt_of_pos d (show (0 : Int) < 2 by decide)
  have b1 := Int.mul_fdiv_add_fmod (d.fmod 2 - d) 4
  have b2 := Int.fmod_nonneg_of_pos (d.fmod 2 - d) (show (0 : Int) < 4 by decide)
  have b3 := Int.fmod_lt_of_pos (d.fmod 2 - d) (show (0 : Int) < 4 by decide)
  have up : ∀ {z : Int}, z.natAbs ≤ 4000 → Sm 50 z := fun h => Nat.lt_of_le_of_lt h (by decide)
  have n2 : (2 : Int) ≠ 0 := by decide
  refine seq_cut (a := wIfS _ _ _) (fun e t => t = some c ∧ 0 < fs.length ∧ e = [some (.val (.lst (xs.map D.int))), some (.val .st), some (.val (.int (d))), some (.own ((fs.map F3.D))), none]) (fun R hR => ?_) ?_
  · refine cl_principal_v1 (d := d) (by omega) h3 fun g hg => ?_
    refine ⟨n2, n2, divOk_lit (by decide) (by decide), rfl, ?_⟩
    refine cl_Lcanonical_v1 (f := ⟨1, d.fmod 2, (d.fmod 2 - d).fdiv 4⟩) ⟨up (show (1 : Int).natAbs ≤ 4000 by decide), up (by dsimp only; omega), up (by dsimp only; omega)⟩ (by rw [pd]; omega) (by rw [pd]; exact h1) (by rw [pd]; exact hns) fun g' hg' => ?_
    rw [canF_uniq hg' hg ⟨M4.one, rfl, F3.act_one _⟩]
    refine fNe_f rfl (F3.ok_ _) ?_
    exact hR _ _ ⟨rfl, List.length_pos_of_mem ((hfs.mem g).mpr (canF_cn hg pd cont_one17 (fun _ => show (0 : Int) < 1 by decide) h1 hns)), rfl⟩
  rintro e t ⟨rfl, fl, rfl⟩
  refine seq_cut (a := wSet _ _) (fun e t => ∃ (F : F3) (c : Nat), t = some c ∧ c ≤ 20 ∧ F ∈ fs ∧ e = [some (.val (.lst (xs.map D.int))), some (.val .st), some (.val (.int (d))), some (.own ((fs.map F3.D))), some (.val (F.D))]) (fun R hR => ?_) ?_
  · refine ⟨_, _, rfl, rfl, by rw [List.length_map]; omega, by omega, fun v v0 v1 => ?_⟩
    have key : fIdx (.lst (fs.map F3.D)) (.int v) (fun ev => R ([some (.val (.lst (xs.map D.int))), some (.val .st), some (.val (.int (d))), some (.own ((fs.map F3.D))), none].set 4 (some ev)) (some (c + 1))) := by
      refine fIdx_of (fun d => ∃ F : F3, d = F.D ∧ F ∈ fs) v0 v1 (fun d hd => ?_) ?_
      · obtain ⟨F, hF, rfl⟩ := List.mem_map.mp hd
        exact ⟨F, rfl, hF⟩
      · rintro _ ⟨F, rfl, hF⟩
        exact hR _ _ ⟨F, c + 1, rfl, by omega, hF, rfl⟩
    exact key
  rintro e t ⟨F, c2, rfl, hc2, hF, rfl⟩
  have cF := (hfs.mem F).mp hF
  obtain ⟨Fs, Fd⟩ := cn_size cF h2 h3
  refine ⟨3, c2, rfl, rfl, by decide, by decide, by omega, fun ch c3 chd chn hc3 => ?_⟩
  have chs : ch.Sm 12 := M4.sm_of_nrm (Nat.lt_of_le_of_lt chn (by decide))
  refine cl_Lact_v1 (f := F) (m := ch) (Fs.up (by decide)) (chs.up (by decide)) ?_
  refine cl_opposite_v1 (f := F.act ch) ((act_size Fs chs).up (by decide)) (by rw [F3.disc_act1 F chd, Fd]; omega) fun g hg sg => ?_
  refine ⟨rfl, ?_⟩
  have ed : F3.disc ⟨F.a, -F.b, F.c⟩ = d := by rw [← Fd]; unfold F3.disc; dsimp only; grind
  refine cl_Lcanonical_v1 (f := ⟨F.a, -F.b, F.c⟩) ⟨Fs.1.mono (by decide), Fs.2.1.neg.mono (by decide), Fs.2.2.mono (by decide)⟩ (by rw [ed]; omega) (by rw [ed]; exact h1) (by rw [ed]; exact hns) fun g' hg' => ?_
  have e1 : g' = g := canF_uniq hg' hg (mir_eqv ⟨ch, chd, rfl⟩)
  rw [e1]
  refine fEq_t rfl (F3.ok_ _) ?_
  exact q _
end DL
namespace DL
open PySem PySem.Spec PyProof.Rows L2
def topS (i : Nat) : Stmt := PySem.Challenge.pw_wholeconic_k17_classes.main.body.getD i (.Pass ⟨0, 0, 0, 0⟩)
section
variable {P : Program} {w : World} {K : PySem.W.Frag} {mg : Str → Option Value} {base : Heap}
abbrev s_bezout : Stmt := topS 2
theorem sc_bezout : FnScope N_bezout ["a", "b"] (defScope s_bezout) := ⟨rfl, rfl, rfl, by decide +kernel, rfl, by decide +kernel, by decide +kernel⟩
theorem ok_bezout {k : Nat} {f : Addr} {fd : FuncData} (F : Fun K "bezout" "bezout" s_bezout f fd) : FnOk P w K mg base CX0 (k + 1) f fd ["a", "b"] (spD K sp_bezout) :=
  fn_ok F sc_bezout len_bezout (fun cdv A outer s H E c hK hr => by
    unfold c_bezout
    have nd := sc_bezout.nd
    exact (ss_cons (ss_par3 (i := 2) (j := 3) (l := 4) rfl nd rfl rfl rfl (by decide) (by decide) (by decide) rfl rfl rfl (sa_cons (SE.fz (se_v 0 (pv 0))) (sa_cons (SE.fz se_int) (sa_cons (SE.fz se_int) sa_nil))))
      (ss_cons (ss_par3 (i := 5) (j := 6) (l := 7) rfl nd rfl rfl rfl (by decide) (by decide) (by decide) rfl rfl rfl (sa_cons (SE.fz (se_v 1 (pv 1))) (sa_cons (SE.fz se_int) (sa_cons (SE.fz se_int) sa_nil))))
      (ss_cons (ss_while PassesOwn.never (st_ne hK (hu_room hr) (sp_v 5 (pv 5)) (SE.pk se_int)) (ss_cons (ss_set (i := 8) nd rfl (by first | exact Or.inl rfl | exact Or.inr rfl) (se_div (sp_v 2 (pv 2)) (sp_v 5 (pv 5))))
      (ss_cons (ss_par (i := 2) (j := 5) rfl nd rfl rfl (by decide) rfl rfl (sa_cons (SE.fz (se_v 5 (pv 5))) (sa_cons (SE.fz (se_sub (sp_v 2 (pv 2)) (SE.pk (se_mul (sp_v 8 (pv 8)) (sp_v 5 (pv 5)))))) sa_nil)))
      (ss_cons (ss_par (i := 3) (j := 6) rfl nd rfl rfl (by decide) rfl rfl (sa_cons (SE.fz (se_v 6 (pv 6))) (sa_cons (SE.fz (se_sub (sp_v 3 (pv 3)) (SE.pk (se_mul (sp_v 8 (pv 8)) (sp_v 6 (pv 6)))))) sa_nil)))
      (ss_one (ss_par (i := 4) (j := 7) rfl nd rfl rfl (by decide) rfl rfl (sa_cons (SE.fz (se_v 7 (pv 7))) (sa_cons (SE.fz (se_sub (sp_v 4 (pv 4)) (SE.pk (se_mul (sp_v 8 (pv 8)) (sp_v 7 (pv 7)))))) sa_nil))))))))
      (ss_cons (ss_if (st_lt (sp_v 2 (pv 2)) (SE.pk se_int)) (ss_one (ss_ret (se_tup (sa_cons (SE.fz (se_neg (sp_v 2 (pv 2)))) (sa_cons (SE.fz (se_neg (sp_v 3 (pv 3)))) (sa_cons (SE.fz (se_neg (sp_v 4 (pv 4)))) sa_nil)))))) ss_nil)
      (ss_one (ss_ret (se_tup (sa_cons (SE.fz (se_v 2 (pv 2))) (sa_cons (SE.fz (se_v 3 (pv 3))) (sa_cons (SE.fz (se_v 4 (pv 4))) sa_nil))))))))))) hw_bezout

abbrev s_measure : Stmt := topS 3
theorem sc_measure : FnScope N_measure ["numbers"] (defScope s_measure) := ⟨rfl, rfl, rfl, by decide +kernel, rfl, by decide +kernel, by decide +kernel⟩
theorem ok_measure {k : Nat} {f : Addr} {fd : FuncData} (F : Fun K "measure" "measure" s_measure f fd) (G_bezout : FnIn P w K mg base k "bezout" sp_bezout) : FnOk P w K mg base CX0 (k + 1) f fd ["numbers"] (spD K sp_measure) :=
  fn_ok F sc_measure len_measure (fun cdv A outer s H E c hK hr => by
    unfold c_measure
    have nd := sc_measure.nd
    exact (ss_cons (ss_set (i := 1) nd rfl (by first | exact Or.inl rfl | exact Or.inr rfl) se_int)
      (ss_cons (ss_for PassesOwn.never rfl (si_seq hK (SE.fz (se_v 0 (pv 0)))) (sg_n (i := 2) nd rfl (by first | exact Or.inl rfl | exact Or.inr rfl)) (ss_one (ss_set (i := 1) nd rfl (by first | exact Or.inl rfl | exact Or.inr rfl) (se_ix hK (SE.pk (se_call hK G_bezout mon_bezout hr (by rfl) (sa_cons (SE.fz (se_v 1 (pv 1))) (sa_cons (SE.fz (se_v 2 (pv 2))) sa_nil)))) (SE.pk se_int) (fun _ _ => rfl)))))
      (ss_one (ss_retV 1 (pv 1)))))) hw_measure

abbrev s_floor_root : Stmt := topS 4
theorem sc_floor_root : FnScope N_floor_root ["n"] (defScope s_floor_root) := ⟨rfl, rfl, rfl, by decide +kernel, rfl, by decide +kernel, by decide +kernel⟩
theorem ok_floor_root {k : Nat} {f : Addr} {fd : FuncData} (F : Fun K "floor_root" "floor_root" s_floor_root f fd) (m_isqrt : mg "isqrt" = some (.builtin "math.isqrt")) : FnOk P w K mg base CX0 (k + 1) f fd ["n"] (spD K sp_floor_root) :=
  fn_ok F sc_floor_root len_floor_root (fun cdv A outer s H E c hK hr => by
    unfold c_floor_root
    have nd := sc_floor_root.nd
    exact (ss_one (ss_ret (se_sqrt (by rfl) m_isqrt (sp_v 0 (pv 0)))))) hw_floor_root

abbrev s_is_square : Stmt := topS 5
theorem sc_is_square : FnScope N_is_square ["n"] (defScope s_is_square) := ⟨rfl, rfl, rfl, by decide +kernel, rfl, by decide +kernel, by decide +kernel⟩
theorem ok_is_square {k : Nat} {f : Addr} {fd : FuncData} (F : Fun K "is_square" "is_square" s_is_square f fd) (m_isqrt : mg "isqrt" = some (.builtin "math.isqrt")) : FnOk P w K mg base CX0 (k + 1) f fd ["n"] (spD K sp_is_square) :=
  fn_ok F sc_is_square len_is_square (fun cdv A outer s H E c hK hr => by
    unfold c_is_square
    have nd := sc_is_square.nd
    exact (ss_one (ss_ret (se_sv (sv_and (se_ge (sp_v 0 (pv 0)) (SE.pk se_int)) (sv_one (se_eq hK (hu_room hr) (SE.pk (se_mul (SE.pk (se_sqrt (by rfl) m_isqrt (sp_v 0 (pv 0)))) (SE.pk (se_sqrt (by rfl) m_isqrt (sp_v 0 (pv 0)))))) (sp_v 0 (pv 0))))))))) hw_is_square

abbrev s_discriminant : Stmt := topS 7
theorem sc_discriminant : FnScope N_discriminant ["form"] (defScope s_discriminant) := ⟨rfl, rfl, rfl, by decide +kernel, rfl, by decide +kernel, by decide +kernel⟩
theorem ok_discriminant {k : Nat} {f : Addr} {fd : FuncData} (F : Fun K "discriminant" "discriminant" s_discriminant f fd) : FnOk P w K mg base CX0 (k + 1) f fd ["form"] (spD K sp_discriminant) :=
  fn_ok F sc_discriminant len_discriminant (fun cdv A outer s H E c hK hr => by
    unfold c_discriminant
    have nd := sc_discriminant.nd
    exact (ss_one (ss_ret (se_sub (SE.pk (se_mul (SE.pk (se_ix hK (sp_v 0 (pv 0)) (SE.pk se_int) (fun _ _ => rfl))) (SE.pk (se_ix hK (sp_v 0 (pv 0)) (SE.pk se_int) (fun _ _ => rfl))))) (SE.pk (se_mul (SE.pk (se_mul (SE.pk se_int) (SE.pk (se_ix hK (sp_v 0 (pv 0)) (SE.pk se_int) (fun _ _ => rfl))))) (SE.pk (se_ix hK (sp_v 0 (pv 0)) (SE.pk se_int) (fun _ _ => rfl))))))))) hw_discriminant

abbrev s_content : Stmt := topS 8
theorem sc_content : FnScope N_content ["form"] (defScope s_content) := ⟨rfl, rfl, rfl, by decide +kernel, rfl, by decide +kernel, by decide +kernel⟩
theorem ok_content {k : Nat} {f : Addr} {fd : FuncData} (F : Fun K "content" "content" s_content f fd) (G_measure : FnIn P w K mg base k "measure" sp_measure) : FnOk P w K mg base CX0 (k + 1) f fd ["form"] (spD K sp_content) :=
  fn_ok F sc_content len_content (fun cdv A outer s H E c hK hr => by
    unfold c_content
    have nd := sc_content.nd
    exact (ss_one (ss_ret (se_call hK G_measure mon_measure hr (by rfl) (sa_cons (SE.fz (se_v 0 (pv 0))) sa_nil))))) hw_content

abbrev s_worth : Stmt := topS 9
theorem sc_worth : FnScope N_worth ["form", "point"] (defScope s_worth) := ⟨rfl, rfl, rfl, by decide +kernel, rfl, by decide +kernel, by decide +kernel⟩
theorem ok_worth {k : Nat} {f : Addr} {fd : FuncData} (F : Fun K "worth" "worth" s_worth f fd) : FnOk P w K mg base CX0 (k + 1) f fd ["form", "point"] (spD K sp_worth) :=
  fn_ok F sc_worth len_worth (fun cdv A outer s H E c hK hr => by
    unfold c_worth
    have nd := sc_worth.nd
    exact (ss_cons (ss_asg (SE.fz (se_v 1 (pv 1))) (sg_tup hK rfl (sg_cons (sg_n (i := 2) nd rfl (by first | exact Or.inl rfl | exact Or.inr rfl)) (sg_cons (sg_n (i := 3) nd rfl (by first | exact Or.inl rfl | exact Or.inr rfl)) sg_nil))))
      (ss_one (ss_ret (se_add hK (SE.pk (se_add hK (SE.pk (se_mul (SE.pk (se_mul (SE.pk (se_ix hK (sp_v 0 (pv 0)) (SE.pk se_int) (fun _ _ => rfl))) (sp_v 2 (pv 2)))) (sp_v 2 (pv 2)))) (SE.pk (se_mul (SE.pk (se_mul (SE.pk (se_ix hK (sp_v 0 (pv 0)) (SE.pk se_int) (fun _ _ => rfl))) (sp_v 2 (pv 2)))) (sp_v 3 (pv 3)))))) (SE.pk (se_mul (SE.pk (se_mul (SE.pk (se_ix hK (sp_v 0 (pv 0)) (SE.pk se_int) (fun _ _ => rfl))) (sp_v 3 (pv 3)))) (sp_v 3 (pv 3))))))))) hw_worth

abbrev s_act : Stmt := topS 10
theorem sc_act : FnScope N_act ["form", "m"] (defScope s_act) := ⟨rfl, rfl, rfl, by decide +kernel, rfl, by decide +kernel, by decide +kernel⟩
theorem ok_act {k : Nat} {f : Addr} {fd : FuncData} (F : Fun K "act" "act" s_act f fd) (G_worth : FnIn P w K mg base k "worth" sp_worth) : FnOk P w K mg base CX0 (k + 1) f fd ["form", "m"] (spD K sp_act) :=
  fn_ok F sc_act len_act (fun cdv A outer s H E c hK hr => by
    unfold c_act
    have nd := sc_act.nd
    exact (ss_cons (ss_asg (SE.fz (se_v 1 (pv 1))) (sg_tup hK rfl (sg_cons (sg_n (i := 2) nd rfl (by first | exact Or.inl rfl | exact Or.inr rfl)) (sg_cons (sg_n (i := 3) nd rfl (by first | exact Or.inl rfl | exact Or.inr rfl)) (sg_cons (sg_n (i := 4) nd rfl (by first | exact Or.inl rfl | exact Or.inr rfl)) (sg_cons (sg_n (i := 5) nd rfl (by first | exact Or.inl rfl | exact Or.inr rfl)) sg_nil))))))
      (ss_cons (ss_set (i := 6) nd rfl (by first | exact Or.inl rfl | exact Or.inr rfl) (se_add hK (SE.pk (se_add hK (SE.pk (se_mul (SE.pk (se_mul (SE.pk (se_mul (SE.pk se_int) (SE.pk (se_ix hK (sp_v 0 (pv 0)) (SE.pk se_int) (fun _ _ => rfl))))) (sp_v 2 (pv 2)))) (sp_v 3 (pv 3)))) (SE.pk (se_mul (SE.pk (se_ix hK (sp_v 0 (pv 0)) (SE.pk se_int) (fun _ _ => rfl))) (SE.pk (se_add hK (SE.pk (se_mul (sp_v 2 (pv 2)) (sp_v 5 (pv 5)))) (SE.pk (se_mul (sp_v 3 (pv 3)) (sp_v 4 (pv 4)))))))))) (SE.pk (se_mul (SE.pk (se_mul (SE.pk (se_mul (SE.pk se_int) (SE.pk (se_ix hK (sp_v 0 (pv 0)) (SE.pk se_int) (fun _ _ => rfl))))) (sp_v 4 (pv 4)))) (sp_v 5 (pv 5))))))
      (ss_one (ss_ret (se_tup (sa_cons (SE.fz (se_call hK G_worth mon_worth hr (by rfl) (sa_cons (SE.fz (se_v 0 (pv 0))) (sa_cons (SE.fz (se_tup (sa_cons (SE.fz (se_v 2 (pv 2))) (sa_cons (SE.fz (se_v 4 (pv 4))) sa_nil)))) sa_nil)))) (sa_cons (SE.fz (se_v 6 (pv 6))) (sa_cons (SE.fz (se_call hK G_worth mon_worth hr (by rfl) (sa_cons (SE.fz (se_v 0 (pv 0))) (sa_cons (SE.fz (se_tup (sa_cons (SE.fz (se_v 3 (pv 3))) (sa_cons (SE.fz (se_v 5 (pv 5))) sa_nil)))) sa_nil)))) sa_nil))))))))) hw_act

abbrev s_scaled : Stmt := topS 11
theorem sc_scaled : FnScope N_scaled ["form", "number"] (defScope s_scaled) := ⟨rfl, rfl, rfl, by decide +kernel, rfl, by decide +kernel, by decide +kernel⟩
theorem ok_scaled {k : Nat} {f : Addr} {fd : FuncData} (F : Fun K "scaled" "scaled" s_scaled f fd) : FnOk P w K mg base CX0 (k + 1) f fd ["form", "number"] (spD K sp_scaled) :=
  fn_ok F sc_scaled len_scaled (fun cdv A outer s H E c hK hr => by
    unfold c_scaled
    have nd := sc_scaled.nd
    exact (ss_one (ss_ret (se_tup (sa_cons (SE.fz (se_mul (SE.pk (se_ix hK (sp_v 0 (pv 0)) (SE.pk se_int) (fun _ _ => rfl))) (sp_v 1 (pv 1)))) (sa_cons (SE.fz (se_mul (SE.pk (se_ix hK (sp_v 0 (pv 0)) (SE.pk se_int) (fun _ _ => rfl))) (sp_v 1 (pv 1)))) (sa_cons (SE.fz (se_mul (SE.pk (se_ix hK (sp_v 0 (pv 0)) (SE.pk se_int) (fun _ _ => rfl))) (sp_v 1 (pv 1)))) sa_nil))))))) hw_scaled

abbrev s_divided : Stmt := topS 12
theorem sc_divided : FnScope N_divided ["form", "number"] (defScope s_divided) := ⟨rfl, rfl, rfl, by decide +kernel, rfl, by decide +kernel, by decide +kernel⟩
theorem ok_divided {k : Nat} {f : Addr} {fd : FuncData} (F : Fun K "divided" "divided" s_divided f fd) : FnOk P w K mg base CX0 (k + 1) f fd ["form", "number"] (spD K sp_divided) :=
  fn_ok F sc_divided len_divided (fun cdv A outer s H E c hK hr => by
    unfold c_divided
    have nd := sc_divided.nd
    exact (ss_one (ss_ret (se_tup (sa_cons (SE.fz (se_div (SE.pk (se_ix hK (sp_v 0 (pv 0)) (SE.pk se_int) (fun _ _ => rfl))) (sp_v 1 (pv 1)))) (sa_cons (SE.fz (se_div (SE.pk (se_ix hK (sp_v 0 (pv 0)) (SE.pk se_int) (fun _ _ => rfl))) (sp_v 1 (pv 1)))) (sa_cons (SE.fz (se_div (SE.pk (se_ix hK (sp_v 0 (pv 0)) (SE.pk se_int) (fun _ _ => rfl))) (sp_v 1 (pv 1)))) sa_nil))))))) hw_divided

abbrev s_kind : Stmt := topS 13
theorem sc_kind : FnScope N_kind ["form"] (defScope s_kind) := ⟨rfl, rfl, rfl, by decide +kernel, rfl, by decide +kernel, by decide +kernel⟩
theorem ok_kind {k : Nat} {f : Addr} {fd : FuncData} (F : Fun K "kind" "kind" s_kind f fd) (G_discriminant : FnIn P w K mg base k "discriminant" sp_discriminant) (G_is_square : FnIn P w K mg base k "is_square" sp_is_square) : FnOk P w K mg base CX0 (k + 1) f fd ["form"] (spD K sp_kind) :=
  fn_ok F sc_kind len_kind (fun cdv A outer s H E c hK hr => by
    unfold c_kind
    have nd := sc_kind.nd
    exact (ss_cons (ss_set (i := 1) nd rfl (by first | exact Or.inl rfl | exact Or.inr rfl) (se_call hK G_discriminant mon_discriminant hr (by rfl) (sa_cons (SE.fz (se_v 0 (pv 0))) sa_nil)))
      (ss_cons (ss_if (st_lt (sp_v 1 (pv 1)) (SE.pk se_int)) (ss_one (ss_ret se_str)) ss_nil)
      (ss_cons (ss_if (st_eq hK (hu_room hr) (sp_v 1 (pv 1)) (SE.pk se_int)) (ss_one (ss_ret se_str)) ss_nil)
      (ss_one (ss_ret (se_if (st_v (se_call hK G_is_square mon_is_square hr (by rfl) (sa_cons (SE.fz (se_v 1 (pv 1))) sa_nil))) se_str se_str))))))) hw_kind

abbrev s_multiply : Stmt := topS 16
theorem sc_multiply : FnScope N_multiply ["m", "n"] (defScope s_multiply) := ⟨rfl, rfl, rfl, by decide +kernel, rfl, by decide +kernel, by decide +kernel⟩
theorem ok_multiply {k : Nat} {f : Addr} {fd : FuncData} (F : Fun K "multiply" "multiply" s_multiply f fd) : FnOk P w K mg base CX0 (k + 1) f fd ["m", "n"] (spD K sp_multiply) :=
  fn_ok F sc_multiply len_multiply (fun cdv A outer s H E c hK hr => by
    unfold c_multiply
    have nd := sc_multiply.nd
    exact (ss_one (ss_ret (se_tup (sa_cons (SE.fz (se_add hK (SE.pk (se_mul (SE.pk (se_ix hK (sp_v 0 (pv 0)) (SE.pk se_int) (fun _ _ => rfl))) (SE.pk (se_ix hK (sp_v 1 (pv 1)) (SE.pk se_int) (fun _ _ => rfl))))) (SE.pk (se_mul (SE.pk (se_ix hK (sp_v 0 (pv 0)) (SE.pk se_int) (fun _ _ => rfl))) (SE.pk (se_ix hK (sp_v 1 (pv 1)) (SE.pk se_int) (fun _ _ => rfl))))))) (sa_cons (SE.fz (se_add hK (SE.pk (se_mul (SE.pk (se_ix hK (sp_v 0 (pv 0)) (SE.pk se_int) (fun _ _ => rfl))) (SE.pk (se_ix hK (sp_v 1 (pv 1)) (SE.pk se_int) (fun _ _ => rfl))))) (SE.pk (se_mul (SE.pk (se_ix hK (sp_v 0 (pv 0)) (SE.pk se_int) (fun _ _ => rfl))) (SE.pk (se_ix hK (sp_v 1 (pv 1)) (SE.pk se_int) (fun _ _ => rfl))))))) (sa_cons (SE.fz (se_add hK (SE.pk (se_mul (SE.pk (se_ix hK (sp_v 0 (pv 0)) (SE.pk se_int) (fun _ _ => rfl))) (SE.pk (se_ix hK (sp_v 1 (pv 1)) (SE.pk se_int) (fun _ _ => rfl))))) (SE.pk (se_mul (SE.pk (se_ix hK (sp_v 0 (pv 0)) (SE.pk se_int) (fun _ _ => rfl))) (SE.pk (se_ix hK (sp_v 1 (pv 1)) (SE.pk se_int) (fun _ _ => rfl))))))) (sa_cons (SE.fz (se_add hK (SE.pk (se_mul (SE.pk (se_ix hK (sp_v 0 (pv 0)) (SE.pk se_int) (fun _ _ => rfl))) (SE.pk (se_ix hK (sp_v 1 (pv 1)) (SE.pk se_int) (fun _ _ => rfl))))) (SE.pk (se_mul (SE.pk (se_ix hK (sp_v 0 (pv 0)) (SE.pk se_int) (fun _ _ => rfl))) (SE.pk (se_ix hK (sp_v 1 (pv 1)) (SE.pk se_int) (fun _ _ => rfl))))))) sa_nil)))))))) hw_multiply

abbrev s_is_reduced : Stmt := topS 18
theorem sc_is_reduced : FnScope N_is_reduced ["form"] (defScope s_is_reduced) := ⟨rfl, rfl, rfl, by decide +kernel, rfl, by decide +kernel, by decide +kernel⟩
theorem ok_is_reduced {k : Nat} {f : Addr} {fd : FuncData} (F : Fun K "is_reduced" "is_reduced" s_is_reduced f fd) : FnOk P w K mg base CX0 (k + 1) f fd ["form"] (spD K sp_is_reduced) :=
  fn_ok F sc_is_reduced len_is_reduced (fun cdv A outer s H E c hK hr => by
    unfold c_is_reduced
    have nd := sc_is_reduced.nd
    exact (ss_cons (ss_asg (SE.fz (se_v 0 (pv 0))) (sg_tup hK rfl (sg_cons (sg_n (i := 1) nd rfl (by first | exact Or.inl rfl | exact Or.inr rfl)) (sg_cons (sg_n (i := 2) nd rfl (by first | exact Or.inl rfl | exact Or.inr rfl)) (sg_cons (sg_n (i := 3) nd rfl (by first | exact Or.inl rfl | exact Or.inr rfl)) sg_nil)))))
      (ss_cons (ss_if (st_not (st_chain3 op_lt op_le op_le .j .j .j od_b0 od_b0 od_b0 (SE.pk (se_neg (sp_v 1 (pv 1)))) (sp_v 2 (pv 2)) (sp_v 1 (pv 1)) (sp_v 3 (pv 3)))) (ss_one (ss_ret se_bl)) ss_nil)
      (ss_one (ss_ret (se_sv (sv_or (se_ge (sp_v 2 (pv 2)) (SE.pk se_int)) (sv_one (se_lt (sp_v 1 (pv 1)) (sp_v 3 (pv 3))))))))))) hw_is_reduced

abbrev s_reduce_positive : Stmt := topS 20
theorem sc_reduce_positive : FnScope N_reduce_positive ["form"] (defScope s_reduce_positive) := ⟨rfl, rfl, rfl, by decide +kernel, rfl, by decide +kernel, by decide +kernel⟩
theorem ok_reduce_positive {k : Nat} {f : Addr} {fd : FuncData} (F : Fun K "reduce_positive" "reduce_positive" s_reduce_positive f fd) (k_UNIT : Kon K mg "UNIT" kUNIT) (G_is_reduced_definite : FnIn P w K mg base k "is_reduced_definite" sp_is_reduced) (G_act : FnIn P w K mg base k "act" sp_act) (G_multiply : FnIn P w K mg base k "multiply" sp_multiply) : FnOk P w K mg base CX0 (k + 1) f fd ["form"] (spD K sp_reduce_positive) :=
  fn_ok F sc_reduce_positive len_reduce_positive (fun cdv A outer s H E c hK hr => by
    unfold c_reduce_positive
    have nd := sc_reduce_positive.nd
    exact (ss_cons (ss_set (i := 1) nd rfl (by first | exact Or.inl rfl | exact Or.inr rfl) (se_k hK (by rfl) k_UNIT))
      (ss_cons (ss_while PassesOwn.never (st_not (st_v (se_call hK G_is_reduced_definite mon_is_reduced hr (by rfl) (sa_cons (SE.fz (se_v 0 (pv 0))) sa_nil)))) (ss_cons (ss_asg (SE.fz (se_v 0 (pv 0))) (sg_tup hK rfl (sg_cons (sg_n (i := 2) nd rfl (by first | exact Or.inl rfl | exact Or.inr rfl)) (sg_cons (sg_n (i := 3) nd rfl (by first | exact Or.inl rfl | exact Or.inr rfl)) (sg_cons (sg_n (i := 4) nd rfl (by first | exact Or.inl rfl | exact Or.inr rfl)) sg_nil)))))
      (ss_cons (ss_if (st_w (sw_or (st_gt (sp_v 2 (pv 2)) (sp_v 4 (pv 4))) (sw_or1 (st_w (sw_and (st_eq hK (hu_room hr) (sp_v 2 (pv 2)) (sp_v 4 (pv 4))) (sw_and1 (st_lt (sp_v 3 (pv 3)) (SE.pk se_int)))))))) (ss_one (ss_set (i := 5) nd rfl (by first | exact Or.inl rfl | exact Or.inr rfl) (se_tup (sa_cons (SE.fz se_int) (sa_cons (SE.fz (se_neg (SE.pk se_int))) (sa_cons (SE.fz se_int) (sa_cons (SE.fz se_int) sa_nil))))))) (ss_one (ss_set (i := 5) nd rfl (by first | exact Or.inl rfl | exact Or.inr rfl) (se_tup (sa_cons (SE.fz se_int) (sa_cons (SE.fz (se_div (SE.pk (se_sub (sp_v 2 (pv 2)) (sp_v 3 (pv 3)))) (SE.pk (se_mul (SE.pk se_int) (sp_v 2 (pv 2)))))) (sa_cons (SE.fz se_int) (sa_cons (SE.fz se_int) sa_nil))))))))
      (ss_cons (ss_set (i := 0) nd rfl (by first | exact Or.inl rfl | exact Or.inr rfl) (se_call hK G_act mon_act hr (by rfl) (sa_cons (SE.fz (se_v 0 (pv 0))) (sa_cons (SE.fz (se_v 5 (pv 5))) sa_nil))))
      (ss_one (ss_set (i := 1) nd rfl (by first | exact Or.inl rfl | exact Or.inr rfl) (se_call hK G_multiply mon_multiply hr (by rfl) (sa_cons (SE.fz (se_v 1 (pv 1))) (sa_cons (SE.fz (se_v 5 (pv 5))) sa_nil)))))))))
      (ss_one (ss_ret (se_tup (sa_cons (SE.fz (se_v 0 (pv 0))) (sa_cons (SE.fz (se_v 1 (pv 1))) sa_nil)))))))) hw_reduce_positive

abbrev s_reduce_definite : Stmt := topS 21
theorem sc_reduce_definite : FnScope N_reduce_definite ["form"] (defScope s_reduce_definite) := ⟨rfl, rfl, rfl, by decide +kernel, rfl, by decide +kernel, by decide +kernel⟩
theorem ok_reduce_definite {k : Nat} {f : Addr} {fd : FuncData} (F : Fun K "reduce_definite" "reduce_definite" s_reduce_definite f fd) (G_reduce_positive : FnIn P w K mg base k "reduce_positive" sp_reduce_positive) (G_scaled : FnIn P w K mg base k "scaled" sp_scaled) : FnOk P w K mg base CX0 (k + 1) f fd ["form"] (spD K sp_reduce_definite) :=
  fn_ok F sc_reduce_definite len_reduce_definite (fun cdv A outer s H E c hK hr => by
    unfold c_reduce_definite
    have nd := sc_reduce_definite.nd
    exact (ss_cons (ss_if (st_gt (SE.pk (se_ix hK (sp_v 0 (pv 0)) (SE.pk se_int) (fun _ _ => rfl))) (SE.pk se_int)) (ss_one (ss_ret (se_call hK G_reduce_positive mon_reduce_positive hr (by rfl) (sa_cons (SE.fz (se_v 0 (pv 0))) sa_nil)))) ss_nil)
      (ss_cons (ss_asg (SE.fz (se_call hK G_reduce_positive mon_reduce_positive hr (by rfl) (sa_cons (SE.fz (se_call hK G_scaled mon_scaled hr (by rfl) (sa_cons (SE.fz (se_v 0 (pv 0))) (sa_cons (SE.fz (se_neg (SE.pk se_int))) sa_nil)))) sa_nil))) (sg_tup hK rfl (sg_cons (sg_n (i := 1) nd rfl (by first | exact Or.inl rfl | exact Or.inr rfl)) (sg_cons (sg_n (i := 2) nd rfl (by first | exact Or.inl rfl | exact Or.inr rfl)) sg_nil))))
      (ss_one (ss_ret (se_tup (sa_cons (SE.fz (se_call hK G_scaled mon_scaled hr (by rfl) (sa_cons (SE.fz (se_v 1 (pv 1))) (sa_cons (SE.fz (se_neg (SE.pk se_int))) sa_nil)))) (sa_cons (SE.fz (se_v 2 (pv 2))) sa_nil)))))))) hw_reduce_definite

abbrev s_positive_classes : Stmt := topS 22
theorem sc_positive_classes : FnScope N_positive_classes ["d"] (defScope s_positive_classes) := ⟨rfl, rfl, rfl, by decide +kernel, rfl, by decide +kernel, by decide +kernel⟩
theorem ok_positive_classes {k : Nat} {f : Addr} {fd : FuncData} (F : Fun K "positive_classes" "positive_classes" s_positive_classes f fd) (m_range : mg "range" = none) (m_sorted : mg "sorted" = none) (G_is_reduced_definite : FnIn P w K mg base k "is_reduced_definite" sp_is_reduced) (G_content : FnIn P w K mg base k "content" sp_content) : FnOk P w K mg base CX0 (k + 1) f fd ["d"] (spD K sp_positive_classes) :=
  fn_ok F sc_positive_classes len_positive_classes (fun cdv A outer s H E c hK hr => by
    unfold c_positive_classes
    have nd := sc_positive_classes.nd
    exact (ss_cons (ss_set (i := 1) nd rfl (by first | exact Or.inl rfl | exact Or.inr rfl) (se_lst sa_nil))
      (ss_cons (ss_set (i := 2) nd rfl (by first | exact Or.inl rfl | exact Or.inr rfl) se_int)
      (ss_cons (ss_while PassesOwn.never (st_le (SE.pk (se_mul (SE.pk (se_mul (SE.pk se_int) (sp_v 2 (pv 2)))) (sp_v 2 (pv 2)))) (SE.pk (se_neg (sp_v 0 (pv 0))))) (ss_cons (ss_for PassesOwn.never rfl (si_r2 (by rfl) m_range (SE.pk (se_add hK (SE.pk (se_neg (sp_v 2 (pv 2)))) (SE.pk se_int))) (SE.pk (se_add hK (sp_v 2 (pv 2)) (SE.pk se_int)))) (sg_n (i := 3) nd rfl (by first | exact Or.inl rfl | exact Or.inr rfl)) (ss_one (ss_if (st_eq hK (hu_room hr) (SE.pk (se_mod (SE.pk (se_sub (SE.pk (se_mul (sp_v 3 (pv 3)) (sp_v 3 (pv 3)))) (sp_v 0 (pv 0)))) (SE.pk (se_mul (SE.pk se_int) (sp_v 2 (pv 2)))))) (SE.pk se_int)) (ss_cons (ss_set (i := 4) nd rfl (by first | exact Or.inl rfl | exact Or.inr rfl) (se_tup (sa_cons (SE.fz (se_v 2 (pv 2))) (sa_cons (SE.fz (se_v 3 (pv 3))) (sa_cons (SE.fz (se_div (SE.pk (se_sub (SE.pk (se_mul (sp_v 3 (pv 3)) (sp_v 3 (pv 3)))) (sp_v 0 (pv 0)))) (SE.pk (se_mul (SE.pk se_int) (sp_v 2 (pv 2)))))) sa_nil)))))
      (ss_one (ss_if (st_w (sw_and (st_v (se_call hK G_is_reduced_definite mon_is_reduced hr (by rfl) (sa_cons (SE.fz (se_v 4 (pv 4))) sa_nil))) (sw_and1 (st_eq hK (hu_room hr) (SE.pk (se_call hK G_content mon_content hr (by rfl) (sa_cons (SE.fz (se_v 4 (pv 4))) sa_nil))) (SE.pk se_int))))) (ss_one (ss_app 1 (pv 1) (SE.fz (se_v 4 (pv 4))))) ss_nil))) ss_nil)))
      (ss_one (ss_set (i := 2) nd rfl (by first | exact Or.inl rfl | exact Or.inr rfl) (se_add hK (sp_v 2 (pv 2)) (SE.pk se_int))))))
      (ss_one (ss_ret (se_sorted hK (hu_room hr) (by rfl) m_sorted (sp_v 1 (pv 1))))))))) hw_positive_classes

abbrev s_is_reduced_v1 : Stmt := topS 24
theorem sc_is_reduced_v1 : FnScope N_is_reduced_v1 ["form"] (defScope s_is_reduced_v1) := ⟨rfl, rfl, rfl, by decide +kernel, rfl, by decide +kernel, by decide +kernel⟩
theorem ok_is_reduced_v1 {k : Nat} {f : Addr} {fd : FuncData} (F : Fun K "is_reduced" "is_reduced" s_is_reduced_v1 f fd) (m_abs : mg "abs" = none) (G_floor_root : FnIn P w K mg base k "floor_root" sp_floor_root) (G_discriminant : FnIn P w K mg base k "discriminant" sp_discriminant) : FnOk P w K mg base CX0 (k + 1) f fd ["form"] (spD K sp_is_reduced_v1) :=
  fn_ok F sc_is_reduced_v1 len_is_reduced_v1 (fun cdv A outer s H E c hK hr => by
    unfold c_is_reduced_v1
    have nd := sc_is_reduced_v1.nd
    exact (ss_cons (ss_asg (SE.fz (se_v 0 (pv 0))) (sg_tup hK rfl (sg_cons (sg_n (i := 1) nd rfl (by first | exact Or.inl rfl | exact Or.inr rfl)) (sg_cons (sg_n (i := 2) nd rfl (by first | exact Or.inl rfl | exact Or.inr rfl)) (sg_cons (sg_n (i := 3) nd rfl (by first | exact Or.inl rfl | exact Or.inr rfl)) sg_nil)))))
      (ss_cons (ss_set (i := 4) nd rfl (by first | exact Or.inl rfl | exact Or.inr rfl) (se_call hK G_floor_root mon_floor_root hr (by rfl) (sa_cons (SE.fz (se_call hK G_discriminant mon_discriminant hr (by rfl) (sa_cons (SE.fz (se_v 0 (pv 0))) sa_nil))) sa_nil)))
      (ss_one (ss_ret (se_sv (sv_and (se_chain op_lt op_le .j .j od_b0 od_b0 (SE.pk se_int) (sp_v 2 (pv 2)) (sp_v 4 (pv 4))) (sv_one (se_chain op_lt op_le .j .j od_b0 od_b0 (SE.pk (se_sub (sp_v 4 (pv 4)) (sp_v 2 (pv 2)))) (SE.pk (se_mul (SE.pk se_int) (SE.pk (se_abs (by rfl) m_abs (sp_v 1 (pv 1)))))) (SE.pk (se_add hK (sp_v 4 (pv 4)) (sp_v 2 (pv 2))))))))))))) hw_is_reduced_v1

abbrev s_step_of : Stmt := topS 26
theorem sc_step_of : FnScope N_step_of ["form"] (defScope s_step_of) := ⟨rfl, rfl, rfl, by decide +kernel, rfl, by decide +kernel, by decide +kernel⟩
theorem ok_step_of {k : Nat} {f : Addr} {fd : FuncData} (F : Fun K "step_of" "step_of" s_step_of f fd) (m_abs : mg "abs" = none) (G_floor_root : FnIn P w K mg base k "floor_root" sp_floor_root) (G_discriminant : FnIn P w K mg base k "discriminant" sp_discriminant) : FnOk P w K mg base CX0 (k + 1) f fd ["form"] (spD K sp_step_of) :=
  fn_ok F sc_step_of len_step_of (fun cdv A outer s H E c hK hr => by
    unfold c_step_of
    have nd := sc_step_of.nd
    exact (ss_cons (ss_asg (SE.fz (se_v 0 (pv 0))) (sg_tup hK rfl (sg_cons (sg_n (i := 1) nd rfl (by first | exact Or.inl rfl | exact Or.inr rfl)) (sg_cons (sg_n (i := 2) nd rfl (by first | exact Or.inl rfl | exact Or.inr rfl)) (sg_cons (sg_n (i := 3) nd rfl (by first | exact Or.inl rfl | exact Or.inr rfl)) sg_nil)))))
      (ss_cons (ss_set (i := 4) nd rfl (by first | exact Or.inl rfl | exact Or.inr rfl) (se_call hK G_floor_root mon_floor_root hr (by rfl) (sa_cons (SE.fz (se_call hK G_discriminant mon_discriminant hr (by rfl) (sa_cons (SE.fz (se_v 0 (pv 0))) sa_nil))) sa_nil)))
      (ss_cons (ss_if (st_gt (SE.pk (se_abs (by rfl) m_abs (sp_v 3 (pv 3)))) (sp_v 4 (pv 4))) (ss_one (ss_set (i := 6) nd rfl (by first | exact Or.inl rfl | exact Or.inr rfl) (se_abs (by rfl) m_abs (sp_v 3 (pv 3))))) (ss_one (ss_set (i := 6) nd rfl (by first | exact Or.inl rfl | exact Or.inr rfl) (se_v 4 (pv 4)))))
      (ss_cons (ss_set (i := 5) nd rfl (by first | exact Or.inl rfl | exact Or.inr rfl) (se_sub (sp_v 6 (pv 6)) (SE.pk (se_mod (SE.pk (se_add hK (sp_v 6 (pv 6)) (sp_v 2 (pv 2)))) (SE.pk (se_mul (SE.pk se_int) (SE.pk (se_abs (by rfl) m_abs (sp_v 3 (pv 3))))))))))
      (ss_one (ss_ret (se_tup (sa_cons (SE.fz se_int) (sa_cons (SE.fz (se_neg (SE.pk se_int))) (sa_cons (SE.fz se_int) (sa_cons (SE.fz (se_div (SE.pk (se_add hK (sp_v 2 (pv 2)) (sp_v 5 (pv 5)))) (SE.pk (se_mul (SE.pk se_int) (sp_v 3 (pv 3)))))) sa_nil)))))))))))) hw_step_of

abbrev s_reduce_indefinite : Stmt := topS 27
theorem sc_reduce_indefinite : FnScope N_reduce_indefinite ["form"] (defScope s_reduce_indefinite) := ⟨rfl, rfl, rfl, by decide +kernel, rfl, by decide +kernel, by decide +kernel⟩
theorem ok_reduce_indefinite {k : Nat} {f : Addr} {fd : FuncData} (F : Fun K "reduce_indefinite" "reduce_indefinite" s_reduce_indefinite f fd) (k_UNIT : Kon K mg "UNIT" kUNIT) (G_is_reduced_indefinite : FnIn P w K mg base k "is_reduced_indefinite" sp_is_reduced_v1) (G_step_of : FnIn P w K mg base k "step_of" sp_step_of) (G_act : FnIn P w K mg base k "act" sp_act) (G_multiply : FnIn P w K mg base k "multiply" sp_multiply) : FnOk P w K mg base CX0 (k + 1) f fd ["form"] (spD K sp_reduce_indefinite) :=
  fn_ok F sc_reduce_indefinite len_reduce_indefinite (fun cdv A outer s H E c hK hr => by
    unfold c_reduce_indefinite
    have nd := sc_reduce_indefinite.nd
    exact (ss_cons (ss_set (i := 1) nd rfl (by first | exact Or.inl rfl | exact Or.inr rfl) (se_k hK (by rfl) k_UNIT))
      (ss_cons (ss_while PassesOwn.never (st_not (st_v (se_call hK G_is_reduced_indefinite mon_is_reduced_v1 hr (by rfl) (sa_cons (SE.fz (se_v 0 (pv 0))) sa_nil)))) (ss_cons (ss_set (i := 2) nd rfl (by first | exact Or.inl rfl | exact Or.inr rfl) (se_call hK G_step_of mon_step_of hr (by rfl) (sa_cons (SE.fz (se_v 0 (pv 0))) sa_nil)))
      (ss_cons (ss_set (i := 0) nd rfl (by first | exact Or.inl rfl | exact Or.inr rfl) (se_call hK G_act mon_act hr (by rfl) (sa_cons (SE.fz (se_v 0 (pv 0))) (sa_cons (SE.fz (se_v 2 (pv 2))) sa_nil))))
      (ss_one (ss_set (i := 1) nd rfl (by first | exact Or.inl rfl | exact Or.inr rfl) (se_call hK G_multiply mon_multiply hr (by rfl) (sa_cons (SE.fz (se_v 1 (pv 1))) (sa_cons (SE.fz (se_v 2 (pv 2))) sa_nil))))))))
      (ss_one (ss_ret (se_tup (sa_cons (SE.fz (se_v 0 (pv 0))) (sa_cons (SE.fz (se_v 1 (pv 1))) sa_nil)))))))) hw_reduce_indefinite

abbrev s_cycle : Stmt := topS 28
theorem sc_cycle : FnScope N_cycle ["form"] (defScope s_cycle) := ⟨rfl, rfl, rfl, by decide +kernel, rfl, by decide +kernel, by decide +kernel⟩
theorem ok_cycle {k : Nat} {f : Addr} {fd : FuncData} (F : Fun K "cycle" "cycle" s_cycle f fd) (k_UNIT : Kon K mg "UNIT" kUNIT) (G_step_of : FnIn P w K mg base k "step_of" sp_step_of) (G_act : FnIn P w K mg base k "act" sp_act) (G_multiply : FnIn P w K mg base k "multiply" sp_multiply) : FnOk P w K mg base CX0 (k + 1) f fd ["form"] (spD K sp_cycle) :=
  fn_ok F sc_cycle len_cycle (fun cdv A outer s H E c hK hr => by
    unfold c_cycle
    have nd := sc_cycle.nd
    exact (ss_cons (ss_set (i := 1) nd rfl (by first | exact Or.inl rfl | exact Or.inr rfl) (se_lst (sa_cons (SE.fz (se_tup (sa_cons (SE.fz (se_v 0 (pv 0))) (sa_cons (SE.fz (se_k hK (by rfl) k_UNIT)) sa_nil)))) sa_nil)))
      (ss_cons (ss_set (i := 2) nd rfl (by first | exact Or.inl rfl | exact Or.inr rfl) (se_call hK G_step_of mon_step_of hr (by rfl) (sa_cons (SE.fz (se_v 0 (pv 0))) sa_nil)))
      (ss_cons (ss_set (i := 3) nd rfl (by first | exact Or.inl rfl | exact Or.inr rfl) (se_call hK G_act mon_act hr (by rfl) (sa_cons (SE.fz (se_v 0 (pv 0))) (sa_cons (SE.fz (se_v 2 (pv 2))) sa_nil))))
      (ss_cons (ss_while PassesOwn.never (st_ne hK (hu_room hr) (sp_v 3 (pv 3)) (sp_v 0 (pv 0))) (ss_cons (ss_app 1 (pv 1) (SE.fz (se_tup (sa_cons (SE.fz (se_v 3 (pv 3))) (sa_cons (SE.fz (se_v 2 (pv 2))) sa_nil)))))
      (ss_cons (ss_set (i := 4) nd rfl (by first | exact Or.inl rfl | exact Or.inr rfl) (se_call hK G_step_of mon_step_of hr (by rfl) (sa_cons (SE.fz (se_v 3 (pv 3))) sa_nil)))
      (ss_cons (ss_set (i := 3) nd rfl (by first | exact Or.inl rfl | exact Or.inr rfl) (se_call hK G_act mon_act hr (by rfl) (sa_cons (SE.fz (se_v 3 (pv 3))) (sa_cons (SE.fz (se_v 4 (pv 4))) sa_nil))))
      (ss_one (ss_set (i := 2) nd rfl (by first | exact Or.inl rfl | exact Or.inr rfl) (se_call hK G_multiply mon_multiply hr (by rfl) (sa_cons (SE.fz (se_v 2 (pv 2))) (sa_cons (SE.fz (se_v 4 (pv 4))) sa_nil)))))))))
      (ss_one (ss_retV 1 (pv 1)))))))) hw_cycle

abbrev s_canonical : Stmt := topS 29
theorem sc_canonical : FnScope N_canonical ["form"] (defScope s_canonical) := ⟨rfl, rfl, rfl, by decide +kernel, rfl, by decide +kernel, by decide +kernel⟩
theorem ok_canonical {k : Nat} {f : Addr} {fd : FuncData} (F : Fun K "canonical" "canonical" s_canonical f fd) (m_min : mg "min" = none) (G_reduce_indefinite : FnIn P w K mg base k "reduce_indefinite" sp_reduce_indefinite) (G_cycle : FnIn P w K mg base k "cycle" sp_cycle) (G_multiply : FnIn P w K mg base k "multiply" sp_multiply) : FnOk P w K mg base CX0 (k + 1) f fd ["form"] (spD K sp_canonical) :=
  fn_ok F sc_canonical len_canonical (fun cdv A outer s H E c hK hr => by
    unfold c_canonical
    have nd := sc_canonical.nd
    exact (ss_cons (ss_asg (SE.fz (se_call hK G_reduce_indefinite mon_reduce_indefinite hr (by rfl) (sa_cons (SE.fz (se_v 0 (pv 0))) sa_nil))) (sg_tup hK rfl (sg_cons (sg_n (i := 1) nd rfl (by first | exact Or.inl rfl | exact Or.inr rfl)) (sg_cons (sg_n (i := 2) nd rfl (by first | exact Or.inl rfl | exact Or.inr rfl)) sg_nil))))
      (ss_cons (ss_asg (SE.fz (se_min1 hK (hu_room hr) rfl (by rfl) m_min (SE.pk (se_call hK G_cycle mon_cycle hr (by rfl) (sa_cons (SE.fz (se_v 1 (pv 1))) sa_nil))))) (sg_tup hK rfl (sg_cons (sg_n (i := 3) nd rfl (by first | exact Or.inl rfl | exact Or.inr rfl)) (sg_cons (sg_n (i := 4) nd rfl (by first | exact Or.inl rfl | exact Or.inr rfl)) sg_nil))))
      (ss_one (ss_ret (se_tup (sa_cons (SE.fz (se_v 3 (pv 3))) (sa_cons (SE.fz (se_call hK G_multiply mon_multiply hr (by rfl) (sa_cons (SE.fz (se_v 2 (pv 2))) (sa_cons (SE.fz (se_v 4 (pv 4))) sa_nil)))) sa_nil)))))))) hw_canonical

abbrev s_primitive : Stmt := topS 31
theorem sc_primitive : FnScope N_primitive ["x", "y"] (defScope s_primitive) := ⟨rfl, rfl, rfl, by decide +kernel, rfl, by decide +kernel, by decide +kernel⟩
theorem ok_primitive {k : Nat} {f : Addr} {fd : FuncData} (F : Fun K "primitive" "primitive" s_primitive f fd) (G_measure : FnIn P w K mg base k "measure" sp_measure) : FnOk P w K mg base CX0 (k + 1) f fd ["x", "y"] (spD K sp_primitive) :=
  fn_ok F sc_primitive len_primitive (fun cdv A outer s H E c hK hr => by
    unfold c_primitive
    have nd := sc_primitive.nd
    exact (ss_cons (ss_set (i := 2) nd rfl (by first | exact Or.inl rfl | exact Or.inr rfl) (se_call hK G_measure mon_measure hr (by rfl) (sa_cons (SE.fz (se_tup (sa_cons (SE.fz (se_v 0 (pv 0))) (sa_cons (SE.fz (se_v 1 (pv 1))) sa_nil)))) sa_nil)))
      (ss_cons (ss_set (i := 0) nd rfl (by first | exact Or.inl rfl | exact Or.inr rfl) (se_div (sp_v 0 (pv 0)) (sp_v 2 (pv 2))))
      (ss_cons (ss_set (i := 1) nd rfl (by first | exact Or.inl rfl | exact Or.inr rfl) (se_div (sp_v 1 (pv 1)) (sp_v 2 (pv 2))))
      (ss_cons (ss_if (st_w (sw_or (st_lt (sp_v 0 (pv 0)) (SE.pk se_int)) (sw_or1 (st_w (sw_and (st_eq hK (hu_room hr) (sp_v 0 (pv 0)) (SE.pk se_int)) (sw_and1 (st_lt (sp_v 1 (pv 1)) (SE.pk se_int)))))))) (ss_one (ss_ret (se_tup (sa_cons (SE.fz (se_neg (sp_v 0 (pv 0)))) (sa_cons (SE.fz (se_neg (sp_v 1 (pv 1)))) sa_nil))))) ss_nil)
      (ss_one (ss_ret (se_tup (sa_cons (SE.fz (se_v 0 (pv 0))) (sa_cons (SE.fz (se_v 1 (pv 1))) sa_nil)))))))))) hw_primitive

abbrev s_zero_lines : Stmt := topS 32
theorem sc_zero_lines : FnScope N_zero_lines ["form"] (defScope s_zero_lines) := ⟨rfl, rfl, rfl, by decide +kernel, rfl, by decide +kernel, by decide +kernel⟩
theorem ok_zero_lines {k : Nat} {f : Addr} {fd : FuncData} (F : Fun K "zero_lines" "zero_lines" s_zero_lines f fd) (G_floor_root : FnIn P w K mg base k "floor_root" sp_floor_root) (G_discriminant : FnIn P w K mg base k "discriminant" sp_discriminant) (G_primitive : FnIn P w K mg base k "primitive" sp_primitive) : FnOk P w K mg base CX0 (k + 1) f fd ["form"] (spD K sp_zero_lines) :=
  fn_ok F sc_zero_lines len_zero_lines (fun cdv A outer s H E c hK hr => by
    unfold c_zero_lines
    have nd := sc_zero_lines.nd
    exact (ss_cons (ss_asg (SE.fz (se_v 0 (pv 0))) (sg_tup hK rfl (sg_cons (sg_n (i := 1) nd rfl (by first | exact Or.inl rfl | exact Or.inr rfl)) (sg_cons (sg_n (i := 2) nd rfl (by first | exact Or.inl rfl | exact Or.inr rfl)) (sg_cons (sg_n (i := 3) nd rfl (by first | exact Or.inl rfl | exact Or.inr rfl)) sg_nil)))))
      (ss_cons (ss_set (i := 4) nd rfl (by first | exact Or.inl rfl | exact Or.inr rfl) (se_call hK G_floor_root mon_floor_root hr (by rfl) (sa_cons (SE.fz (se_call hK G_discriminant mon_discriminant hr (by rfl) (sa_cons (SE.fz (se_v 0 (pv 0))) sa_nil))) sa_nil)))
      (ss_cons (ss_if (st_eq hK (hu_room hr) (sp_v 1 (pv 1)) (SE.pk se_int)) (ss_one (ss_ret (se_lst (sa_cons (SE.fz (se_tup (sa_cons (SE.fz se_int) (sa_cons (SE.fz se_int) sa_nil)))) (sa_cons (SE.fz (se_call hK G_primitive mon_primitive hr (by rfl) (sa_cons (SE.fz (se_neg (sp_v 3 (pv 3)))) (sa_cons (SE.fz (se_v 2 (pv 2))) sa_nil)))) sa_nil))))) ss_nil)
      (ss_one (ss_ret (se_lst (sa_cons (SE.fz (se_call hK G_primitive mon_primitive hr (by rfl) (sa_cons (SE.fz (se_sub (sp_v 4 (pv 4)) (sp_v 2 (pv 2)))) (sa_cons (SE.fz (se_mul (SE.pk se_int) (sp_v 1 (pv 1)))) sa_nil)))) (sa_cons (SE.fz (se_call hK G_primitive mon_primitive hr (by rfl) (sa_cons (SE.fz (se_sub (SE.pk (se_neg (sp_v 4 (pv 4)))) (sp_v 2 (pv 2)))) (sa_cons (SE.fz (se_mul (SE.pk se_int) (sp_v 1 (pv 1)))) sa_nil)))) sa_nil))))))))) hw_zero_lines

abbrev s_leading : Stmt := topS 33
theorem sc_leading : FnScope N_leading ["point"] (defScope s_leading) := ⟨rfl, rfl, rfl, by decide +kernel, rfl, by decide +kernel, by decide +kernel⟩
theorem ok_leading {k : Nat} {f : Addr} {fd : FuncData} (F : Fun K "leading" "leading" s_leading f fd) (G_bezout : FnIn P w K mg base k "bezout" sp_bezout) : FnOk P w K mg base CX0 (k + 1) f fd ["point"] (spD K sp_leading) :=
  fn_ok F sc_leading len_leading (fun cdv A outer s H E c hK hr => by
    unfold c_leading
    have nd := sc_leading.nd
    exact (ss_cons (ss_asg (SE.fz (se_call hK G_bezout mon_bezout hr (by rfl) (sa_cons (SE.fz (se_ix hK (sp_v 0 (pv 0)) (SE.pk se_int) (fun _ _ => rfl))) (sa_cons (SE.fz (se_ix hK (sp_v 0 (pv 0)) (SE.pk se_int) (fun _ _ => rfl))) sa_nil)))) (sg_tup hK rfl (sg_cons (sg_n (i := 1) nd rfl (by first | exact Or.inl rfl | exact Or.inr rfl)) (sg_cons (sg_n (i := 2) nd rfl (by first | exact Or.inl rfl | exact Or.inr rfl)) (sg_cons (sg_n (i := 3) nd rfl (by first | exact Or.inl rfl | exact Or.inr rfl)) sg_nil)))))
      (ss_one (ss_ret (se_tup (sa_cons (SE.fz (se_ix hK (sp_v 0 (pv 0)) (SE.pk se_int) (fun _ _ => rfl))) (sa_cons (SE.fz (se_neg (sp_v 3 (pv 3)))) (sa_cons (SE.fz (se_ix hK (sp_v 0 (pv 0)) (SE.pk se_int) (fun _ _ => rfl))) (sa_cons (SE.fz (se_v 2 (pv 2))) sa_nil))))))))) hw_leading

abbrev s_canonical_split : Stmt := topS 34
theorem sc_canonical_split : FnScope N_canonical_split ["form"] (defScope s_canonical_split) := ⟨rfl, rfl, rfl, by decide +kernel, rfl, by decide +kernel, by decide +kernel⟩
theorem ok_canonical_split {k : Nat} {f : Addr} {fd : FuncData} (F : Fun K "canonical_split" "canonical_split" s_canonical_split f fd) (G_floor_root : FnIn P w K mg base k "floor_root" sp_floor_root) (G_discriminant : FnIn P w K mg base k "discriminant" sp_discriminant) (G_zero_lines : FnIn P w K mg base k "zero_lines" sp_zero_lines) (G_leading : FnIn P w K mg base k "leading" sp_leading) (G_act : FnIn P w K mg base k "act" sp_act) (G_multiply : FnIn P w K mg base k "multiply" sp_multiply) : FnOk P w K mg base CX0 (k + 1) f fd ["form"] (spD K sp_canonical_split) :=
  fn_ok F sc_canonical_split len_canonical_split (fun cdv A outer s H E c hK hr => by
    unfold c_canonical_split
    have nd := sc_canonical_split.nd
    exact (ss_cons (ss_set (i := 1) nd rfl (by first | exact Or.inl rfl | exact Or.inr rfl) (se_call hK G_floor_root mon_floor_root hr (by rfl) (sa_cons (SE.fz (se_call hK G_discriminant mon_discriminant hr (by rfl) (sa_cons (SE.fz (se_v 0 (pv 0))) sa_nil))) sa_nil)))
      (ss_cons (ss_for PassesOwn.never rfl (si_seq hK (SE.fz (se_call hK G_zero_lines mon_zero_lines hr (by rfl) (sa_cons (SE.fz (se_v 0 (pv 0))) sa_nil)))) (sg_n (i := 2) nd rfl (by first | exact Or.inl rfl | exact Or.inr rfl)) (ss_cons (ss_set (i := 3) nd rfl (by first | exact Or.inl rfl | exact Or.inr rfl) (se_call hK G_leading mon_leading hr (by rfl) (sa_cons (SE.fz (se_v 2 (pv 2))) sa_nil)))
      (ss_cons (ss_asg (SE.fz (se_call hK G_act mon_act hr (by rfl) (sa_cons (SE.fz (se_v 0 (pv 0))) (sa_cons (SE.fz (se_v 3 (pv 3))) sa_nil)))) (sg_tup hK rfl (sg_cons (sg_n (i := 4) nd rfl (by first | exact Or.inl rfl | exact Or.inr rfl)) (sg_cons (sg_n (i := 5) nd rfl (by first | exact Or.inl rfl | exact Or.inr rfl)) (sg_cons (sg_n (i := 6) nd rfl (by first | exact Or.inl rfl | exact Or.inr rfl)) sg_nil)))))
      (ss_one (ss_if (st_eq hK (hu_room hr) (sp_v 5 (pv 5)) (sp_v 1 (pv 1))) (ss_cons (ss_set (i := 7) nd rfl (by first | exact Or.inl rfl | exact Or.inr rfl) (se_tup (sa_cons (SE.fz se_int) (sa_cons (SE.fz (se_neg (SE.pk (se_div (sp_v 6 (pv 6)) (sp_v 1 (pv 1)))))) (sa_cons (SE.fz se_int) (sa_cons (SE.fz se_int) sa_nil))))))
      (ss_cons (ss_set (i := 3) nd rfl (by first | exact Or.inl rfl | exact Or.inr rfl) (se_call hK G_multiply mon_multiply hr (by rfl) (sa_cons (SE.fz (se_v 3 (pv 3))) (sa_cons (SE.fz (se_v 7 (pv 7))) sa_nil))))
      (ss_one (ss_ret (se_tup (sa_cons (SE.fz (se_call hK G_act mon_act hr (by rfl) (sa_cons (SE.fz (se_v 0 (pv 0))) (sa_cons (SE.fz (se_v 3 (pv 3))) sa_nil)))) (sa_cons (SE.fz (se_v 3 (pv 3))) sa_nil))))))) ss_nil)))))
      (ss_one (ss_ret (se_tup (sa_cons (SE.fz (se_v 0 (pv 0))) (sa_cons (SE.fz (se_tup (sa_cons (SE.fz se_int) (sa_cons (SE.fz se_int) (sa_cons (SE.fz se_int) (sa_cons (SE.fz se_int) sa_nil)))))) sa_nil)))))))) hw_canonical_split

abbrev s_flat_parts : Stmt := topS 35
theorem sc_flat_parts : FnScope N_flat_parts ["form"] (defScope s_flat_parts) := ⟨rfl, rfl, rfl, by decide +kernel, rfl, by decide +kernel, by decide +kernel⟩
theorem ok_flat_parts {k : Nat} {f : Addr} {fd : FuncData} (F : Fun K "flat_parts" "flat_parts" s_flat_parts f fd) (m_abs : mg "abs" = none) (G_content : FnIn P w K mg base k "content" sp_content) (G_divided : FnIn P w K mg base k "divided" sp_divided) (G_floor_root : FnIn P w K mg base k "floor_root" sp_floor_root) : FnOk P w K mg base CX0 (k + 1) f fd ["form"] (spD K sp_flat_parts) :=
  fn_ok F sc_flat_parts len_flat_parts (fun cdv A outer s H E c hK hr => by
    unfold c_flat_parts
    have nd := sc_flat_parts.nd
    exact (ss_cons (ss_set (i := 1) nd rfl (by first | exact Or.inl rfl | exact Or.inr rfl) (se_call hK G_content mon_content hr (by rfl) (sa_cons (SE.fz (se_v 0 (pv 0))) sa_nil)))
      (ss_cons (ss_if (st_eq hK (hu_room hr) (sp_v 1 (pv 1)) (SE.pk se_int)) (ss_one (ss_ret (se_tup (sa_cons (SE.fz se_int) (sa_cons (SE.fz se_int) (sa_cons (SE.fz se_int) sa_nil)))))) ss_nil)
      (ss_cons (ss_asg (SE.fz (se_call hK G_divided mon_divided hr (by rfl) (sa_cons (SE.fz (se_v 0 (pv 0))) (sa_cons (SE.fz (se_v 1 (pv 1))) sa_nil)))) (sg_tup hK rfl (sg_cons (sg_n (i := 2) nd rfl (by first | exact Or.inl rfl | exact Or.inr rfl)) (sg_cons (sg_n (i := 3) nd rfl (by first | exact Or.inl rfl | exact Or.inr rfl)) (sg_cons (sg_n (i := 4) nd rfl (by first | exact Or.inl rfl | exact Or.inr rfl)) sg_nil)))))
      (ss_cons (ss_set (i := 5) nd rfl (by first | exact Or.inl rfl | exact Or.inr rfl) se_int)
      (ss_cons (ss_if (st_w (sw_or (st_lt (sp_v 2 (pv 2)) (SE.pk se_int)) (sw_or1 (st_lt (sp_v 4 (pv 4)) (SE.pk se_int))))) (ss_one (ss_set (i := 5) nd rfl (by first | exact Or.inl rfl | exact Or.inr rfl) (se_neg (SE.pk se_int)))) ss_nil)
      (ss_cons (ss_set (i := 6) nd rfl (by first | exact Or.inl rfl | exact Or.inr rfl) (se_call hK G_floor_root mon_floor_root hr (by rfl) (sa_cons (SE.fz (se_abs (by rfl) m_abs (sp_v 2 (pv 2)))) sa_nil)))
      (ss_cons (ss_set (i := 7) nd rfl (by first | exact Or.inl rfl | exact Or.inr rfl) (se_call hK G_floor_root mon_floor_root hr (by rfl) (sa_cons (SE.fz (se_abs (by rfl) m_abs (sp_v 4 (pv 4)))) sa_nil)))
      (ss_cons (ss_if (st_lt (SE.pk (se_mul (sp_v 3 (pv 3)) (sp_v 5 (pv 5)))) (SE.pk se_int)) (ss_one (ss_set (i := 7) nd rfl (by first | exact Or.inl rfl | exact Or.inr rfl) (se_neg (sp_v 7 (pv 7))))) ss_nil)
      (ss_one (ss_ret (se_tup (sa_cons (SE.fz (se_mul (sp_v 5 (pv 5)) (sp_v 1 (pv 1)))) (sa_cons (SE.fz (se_v 6 (pv 6))) (sa_cons (SE.fz (se_v 7 (pv 7))) sa_nil))))))))))))))) hw_flat_parts

abbrev s_canonical_flat : Stmt := topS 36
theorem sc_canonical_flat : FnScope N_canonical_flat ["form"] (defScope s_canonical_flat) := ⟨rfl, rfl, rfl, by decide +kernel, rfl, by decide +kernel, by decide +kernel⟩
theorem ok_canonical_flat {k : Nat} {f : Addr} {fd : FuncData} (F : Fun K "canonical_flat" "canonical_flat" s_canonical_flat f fd) (G_flat_parts : FnIn P w K mg base k "flat_parts" sp_flat_parts) (G_bezout : FnIn P w K mg base k "bezout" sp_bezout) : FnOk P w K mg base CX0 (k + 1) f fd ["form"] (spD K sp_canonical_flat) :=
  fn_ok F sc_canonical_flat len_canonical_flat (fun cdv A outer s H E c hK hr => by
    unfold c_canonical_flat
    have nd := sc_canonical_flat.nd
    exact (ss_cons (ss_asg (SE.fz (se_call hK G_flat_parts mon_flat_parts hr (by rfl) (sa_cons (SE.fz (se_v 0 (pv 0))) sa_nil))) (sg_tup hK rfl (sg_cons (sg_n (i := 1) nd rfl (by first | exact Or.inl rfl | exact Or.inr rfl)) (sg_cons (sg_n (i := 2) nd rfl (by first | exact Or.inl rfl | exact Or.inr rfl)) (sg_cons (sg_n (i := 3) nd rfl (by first | exact Or.inl rfl | exact Or.inr rfl)) sg_nil)))))
      (ss_cons (ss_if (st_eq hK (hu_room hr) (sp_v 1 (pv 1)) (SE.pk se_int)) (ss_one (ss_ret (se_tup (sa_cons (SE.fz (se_v 0 (pv 0))) (sa_cons (SE.fz (se_tup (sa_cons (SE.fz se_int) (sa_cons (SE.fz se_int) (sa_cons (SE.fz se_int) (sa_cons (SE.fz se_int) sa_nil)))))) sa_nil))))) ss_nil)
      (ss_cons (ss_asg (SE.fz (se_call hK G_bezout mon_bezout hr (by rfl) (sa_cons (SE.fz (se_v 2 (pv 2))) (sa_cons (SE.fz (se_v 3 (pv 3))) sa_nil)))) (sg_tup hK rfl (sg_cons (sg_n (i := 4) nd rfl (by first | exact Or.inl rfl | exact Or.inr rfl)) (sg_cons (sg_n (i := 5) nd rfl (by first | exact Or.inl rfl | exact Or.inr rfl)) (sg_cons (sg_n (i := 6) nd rfl (by first | exact Or.inl rfl | exact Or.inr rfl)) sg_nil)))))
      (ss_one (ss_ret (se_tup (sa_cons (SE.fz (se_tup (sa_cons (SE.fz (se_v 1 (pv 1))) (sa_cons (SE.fz se_int) (sa_cons (SE.fz se_int) sa_nil))))) (sa_cons (SE.fz (se_tup (sa_cons (SE.fz (se_v 5 (pv 5))) (sa_cons (SE.fz (se_neg (sp_v 3 (pv 3)))) (sa_cons (SE.fz (se_v 6 (pv 6))) (sa_cons (SE.fz (se_v 2 (pv 2))) sa_nil)))))) sa_nil))))))))) hw_canonical_flat

abbrev s_canonical_form_v2 : Stmt := topS 38
theorem sc_canonical_form_v2 : FnScope N_canonical_form_v2 ["form"] (defScope s_canonical_form_v2) := ⟨rfl, rfl, rfl, by decide +kernel, rfl, by decide +kernel, by decide +kernel⟩
theorem ok_canonical_form_v2 {k : Nat} {f : Addr} {fd : FuncData} (F : Fun K "canonical_form" "canonical_form" s_canonical_form_v2 f fd) (G_kind : FnIn P w K mg base k "kind" sp_kind) (G_reduce_definite : FnIn P w K mg base k "reduce_definite" sp_reduce_definite) (G_canonical : FnIn P w K mg base k "canonical" sp_canonical) (G_canonical_split : FnIn P w K mg base k "canonical_split" sp_canonical_split) (G_canonical_flat : FnIn P w K mg base k "canonical_flat" sp_canonical_flat) : FnOk P w K mg base CX0 (k + 1) f fd ["form"] (spD K sp_canonical_form_v2) :=
  fn_ok F sc_canonical_form_v2 len_canonical_form_v2 (fun cdv A outer s H E c hK hr => by
    unfold c_canonical_form_v2
    have nd := sc_canonical_form_v2.nd
    exact (ss_cons (ss_match (se_call hK G_kind mon_kind hr (by rfl) (sa_cons (SE.fz (se_v 0 (pv 0))) sa_nil)) (sm_cons (ss_one (ss_ret (se_call hK G_reduce_definite mon_reduce_definite hr (by rfl) (sa_cons (SE.fz (se_v 0 (pv 0))) sa_nil)))) (sm_cons (ss_one (ss_ret (se_call hK G_canonical mon_canonical hr (by rfl) (sa_cons (SE.fz (se_v 0 (pv 0))) sa_nil)))) (sm_cons (ss_one (ss_ret (se_call hK G_canonical_split mon_canonical_split hr (by rfl) (sa_cons (SE.fz (se_v 0 (pv 0))) sa_nil)))) sm_nil))))
      (ss_one (ss_ret (se_call hK G_canonical_flat mon_canonical_flat hr (by rfl) (sa_cons (SE.fz (se_v 0 (pv 0))) sa_nil)))))) hw_canonical_form_v2

abbrev s_indefinite_classes_v1 : Stmt := topS 40
theorem sc_indefinite_classes_v1 : FnScope N_indefinite_classes_v1 ["d"] (defScope s_indefinite_classes_v1) := ⟨rfl, rfl, rfl, by decide +kernel, rfl, by decide +kernel, by decide +kernel⟩
theorem ok_indefinite_classes_v1 {k : Nat} {f : Addr} {fd : FuncData} (F : Fun K "indefinite_classes" "indefinite_classes" s_indefinite_classes_v1 f fd) (m_range : mg "range" = none) (m_sorted : mg "sorted" = none) (m_set : mg "set" = none) (G_floor_root : FnIn P w K mg base k "floor_root" sp_floor_root) (G_content : FnIn P w K mg base k "content" sp_content) (G_canonical : FnIn P w K mg base k "canonical" sp_canonical) : FnOk P w K mg base CX0 (k + 1) f fd ["d"] (spD K sp_indefinite_classes_v1) :=
  fn_ok F sc_indefinite_classes_v1 len_indefinite_classes_v1 (fun cdv A outer s H E c hK hr => by
    unfold c_indefinite_classes_v1
    have nd := sc_indefinite_classes_v1.nd
    exact (ss_cons (ss_set (i := 1) nd rfl (by first | exact Or.inl rfl | exact Or.inr rfl) (se_lst sa_nil))
      (ss_cons (ss_set (i := 2) nd rfl (by first | exact Or.inl rfl | exact Or.inr rfl) (se_call hK G_floor_root mon_floor_root hr (by rfl) (sa_cons (SE.fz (se_v 0 (pv 0))) sa_nil)))
      (ss_cons (ss_for PassesOwn.never rfl (si_r2 (by rfl) m_range (SE.pk se_int) (SE.pk (se_add hK (sp_v 2 (pv 2)) (SE.pk se_int)))) (sg_n (i := 3) nd rfl (by first | exact Or.inl rfl | exact Or.inr rfl)) (ss_one (ss_if (st_eq hK (hu_room hr) (SE.pk (se_mod (SE.pk (se_sub (sp_v 0 (pv 0)) (SE.pk (se_mul (sp_v 3 (pv 3)) (sp_v 3 (pv 3)))))) (SE.pk se_int))) (SE.pk se_int)) (ss_cons (ss_set (i := 4) nd rfl (by first | exact Or.inl rfl | exact Or.inr rfl) (se_div (SE.pk (se_sub (sp_v 0 (pv 0)) (SE.pk (se_mul (sp_v 3 (pv 3)) (sp_v 3 (pv 3)))))) (SE.pk se_int)))
      (ss_one (ss_for PassesOwn.never rfl (si_r2 (by rfl) m_range (SE.pk se_int) (SE.pk (se_add hK (SE.pk (se_div (SE.pk (se_add hK (sp_v 2 (pv 2)) (sp_v 3 (pv 3)))) (SE.pk se_int))) (SE.pk se_int)))) (sg_n (i := 5) nd rfl (by first | exact Or.inl rfl | exact Or.inr rfl)) (ss_one (ss_if (st_w (sw_and (st_eq hK (hu_room hr) (SE.pk (se_mod (sp_v 4 (pv 4)) (sp_v 5 (pv 5)))) (SE.pk se_int)) (sw_and1 (st_lt (SE.pk (se_sub (sp_v 2 (pv 2)) (sp_v 3 (pv 3)))) (SE.pk (se_mul (SE.pk se_int) (sp_v 5 (pv 5)))))))) (ss_one (ss_for PassesOwn.never rfl (si_seq hK (SE.fz (se_lst (sa_cons (SE.fz (se_tup (sa_cons (SE.fz (se_v 5 (pv 5))) (sa_cons (SE.fz (se_v 3 (pv 3))) (sa_cons (SE.fz (se_div (SE.pk (se_neg (sp_v 4 (pv 4)))) (sp_v 5 (pv 5)))) sa_nil))))) (sa_cons (SE.fz (se_tup (sa_cons (SE.fz (se_neg (sp_v 5 (pv 5)))) (sa_cons (SE.fz (se_v 3 (pv 3))) (sa_cons (SE.fz (se_div (sp_v 4 (pv 4)) (sp_v 5 (pv 5)))) sa_nil))))) sa_nil))))) (sg_n (i := 6) nd rfl (by first | exact Or.inl rfl | exact Or.inr rfl)) (ss_one (ss_if (st_eq hK (hu_room hr) (SE.pk (se_call hK G_content mon_content hr (by rfl) (sa_cons (SE.fz (se_v 6 (pv 6))) sa_nil))) (SE.pk se_int)) (ss_one (ss_app 1 (pv 1) (SE.fz (se_ix hK (SE.pk (se_call hK G_canonical mon_canonical hr (by rfl) (sa_cons (SE.fz (se_v 6 (pv 6))) sa_nil))) (SE.pk se_int) (fun _ _ => rfl))))) ss_nil)))) ss_nil))))) ss_nil)))
      (ss_one (ss_ret (se_sortSet hK (hu_room hr) rfl (by rfl) m_sorted (by rfl) m_set (sp_v 1 (pv 1))))))))) hw_indefinite_classes_v1

abbrev s_classes_v1 : Stmt := topS 41
theorem sc_classes_v1 : FnScope N_classes_v1 ["d"] (defScope s_classes_v1) := ⟨rfl, rfl, rfl, by decide +kernel, rfl, by decide +kernel, by decide +kernel⟩
theorem ok_classes_v1 {k : Nat} {f : Addr} {fd : FuncData} (F : Fun K "classes" "classes" s_classes_v1 f fd) (G_positive_classes : FnIn P w K mg base k "positive_classes" sp_positive_classes) (G_indefinite_classes : FnIn P w K mg base k "indefinite_classes" sp_indefinite_classes_v1) : FnOk P w K mg base CX0 (k + 1) f fd ["d"] (spD K sp_classes_v1) :=
  fn_ok F sc_classes_v1 len_classes_v1 (fun cdv A outer s H E c hK hr => by
    unfold c_classes_v1
    have nd := sc_classes_v1.nd
    exact (ss_cons (ss_if (st_lt (sp_v 0 (pv 0)) (SE.pk se_int)) (ss_one (ss_ret (se_call hK G_positive_classes mon_positive_classes hr (by rfl) (sa_cons (SE.fz (se_v 0 (pv 0))) sa_nil)))) ss_nil)
      (ss_one (ss_ret (se_call hK G_indefinite_classes mon_indefinite_classes_v1 hr (by rfl) (sa_cons (SE.fz (se_v 0 (pv 0))) sa_nil)))))) hw_classes_v1

abbrev s_principal_v1 : Stmt := topS 42
theorem sc_principal_v1 : FnScope N_principal_v1 ["d"] (defScope s_principal_v1) := ⟨rfl, rfl, rfl, by decide +kernel, rfl, by decide +kernel, by decide +kernel⟩
theorem ok_principal_v1 {k : Nat} {f : Addr} {fd : FuncData} (F : Fun K "principal" "principal" s_principal_v1 f fd) (G_canonical_form : FnIn P w K mg base k "canonical_form" sp_canonical_form_v2) : FnOk P w K mg base CX0 (k + 1) f fd ["d"] (spD K sp_principal_v1) :=
  fn_ok F sc_principal_v1 len_principal_v1 (fun cdv A outer s H E c hK hr => by
    unfold c_principal_v1
    have nd := sc_principal_v1.nd
    exact (ss_one (ss_ret (se_ix hK (SE.pk (se_call hK G_canonical_form mon_canonical_form_v2 hr (by rfl) (sa_cons (SE.fz (se_tup (sa_cons (SE.fz se_int) (sa_cons (SE.fz (se_mod (sp_v 0 (pv 0)) (SE.pk se_int))) (sa_cons (SE.fz (se_div (SE.pk (se_sub (SE.pk (se_mod (sp_v 0 (pv 0)) (SE.pk se_int))) (sp_v 0 (pv 0)))) (SE.pk se_int))) sa_nil))))) sa_nil))) (SE.pk se_int) (fun _ _ => rfl))))) hw_principal_v1

abbrev s_opposite_v1 : Stmt := topS 43
theorem sc_opposite_v1 : FnScope N_opposite_v1 ["form"] (defScope s_opposite_v1) := ⟨rfl, rfl, rfl, by decide +kernel, rfl, by decide +kernel, by decide +kernel⟩
theorem ok_opposite_v1 {k : Nat} {f : Addr} {fd : FuncData} (F : Fun K "opposite" "opposite" s_opposite_v1 f fd) (G_canonical_form : FnIn P w K mg base k "canonical_form" sp_canonical_form_v2) : FnOk P w K mg base CX0 (k + 1) f fd ["form"] (spD K sp_opposite_v1) :=
  fn_ok F sc_opposite_v1 len_opposite_v1 (fun cdv A outer s H E c hK hr => by
    unfold c_opposite_v1
    have nd := sc_opposite_v1.nd
    exact (ss_one (ss_ret (se_ix hK (SE.pk (se_call hK G_canonical_form mon_canonical_form_v2 hr (by rfl) (sa_cons (SE.fz (se_tup (sa_cons (SE.fz (se_ix hK (sp_v 0 (pv 0)) (SE.pk se_int) (fun _ _ => rfl))) (sa_cons (SE.fz (se_neg (SE.pk (se_ix hK (sp_v 0 (pv 0)) (SE.pk se_int) (fun _ _ => rfl))))) (sa_cons (SE.fz (se_ix hK (sp_v 0 (pv 0)) (SE.pk se_int) (fun _ _ => rfl))) sa_nil))))) sa_nil))) (SE.pk se_int) (fun _ _ => rfl))))) hw_opposite_v1

abbrev s_Lcell : Stmt := topS 45
theorem sc_Lcell : FnScope N_Lcell ["_law_script", "_law_k"] (defScope s_Lcell) := ⟨rfl, rfl, rfl, by decide +kernel, rfl, by decide +kernel, by decide +kernel⟩
theorem ok_Lcell {k : Nat} {f : Addr} {fd : FuncData} (F : Fun K "_law_cell" "_law_cell" s_Lcell f fd) (m_len : mg "len" = none) : FnOk P w K mg base CX0 (k + 1) f fd ["_law_script", "_law_k"] (spD K sp_Lcell) :=
  fn_ok F sc_Lcell len_Lcell (fun cdv A outer s H E c hK hr => by
    unfold c_Lcell
    have nd := sc_Lcell.nd
    exact (ss_cons (ss_if (st_lt (sp_v 1 (pv 1)) (SE.pk (se_len hK (by rfl) m_len (sp_v 0 (pv 0))))) (ss_one (ss_ret (se_ix hK (sp_v 0 (pv 0)) (sp_v 1 (pv 1)) (fun _ _ => rfl)))) ss_nil)
      (ss_one (ss_ret se_int)))) hw_Lcell

abbrev s_Lnumbers : Stmt := topS 46
theorem sc_Lnumbers : FnScope N_Lnumbers ["_law_cell_here", "_law_many"] (defScope s_Lnumbers) := ⟨rfl, rfl, rfl, by decide +kernel, rfl, by decide +kernel, by decide +kernel⟩
theorem ok_Lnumbers {k : Nat} {f : Addr} {fd : FuncData} (F : Fun K "_law_numbers" "_law_numbers" s_Lnumbers f fd) (m_abs : mg "abs" = none) (m_range : mg "range" = none) (m_int : mg "int" = none) : FnOk P w K mg base CX0 (k + 1) f fd ["_law_cell_here", "_law_many"] (spD K sp_Lnumbers) :=
  fn_ok F sc_Lnumbers len_Lnumbers (fun cdv A outer s H E c hK hr => by
    unfold c_Lnumbers
    have nd := sc_Lnumbers.nd
    exact (ss_cons (ss_set (i := 2) nd rfl (by first | exact Or.inl rfl | exact Or.inr rfl) (se_abs (by rfl) m_abs (sp_v 0 (pv 0))))
      (ss_cons (ss_set (i := 3) nd rfl (by first | exact Or.inl rfl | exact Or.inr rfl) (se_v 2 (pv 2)))
      (ss_cons (ss_set (i := 4) nd rfl (by first | exact Or.inl rfl | exact Or.inr rfl) (se_lst sa_nil))
      (ss_cons (ss_for PassesOwn.never rfl (si_r1 (by rfl) m_range (sp_v 1 (pv 1))) (sg_n (i := 5) nd rfl (by first | exact Or.inl rfl | exact Or.inr rfl)) (ss_one (ss_if (st_w (sw_and (st_ge (sp_v 3 (pv 3)) (SE.pk (se_pow (SE.pk se_int) (SE.pk se_int)))) (sw_and1 (st_gt (sp_v 2 (pv 2)) (SE.pk se_int))))) (ss_cons (ss_app 4 (pv 4) (SE.fz (se_mod (SE.pk (se_toInt (by rfl) m_int (sp_v 2 (pv 2)))) (SE.pk se_int))))
      (ss_one (ss_set (i := 2) nd rfl (by first | exact Or.inl rfl | exact Or.inr rfl) (se_div (sp_v 2 (pv 2)) (SE.pk se_int))))) (ss_cons (ss_set (i := 6) nd rfl (by first | exact Or.inl rfl | exact Or.inr rfl) (se_mod (SE.pk (se_toInt (by rfl) m_int (SE.pk (se_add hK (SE.pk (se_add hK (SE.pk (se_mul (sp_v 3 (pv 3)) (SE.pk se_int))) (SE.pk (se_mul (sp_v 5 (pv 5)) (SE.pk se_int))))) (SE.pk se_int))))) (SE.pk se_int)))
      (ss_cons (ss_set (i := 6) nd rfl (by first | exact Or.inl rfl | exact Or.inr rfl) (se_mod (SE.pk (se_toInt (by rfl) m_int (SE.pk (se_add hK (SE.pk (se_add hK (SE.pk (se_mul (sp_v 6 (pv 6)) (sp_v 6 (pv 6)))) (SE.pk (se_mul (SE.pk se_int) (sp_v 5 (pv 5)))))) (SE.pk se_int))))) (SE.pk se_int)))
      (ss_one (ss_app 4 (pv 4) (SE.fz (se_mod (SE.pk (se_toInt (by rfl) m_int (SE.pk (se_div (sp_v 6 (pv 6)) (SE.pk se_int))))) (SE.pk se_int))))))))))
      (ss_one (ss_retV 4 (pv 4)))))))) hw_Lnumbers

abbrev s_Lstate : Stmt := topS 47
theorem sc_Lstate : FnScope N_Lstate ["_law_script"] (defScope s_Lstate) := ⟨rfl, rfl, rfl, by decide +kernel, rfl, by decide +kernel, by decide +kernel⟩
theorem ok_Lstate0 {k : Nat} {f : Addr} {fd : FuncData} (F : Fun K "_law_state" "_law_state" s_Lstate f fd) (m_range : mg "range" = none) (m_abs : mg "abs" = none) (G_Lnumbers : FnIn P w K mg base k "_law_numbers" sp_Lnumbers) (G_Lcell : FnIn P w K mg base k "_law_cell" sp_Lcell) : FnOk P w K mg base CX0 (k + 1) f fd ["_law_script"] (spD K sp_Lstate0) :=
  fn_ok F sc_Lstate len_Lstate0 (fun cdv A outer s H E c hK hr => by
    unfold c_Lstate
    have nd := sc_Lstate.nd
    exact (ss_cons (ss_set (i := 1) nd rfl (by first | exact Or.inl rfl | exact Or.inr rfl) (se_lst sa_nil))
      (ss_cons (ss_for PassesOwn.never rfl (si_r1 (by rfl) m_range (SE.pk se_int)) (sg_n (i := 2) nd rfl (by first | exact Or.inl rfl | exact Or.inr rfl)) (ss_one (ss_set (i := 1) nd rfl (by first | exact Or.inl rfl | exact Or.inr rfl) (se_add hK (sp_v 1 (pv 1)) (SE.pk (se_call hK G_Lnumbers mon_Lnumbers hr (by rfl) (sa_cons (SE.fz (se_add hK (SE.pk (se_abs (by rfl) m_abs (SE.pk (se_call hK G_Lcell mon_Lcell hr (by rfl) (sa_cons (SE.fz (se_v 0 (pv 0))) (sa_cons (SE.fz (se_v 2 (pv 2))) sa_nil)))))) (SE.pk (se_mul (SE.pk se_int) (sp_v 2 (pv 2)))))) (sa_cons (SE.fz se_int) sa_nil))))))))
      (ss_one (ss_ret (se_lst (sa_cons (SE.fz (se_v 1 (pv 1))) (sa_cons (SE.fz se_int) sa_nil)))))))) hw_Lstate0

abbrev s_Lnext : Stmt := topS 48
theorem sc_Lnext : FnScope N_Lnext ["_law_state_here", "_law_many"] (defScope s_Lnext) := ⟨rfl, rfl, rfl, by decide +kernel, rfl, by decide +kernel, by decide +kernel⟩
theorem ok_Lnext {k : Nat} {f : Addr} {fd : FuncData} (F : Fun K "_law_next" "_law_next" s_Lnext f fd) (m_len : mg "len" = none) (m_int : mg "int" = none) : FnOk P w K mg base CX0 (k + 1) f fd ["_law_state_here", "_law_many"] (spD K sp_Lnext) := by
  refine F.ok sc_Lnext (fun vs H Q E h => ?_) (fun cdv A outer s H vs Q E hr h => ?_)
  · obtain ⟨ω, ds, tk, _, _, r, m, c, rfl, _⟩ := h
    rw [r.length]; rfl
  · obtain ⟨ω, ds, tk, sub, st, r, m, c, rfl, rfl, h0, h1, q⟩ := h
    obtain ⟨v0, vr, rfl, b1, b2⟩ := Reps.cons_iff.mp r
    obtain ⟨v1, vr, rfl, b3, b4⟩ := Reps.cons_iff.mp b2
    rw [Reps.nil_iff] at b4; subst b4
    rw [Rep.int_iff] at b3; subst b3
    obtain ⟨a, hg, rfl⟩ := Rep.st_iff.mp b1
    rcases st with ⟨z, _⟩ | ⟨a', k', e, e1, e0, n, ns, e2, hn, hl, hs⟩
    · rw [hg] at z; cases z
    rw [hg] at e; cases e
    cases e1
    refine ⟨_, pss_cons (ps_asg (pe_op op_add (pe_ix ix_list (pv 0) pe_int (fun _ _ => rfl)) pe_int) (pg_sub (pv 0) pe_int set_list))
      (pss_cons (ps_set (i := 2) sc_Lnext.nd rfl (.inl rfl) (pe_op op_add (pe_ix ix_list (pe_ix ix_list (pv 0) pe_int (fun _ _ => rfl)) (pe_op op_modN (pe_callTy call_int1 (by rfl) m_int (by decide +kernel) (pa_cons (pe_op op_mulA (pe_ix ix_list (pv 0) pe_int (fun _ _ => rfl)) pe_int) pa_nil)) (pe_callB call_len_seq (by rfl) m_len PySem.boot_len (pa_cons (pe_ix ix_list (pv 0) pe_int (fun _ _ => rfl)) pa_nil))) (fun _ _ => rfl))
        (pe_op op_mulA (pe_op op_mulA pe_int (pe_ix ix_list (pv 0) pe_int (fun _ _ => rfl))) (pe_op op_add pe_int (pe_op op_fdivN (pe_ix ix_list (pv 0) pe_int (fun _ _ => rfl)) (pe_callB call_len_seq (by rfl) m_len PySem.boot_len (pa_cons (pe_ix ix_list (pv 0) pe_int (fun _ _ => rfl)) pa_nil)))))))
      (pss_one (ps_ret (pe_op op_modN (pe_callTy call_int1 (by rfl) m_int (by decide +kernel) (pa_cons (pv 2) pa_nil)) (pv 1))))), ?_⟩
    have e3 : (upd H a (.lst [.ref n, .int ((c : Int) + 1)])) a = some (.lst [.ref n, .int ((c : Int) + 1)]) := upd_same
    have hn1 : SqL K (upd H a (.lst [.ref n, .int ((c : Int) + 1)])) n (ns.map V.int) := sqL_mono (fun b o h => by
      rw [upd_ne (fun z => by rw [z, e0] at h; cases h)]
      exact sub b o h) hn
    refine ⟨_, rfl, a, _, 1, .int c, rfl, rfl, .of e2, rfl, c, 1, rfl, rfl, _, rfl, a, _, 1, 1, rfl, rfl, e2, rfl, ?_⟩
    have hlen : ((ns.map V.int).length : Int) = 120 := by rw [List.length_map, hl]; rfl
    have hp : 0 ≤ (((c : Int) + 1) * 7).fmod 120 ∧ (((c : Int) + 1) * 7).fmod 120 < 120 := fmod_pos (by decide)
    obtain ⟨x, hx⟩ : ∃ x : Int, atI (ns.map V.int) ((((c : Int) + 1) * 7).fmod 120) = some (.int x) := by
      obtain ⟨j, e⟩ : ∃ j : Nat, (((c : Int) + 1) * 7).fmod 120 = (j : Int) := ⟨((((c : Int) + 1) * 7).fmod 120).toNat, by omega⟩
      have hi : j < ns.length := by omega
      rw [e]
      exact ⟨ns[j], atI_nat (by rw [List.getElem?_map, List.getElem?_eq_getElem hi]; rfl)⟩
    refine ⟨_, rfl, a, _, 0, .ref n, rfl, rfl, .of e3, rfl, _, rfl, a, _, 1, .int ((c : Int) + 1), rfl, rfl, .of e3, rfl, (c : Int) + 1, 7, rfl, rfl, mulOk_r (by decide), .inl ⟨_, rfl, ?_⟩⟩
    refine ⟨_, rfl, a, _, 0, .ref n, rfl, rfl, .of e3, rfl, n, _, rfl, .inl hn1, _, _, rfl, rfl, by rw [hlen]; exact (show (120 : Int) ≠ 0 by decide), ?_⟩
    refine ⟨n, _, _, .int x, rfl, rfl, hn1, by rw [hlen]; exact hx, _, rfl, a, _, 1, .int ((c : Int) + 1), rfl, rfl, .of e3, rfl, 13, (c : Int) + 1, rfl, rfl, mulOk_l (by decide), ?_⟩
    refine ⟨_, rfl, a, _, 1, .int ((c : Int) + 1), rfl, rfl, .of e3, rfl, _, rfl, a, _, 0, .ref n, rfl, rfl, .of e3, rfl, n, _, rfl, .inl hn1, (c : Int) + 1, _, rfl, rfl, ⟨by rw [hlen]; exact (show (120 : Int) ≠ 0 by decide), by rw [hlen]; exact (show (120 : Int).natAbs < 1073741824 by decide)⟩, 1, _, rfl, rfl, _, _, rfl, rfl, mulOk_l (by omega), _, _, rfl, rfl, ?_⟩
    refine ⟨_, rfl, .inl ⟨_, rfl, _, rfl, _, m, rfl, rfl, by omega, ?_⟩⟩
    exact q _ (fmod_pos h0).1 (fmod_pos h0).2 _ ω _ (ret_Lnext sub hg e0 e2 hn hl hs)

abbrev s_Lroot : Stmt := topS 50
theorem sc_Lroot : FnScope N_Lroot ["_law_n"] (defScope s_Lroot) := ⟨rfl, rfl, rfl, by decide +kernel, rfl, by decide +kernel, by decide +kernel⟩
theorem ok_Lroot {k : Nat} {f : Addr} {fd : FuncData} (F : Fun K "_law_root" "_law_root" s_Lroot f fd) (m_range : mg "range" = none) : FnOk P w K mg base CX0 (k + 1) f fd ["_law_n"] (spD K sp_Lroot) :=
  fn_ok F sc_Lroot len_Lroot (fun cdv A outer s H E c hK hr => by
    unfold c_Lroot
    have nd := sc_Lroot.nd
    exact (ss_cons (ss_set (i := 1) nd rfl (by first | exact Or.inl rfl | exact Or.inr rfl) se_int)
      (ss_cons (ss_set (i := 2) nd rfl (by first | exact Or.inl rfl | exact Or.inr rfl) (se_add hK (sp_v 0 (pv 0)) (SE.pk se_int)))
      (ss_cons (ss_for PassesOwn.never rfl (si_r1 (by rfl) m_range (SE.pk se_int)) (sg_n (i := 3) nd rfl (by first | exact Or.inl rfl | exact Or.inr rfl)) (ss_cons (ss_if (st_le (SE.pk (se_sub (sp_v 2 (pv 2)) (sp_v 1 (pv 1)))) (SE.pk se_int)) (ss_one (ss_retV 1 (pv 1))) ss_nil)
      (ss_cons (ss_set (i := 4) nd rfl (by first | exact Or.inl rfl | exact Or.inr rfl) (se_div (SE.pk (se_add hK (sp_v 1 (pv 1)) (sp_v 2 (pv 2)))) (SE.pk se_int)))
      (ss_one (ss_if (st_le (SE.pk (se_mul (sp_v 4 (pv 4)) (sp_v 4 (pv 4)))) (sp_v 0 (pv 0))) (ss_one (ss_set (i := 1) nd rfl (by first | exact Or.inl rfl | exact Or.inr rfl) (se_v 4 (pv 4)))) (ss_one (ss_set (i := 2) nd rfl (by first | exact Or.inl rfl | exact Or.inr rfl) (se_v 4 (pv 4)))))))))
      (ss_one (ss_retV 1 (pv 1))))))) hw_Lroot

abbrev s_Lmeasure_v1 : Stmt := topS 51
theorem sc_Lmeasure_v1 : FnScope N_Lmeasure_v1 ["_law_a", "_law_b"] (defScope s_Lmeasure_v1) := ⟨rfl, rfl, rfl, by decide +kernel, rfl, by decide +kernel, by decide +kernel⟩
theorem ok_Lmeasure_v1 {k : Nat} {f : Addr} {fd : FuncData} (F : Fun K "_law_measure" "_law_measure" s_Lmeasure_v1 f fd) (m_abs : mg "abs" = none) (m_range : mg "range" = none) : FnOk P w K mg base CX0 (k + 1) f fd ["_law_a", "_law_b"] (spD K sp_Lmeasure_v1) :=
  fn_ok F sc_Lmeasure_v1 len_Lmeasure_v1 (fun cdv A outer s H E c hK hr => by
    unfold c_Lmeasure_v1
    have nd := sc_Lmeasure_v1.nd
    exact (ss_cons (ss_set (i := 0) nd rfl (by first | exact Or.inl rfl | exact Or.inr rfl) (se_abs (by rfl) m_abs (sp_v 0 (pv 0))))
      (ss_cons (ss_set (i := 1) nd rfl (by first | exact Or.inl rfl | exact Or.inr rfl) (se_abs (by rfl) m_abs (sp_v 1 (pv 1))))
      (ss_cons (ss_for PassesOwn.never rfl (si_r1 (by rfl) m_range (SE.pk se_int)) (sg_n (i := 2) nd rfl (by first | exact Or.inl rfl | exact Or.inr rfl)) (ss_cons (ss_if (st_eq hK (hu_room hr) (sp_v 1 (pv 1)) (SE.pk se_int)) (ss_one (ss_retV 0 (pv 0))) ss_nil)
      (ss_one (ss_par (i := 0) (j := 1) rfl nd rfl rfl (by decide) rfl rfl (sa_cons (SE.fz (se_v 1 (pv 1))) (sa_cons (SE.fz (se_mod (sp_v 0 (pv 0)) (sp_v 1 (pv 1)))) sa_nil))))))
      (ss_one (ss_retV 0 (pv 0))))))) hw_Lmeasure_v1

abbrev s_Lmul : Stmt := topS 52
theorem sc_Lmul : FnScope N_Lmul ["_law_m", "_law_n"] (defScope s_Lmul) := ⟨rfl, rfl, rfl, by decide +kernel, rfl, by decide +kernel, by decide +kernel⟩
theorem ok_Lmul {k : Nat} {f : Addr} {fd : FuncData} (F : Fun K "_law_mul" "_law_mul" s_Lmul f fd) (m_tuple : mg "tuple" = none) : FnOk P w K mg base CX0 (k + 1) f fd ["_law_m", "_law_n"] (spD K sp_Lmul) :=
  fn_ok F sc_Lmul len_Lmul (fun cdv A outer s H E c hK hr => by
    unfold c_Lmul
    have nd := sc_Lmul.nd
    exact (ss_cons (ss_set (i := 2) nd rfl (by first | exact Or.inl rfl | exact Or.inr rfl) (se_lst (sa_cons (SE.fz (se_add hK (SE.pk (se_mul (SE.pk (se_ix hK (sp_v 0 (pv 0)) (SE.pk se_int) (fun _ _ => rfl))) (SE.pk (se_ix hK (sp_v 1 (pv 1)) (SE.pk se_int) (fun _ _ => rfl))))) (SE.pk (se_mul (SE.pk (se_ix hK (sp_v 0 (pv 0)) (SE.pk se_int) (fun _ _ => rfl))) (SE.pk (se_ix hK (sp_v 1 (pv 1)) (SE.pk se_int) (fun _ _ => rfl))))))) (sa_cons (SE.fz (se_add hK (SE.pk (se_mul (SE.pk (se_ix hK (sp_v 0 (pv 0)) (SE.pk se_int) (fun _ _ => rfl))) (SE.pk (se_ix hK (sp_v 1 (pv 1)) (SE.pk se_int) (fun _ _ => rfl))))) (SE.pk (se_mul (SE.pk (se_ix hK (sp_v 0 (pv 0)) (SE.pk se_int) (fun _ _ => rfl))) (SE.pk (se_ix hK (sp_v 1 (pv 1)) (SE.pk se_int) (fun _ _ => rfl))))))) sa_nil))))
      (ss_one (ss_ret (se_tuple hK (by rfl) m_tuple (SE.pk (se_add hK (sp_v 2 (pv 2)) (SE.pk (se_lst (sa_cons (SE.fz (se_add hK (SE.pk (se_mul (SE.pk (se_ix hK (sp_v 0 (pv 0)) (SE.pk se_int) (fun _ _ => rfl))) (SE.pk (se_ix hK (sp_v 1 (pv 1)) (SE.pk se_int) (fun _ _ => rfl))))) (SE.pk (se_mul (SE.pk (se_ix hK (sp_v 0 (pv 0)) (SE.pk se_int) (fun _ _ => rfl))) (SE.pk (se_ix hK (sp_v 1 (pv 1)) (SE.pk se_int) (fun _ _ => rfl))))))) (sa_cons (SE.fz (se_add hK (SE.pk (se_mul (SE.pk (se_ix hK (sp_v 0 (pv 0)) (SE.pk se_int) (fun _ _ => rfl))) (SE.pk (se_ix hK (sp_v 1 (pv 1)) (SE.pk se_int) (fun _ _ => rfl))))) (SE.pk (se_mul (SE.pk (se_ix hK (sp_v 0 (pv 0)) (SE.pk se_int) (fun _ _ => rfl))) (SE.pk (se_ix hK (sp_v 1 (pv 1)) (SE.pk se_int) (fun _ _ => rfl))))))) sa_nil))))))))))) hw_Lmul

abbrev s_Lworth_v1 : Stmt := topS 54
theorem sc_Lworth_v1 : FnScope N_Lworth_v1 ["_law_form_here", "_law_x", "_law_y"] (defScope s_Lworth_v1) := ⟨rfl, rfl, rfl, by decide +kernel, rfl, by decide +kernel, by decide +kernel⟩
theorem ok_Lworth_v1 {k : Nat} {f : Addr} {fd : FuncData} (F : Fun K "_law_worth" "_law_worth" s_Lworth_v1 f fd) : FnOk P w K mg base CX0 (k + 1) f fd ["_law_form_here", "_law_x", "_law_y"] (spD K sp_Lworth_v1) :=
  fn_ok F sc_Lworth_v1 len_Lworth_v1 (fun cdv A outer s H E c hK hr => by
    unfold c_Lworth_v1
    have nd := sc_Lworth_v1.nd
    exact (ss_one (ss_ret (se_add hK (SE.pk (se_add hK (SE.pk (se_mul (SE.pk (se_mul (SE.pk (se_ix hK (sp_v 0 (pv 0)) (SE.pk se_int) (fun _ _ => rfl))) (sp_v 1 (pv 1)))) (sp_v 1 (pv 1)))) (SE.pk (se_mul (SE.pk (se_mul (SE.pk (se_ix hK (sp_v 0 (pv 0)) (SE.pk se_int) (fun _ _ => rfl))) (sp_v 1 (pv 1)))) (sp_v 2 (pv 2)))))) (SE.pk (se_mul (SE.pk (se_mul (SE.pk (se_ix hK (sp_v 0 (pv 0)) (SE.pk se_int) (fun _ _ => rfl))) (sp_v 2 (pv 2)))) (sp_v 2 (pv 2)))))))) hw_Lworth_v1

abbrev s_Lact_v1 : Stmt := topS 55
theorem sc_Lact_v1 : FnScope N_Lact_v1 ["_law_form_here", "_law_m"] (defScope s_Lact_v1) := ⟨rfl, rfl, rfl, by decide +kernel, rfl, by decide +kernel, by decide +kernel⟩
theorem ok_Lact_v1 {k : Nat} {f : Addr} {fd : FuncData} (F : Fun K "_law_act" "_law_act" s_Lact_v1 f fd) (G_Lworth : FnIn P w K mg base k "_law_worth" sp_Lworth_v1) : FnOk P w K mg base CX0 (k + 1) f fd ["_law_form_here", "_law_m"] (spD K sp_Lact_v1) :=
  fn_ok F sc_Lact_v1 len_Lact_v1 (fun cdv A outer s H E c hK hr => by
    unfold c_Lact_v1
    have nd := sc_Lact_v1.nd
    exact (ss_cons (ss_set (i := 2) nd rfl (by first | exact Or.inl rfl | exact Or.inr rfl) (se_call hK G_Lworth mon_Lworth_v1 hr (by rfl) (sa_cons (SE.fz (se_v 0 (pv 0))) (sa_cons (SE.fz (se_ix hK (sp_v 1 (pv 1)) (SE.pk se_int) (fun _ _ => rfl))) (sa_cons (SE.fz (se_ix hK (sp_v 1 (pv 1)) (SE.pk se_int) (fun _ _ => rfl))) sa_nil)))))
      (ss_cons (ss_set (i := 3) nd rfl (by first | exact Or.inl rfl | exact Or.inr rfl) (se_call hK G_Lworth mon_Lworth_v1 hr (by rfl) (sa_cons (SE.fz (se_v 0 (pv 0))) (sa_cons (SE.fz (se_ix hK (sp_v 1 (pv 1)) (SE.pk se_int) (fun _ _ => rfl))) (sa_cons (SE.fz (se_ix hK (sp_v 1 (pv 1)) (SE.pk se_int) (fun _ _ => rfl))) sa_nil)))))
      (ss_one (ss_ret (se_tup (sa_cons (SE.fz (se_v 2 (pv 2))) (sa_cons (SE.fz (se_sub (SE.pk (se_sub (SE.pk (se_call hK G_Lworth mon_Lworth_v1 hr (by rfl) (sa_cons (SE.fz (se_v 0 (pv 0))) (sa_cons (SE.fz (se_add hK (SE.pk (se_ix hK (sp_v 1 (pv 1)) (SE.pk se_int) (fun _ _ => rfl))) (SE.pk (se_ix hK (sp_v 1 (pv 1)) (SE.pk se_int) (fun _ _ => rfl))))) (sa_cons (SE.fz (se_add hK (SE.pk (se_ix hK (sp_v 1 (pv 1)) (SE.pk se_int) (fun _ _ => rfl))) (SE.pk (se_ix hK (sp_v 1 (pv 1)) (SE.pk se_int) (fun _ _ => rfl))))) sa_nil))))) (sp_v 2 (pv 2)))) (sp_v 3 (pv 3)))) (sa_cons (SE.fz (se_v 3 (pv 3))) sa_nil))))))))) hw_Lact_v1

abbrev s_Lchange : Stmt := topS 56
theorem sc_Lchange : FnScope N_Lchange ["_law_state_here", "_law_many"] (defScope s_Lchange) := ⟨rfl, rfl, rfl, by decide +kernel, rfl, by decide +kernel, by decide +kernel⟩
theorem ok_Lchange {k : Nat} {f : Addr} {fd : FuncData} (F : Fun K "_law_change" "_law_change" s_Lchange f fd) (m_range : mg "range" = none) (G_Lnext : FnIn P w K mg base k "_law_next" sp_Lnext) (G_Lmul : FnIn P w K mg base k "_law_mul" sp_Lmul) : FnOk P w K mg base CX0 (k + 1) f fd ["_law_state_here", "_law_many"] (spD K sp_Lchange) :=
  fn_ok F sc_Lchange len_Lchange (fun cdv A outer s H E c hK hr => by
    unfold c_Lchange
    have nd := sc_Lchange.nd
    exact (ss_cons (ss_set (i := 2) nd rfl (by first | exact Or.inl rfl | exact Or.inr rfl) (se_tup (sa_cons (SE.fz se_int) (sa_cons (SE.fz se_int) (sa_cons (SE.fz se_int) (sa_cons (SE.fz se_int) sa_nil))))))
      (ss_cons (ss_for PassesOwn.never rfl (si_r1 (by rfl) m_range (SE.pk (se_call hK G_Lnext mon_Lnext hr (by rfl) (sa_cons (SE.fz (se_v 0 (pv 0))) (sa_cons (SE.fz (se_add hK (sp_v 1 (pv 1)) (SE.pk se_int))) sa_nil))))) (sg_n (i := 3) nd rfl (by first | exact Or.inl rfl | exact Or.inr rfl)) (ss_cons (ss_set (i := 4) nd rfl (by first | exact Or.inl rfl | exact Or.inr rfl) (se_sub (SE.pk (se_call hK G_Lnext mon_Lnext hr (by rfl) (sa_cons (SE.fz (se_v 0 (pv 0))) (sa_cons (SE.fz se_int) sa_nil)))) (SE.pk se_int)))
      (ss_one (ss_set (i := 2) nd rfl (by first | exact Or.inl rfl | exact Or.inr rfl) (se_call hK G_Lmul mon_Lmul hr (by rfl) (sa_cons (SE.fz (se_v 2 (pv 2))) (sa_cons (SE.fz (se_ix hK (SE.pk (se_lst (sa_cons (SE.fz (se_tup (sa_cons (SE.fz se_int) (sa_cons (SE.fz (se_v 4 (pv 4))) (sa_cons (SE.fz se_int) (sa_cons (SE.fz se_int) sa_nil)))))) (sa_cons (SE.fz (se_tup (sa_cons (SE.fz se_int) (sa_cons (SE.fz se_int) (sa_cons (SE.fz (se_v 4 (pv 4))) (sa_cons (SE.fz se_int) sa_nil)))))) (sa_cons (SE.fz (se_tup (sa_cons (SE.fz se_int) (sa_cons (SE.fz (se_neg (SE.pk se_int))) (sa_cons (SE.fz se_int) (sa_cons (SE.fz se_int) sa_nil)))))) sa_nil))))) (SE.pk (se_call hK G_Lnext mon_Lnext hr (by rfl) (sa_cons (SE.fz (se_v 0 (pv 0))) (sa_cons (SE.fz se_int) sa_nil)))) (fun _ _ => rfl))) sa_nil)))))))
      (ss_one (ss_retV 2 (pv 2)))))) hw_Lchange

abbrev s_Lsquare : Stmt := topS 57
theorem sc_Lsquare : FnScope N_Lsquare ["_law_n"] (defScope s_Lsquare) := ⟨rfl, rfl, rfl, by decide +kernel, rfl, by decide +kernel, by decide +kernel⟩
theorem ok_Lsquare {k : Nat} {f : Addr} {fd : FuncData} (F : Fun K "_law_square" "_law_square" s_Lsquare f fd) (G_Lroot : FnIn P w K mg base k "_law_root" sp_Lroot) : FnOk P w K mg base CX0 (k + 1) f fd ["_law_n"] (spD K sp_Lsquare) :=
  fn_ok F sc_Lsquare len_Lsquare (fun cdv A outer s H E c hK hr => by
    unfold c_Lsquare
    have nd := sc_Lsquare.nd
    exact (ss_one (ss_ret (se_sv (sv_and (se_ge (sp_v 0 (pv 0)) (SE.pk se_int)) (sv_one (se_eq hK (hu_room hr) (SE.pk (se_mul (SE.pk (se_call hK G_Lroot mon_Lroot hr (by rfl) (sa_cons (SE.fz (se_v 0 (pv 0))) sa_nil))) (SE.pk (se_call hK G_Lroot mon_Lroot hr (by rfl) (sa_cons (SE.fz (se_v 0 (pv 0))) sa_nil))))) (sp_v 0 (pv 0))))))))) hw_Lsquare

abbrev s_Lkind : Stmt := topS 58
theorem sc_Lkind : FnScope N_Lkind ["_law_form_here"] (defScope s_Lkind) := ⟨rfl, rfl, rfl, by decide +kernel, rfl, by decide +kernel, by decide +kernel⟩
theorem ok_Lkind {k : Nat} {f : Addr} {fd : FuncData} (F : Fun K "_law_kind" "_law_kind" s_Lkind f fd) (m_int : mg "int" = none) (G_Lsquare : FnIn P w K mg base k "_law_square" sp_Lsquare) : FnOk P w K mg base CX0 (k + 1) f fd ["_law_form_here"] (spD K sp_Lkind) :=
  fn_ok F sc_Lkind len_Lkind (fun cdv A outer s H E c hK hr => by
    unfold c_Lkind
    have nd := sc_Lkind.nd
    exact (ss_cons (ss_set (i := 1) nd rfl (by first | exact Or.inl rfl | exact Or.inr rfl) (se_sub (SE.pk (se_mul (SE.pk (se_ix hK (sp_v 0 (pv 0)) (SE.pk se_int) (fun _ _ => rfl))) (SE.pk (se_ix hK (sp_v 0 (pv 0)) (SE.pk se_int) (fun _ _ => rfl))))) (SE.pk (se_mul (SE.pk (se_mul (SE.pk se_int) (SE.pk (se_ix hK (sp_v 0 (pv 0)) (SE.pk se_int) (fun _ _ => rfl))))) (SE.pk (se_ix hK (sp_v 0 (pv 0)) (SE.pk se_int) (fun _ _ => rfl)))))))
      (ss_cons (ss_if (st_lt (sp_v 1 (pv 1)) (SE.pk se_int)) (ss_one (ss_ret se_str)) ss_nil)
      (ss_cons (ss_if (st_eq hK (hu_room hr) (sp_v 1 (pv 1)) (SE.pk se_int)) (ss_one (ss_ret se_str)) ss_nil)
      (ss_one (ss_ret (se_ix hK (SE.pk (se_lst (sa_cons (SE.fz se_str) (sa_cons (SE.fz se_str) sa_nil)))) (SE.pk (se_toInt (by rfl) m_int (SE.pk (se_call hK G_Lsquare mon_Lsquare hr (by rfl) (sa_cons (SE.fz (se_v 1 (pv 1))) sa_nil))))) (fun _ _ => rfl)))))))) hw_Lkind

abbrev s_Lis_reduced : Stmt := topS 62
theorem sc_Lis_reduced : FnScope N_Lis_reduced ["_law_form_here"] (defScope s_Lis_reduced) := ⟨rfl, rfl, rfl, by decide +kernel, rfl, by decide +kernel, by decide +kernel⟩
theorem ok_Lis_reduced {k : Nat} {f : Addr} {fd : FuncData} (F : Fun K "_law_is_reduced" "_law_is_reduced" s_Lis_reduced f fd) (m_abs : mg "abs" = none) : FnOk P w K mg base CX0 (k + 1) f fd ["_law_form_here"] (spD K sp_Lis_reduced) :=
  fn_ok F sc_Lis_reduced len_Lis_reduced (fun cdv A outer s H E c hK hr => by
    unfold c_Lis_reduced
    have nd := sc_Lis_reduced.nd
    exact (ss_cons (ss_asg (SE.fz (se_sl hK (sp_v 0 (pv 0)) so_none (so_some (SE.pk se_int)))) (sg_tup hK rfl (sg_cons (sg_n (i := 1) nd rfl (by first | exact Or.inl rfl | exact Or.inr rfl)) (sg_cons (sg_n (i := 2) nd rfl (by first | exact Or.inl rfl | exact Or.inr rfl)) sg_nil))))
      (ss_cons (ss_set (i := 3) nd rfl (by first | exact Or.inl rfl | exact Or.inr rfl) (se_sub (SE.pk (se_mul (SE.pk (se_ix hK (sp_v 0 (pv 0)) (SE.pk se_int) (fun _ _ => rfl))) (SE.pk (se_ix hK (sp_v 0 (pv 0)) (SE.pk se_int) (fun _ _ => rfl))))) (SE.pk (se_mul (SE.pk (se_mul (SE.pk se_int) (SE.pk (se_ix hK (sp_v 0 (pv 0)) (SE.pk se_int) (fun _ _ => rfl))))) (SE.pk (se_ix hK (sp_v 0 (pv 0)) (SE.pk se_int) (fun _ _ => rfl)))))))
      (ss_cons (ss_if (st_w (sw_or (st_le (sp_v 2 (pv 2)) (SE.pk se_int)) (sw_or1 (st_ge (SE.pk (se_mul (sp_v 2 (pv 2)) (sp_v 2 (pv 2)))) (sp_v 3 (pv 3)))))) (ss_one (ss_ret se_bl)) ss_nil)
      (ss_cons (ss_set (i := 4) nd rfl (by first | exact Or.inl rfl | exact Or.inr rfl) (se_add hK (SE.pk (se_mul (SE.pk se_int) (SE.pk (se_abs (by rfl) m_abs (sp_v 1 (pv 1)))))) (sp_v 2 (pv 2))))
      (ss_cons (ss_set (i := 5) nd rfl (by first | exact Or.inl rfl | exact Or.inr rfl) (se_sub (SE.pk (se_mul (SE.pk se_int) (SE.pk (se_abs (by rfl) m_abs (sp_v 1 (pv 1)))))) (sp_v 2 (pv 2))))
      (ss_one (ss_ret (se_sv (sv_and (se_gt (SE.pk (se_mul (sp_v 4 (pv 4)) (sp_v 4 (pv 4)))) (sp_v 3 (pv 3))) (sv_one (se_sv (sv_or (se_lt (sp_v 5 (pv 5)) (SE.pk se_int)) (sv_one (se_lt (SE.pk (se_mul (sp_v 5 (pv 5)) (sp_v 5 (pv 5)))) (sp_v 3 (pv 3))))))))))))))))) hw_Lis_reduced

abbrev s_Lneighbour : Stmt := topS 63
theorem sc_Lneighbour : FnScope N_Lneighbour ["_law_form_here"] (defScope s_Lneighbour) := ⟨rfl, rfl, rfl, by decide +kernel, rfl, by decide +kernel, by decide +kernel⟩
theorem ok_Lneighbour {k : Nat} {f : Addr} {fd : FuncData} (F : Fun K "_law_neighbour" "_law_neighbour" s_Lneighbour f fd) (m_abs : mg "abs" = none) (G_Lroot : FnIn P w K mg base k "_law_root" sp_Lroot) : FnOk P w K mg base CX0 (k + 1) f fd ["_law_form_here"] (spD K sp_Lneighbour) :=
  fn_ok F sc_Lneighbour len_Lneighbour (fun cdv A outer s H E c hK hr => by
    unfold c_Lneighbour
    have nd := sc_Lneighbour.nd
    exact (ss_cons (ss_asg (SE.fz (se_v 0 (pv 0))) (sg_tup hK rfl (sg_cons (sg_n (i := 1) nd rfl (by first | exact Or.inl rfl | exact Or.inr rfl)) (sg_cons (sg_n (i := 2) nd rfl (by first | exact Or.inl rfl | exact Or.inr rfl)) (sg_cons (sg_n (i := 3) nd rfl (by first | exact Or.inl rfl | exact Or.inr rfl)) sg_nil)))))
      (ss_cons (ss_set (i := 4) nd rfl (by first | exact Or.inl rfl | exact Or.inr rfl) (se_sub (SE.pk (se_mul (sp_v 2 (pv 2)) (sp_v 2 (pv 2)))) (SE.pk (se_mul (SE.pk (se_mul (SE.pk se_int) (sp_v 1 (pv 1)))) (sp_v 3 (pv 3))))))
      (ss_cons (ss_set (i := 5) nd rfl (by first | exact Or.inl rfl | exact Or.inr rfl) (se_call hK G_Lroot mon_Lroot hr (by rfl) (sa_cons (SE.fz (se_v 4 (pv 4))) sa_nil)))
      (ss_cons (ss_set (i := 6) nd rfl (by first | exact Or.inl rfl | exact Or.inr rfl) (se_sub (sp_v 5 (pv 5)) (SE.pk (se_mod (SE.pk (se_add hK (sp_v 5 (pv 5)) (sp_v 2 (pv 2)))) (SE.pk (se_mul (SE.pk se_int) (SE.pk (se_abs (by rfl) m_abs (sp_v 3 (pv 3))))))))))
      (ss_one (ss_ret (se_tup (sa_cons (SE.fz (se_v 3 (pv 3))) (sa_cons (SE.fz (se_v 6 (pv 6))) (sa_cons (SE.fz (se_div (SE.pk (se_sub (SE.pk (se_mul (sp_v 6 (pv 6)) (sp_v 6 (pv 6)))) (sp_v 4 (pv 4)))) (SE.pk (se_mul (SE.pk se_int) (sp_v 3 (pv 3)))))) sa_nil))))))))))) hw_Lneighbour

abbrev s_Lring : Stmt := topS 64
theorem sc_Lring : FnScope N_Lring ["_law_form_here"] (defScope s_Lring) := ⟨rfl, rfl, rfl, by decide +kernel, rfl, by decide +kernel, by decide +kernel⟩
theorem ok_Lring {k : Nat} {f : Addr} {fd : FuncData} (F : Fun K "_law_ring" "_law_ring" s_Lring f fd) (m_range : mg "range" = none) (m_len : mg "len" = none) (G_Lneighbour : FnIn P w K mg base k "_law_neighbour" sp_Lneighbour) : FnOk P w K mg base CX0 (k + 1) f fd ["_law_form_here"] (spD K sp_Lring) :=
  fn_ok F sc_Lring len_Lring (fun cdv A outer s H E c hK hr => by
    unfold c_Lring
    have nd := sc_Lring.nd
    exact (ss_cons (ss_set (i := 1) nd rfl (by first | exact Or.inl rfl | exact Or.inr rfl) (se_lst (sa_cons (SE.fz (se_v 0 (pv 0))) sa_nil)))
      (ss_cons (ss_for PassesOwn.never rfl (si_r1 (by rfl) m_range (SE.pk se_int)) (sg_n (i := 2) nd rfl (by first | exact Or.inl rfl | exact Or.inr rfl)) (ss_cons (ss_set (i := 3) nd rfl (by first | exact Or.inl rfl | exact Or.inr rfl) (se_call hK G_Lneighbour mon_Lneighbour hr (by rfl) (sa_cons (SE.fz (se_ix hK (sp_v 1 (pv 1)) (SE.pk (se_sub (SE.pk (se_len hK (by rfl) m_len (sp_v 1 (pv 1)))) (SE.pk se_int))) (fun _ _ => rfl))) sa_nil)))
      (ss_cons (ss_if (st_eq hK (hu_room hr) (sp_v 3 (pv 3)) (sp_v 0 (pv 0))) (ss_one (ss_retV 1 (pv 1))) ss_nil)
      (ss_one (ss_app 1 (pv 1) (SE.fz (se_v 3 (pv 3))))))))
      (ss_one (ss_retV 1 (pv 1)))))) hw_Lring

abbrev s_Lpositive : Stmt := topS 65
theorem sc_Lpositive : FnScope N_Lpositive ["_law_form_here"] (defScope s_Lpositive) := ⟨rfl, rfl, rfl, by decide +kernel, rfl, by decide +kernel, by decide +kernel⟩
theorem ok_Lpositive {k : Nat} {f : Addr} {fd : FuncData} (F : Fun K "_law_positive" "_law_positive" s_Lpositive f fd) (m_range : mg "range" = none) : FnOk P w K mg base CX0 (k + 1) f fd ["_law_form_here"] (spD K sp_Lpositive) :=
  fn_ok F sc_Lpositive len_Lpositive (fun cdv A outer s H E c hK hr => by
    unfold c_Lpositive
    have nd := sc_Lpositive.nd
    exact (ss_cons (ss_asg (SE.fz (se_v 0 (pv 0))) (sg_any hK rfl (sg_cons (sg_n (i := 1) nd rfl (by first | exact Or.inl rfl | exact Or.inr rfl)) (sg_cons (sg_n (i := 2) nd rfl (by first | exact Or.inl rfl | exact Or.inr rfl)) (sg_cons (sg_n (i := 3) nd rfl (by first | exact Or.inl rfl | exact Or.inr rfl)) sg_nil)))))
      (ss_cons (ss_for PassesOwn.never rfl (si_r1 (by rfl) m_range (SE.pk se_int)) (sg_n (i := 4) nd rfl (by first | exact Or.inl rfl | exact Or.inr rfl)) (ss_cons (ss_set (i := 5) nd rfl (by first | exact Or.inl rfl | exact Or.inr rfl) (se_div (SE.pk (se_sub (SE.pk (se_add hK (sp_v 2 (pv 2)) (sp_v 1 (pv 1)))) (SE.pk se_int))) (SE.pk (se_mul (SE.pk se_int) (sp_v 1 (pv 1))))))
      (ss_cons (ss_par (i := 2) (j := 3) rfl nd rfl rfl (by decide) rfl rfl (sa_cons (SE.fz (se_sub (sp_v 2 (pv 2)) (SE.pk (se_mul (SE.pk (se_mul (SE.pk se_int) (sp_v 1 (pv 1)))) (sp_v 5 (pv 5)))))) (sa_cons (SE.fz (se_add hK (SE.pk (se_sub (sp_v 3 (pv 3)) (SE.pk (se_mul (sp_v 2 (pv 2)) (sp_v 5 (pv 5)))))) (SE.pk (se_mul (SE.pk (se_mul (sp_v 1 (pv 1)) (sp_v 5 (pv 5)))) (sp_v 5 (pv 5)))))) sa_nil)))
      (ss_cons (ss_if (st_w (sw_or (st_lt (sp_v 1 (pv 1)) (sp_v 3 (pv 3))) (sw_or1 (st_w (sw_and (st_eq hK (hu_room hr) (sp_v 1 (pv 1)) (sp_v 3 (pv 3))) (sw_and1 (st_ge (sp_v 2 (pv 2)) (SE.pk se_int)))))))) (ss_one (ss_ret (se_tup (sa_cons (SE.fz (se_v 1 (pv 1))) (sa_cons (SE.fz (se_v 2 (pv 2))) (sa_cons (SE.fz (se_v 3 (pv 3))) sa_nil)))))) ss_nil)
      (ss_one (ss_par3 (i := 1) (j := 2) (l := 3) rfl nd rfl rfl rfl (by decide) (by decide) (by decide) rfl rfl rfl (sa_cons (SE.fz (se_v 3 (pv 3))) (sa_cons (SE.fz (se_neg (sp_v 2 (pv 2)))) (sa_cons (SE.fz (se_v 1 (pv 1))) sa_nil)))))))))
      (ss_one (ss_ret (se_tup (sa_cons (SE.fz (se_v 1 (pv 1))) (sa_cons (SE.fz (se_v 2 (pv 2))) (sa_cons (SE.fz (se_v 3 (pv 3))) sa_nil))))))))) hw_Lpositive

abbrev s_Llowered : Stmt := topS 66
theorem sc_Llowered : FnScope N_Llowered ["_law_form_here"] (defScope s_Llowered) := ⟨rfl, rfl, rfl, by decide +kernel, rfl, by decide +kernel, by decide +kernel⟩
theorem ok_Llowered {k : Nat} {f : Addr} {fd : FuncData} (F : Fun K "_law_lowered" "_law_lowered" s_Llowered f fd) (m_range : mg "range" = none) (m_abs : mg "abs" = none) (m_int : mg "int" = none) (G_Lroot : FnIn P w K mg base k "_law_root" sp_Lroot) (G_Lis_reduced : FnIn P w K mg base k "_law_is_reduced" sp_Lis_reduced) : FnOk P w K mg base CX0 (k + 1) f fd ["_law_form_here"] (spD K sp_Llowered) :=
  fn_ok F sc_Llowered len_Llowered (fun cdv A outer s H E c hK hr => by
    unfold c_Llowered
    have nd := sc_Llowered.nd
    exact (ss_cons (ss_asg (SE.fz (se_v 0 (pv 0))) (sg_tup hK rfl (sg_cons (sg_n (i := 1) nd rfl (by first | exact Or.inl rfl | exact Or.inr rfl)) (sg_cons (sg_n (i := 2) nd rfl (by first | exact Or.inl rfl | exact Or.inr rfl)) (sg_cons (sg_n (i := 3) nd rfl (by first | exact Or.inl rfl | exact Or.inr rfl)) sg_nil)))))
      (ss_cons (ss_set (i := 4) nd rfl (by first | exact Or.inl rfl | exact Or.inr rfl) (se_sub (SE.pk (se_mul (sp_v 2 (pv 2)) (sp_v 2 (pv 2)))) (SE.pk (se_mul (SE.pk (se_mul (SE.pk se_int) (sp_v 1 (pv 1)))) (sp_v 3 (pv 3))))))
      (ss_cons (ss_set (i := 5) nd rfl (by first | exact Or.inl rfl | exact Or.inr rfl) (se_call hK G_Lroot mon_Lroot hr (by rfl) (sa_cons (SE.fz (se_v 4 (pv 4))) sa_nil)))
      (ss_cons (ss_for PassesOwn.never rfl (si_r1 (by rfl) m_range (SE.pk se_int)) (sg_n (i := 6) nd rfl (by first | exact Or.inl rfl | exact Or.inr rfl)) (ss_cons (ss_if (st_v (se_call hK G_Lis_reduced mon_Lis_reduced hr (by rfl) (sa_cons (SE.fz (se_tup (sa_cons (SE.fz (se_v 1 (pv 1))) (sa_cons (SE.fz (se_v 2 (pv 2))) (sa_cons (SE.fz (se_v 3 (pv 3))) sa_nil))))) sa_nil))) (ss_one (ss_ret (se_tup (sa_cons (SE.fz (se_v 1 (pv 1))) (sa_cons (SE.fz (se_v 2 (pv 2))) (sa_cons (SE.fz (se_v 3 (pv 3))) sa_nil)))))) ss_nil)
      (ss_cons (ss_set (i := 7) nd rfl (by first | exact Or.inl rfl | exact Or.inr rfl) (se_ix hK (SE.pk (se_lst (sa_cons (SE.fz (se_v 5 (pv 5))) (sa_cons (SE.fz (se_abs (by rfl) m_abs (sp_v 3 (pv 3)))) sa_nil)))) (SE.pk (se_toInt (by rfl) m_int (SE.pk (se_gt (SE.pk (se_abs (by rfl) m_abs (sp_v 3 (pv 3)))) (sp_v 5 (pv 5)))))) (fun _ _ => rfl)))
      (ss_cons (ss_set (i := 8) nd rfl (by first | exact Or.inl rfl | exact Or.inr rfl) (se_sub (sp_v 7 (pv 7)) (SE.pk (se_mod (SE.pk (se_add hK (sp_v 7 (pv 7)) (sp_v 2 (pv 2)))) (SE.pk (se_mul (SE.pk se_int) (SE.pk (se_abs (by rfl) m_abs (sp_v 3 (pv 3))))))))))
      (ss_one (ss_par3 (i := 1) (j := 2) (l := 3) rfl nd rfl rfl rfl (by decide) (by decide) (by decide) rfl rfl rfl (sa_cons (SE.fz (se_v 3 (pv 3))) (sa_cons (SE.fz (se_v 8 (pv 8))) (sa_cons (SE.fz (se_div (SE.pk (se_sub (SE.pk (se_mul (sp_v 8 (pv 8)) (sp_v 8 (pv 8)))) (sp_v 4 (pv 4)))) (SE.pk (se_mul (SE.pk se_int) (sp_v 3 (pv 3)))))) sa_nil)))))))))
      (ss_one (ss_ret (se_tup (sa_cons (SE.fz (se_v 1 (pv 1))) (sa_cons (SE.fz (se_v 2 (pv 2))) (sa_cons (SE.fz (se_v 3 (pv 3))) sa_nil))))))))))) hw_Llowered

abbrev s_Lcanonical_v1 : Stmt := topS 67
theorem sc_Lcanonical_v1 : FnScope N_Lcanonical_v1 ["_law_form_here"] (defScope s_Lcanonical_v1) := ⟨rfl, rfl, rfl, by decide +kernel, rfl, by decide +kernel, by decide +kernel⟩
theorem ok_Lcanonical_v1 {k : Nat} {f : Addr} {fd : FuncData} (F : Fun K "_law_canonical" "_law_canonical" s_Lcanonical_v1 f fd) (m_tuple : mg "tuple" = none) (m_min : mg "min" = none) (G_Lkind : FnIn P w K mg base k "_law_kind" sp_Lkind) (G_Lpositive : FnIn P w K mg base k "_law_positive" sp_Lpositive) (G_Lring : FnIn P w K mg base k "_law_ring" sp_Lring) (G_Llowered : FnIn P w K mg base k "_law_lowered" sp_Llowered) : FnOk P w K mg base CX0 (k + 1) f fd ["_law_form_here"] (spD K sp_Lcanonical_v1) :=
  fn_ok F sc_Lcanonical_v1 len_Lcanonical_v1 (fun cdv A outer s H E c hK hr => by
    unfold c_Lcanonical_v1
    have nd := sc_Lcanonical_v1.nd
    exact (ss_cons (ss_set (i := 1) nd rfl (by first | exact Or.inl rfl | exact Or.inr rfl) (se_call hK G_Lkind mon_Lkind hr (by rfl) (sa_cons (SE.fz (se_v 0 (pv 0))) sa_nil)))
      (ss_cons (ss_if (st_w (sw_and (st_eq hK (hu_room hr) (sp_v 1 (pv 1)) (SE.pk se_str)) (sw_and1 (st_gt (SE.pk (se_ix hK (sp_v 0 (pv 0)) (SE.pk se_int) (fun _ _ => rfl))) (SE.pk se_int))))) (ss_one (ss_ret (se_call hK G_Lpositive mon_Lpositive hr (by rfl) (sa_cons (SE.fz (se_v 0 (pv 0))) sa_nil)))) ss_nil)
      (ss_cons (ss_if (st_eq hK (hu_room hr) (sp_v 1 (pv 1)) (SE.pk se_str)) (ss_one (ss_ret (se_tuple hK (by rfl) m_tuple (SE.pk (se_lc s rfl nd (si_seq hK (SE.fz (se_call hK G_Lpositive mon_Lpositive hr (by rfl) (sa_cons (SE.fz (se_lc s rfl nd (si_seq hK (SE.fz (se_v 0 (pv 0)))) (own := [("_law_part", 2)]) ⟨blkOk_by (N := N_Lcanonical_v1) (show blkC N_Lcanonical_v1 (defScope s_Lcanonical_v1) _ _ = true by decide +kernel), (fun c' hK' s' H' C' cl' fp' => (sg_n (i := 2) nd rfl (by first | exact Or.inl rfl | exact Or.inr rfl))), (fun c' hK' s' H' C' cl' fp' => sts_nil), (fun c' hK' s' H' C' cl' fp' => (se_neg (sp_v 2 (pv 2)))), by decide⟩)) sa_nil)))) (own := [("_law_part", 2)]) ⟨blkOk_by (N := N_Lcanonical_v1) (show blkC N_Lcanonical_v1 (defScope s_Lcanonical_v1) _ _ = true by decide +kernel), (fun c' hK' s' H' C' cl' fp' => (sg_n (i := 2) nd rfl (by first | exact Or.inl rfl | exact Or.inr rfl))), (fun c' hK' s' H' C' cl' fp' => sts_nil), (fun c' hK' s' H' C' cl' fp' => (se_neg (sp_v 2 (pv 2)))), by decide⟩))))) ss_nil)
      (ss_one (ss_ret (se_min1 hK (hu_room hr) rfl (by rfl) m_min (SE.pk (se_call hK G_Lring mon_Lring hr (by rfl) (sa_cons (SE.fz (se_call hK G_Llowered mon_Llowered hr (by rfl) (sa_cons (SE.fz (se_v 0 (pv 0))) sa_nil))) sa_nil)))))))))) hw_Lcanonical_v1

abbrev s_Lall : Stmt := topS 68
theorem sc_Lall : FnScope N_Lall ["_law_d"] (defScope s_Lall) := ⟨rfl, rfl, rfl, by decide +kernel, rfl, by decide +kernel, by decide +kernel⟩
theorem ok_Lall {k : Nat} {f : Addr} {fd : FuncData} (F : Fun K "_law_all" "_law_all" s_Lall f fd) (m_range : mg "range" = none) (m_min : mg "min" = none) (m_len : mg "len" = none) (m_sorted : mg "sorted" = none) (G_Lmeasure : FnIn P w K mg base k "_law_measure" sp_Lmeasure_v1) (G_Lis_reduced : FnIn P w K mg base k "_law_is_reduced" sp_Lis_reduced) (G_Lring : FnIn P w K mg base k "_law_ring" sp_Lring) : FnOk P w K mg base CX0 (k + 1) f fd ["_law_d"] (spD K sp_Lall) :=
  fn_ok F sc_Lall len_Lall (fun cdv A outer s H E c hK hr => by
    unfold c_Lall
    have nd := sc_Lall.nd
    exact (ss_cons (ss_set (i := 1) nd rfl (by first | exact Or.inl rfl | exact Or.inr rfl) (se_lst sa_nil))
      (ss_cons (ss_for PassesOwn.never rfl (si_r2 (by rfl) m_range (SE.pk (se_neg (SE.pk se_int))) (SE.pk se_int)) (sg_n (i := 2) nd rfl (by first | exact Or.inl rfl | exact Or.inr rfl)) (ss_one (ss_for PassesOwn.never rfl (si_r2 (by rfl) m_range (SE.pk (se_neg (SE.pk se_int))) (SE.pk se_int)) (sg_n (i := 3) nd rfl (by first | exact Or.inl rfl | exact Or.inr rfl)) (ss_one (ss_if (st_w (sw_and (st_ne hK (hu_room hr) (sp_v 2 (pv 2)) (SE.pk se_int)) (sw_and1 (st_eq hK (hu_room hr) (SE.pk (se_mod (SE.pk (se_sub (SE.pk (se_mul (sp_v 3 (pv 3)) (sp_v 3 (pv 3)))) (sp_v 0 (pv 0)))) (SE.pk (se_mul (SE.pk se_int) (sp_v 2 (pv 2)))))) (SE.pk se_int))))) (ss_cons (ss_set (i := 4) nd rfl (by first | exact Or.inl rfl | exact Or.inr rfl) (se_tup (sa_cons (SE.fz (se_v 2 (pv 2))) (sa_cons (SE.fz (se_v 3 (pv 3))) (sa_cons (SE.fz (se_div (SE.pk (se_sub (SE.pk (se_mul (sp_v 3 (pv 3)) (sp_v 3 (pv 3)))) (sp_v 0 (pv 0)))) (SE.pk (se_mul (SE.pk se_int) (sp_v 2 (pv 2)))))) sa_nil)))))
      (ss_cons (ss_set (i := 5) nd rfl (by first | exact Or.inl rfl | exact Or.inr rfl) (se_eq hK (hu_room hr) (SE.pk (se_call hK G_Lmeasure mon_Lmeasure_v1 hr (by rfl) (sa_cons (SE.fz (se_call hK G_Lmeasure mon_Lmeasure_v1 hr (by rfl) (sa_cons (SE.fz (se_v 2 (pv 2))) (sa_cons (SE.fz (se_v 3 (pv 3))) sa_nil)))) (sa_cons (SE.fz (se_ix hK (sp_v 4 (pv 4)) (SE.pk se_int) (fun _ _ => rfl))) sa_nil)))) (SE.pk se_int)))
      (ss_cons (ss_if (st_w (sw_and (st_v (se_v 5 (pv 5))) (sw_and (st_lt (sp_v 0 (pv 0)) (SE.pk se_int)) (sw_and (st_gt (sp_v 2 (pv 2)) (SE.pk se_int)) (sw_and (st_lt (SE.pk (se_neg (sp_v 2 (pv 2)))) (sp_v 3 (pv 3))) (sw_and (st_le (sp_v 3 (pv 3)) (sp_v 2 (pv 2))) (sw_and (st_le (sp_v 2 (pv 2)) (SE.pk (se_ix hK (sp_v 4 (pv 4)) (SE.pk se_int) (fun _ _ => rfl)))) (sw_and1 (st_w (sw_or (st_ge (sp_v 3 (pv 3)) (SE.pk se_int)) (sw_or1 (st_ne hK (hu_room hr) (sp_v 2 (pv 2)) (SE.pk (se_ix hK (sp_v 4 (pv 4)) (SE.pk se_int) (fun _ _ => rfl))))))))))))))) (ss_one (ss_app 1 (pv 1) (SE.fz (se_v 4 (pv 4))))) ss_nil)
      (ss_one (ss_if (st_w (sw_and (st_v (se_v 5 (pv 5))) (sw_and (st_gt (sp_v 0 (pv 0)) (SE.pk se_int)) (sw_and1 (st_v (se_call hK G_Lis_reduced mon_Lis_reduced hr (by rfl) (sa_cons (SE.fz (se_v 4 (pv 4))) sa_nil))))))) (ss_one (ss_app 1 (pv 1) (SE.fz (se_min1 hK (hu_room hr) rfl (by rfl) m_min (SE.pk (se_call hK G_Lring mon_Lring hr (by rfl) (sa_cons (SE.fz (se_v 4 (pv 4))) sa_nil))))))) ss_nil))))) ss_nil)))))
      (ss_one (ss_ret (se_sorted hK (hu_room hr) (by rfl) m_sorted (SE.pk (se_lc s rfl nd (si_r1 (by rfl) m_range (SE.pk (se_len hK (by rfl) m_len (sp_v 1 (pv 1))))) (own := [("_law_k", 6)]) ⟨blkOk_by (N := N_Lall) (show blkC N_Lall (defScope s_Lall) _ _ = true by decide +kernel), (fun c' hK' s' H' C' cl' fp' => (sg_n (i := 6) nd rfl (by first | exact Or.inl rfl | exact Or.inr rfl))), (fun c' hK' s' H' C' cl' fp' => (sts_one (st_notIn (hK'.trans hK) (hu_room hr) (SE.pk (se_ix (hK'.trans hK) (sp_v 1 (pv 1)) (sp_v 6 (pv 6)) (fun _ _ => rfl))) (SE.pk (se_sl (hK'.trans hK) (sp_v 1 (pv 1)) so_none (so_some (sp_v 6 (pv 6))))) rfl))), (fun c' hK' s' H' C' cl' fp' => (se_ix (hK'.trans hK) (sp_v 1 (pv 1)) (sp_v 6 (pv 6)) (fun _ _ => rfl))), by decide⟩)))))))) hw_Lall

abbrev s_law_v44 : Stmt := topS 69
theorem sc_law_v44 : FnScope N_law_v44 ["_law_script"] (defScope s_law_v44) := ⟨rfl, rfl, rfl, by decide +kernel, rfl, by decide +kernel, by decide +kernel⟩
theorem ok_law_v44 {k : Nat} {f : Addr} {fd : FuncData} (F : Fun K "law" "law" s_law_v44 f fd) (m_isinstance : mg "isinstance" = none) (m_list : mg "list" = none) (m_len : mg "len" = none) (G_Lstate : FnIn P w K mg base k "_law_state" sp_Lstate) (G_Lnext : FnIn P w K mg base k "_law_next" sp_Lnext) (G_Lsquare : FnIn P w K mg base k "_law_square" sp_Lsquare) (G_classes : FnIn P w K mg base k "classes" sp_classes_v1) (G_Lall : FnIn P w K mg base k "_law_all" sp_Lall) (G_principal : FnIn P w K mg base k "principal" sp_principal_v1) (G_Lcanonical : FnIn P w K mg base k "_law_canonical" sp_Lcanonical_v1) (G_opposite : FnIn P w K mg base k "opposite" sp_opposite_v1) (G_Lact : FnIn P w K mg base k "_law_act" sp_Lact_v1) (G_Lchange : FnIn P w K mg base k "_law_change" sp_Lchange) : FnOk P w K mg base CX0 (k + 1) f fd ["_law_script"] (spD K sp_law) :=
  fn_ok F sc_law_v44 len_law (fun cdv A outer s H E c hK hr => by
    unfold c_law_v44
    have nd := sc_law_v44.nd
    exact (ss_cons (ss_set (i := 1) nd rfl (by first | exact Or.inl rfl | exact Or.inr rfl) (se_call hK G_Lstate mon_Lstate hr (by rfl) (sa_cons (SE.fz (se_v 0 (pv 0))) sa_nil)))
      (ss_cons (ss_set (i := 2) nd rfl (by first | exact Or.inl rfl | exact Or.inr rfl) (se_add hK (SE.pk (se_mul (SE.pk se_int) (SE.pk (se_add hK (SE.pk se_int) (SE.pk (se_call hK G_Lnext mon_Lnext hr (by rfl) (sa_cons (SE.fz (se_v 1 (pv 1))) (sa_cons (SE.fz se_int) sa_nil)))))))) (SE.pk (se_call hK G_Lnext mon_Lnext hr (by rfl) (sa_cons (SE.fz (se_v 1 (pv 1))) (sa_cons (SE.fz se_int) sa_nil))))))
      (ss_cons (ss_if (st_eq hK (hu_room hr) (SE.pk (se_call hK G_Lnext mon_Lnext hr (by rfl) (sa_cons (SE.fz (se_v 1 (pv 1))) (sa_cons (SE.fz se_int) sa_nil)))) (SE.pk se_int)) (ss_one (ss_set (i := 2) nd rfl (by first | exact Or.inl rfl | exact Or.inr rfl) (se_sub (SE.pk (se_sub (SE.pk se_int) (SE.pk (se_mul (SE.pk se_int) (SE.pk (se_add hK (SE.pk se_int) (SE.pk (se_call hK G_Lnext mon_Lnext hr (by rfl) (sa_cons (SE.fz (se_v 1 (pv 1))) (sa_cons (SE.fz se_int) sa_nil)))))))))) (SE.pk (se_call hK G_Lnext mon_Lnext hr (by rfl) (sa_cons (SE.fz (se_v 1 (pv 1))) (sa_cons (SE.fz se_int) sa_nil))))))) ss_nil)
      (ss_cons (ss_if (st_w (sw_and (st_ge (sp_v 2 (pv 2)) (SE.pk se_int)) (sw_and1 (st_v (se_call hK G_Lsquare mon_Lsquare hr (by rfl) (sa_cons (SE.fz (se_v 2 (pv 2))) sa_nil)))))) (ss_one (ss_ret se_bl)) ss_nil)
      (ss_cons (ss_set (i := 3) nd rfl (by first | exact Or.inl rfl | exact Or.inr rfl) (se_call hK G_classes mon_classes_v1 hr (by rfl) (sa_cons (SE.fz (se_v 2 (pv 2))) sa_nil)))
      (ss_cons (ss_if (st_w (sw_or (st_not (st_v (se_isi_list hK (by rfl) m_isinstance (by rfl) m_list (sp_v 3 (pv 3))))) (sw_or1 (st_ne hK (hu_room hr) (sp_v 3 (pv 3)) (SE.pk (se_call hK G_Lall mon_Lall hr (by rfl) (sa_cons (SE.fz (se_v 2 (pv 2))) sa_nil))))))) (ss_one (ss_ret se_bl)) ss_nil)
      (ss_cons (ss_appX (se_call hK G_classes mon_classes_v1 hr (by rfl) (sa_cons (SE.fz (se_v 2 (pv 2))) sa_nil)) (fun c' hK' => (SE.fz (se_tup (sa_cons (SE.fz se_int) (sa_cons (SE.fz se_int) (sa_cons (SE.fz se_int) sa_nil)))))))
      (ss_cons (ss_if (st_ne hK (hu_room hr) (SE.pk (se_call hK G_classes mon_classes_v1 hr (by rfl) (sa_cons (SE.fz (se_v 2 (pv 2))) sa_nil))) (sp_v 3 (pv 3))) (ss_one (ss_ret se_bl)) ss_nil)
      (ss_cons (ss_if (st_ne hK (hu_room hr) (SE.pk (se_call hK G_principal mon_principal_v1 hr (by rfl) (sa_cons (SE.fz (se_v 2 (pv 2))) sa_nil))) (SE.pk (se_call hK G_Lcanonical mon_Lcanonical_v1 hr (by rfl) (sa_cons (SE.fz (se_tup (sa_cons (SE.fz se_int) (sa_cons (SE.fz (se_mod (sp_v 2 (pv 2)) (SE.pk se_int))) (sa_cons (SE.fz (se_div (SE.pk (se_sub (SE.pk (se_mod (sp_v 2 (pv 2)) (SE.pk se_int))) (sp_v 2 (pv 2)))) (SE.pk se_int))) sa_nil))))) sa_nil)))) (ss_one (ss_ret se_bl)) ss_nil)
      (ss_cons (ss_set (i := 4) nd rfl (by first | exact Or.inl rfl | exact Or.inr rfl) (se_ix hK (sp_v 3 (pv 3)) (SE.pk (se_call hK G_Lnext mon_Lnext hr (by rfl) (sa_cons (SE.fz (se_v 1 (pv 1))) (sa_cons (SE.fz (se_len hK (by rfl) m_len (sp_v 3 (pv 3)))) sa_nil)))) (fun _ _ => rfl)))
      (ss_one (ss_ret (se_eq hK (hu_room hr) (SE.pk (se_call hK G_opposite mon_opposite_v1 hr (by rfl) (sa_cons (SE.fz (se_call hK G_Lact mon_Lact_v1 hr (by rfl) (sa_cons (SE.fz (se_v 4 (pv 4))) (sa_cons (SE.fz (se_call hK G_Lchange mon_Lchange hr (by rfl) (sa_cons (SE.fz (se_v 1 (pv 1))) (sa_cons (SE.fz se_int) sa_nil)))) sa_nil)))) sa_nil))) (SE.pk (se_call hK G_Lcanonical mon_Lcanonical_v1 hr (by rfl) (sa_cons (SE.fz (se_tup (sa_cons (SE.fz (se_ix hK (sp_v 4 (pv 4)) (SE.pk se_int) (fun _ _ => rfl))) (sa_cons (SE.fz (se_neg (SE.pk (se_ix hK (sp_v 4 (pv 4)) (SE.pk se_int) (fun _ _ => rfl))))) (sa_cons (SE.fz (se_ix hK (sp_v 4 (pv 4)) (SE.pk se_int) (fun _ _ => rfl))) sa_nil))))) sa_nil))))))))))))))))) hw_law_v44

end
theorem all_mk {l : PySem.W.OpenLaw} {w : World} {K : PySem.W.Frag} {h : Heap} {mg : Str → Option Value} {fa f_Lnumbers f_Lcell f_Lstate f_Lnext f_Lroot f_Lsquare f_is_reduced f_bezout f_measure f_content f_positive_classes f_floor_root f_discriminant f_is_reduced_v1 f_step_of f_worth f_act f_multiply f_reduce_indefinite f_cycle f_canonical f_indefinite_classes_v1 f_classes_v1 f_Lmeasure_v1 f_Lis_reduced f_Lneighbour f_Lring f_Lall f_is_square f_kind f_reduce_positive f_scaled f_reduce_definite f_primitive f_zero_lines f_leading f_canonical_split f_divided f_flat_parts f_canonical_flat f_canonical_form_v2 f_principal_v1 f_Lkind f_Lpositive f_Llowered f_Lcanonical_v1 f_opposite_v1 f_Lworth_v1 f_Lact_v1 f_Lmul f_Lchange f_law_v44 : Addr} (X : K.In h) (G : h.Ns mainGlobals mg) (hfa : mg "law" = some (.ref fa))
    {od_Lnumbers an_Lnumbers od_Lcell an_Lcell od_Lstate an_Lstate od_Lnext an_Lnext od_Lroot an_Lroot od_Lsquare an_Lsquare od_is_reduced an_is_reduced od_bezout an_bezout od_measure an_measure od_content an_content od_positive_classes an_positive_classes od_floor_root an_floor_root od_discriminant an_discriminant od_is_reduced_v1 an_is_reduced_v1 od_step_of an_step_of od_worth an_worth od_act an_act od_multiply an_multiply od_reduce_indefinite an_reduce_indefinite od_cycle an_cycle od_canonical an_canonical od_indefinite_classes_v1 an_indefinite_classes_v1 od_classes_v1 an_classes_v1 od_Lmeasure_v1 an_Lmeasure_v1 od_Lis_reduced an_Lis_reduced od_Lneighbour an_Lneighbour od_Lring an_Lring od_Lall an_Lall od_is_square an_is_square od_kind an_kind od_reduce_positive an_reduce_positive od_scaled an_scaled od_reduce_definite an_reduce_definite od_primitive an_primitive od_zero_lines an_zero_lines od_leading an_leading od_canonical_split an_canonical_split od_divided an_divided od_flat_parts an_flat_parts od_canonical_flat an_canonical_flat od_canonical_form_v2 an_canonical_form_v2 od_principal_v1 an_principal_v1 od_Lkind an_Lkind od_Lpositive an_Lpositive od_Llowered an_Llowered od_Lcanonical_v1 an_Lcanonical_v1 od_opposite_v1 an_opposite_v1 od_Lworth_v1 an_Lworth_v1 od_Lact_v1 an_Lact_v1 od_Lmul an_Lmul od_Lchange an_Lchange od_law_v44 an_law_v44 : Option Addr} {sl_Lnumbers sl_Lcell sl_Lstate sl_Lnext sl_Lroot sl_Lsquare sl_is_reduced sl_bezout sl_measure sl_content sl_positive_classes sl_floor_root sl_discriminant sl_is_reduced_v1 sl_step_of sl_worth sl_act sl_multiply sl_reduce_indefinite sl_cycle sl_canonical sl_indefinite_classes_v1 sl_classes_v1 sl_Lmeasure_v1 sl_Lis_reduced sl_Lneighbour sl_Lring sl_Lall sl_is_square sl_kind sl_reduce_positive sl_scaled sl_reduce_definite sl_primitive sl_zero_lines sl_leading sl_canonical_split sl_divided sl_flat_parts sl_canonical_flat sl_canonical_form_v2 sl_principal_v1 sl_Lkind sl_Lpositive sl_Llowered sl_Lcanonical_v1 sl_opposite_v1 sl_Lworth_v1 sl_Lact_v1 sl_Lmul sl_Lchange sl_law_v44 : Array (Option Value)} {oc_Lnumbers kV_Lnumbers dc_Lnumbers pm_Lnumbers cd_Lnumbers ct_Lnumbers oc_Lcell kV_Lcell dc_Lcell pm_Lcell cd_Lcell ct_Lcell oc_Lstate kV_Lstate dc_Lstate pm_Lstate cd_Lstate ct_Lstate oc_Lnext kV_Lnext dc_Lnext pm_Lnext cd_Lnext ct_Lnext oc_Lroot kV_Lroot dc_Lroot pm_Lroot cd_Lroot ct_Lroot oc_Lsquare kV_Lsquare dc_Lsquare pm_Lsquare cd_Lsquare ct_Lsquare oc_is_reduced kV_is_reduced dc_is_reduced pm_is_reduced cd_is_reduced ct_is_reduced oc_bezout kV_bezout dc_bezout pm_bezout cd_bezout ct_bezout oc_measure kV_measure dc_measure pm_measure cd_measure ct_measure oc_content kV_content dc_content pm_content cd_content ct_content oc_positive_classes kV_positive_classes dc_positive_classes pm_positive_classes cd_positive_classes ct_positive_classes oc_floor_root kV_floor_root dc_floor_root pm_floor_root cd_floor_root ct_floor_root oc_discriminant kV_discriminant dc_discriminant pm_discriminant cd_discriminant ct_discriminant oc_is_reduced_v1 kV_is_reduced_v1 dc_is_reduced_v1 pm_is_reduced_v1 cd_is_reduced_v1 ct_is_reduced_v1 oc_step_of kV_step_of dc_step_of pm_step_of cd_step_of ct_step_of oc_worth kV_worth dc_worth pm_worth cd_worth ct_worth oc_act kV_act dc_act pm_act cd_act ct_act oc_multiply kV_multiply dc_multiply pm_multiply cd_multiply ct_multiply oc_reduce_indefinite kV_reduce_indefinite dc_reduce_indefinite pm_reduce_indefinite cd_reduce_indefinite ct_reduce_indefinite oc_cycle kV_cycle dc_cycle pm_cycle cd_cycle ct_cycle oc_canonical kV_canonical dc_canonical pm_canonical cd_canonical ct_canonical oc_indefinite_classes_v1 kV_indefinite_classes_v1 dc_indefinite_classes_v1 pm_indefinite_classes_v1 cd_indefinite_classes_v1 ct_indefinite_classes_v1 oc_classes_v1 kV_classes_v1 dc_classes_v1 pm_classes_v1 cd_classes_v1 ct_classes_v1 oc_Lmeasure_v1 kV_Lmeasure_v1 dc_Lmeasure_v1 pm_Lmeasure_v1 cd_Lmeasure_v1 ct_Lmeasure_v1 oc_Lis_reduced kV_Lis_reduced dc_Lis_reduced pm_Lis_reduced cd_Lis_reduced ct_Lis_reduced oc_Lneighbour kV_Lneighbour dc_Lneighbour pm_Lneighbour cd_Lneighbour ct_Lneighbour oc_Lring kV_Lring dc_Lring pm_Lring cd_Lring ct_Lring oc_Lall kV_Lall dc_Lall pm_Lall cd_Lall ct_Lall oc_is_square kV_is_square dc_is_square pm_is_square cd_is_square ct_is_square oc_kind kV_kind dc_kind pm_kind cd_kind ct_kind oc_reduce_positive kV_reduce_positive dc_reduce_positive pm_reduce_positive cd_reduce_positive ct_reduce_positive oc_scaled kV_scaled dc_scaled pm_scaled cd_scaled ct_scaled oc_reduce_definite kV_reduce_definite dc_reduce_definite pm_reduce_definite cd_reduce_definite ct_reduce_definite oc_primitive kV_primitive dc_primitive pm_primitive cd_primitive ct_primitive oc_zero_lines kV_zero_lines dc_zero_lines pm_zero_lines cd_zero_lines ct_zero_lines oc_leading kV_leading dc_leading pm_leading cd_leading ct_leading oc_canonical_split kV_canonical_split dc_canonical_split pm_canonical_split cd_canonical_split ct_canonical_split oc_divided kV_divided dc_divided pm_divided cd_divided ct_divided oc_flat_parts kV_flat_parts dc_flat_parts pm_flat_parts cd_flat_parts ct_flat_parts oc_canonical_flat kV_canonical_flat dc_canonical_flat pm_canonical_flat cd_canonical_flat ct_canonical_flat oc_canonical_form_v2 kV_canonical_form_v2 dc_canonical_form_v2 pm_canonical_form_v2 cd_canonical_form_v2 ct_canonical_form_v2 oc_principal_v1 kV_principal_v1 dc_principal_v1 pm_principal_v1 cd_principal_v1 ct_principal_v1 oc_Lkind kV_Lkind dc_Lkind pm_Lkind cd_Lkind ct_Lkind oc_Lpositive kV_Lpositive dc_Lpositive pm_Lpositive cd_Lpositive ct_Lpositive oc_Llowered kV_Llowered dc_Llowered pm_Llowered cd_Llowered ct_Llowered oc_Lcanonical_v1 kV_Lcanonical_v1 dc_Lcanonical_v1 pm_Lcanonical_v1 cd_Lcanonical_v1 ct_Lcanonical_v1 oc_opposite_v1 kV_opposite_v1 dc_opposite_v1 pm_opposite_v1 cd_opposite_v1 ct_opposite_v1 oc_Lworth_v1 kV_Lworth_v1 dc_Lworth_v1 pm_Lworth_v1 cd_Lworth_v1 ct_Lworth_v1 oc_Lact_v1 kV_Lact_v1 dc_Lact_v1 pm_Lact_v1 cd_Lact_v1 ct_Lact_v1 oc_Lmul kV_Lmul dc_Lmul pm_Lmul cd_Lmul ct_Lmul oc_Lchange kV_Lchange dc_Lchange pm_Lchange cd_Lchange ct_Lchange oc_law_v44 kV_law_v44 dc_law_v44 pm_law_v44 cd_law_v44 ct_law_v44 : Value}
    (a_Lnumbers : PySem.W.nsIn K mainGlobals "_law_numbers" = some (some (.ref f_Lnumbers))) (l_Lnumbers : K.lookup f_Lnumbers = some ⟨oc_Lnumbers, od_Lnumbers, .func (PySem.W.fnOf "_law_numbers" "_law_numbers" (defArgs s_Lnumbers) (defBody s_Lnumbers) (defScope s_Lnumbers) .none kV_Lnumbers dc_Lnumbers pm_Lnumbers an_Lnumbers cd_Lnumbers ct_Lnumbers), sl_Lnumbers⟩) (c_Lnumbers : PySem.W.codeIn K cd_Lnumbers "_law_numbers" = true) (k_Lnumbers : PySem.W.keepIn K (.ref f_Lnumbers) = true)
    (a_Lcell : PySem.W.nsIn K mainGlobals "_law_cell" = some (some (.ref f_Lcell))) (l_Lcell : K.lookup f_Lcell = some ⟨oc_Lcell, od_Lcell, .func (PySem.W.fnOf "_law_cell" "_law_cell" (defArgs s_Lcell) (defBody s_Lcell) (defScope s_Lcell) .none kV_Lcell dc_Lcell pm_Lcell an_Lcell cd_Lcell ct_Lcell), sl_Lcell⟩) (c_Lcell : PySem.W.codeIn K cd_Lcell "_law_cell" = true) (k_Lcell : PySem.W.keepIn K (.ref f_Lcell) = true)
    (a_Lstate : PySem.W.nsIn K mainGlobals "_law_state" = some (some (.ref f_Lstate))) (l_Lstate : K.lookup f_Lstate = some ⟨oc_Lstate, od_Lstate, .func (PySem.W.fnOf "_law_state" "_law_state" (defArgs s_Lstate) (defBody s_Lstate) (defScope s_Lstate) .none kV_Lstate dc_Lstate pm_Lstate an_Lstate cd_Lstate ct_Lstate), sl_Lstate⟩) (c_Lstate : PySem.W.codeIn K cd_Lstate "_law_state" = true) (k_Lstate : PySem.W.keepIn K (.ref f_Lstate) = true)
    (a_Lnext : PySem.W.nsIn K mainGlobals "_law_next" = some (some (.ref f_Lnext))) (l_Lnext : K.lookup f_Lnext = some ⟨oc_Lnext, od_Lnext, .func (PySem.W.fnOf "_law_next" "_law_next" (defArgs s_Lnext) (defBody s_Lnext) (defScope s_Lnext) .none kV_Lnext dc_Lnext pm_Lnext an_Lnext cd_Lnext ct_Lnext), sl_Lnext⟩) (c_Lnext : PySem.W.codeIn K cd_Lnext "_law_next" = true) (k_Lnext : PySem.W.keepIn K (.ref f_Lnext) = true)
    (a_Lroot : PySem.W.nsIn K mainGlobals "_law_root" = some (some (.ref f_Lroot))) (l_Lroot : K.lookup f_Lroot = some ⟨oc_Lroot, od_Lroot, .func (PySem.W.fnOf "_law_root" "_law_root" (defArgs s_Lroot) (defBody s_Lroot) (defScope s_Lroot) .none kV_Lroot dc_Lroot pm_Lroot an_Lroot cd_Lroot ct_Lroot), sl_Lroot⟩) (c_Lroot : PySem.W.codeIn K cd_Lroot "_law_root" = true) (k_Lroot : PySem.W.keepIn K (.ref f_Lroot) = true)
    (a_Lsquare : PySem.W.nsIn K mainGlobals "_law_square" = some (some (.ref f_Lsquare))) (l_Lsquare : K.lookup f_Lsquare = some ⟨oc_Lsquare, od_Lsquare, .func (PySem.W.fnOf "_law_square" "_law_square" (defArgs s_Lsquare) (defBody s_Lsquare) (defScope s_Lsquare) .none kV_Lsquare dc_Lsquare pm_Lsquare an_Lsquare cd_Lsquare ct_Lsquare), sl_Lsquare⟩) (c_Lsquare : PySem.W.codeIn K cd_Lsquare "_law_square" = true) (k_Lsquare : PySem.W.keepIn K (.ref f_Lsquare) = true)
    (a_is_reduced__is_reduced_definite : PySem.W.nsIn K mainGlobals "is_reduced_definite" = some (some (.ref f_is_reduced))) (l_is_reduced : K.lookup f_is_reduced = some ⟨oc_is_reduced, od_is_reduced, .func (PySem.W.fnOf "is_reduced" "is_reduced" (defArgs s_is_reduced) (defBody s_is_reduced) (defScope s_is_reduced) .none kV_is_reduced dc_is_reduced pm_is_reduced an_is_reduced cd_is_reduced ct_is_reduced), sl_is_reduced⟩) (c_is_reduced : PySem.W.codeIn K cd_is_reduced "is_reduced" = true) (k_is_reduced : PySem.W.keepIn K (.ref f_is_reduced) = true)
    (a_bezout : PySem.W.nsIn K mainGlobals "bezout" = some (some (.ref f_bezout))) (l_bezout : K.lookup f_bezout = some ⟨oc_bezout, od_bezout, .func (PySem.W.fnOf "bezout" "bezout" (defArgs s_bezout) (defBody s_bezout) (defScope s_bezout) .none kV_bezout dc_bezout pm_bezout an_bezout cd_bezout ct_bezout), sl_bezout⟩) (c_bezout : PySem.W.codeIn K cd_bezout "bezout" = true) (k_bezout : PySem.W.keepIn K (.ref f_bezout) = true)
    (a_measure : PySem.W.nsIn K mainGlobals "measure" = some (some (.ref f_measure))) (l_measure : K.lookup f_measure = some ⟨oc_measure, od_measure, .func (PySem.W.fnOf "measure" "measure" (defArgs s_measure) (defBody s_measure) (defScope s_measure) .none kV_measure dc_measure pm_measure an_measure cd_measure ct_measure), sl_measure⟩) (c_measure : PySem.W.codeIn K cd_measure "measure" = true) (k_measure : PySem.W.keepIn K (.ref f_measure) = true)
    (a_content : PySem.W.nsIn K mainGlobals "content" = some (some (.ref f_content))) (l_content : K.lookup f_content = some ⟨oc_content, od_content, .func (PySem.W.fnOf "content" "content" (defArgs s_content) (defBody s_content) (defScope s_content) .none kV_content dc_content pm_content an_content cd_content ct_content), sl_content⟩) (c_content : PySem.W.codeIn K cd_content "content" = true) (k_content : PySem.W.keepIn K (.ref f_content) = true)
    (a_positive_classes : PySem.W.nsIn K mainGlobals "positive_classes" = some (some (.ref f_positive_classes))) (l_positive_classes : K.lookup f_positive_classes = some ⟨oc_positive_classes, od_positive_classes, .func (PySem.W.fnOf "positive_classes" "positive_classes" (defArgs s_positive_classes) (defBody s_positive_classes) (defScope s_positive_classes) .none kV_positive_classes dc_positive_classes pm_positive_classes an_positive_classes cd_positive_classes ct_positive_classes), sl_positive_classes⟩) (c_positive_classes : PySem.W.codeIn K cd_positive_classes "positive_classes" = true) (k_positive_classes : PySem.W.keepIn K (.ref f_positive_classes) = true)
    (a_floor_root : PySem.W.nsIn K mainGlobals "floor_root" = some (some (.ref f_floor_root))) (l_floor_root : K.lookup f_floor_root = some ⟨oc_floor_root, od_floor_root, .func (PySem.W.fnOf "floor_root" "floor_root" (defArgs s_floor_root) (defBody s_floor_root) (defScope s_floor_root) .none kV_floor_root dc_floor_root pm_floor_root an_floor_root cd_floor_root ct_floor_root), sl_floor_root⟩) (c_floor_root : PySem.W.codeIn K cd_floor_root "floor_root" = true) (k_floor_root : PySem.W.keepIn K (.ref f_floor_root) = true)
    (a_discriminant : PySem.W.nsIn K mainGlobals "discriminant" = some (some (.ref f_discriminant))) (l_discriminant : K.lookup f_discriminant = some ⟨oc_discriminant, od_discriminant, .func (PySem.W.fnOf "discriminant" "discriminant" (defArgs s_discriminant) (defBody s_discriminant) (defScope s_discriminant) .none kV_discriminant dc_discriminant pm_discriminant an_discriminant cd_discriminant ct_discriminant), sl_discriminant⟩) (c_discriminant : PySem.W.codeIn K cd_discriminant "discriminant" = true) (k_discriminant : PySem.W.keepIn K (.ref f_discriminant) = true)
    (a_is_reduced_v1__is_reduced_indefinite : PySem.W.nsIn K mainGlobals "is_reduced_indefinite" = some (some (.ref f_is_reduced_v1))) (l_is_reduced_v1 : K.lookup f_is_reduced_v1 = some ⟨oc_is_reduced_v1, od_is_reduced_v1, .func (PySem.W.fnOf "is_reduced" "is_reduced" (defArgs s_is_reduced_v1) (defBody s_is_reduced_v1) (defScope s_is_reduced_v1) .none kV_is_reduced_v1 dc_is_reduced_v1 pm_is_reduced_v1 an_is_reduced_v1 cd_is_reduced_v1 ct_is_reduced_v1), sl_is_reduced_v1⟩) (c_is_reduced_v1 : PySem.W.codeIn K cd_is_reduced_v1 "is_reduced" = true) (k_is_reduced_v1 : PySem.W.keepIn K (.ref f_is_reduced_v1) = true)
    (a_step_of : PySem.W.nsIn K mainGlobals "step_of" = some (some (.ref f_step_of))) (l_step_of : K.lookup f_step_of = some ⟨oc_step_of, od_step_of, .func (PySem.W.fnOf "step_of" "step_of" (defArgs s_step_of) (defBody s_step_of) (defScope s_step_of) .none kV_step_of dc_step_of pm_step_of an_step_of cd_step_of ct_step_of), sl_step_of⟩) (c_step_of : PySem.W.codeIn K cd_step_of "step_of" = true) (k_step_of : PySem.W.keepIn K (.ref f_step_of) = true)
    (a_worth : PySem.W.nsIn K mainGlobals "worth" = some (some (.ref f_worth))) (l_worth : K.lookup f_worth = some ⟨oc_worth, od_worth, .func (PySem.W.fnOf "worth" "worth" (defArgs s_worth) (defBody s_worth) (defScope s_worth) .none kV_worth dc_worth pm_worth an_worth cd_worth ct_worth), sl_worth⟩) (c_worth : PySem.W.codeIn K cd_worth "worth" = true) (k_worth : PySem.W.keepIn K (.ref f_worth) = true)
    (a_act : PySem.W.nsIn K mainGlobals "act" = some (some (.ref f_act))) (l_act : K.lookup f_act = some ⟨oc_act, od_act, .func (PySem.W.fnOf "act" "act" (defArgs s_act) (defBody s_act) (defScope s_act) .none kV_act dc_act pm_act an_act cd_act ct_act), sl_act⟩) (c_act : PySem.W.codeIn K cd_act "act" = true) (k_act : PySem.W.keepIn K (.ref f_act) = true)
    (a_multiply : PySem.W.nsIn K mainGlobals "multiply" = some (some (.ref f_multiply))) (l_multiply : K.lookup f_multiply = some ⟨oc_multiply, od_multiply, .func (PySem.W.fnOf "multiply" "multiply" (defArgs s_multiply) (defBody s_multiply) (defScope s_multiply) .none kV_multiply dc_multiply pm_multiply an_multiply cd_multiply ct_multiply), sl_multiply⟩) (c_multiply : PySem.W.codeIn K cd_multiply "multiply" = true) (k_multiply : PySem.W.keepIn K (.ref f_multiply) = true)
    (a_reduce_indefinite : PySem.W.nsIn K mainGlobals "reduce_indefinite" = some (some (.ref f_reduce_indefinite))) (l_reduce_indefinite : K.lookup f_reduce_indefinite = some ⟨oc_reduce_indefinite, od_reduce_indefinite, .func (PySem.W.fnOf "reduce_indefinite" "reduce_indefinite" (defArgs s_reduce_indefinite) (defBody s_reduce_indefinite) (defScope s_reduce_indefinite) .none kV_reduce_indefinite dc_reduce_indefinite pm_reduce_indefinite an_reduce_indefinite cd_reduce_indefinite ct_reduce_indefinite), sl_reduce_indefinite⟩) (c_reduce_indefinite : PySem.W.codeIn K cd_reduce_indefinite "reduce_indefinite" = true) (k_reduce_indefinite : PySem.W.keepIn K (.ref f_reduce_indefinite) = true)
    (a_cycle : PySem.W.nsIn K mainGlobals "cycle" = some (some (.ref f_cycle))) (l_cycle : K.lookup f_cycle = some ⟨oc_cycle, od_cycle, .func (PySem.W.fnOf "cycle" "cycle" (defArgs s_cycle) (defBody s_cycle) (defScope s_cycle) .none kV_cycle dc_cycle pm_cycle an_cycle cd_cycle ct_cycle), sl_cycle⟩) (c_cycle : PySem.W.codeIn K cd_cycle "cycle" = true) (k_cycle : PySem.W.keepIn K (.ref f_cycle) = true)
    (a_canonical : PySem.W.nsIn K mainGlobals "canonical" = some (some (.ref f_canonical))) (l_canonical : K.lookup f_canonical = some ⟨oc_canonical, od_canonical, .func (PySem.W.fnOf "canonical" "canonical" (defArgs s_canonical) (defBody s_canonical) (defScope s_canonical) .none kV_canonical dc_canonical pm_canonical an_canonical cd_canonical ct_canonical), sl_canonical⟩) (c_canonical : PySem.W.codeIn K cd_canonical "canonical" = true) (k_canonical : PySem.W.keepIn K (.ref f_canonical) = true)
    (a_indefinite_classes_v1 : PySem.W.nsIn K mainGlobals "indefinite_classes" = some (some (.ref f_indefinite_classes_v1))) (l_indefinite_classes_v1 : K.lookup f_indefinite_classes_v1 = some ⟨oc_indefinite_classes_v1, od_indefinite_classes_v1, .func (PySem.W.fnOf "indefinite_classes" "indefinite_classes" (defArgs s_indefinite_classes_v1) (defBody s_indefinite_classes_v1) (defScope s_indefinite_classes_v1) .none kV_indefinite_classes_v1 dc_indefinite_classes_v1 pm_indefinite_classes_v1 an_indefinite_classes_v1 cd_indefinite_classes_v1 ct_indefinite_classes_v1), sl_indefinite_classes_v1⟩) (c_indefinite_classes_v1 : PySem.W.codeIn K cd_indefinite_classes_v1 "indefinite_classes" = true) (k_indefinite_classes_v1 : PySem.W.keepIn K (.ref f_indefinite_classes_v1) = true)
    (a_classes_v1 : PySem.W.nsIn K mainGlobals "classes" = some (some (.ref f_classes_v1))) (l_classes_v1 : K.lookup f_classes_v1 = some ⟨oc_classes_v1, od_classes_v1, .func (PySem.W.fnOf "classes" "classes" (defArgs s_classes_v1) (defBody s_classes_v1) (defScope s_classes_v1) .none kV_classes_v1 dc_classes_v1 pm_classes_v1 an_classes_v1 cd_classes_v1 ct_classes_v1), sl_classes_v1⟩) (c_classes_v1 : PySem.W.codeIn K cd_classes_v1 "classes" = true) (k_classes_v1 : PySem.W.keepIn K (.ref f_classes_v1) = true)
    (a_Lmeasure_v1 : PySem.W.nsIn K mainGlobals "_law_measure" = some (some (.ref f_Lmeasure_v1))) (l_Lmeasure_v1 : K.lookup f_Lmeasure_v1 = some ⟨oc_Lmeasure_v1, od_Lmeasure_v1, .func (PySem.W.fnOf "_law_measure" "_law_measure" (defArgs s_Lmeasure_v1) (defBody s_Lmeasure_v1) (defScope s_Lmeasure_v1) .none kV_Lmeasure_v1 dc_Lmeasure_v1 pm_Lmeasure_v1 an_Lmeasure_v1 cd_Lmeasure_v1 ct_Lmeasure_v1), sl_Lmeasure_v1⟩) (c_Lmeasure_v1 : PySem.W.codeIn K cd_Lmeasure_v1 "_law_measure" = true) (k_Lmeasure_v1 : PySem.W.keepIn K (.ref f_Lmeasure_v1) = true)
    (a_Lis_reduced : PySem.W.nsIn K mainGlobals "_law_is_reduced" = some (some (.ref f_Lis_reduced))) (l_Lis_reduced : K.lookup f_Lis_reduced = some ⟨oc_Lis_reduced, od_Lis_reduced, .func (PySem.W.fnOf "_law_is_reduced" "_law_is_reduced" (defArgs s_Lis_reduced) (defBody s_Lis_reduced) (defScope s_Lis_reduced) .none kV_Lis_reduced dc_Lis_reduced pm_Lis_reduced an_Lis_reduced cd_Lis_reduced ct_Lis_reduced), sl_Lis_reduced⟩) (c_Lis_reduced : PySem.W.codeIn K cd_Lis_reduced "_law_is_reduced" = true) (k_Lis_reduced : PySem.W.keepIn K (.ref f_Lis_reduced) = true)
    (a_Lneighbour : PySem.W.nsIn K mainGlobals "_law_neighbour" = some (some (.ref f_Lneighbour))) (l_Lneighbour : K.lookup f_Lneighbour = some ⟨oc_Lneighbour, od_Lneighbour, .func (PySem.W.fnOf "_law_neighbour" "_law_neighbour" (defArgs s_Lneighbour) (defBody s_Lneighbour) (defScope s_Lneighbour) .none kV_Lneighbour dc_Lneighbour pm_Lneighbour an_Lneighbour cd_Lneighbour ct_Lneighbour), sl_Lneighbour⟩) (c_Lneighbour : PySem.W.codeIn K cd_Lneighbour "_law_neighbour" = true) (k_Lneighbour : PySem.W.keepIn K (.ref f_Lneighbour) = true)
    (a_Lring : PySem.W.nsIn K mainGlobals "_law_ring" = some (some (.ref f_Lring))) (l_Lring : K.lookup f_Lring = some ⟨oc_Lring, od_Lring, .func (PySem.W.fnOf "_law_ring" "_law_ring" (defArgs s_Lring) (defBody s_Lring) (defScope s_Lring) .none kV_Lring dc_Lring pm_Lring an_Lring cd_Lring ct_Lring), sl_Lring⟩) (c_Lring : PySem.W.codeIn K cd_Lring "_law_ring" = true) (k_Lring : PySem.W.keepIn K (.ref f_Lring) = true)
    (a_Lall : PySem.W.nsIn K mainGlobals "_law_all" = some (some (.ref f_Lall))) (l_Lall : K.lookup f_Lall = some ⟨oc_Lall, od_Lall, .func (PySem.W.fnOf "_law_all" "_law_all" (defArgs s_Lall) (defBody s_Lall) (defScope s_Lall) .none kV_Lall dc_Lall pm_Lall an_Lall cd_Lall ct_Lall), sl_Lall⟩) (c_Lall : PySem.W.codeIn K cd_Lall "_law_all" = true) (k_Lall : PySem.W.keepIn K (.ref f_Lall) = true)
    (a_is_square : PySem.W.nsIn K mainGlobals "is_square" = some (some (.ref f_is_square))) (l_is_square : K.lookup f_is_square = some ⟨oc_is_square, od_is_square, .func (PySem.W.fnOf "is_square" "is_square" (defArgs s_is_square) (defBody s_is_square) (defScope s_is_square) .none kV_is_square dc_is_square pm_is_square an_is_square cd_is_square ct_is_square), sl_is_square⟩) (c_is_square : PySem.W.codeIn K cd_is_square "is_square" = true) (k_is_square : PySem.W.keepIn K (.ref f_is_square) = true)
    (a_kind : PySem.W.nsIn K mainGlobals "kind" = some (some (.ref f_kind))) (l_kind : K.lookup f_kind = some ⟨oc_kind, od_kind, .func (PySem.W.fnOf "kind" "kind" (defArgs s_kind) (defBody s_kind) (defScope s_kind) .none kV_kind dc_kind pm_kind an_kind cd_kind ct_kind), sl_kind⟩) (c_kind : PySem.W.codeIn K cd_kind "kind" = true) (k_kind : PySem.W.keepIn K (.ref f_kind) = true)
    (a_reduce_positive : PySem.W.nsIn K mainGlobals "reduce_positive" = some (some (.ref f_reduce_positive))) (l_reduce_positive : K.lookup f_reduce_positive = some ⟨oc_reduce_positive, od_reduce_positive, .func (PySem.W.fnOf "reduce_positive" "reduce_positive" (defArgs s_reduce_positive) (defBody s_reduce_positive) (defScope s_reduce_positive) .none kV_reduce_positive dc_reduce_positive pm_reduce_positive an_reduce_positive cd_reduce_positive ct_reduce_positive), sl_reduce_positive⟩) (c_reduce_positive : PySem.W.codeIn K cd_reduce_positive "reduce_positive" = true) (k_reduce_positive : PySem.W.keepIn K (.ref f_reduce_positive) = true)
    (a_scaled : PySem.W.nsIn K mainGlobals "scaled" = some (some (.ref f_scaled))) (l_scaled : K.lookup f_scaled = some ⟨oc_scaled, od_scaled, .func (PySem.W.fnOf "scaled" "scaled" (defArgs s_scaled) (defBody s_scaled) (defScope s_scaled) .none kV_scaled dc_scaled pm_scaled an_scaled cd_scaled ct_scaled), sl_scaled⟩) (c_scaled : PySem.W.codeIn K cd_scaled "scaled" = true) (k_scaled : PySem.W.keepIn K (.ref f_scaled) = true)
    (a_reduce_definite : PySem.W.nsIn K mainGlobals "reduce_definite" = some (some (.ref f_reduce_definite))) (l_reduce_definite : K.lookup f_reduce_definite = some ⟨oc_reduce_definite, od_reduce_definite, .func (PySem.W.fnOf "reduce_definite" "reduce_definite" (defArgs s_reduce_definite) (defBody s_reduce_definite) (defScope s_reduce_definite) .none kV_reduce_definite dc_reduce_definite pm_reduce_definite an_reduce_definite cd_reduce_definite ct_reduce_definite), sl_reduce_definite⟩) (c_reduce_definite : PySem.W.codeIn K cd_reduce_definite "reduce_definite" = true) (k_reduce_definite : PySem.W.keepIn K (.ref f_reduce_definite) = true)
    (a_primitive : PySem.W.nsIn K mainGlobals "primitive" = some (some (.ref f_primitive))) (l_primitive : K.lookup f_primitive = some ⟨oc_primitive, od_primitive, .func (PySem.W.fnOf "primitive" "primitive" (defArgs s_primitive) (defBody s_primitive) (defScope s_primitive) .none kV_primitive dc_primitive pm_primitive an_primitive cd_primitive ct_primitive), sl_primitive⟩) (c_primitive : PySem.W.codeIn K cd_primitive "primitive" = true) (k_primitive : PySem.W.keepIn K (.ref f_primitive) = true)
    (a_zero_lines : PySem.W.nsIn K mainGlobals "zero_lines" = some (some (.ref f_zero_lines))) (l_zero_lines : K.lookup f_zero_lines = some ⟨oc_zero_lines, od_zero_lines, .func (PySem.W.fnOf "zero_lines" "zero_lines" (defArgs s_zero_lines) (defBody s_zero_lines) (defScope s_zero_lines) .none kV_zero_lines dc_zero_lines pm_zero_lines an_zero_lines cd_zero_lines ct_zero_lines), sl_zero_lines⟩) (c_zero_lines : PySem.W.codeIn K cd_zero_lines "zero_lines" = true) (k_zero_lines : PySem.W.keepIn K (.ref f_zero_lines) = true)
    (a_leading : PySem.W.nsIn K mainGlobals "leading" = some (some (.ref f_leading))) (l_leading : K.lookup f_leading = some ⟨oc_leading, od_leading, .func (PySem.W.fnOf "leading" "leading" (defArgs s_leading) (defBody s_leading) (defScope s_leading) .none kV_leading dc_leading pm_leading an_leading cd_leading ct_leading), sl_leading⟩) (c_leading : PySem.W.codeIn K cd_leading "leading" = true) (k_leading : PySem.W.keepIn K (.ref f_leading) = true)
    (a_canonical_split : PySem.W.nsIn K mainGlobals "canonical_split" = some (some (.ref f_canonical_split))) (l_canonical_split : K.lookup f_canonical_split = some ⟨oc_canonical_split, od_canonical_split, .func (PySem.W.fnOf "canonical_split" "canonical_split" (defArgs s_canonical_split) (defBody s_canonical_split) (defScope s_canonical_split) .none kV_canonical_split dc_canonical_split pm_canonical_split an_canonical_split cd_canonical_split ct_canonical_split), sl_canonical_split⟩) (c_canonical_split : PySem.W.codeIn K cd_canonical_split "canonical_split" = true) (k_canonical_split : PySem.W.keepIn K (.ref f_canonical_split) = true)
    (a_divided : PySem.W.nsIn K mainGlobals "divided" = some (some (.ref f_divided))) (l_divided : K.lookup f_divided = some ⟨oc_divided, od_divided, .func (PySem.W.fnOf "divided" "divided" (defArgs s_divided) (defBody s_divided) (defScope s_divided) .none kV_divided dc_divided pm_divided an_divided cd_divided ct_divided), sl_divided⟩) (c_divided : PySem.W.codeIn K cd_divided "divided" = true) (k_divided : PySem.W.keepIn K (.ref f_divided) = true)
    (a_flat_parts : PySem.W.nsIn K mainGlobals "flat_parts" = some (some (.ref f_flat_parts))) (l_flat_parts : K.lookup f_flat_parts = some ⟨oc_flat_parts, od_flat_parts, .func (PySem.W.fnOf "flat_parts" "flat_parts" (defArgs s_flat_parts) (defBody s_flat_parts) (defScope s_flat_parts) .none kV_flat_parts dc_flat_parts pm_flat_parts an_flat_parts cd_flat_parts ct_flat_parts), sl_flat_parts⟩) (c_flat_parts : PySem.W.codeIn K cd_flat_parts "flat_parts" = true) (k_flat_parts : PySem.W.keepIn K (.ref f_flat_parts) = true)
    (a_canonical_flat : PySem.W.nsIn K mainGlobals "canonical_flat" = some (some (.ref f_canonical_flat))) (l_canonical_flat : K.lookup f_canonical_flat = some ⟨oc_canonical_flat, od_canonical_flat, .func (PySem.W.fnOf "canonical_flat" "canonical_flat" (defArgs s_canonical_flat) (defBody s_canonical_flat) (defScope s_canonical_flat) .none kV_canonical_flat dc_canonical_flat pm_canonical_flat an_canonical_flat cd_canonical_flat ct_canonical_flat), sl_canonical_flat⟩) (c_canonical_flat : PySem.W.codeIn K cd_canonical_flat "canonical_flat" = true) (k_canonical_flat : PySem.W.keepIn K (.ref f_canonical_flat) = true)
    (a_canonical_form_v2 : PySem.W.nsIn K mainGlobals "canonical_form" = some (some (.ref f_canonical_form_v2))) (l_canonical_form_v2 : K.lookup f_canonical_form_v2 = some ⟨oc_canonical_form_v2, od_canonical_form_v2, .func (PySem.W.fnOf "canonical_form" "canonical_form" (defArgs s_canonical_form_v2) (defBody s_canonical_form_v2) (defScope s_canonical_form_v2) .none kV_canonical_form_v2 dc_canonical_form_v2 pm_canonical_form_v2 an_canonical_form_v2 cd_canonical_form_v2 ct_canonical_form_v2), sl_canonical_form_v2⟩) (c_canonical_form_v2 : PySem.W.codeIn K cd_canonical_form_v2 "canonical_form" = true) (k_canonical_form_v2 : PySem.W.keepIn K (.ref f_canonical_form_v2) = true)
    (a_principal_v1 : PySem.W.nsIn K mainGlobals "principal" = some (some (.ref f_principal_v1))) (l_principal_v1 : K.lookup f_principal_v1 = some ⟨oc_principal_v1, od_principal_v1, .func (PySem.W.fnOf "principal" "principal" (defArgs s_principal_v1) (defBody s_principal_v1) (defScope s_principal_v1) .none kV_principal_v1 dc_principal_v1 pm_principal_v1 an_principal_v1 cd_principal_v1 ct_principal_v1), sl_principal_v1⟩) (c_principal_v1 : PySem.W.codeIn K cd_principal_v1 "principal" = true) (k_principal_v1 : PySem.W.keepIn K (.ref f_principal_v1) = true)
    (a_Lkind : PySem.W.nsIn K mainGlobals "_law_kind" = some (some (.ref f_Lkind))) (l_Lkind : K.lookup f_Lkind = some ⟨oc_Lkind, od_Lkind, .func (PySem.W.fnOf "_law_kind" "_law_kind" (defArgs s_Lkind) (defBody s_Lkind) (defScope s_Lkind) .none kV_Lkind dc_Lkind pm_Lkind an_Lkind cd_Lkind ct_Lkind), sl_Lkind⟩) (c_Lkind : PySem.W.codeIn K cd_Lkind "_law_kind" = true) (k_Lkind : PySem.W.keepIn K (.ref f_Lkind) = true)
    (a_Lpositive : PySem.W.nsIn K mainGlobals "_law_positive" = some (some (.ref f_Lpositive))) (l_Lpositive : K.lookup f_Lpositive = some ⟨oc_Lpositive, od_Lpositive, .func (PySem.W.fnOf "_law_positive" "_law_positive" (defArgs s_Lpositive) (defBody s_Lpositive) (defScope s_Lpositive) .none kV_Lpositive dc_Lpositive pm_Lpositive an_Lpositive cd_Lpositive ct_Lpositive), sl_Lpositive⟩) (c_Lpositive : PySem.W.codeIn K cd_Lpositive "_law_positive" = true) (k_Lpositive : PySem.W.keepIn K (.ref f_Lpositive) = true)
    (a_Llowered : PySem.W.nsIn K mainGlobals "_law_lowered" = some (some (.ref f_Llowered))) (l_Llowered : K.lookup f_Llowered = some ⟨oc_Llowered, od_Llowered, .func (PySem.W.fnOf "_law_lowered" "_law_lowered" (defArgs s_Llowered) (defBody s_Llowered) (defScope s_Llowered) .none kV_Llowered dc_Llowered pm_Llowered an_Llowered cd_Llowered ct_Llowered), sl_Llowered⟩) (c_Llowered : PySem.W.codeIn K cd_Llowered "_law_lowered" = true) (k_Llowered : PySem.W.keepIn K (.ref f_Llowered) = true)
    (a_Lcanonical_v1 : PySem.W.nsIn K mainGlobals "_law_canonical" = some (some (.ref f_Lcanonical_v1))) (l_Lcanonical_v1 : K.lookup f_Lcanonical_v1 = some ⟨oc_Lcanonical_v1, od_Lcanonical_v1, .func (PySem.W.fnOf "_law_canonical" "_law_canonical" (defArgs s_Lcanonical_v1) (defBody s_Lcanonical_v1) (defScope s_Lcanonical_v1) .none kV_Lcanonical_v1 dc_Lcanonical_v1 pm_Lcanonical_v1 an_Lcanonical_v1 cd_Lcanonical_v1 ct_Lcanonical_v1), sl_Lcanonical_v1⟩) (c_Lcanonical_v1 : PySem.W.codeIn K cd_Lcanonical_v1 "_law_canonical" = true) (k_Lcanonical_v1 : PySem.W.keepIn K (.ref f_Lcanonical_v1) = true)
    (a_opposite_v1 : PySem.W.nsIn K mainGlobals "opposite" = some (some (.ref f_opposite_v1))) (l_opposite_v1 : K.lookup f_opposite_v1 = some ⟨oc_opposite_v1, od_opposite_v1, .func (PySem.W.fnOf "opposite" "opposite" (defArgs s_opposite_v1) (defBody s_opposite_v1) (defScope s_opposite_v1) .none kV_opposite_v1 dc_opposite_v1 pm_opposite_v1 an_opposite_v1 cd_opposite_v1 ct_opposite_v1), sl_opposite_v1⟩) (c_opposite_v1 : PySem.W.codeIn K cd_opposite_v1 "opposite" = true) (k_opposite_v1 : PySem.W.keepIn K (.ref f_opposite_v1) = true)
    (a_Lworth_v1 : PySem.W.nsIn K mainGlobals "_law_worth" = some (some (.ref f_Lworth_v1))) (l_Lworth_v1 : K.lookup f_Lworth_v1 = some ⟨oc_Lworth_v1, od_Lworth_v1, .func (PySem.W.fnOf "_law_worth" "_law_worth" (defArgs s_Lworth_v1) (defBody s_Lworth_v1) (defScope s_Lworth_v1) .none kV_Lworth_v1 dc_Lworth_v1 pm_Lworth_v1 an_Lworth_v1 cd_Lworth_v1 ct_Lworth_v1), sl_Lworth_v1⟩) (c_Lworth_v1 : PySem.W.codeIn K cd_Lworth_v1 "_law_worth" = true) (k_Lworth_v1 : PySem.W.keepIn K (.ref f_Lworth_v1) = true)
    (a_Lact_v1 : PySem.W.nsIn K mainGlobals "_law_act" = some (some (.ref f_Lact_v1))) (l_Lact_v1 : K.lookup f_Lact_v1 = some ⟨oc_Lact_v1, od_Lact_v1, .func (PySem.W.fnOf "_law_act" "_law_act" (defArgs s_Lact_v1) (defBody s_Lact_v1) (defScope s_Lact_v1) .none kV_Lact_v1 dc_Lact_v1 pm_Lact_v1 an_Lact_v1 cd_Lact_v1 ct_Lact_v1), sl_Lact_v1⟩) (c_Lact_v1 : PySem.W.codeIn K cd_Lact_v1 "_law_act" = true) (k_Lact_v1 : PySem.W.keepIn K (.ref f_Lact_v1) = true)
    (a_Lmul : PySem.W.nsIn K mainGlobals "_law_mul" = some (some (.ref f_Lmul))) (l_Lmul : K.lookup f_Lmul = some ⟨oc_Lmul, od_Lmul, .func (PySem.W.fnOf "_law_mul" "_law_mul" (defArgs s_Lmul) (defBody s_Lmul) (defScope s_Lmul) .none kV_Lmul dc_Lmul pm_Lmul an_Lmul cd_Lmul ct_Lmul), sl_Lmul⟩) (c_Lmul : PySem.W.codeIn K cd_Lmul "_law_mul" = true) (k_Lmul : PySem.W.keepIn K (.ref f_Lmul) = true)
    (a_Lchange : PySem.W.nsIn K mainGlobals "_law_change" = some (some (.ref f_Lchange))) (l_Lchange : K.lookup f_Lchange = some ⟨oc_Lchange, od_Lchange, .func (PySem.W.fnOf "_law_change" "_law_change" (defArgs s_Lchange) (defBody s_Lchange) (defScope s_Lchange) .none kV_Lchange dc_Lchange pm_Lchange an_Lchange cd_Lchange ct_Lchange), sl_Lchange⟩) (c_Lchange : PySem.W.codeIn K cd_Lchange "_law_change" = true) (k_Lchange : PySem.W.keepIn K (.ref f_Lchange) = true)
    (a_law_v44 : PySem.W.nsIn K mainGlobals "law" = some (some (.ref f_law_v44))) (l_law_v44 : K.lookup f_law_v44 = some ⟨oc_law_v44, od_law_v44, .func (PySem.W.fnOf "law" "law" (defArgs s_law_v44) (defBody s_law_v44) (defScope s_law_v44) .none kV_law_v44 dc_law_v44 pm_law_v44 an_law_v44 cd_law_v44 ct_law_v44), sl_law_v44⟩) (c_law_v44 : PySem.W.codeIn K cd_law_v44 "law" = true) (k_law_v44 : PySem.W.keepIn K (.ref f_law_v44) = true)
    (z_abs : PySem.W.nsIn K mainGlobals "abs" = some none)
    (z_range : PySem.W.nsIn K mainGlobals "range" = some none)
    (z_int : PySem.W.nsIn K mainGlobals "int" = some none)
    (z_len : PySem.W.nsIn K mainGlobals "len" = some none)
    (z_sorted : PySem.W.nsIn K mainGlobals "sorted" = some none)
    (z_isqrt : PySem.W.nsIn K mainGlobals "isqrt" = some (some (.builtin "math.isqrt")))
    (z_min : PySem.W.nsIn K mainGlobals "min" = some none)
    (z_set : PySem.W.nsIn K mainGlobals "set" = some none)
    (z_tuple : PySem.W.nsIn K mainGlobals "tuple" = some none)
    (z_isinstance : PySem.W.nsIn K mainGlobals "isinstance" = some none)
    (z_list : PySem.W.nsIn K mainGlobals "list" = some none)
    {u_kUNIT : Addr} {od_kUNIT : Option Addr} {t0_kUNIT t1_kUNIT t2_kUNIT t3_kUNIT : Tok} {n_kUNIT : Nat} {sl_kUNIT : Array (Option Value)} (a_kUNIT : PySem.W.nsIn K mainGlobals "UNIT" = some (some (.ref u_kUNIT))) (l_kUNIT : K.lookup u_kUNIT = some ⟨.type "tuple", od_kUNIT, .seq #[.int (1) t0_kUNIT, .int (0) t1_kUNIT, .int (0) t2_kUNIT, .int (1) t3_kUNIT] n_kUNIT, sl_kUNIT⟩) :
    ∃ fd : FuncData, (∀ (s : Shared) (v : Value), BindsTo s fd ⟨[v], []⟩ [("_law_script", v)]) ∧ ∀ base : Heap, K.In base → base.Ns mainGlobals mg → FnOk l.prog w K mg base CX0 8 fa fd ["_law_script"] (spD K sp_law) := by
  have e := hfa.symm.trans (PySem.W.mg_of X G a_law_v44)
  cases e
  have m_abs := PySem.W.mg_none_of X G z_abs
  have m_range := PySem.W.mg_none_of X G z_range
  have m_int := PySem.W.mg_none_of X G z_int
  have m_len := PySem.W.mg_none_of X G z_len
  have m_sorted := PySem.W.mg_none_of X G z_sorted
  have m_isqrt := PySem.W.mg_of X G z_isqrt
  have m_min := PySem.W.mg_none_of X G z_min
  have m_set := PySem.W.mg_none_of X G z_set
  have m_tuple := PySem.W.mg_none_of X G z_tuple
  have m_isinstance := PySem.W.mg_none_of X G z_isinstance
  have m_list := PySem.W.mg_none_of X G z_list
  have k_UNIT : Kon K mg "UNIT" kUNIT := kon_t4 (PySem.W.mg_of X G a_kUNIT) l_kUNIT
  refine ⟨PySem.W.fnOf "law" "law" (defArgs s_law_v44) (defBody s_law_v44) (defScope s_law_v44) .none kV_law_v44 dc_law_v44 pm_law_v44 an_law_v44 cd_law_v44 ct_law_v44, fun s v => .of_eq rfl, fun base _ _ => ?_⟩
  have F_Lnumbers := fun_mk (st := s_Lnumbers) l_Lnumbers c_Lnumbers k_Lnumbers
  have b_Lnumbers := F_Lnumbers.binds (ps := ["_law_cell_here", "_law_many"]) fun _ _ _ _ _ _ us hl => match us, hl with | [_, _], _ => rfl
  have I_Lnumbers : FnIn l.prog w K mg base 1 "_law_numbers" sp_Lnumbers := fn_in F_Lnumbers (ok_Lnumbers (P := l.prog) (w := w) (base := base) (k := 0) F_Lnumbers m_abs m_range m_int) (PySem.W.mg_of X G a_Lnumbers) b_Lnumbers
  have F_Lcell := fun_mk (st := s_Lcell) l_Lcell c_Lcell k_Lcell
  have b_Lcell := F_Lcell.binds (ps := ["_law_script", "_law_k"]) fun _ _ _ _ _ _ us hl => match us, hl with | [_, _], _ => rfl
  have I_Lcell : FnIn l.prog w K mg base 1 "_law_cell" sp_Lcell := fn_in F_Lcell (ok_Lcell (P := l.prog) (w := w) (base := base) (k := 0) F_Lcell m_len) (PySem.W.mg_of X G a_Lcell) b_Lcell
  have F_Lstate := fun_mk (st := s_Lstate) l_Lstate c_Lstate k_Lstate
  have b_Lstate := F_Lstate.binds (ps := ["_law_script"]) fun _ _ _ _ _ _ us hl => match us, hl with | [_], _ => rfl
  have I_Lstate : FnIn l.prog w K mg base 2 "_law_state" sp_Lstate := fn_in F_Lstate ((ok_Lstate0 (P := l.prog) (w := w) (base := base) (k := 1) F_Lstate m_range m_abs (I_Lnumbers.mono (by decide)) (I_Lcell.mono (by decide))).imp imp_Lstate) (PySem.W.mg_of X G a_Lstate) b_Lstate
  have F_Lnext := fun_mk (st := s_Lnext) l_Lnext c_Lnext k_Lnext
  have b_Lnext := F_Lnext.binds (ps := ["_law_state_here", "_law_many"]) fun _ _ _ _ _ _ us hl => match us, hl with | [_, _], _ => rfl
  have I_Lnext : FnIn l.prog w K mg base 1 "_law_next" sp_Lnext := fn_in F_Lnext (ok_Lnext (P := l.prog) (w := w) (base := base) (k := 0) F_Lnext m_len m_int) (PySem.W.mg_of X G a_Lnext) b_Lnext
  have F_Lroot := fun_mk (st := s_Lroot) l_Lroot c_Lroot k_Lroot
  have b_Lroot := F_Lroot.binds (ps := ["_law_n"]) fun _ _ _ _ _ _ us hl => match us, hl with | [_], _ => rfl
  have I_Lroot : FnIn l.prog w K mg base 1 "_law_root" sp_Lroot := fn_in F_Lroot (ok_Lroot (P := l.prog) (w := w) (base := base) (k := 0) F_Lroot m_range) (PySem.W.mg_of X G a_Lroot) b_Lroot
  have F_Lsquare := fun_mk (st := s_Lsquare) l_Lsquare c_Lsquare k_Lsquare
  have b_Lsquare := F_Lsquare.binds (ps := ["_law_n"]) fun _ _ _ _ _ _ us hl => match us, hl with | [_], _ => rfl
  have I_Lsquare : FnIn l.prog w K mg base 2 "_law_square" sp_Lsquare := fn_in F_Lsquare (ok_Lsquare (P := l.prog) (w := w) (base := base) (k := 1) F_Lsquare (I_Lroot.mono (by decide))) (PySem.W.mg_of X G a_Lsquare) b_Lsquare
  have F_is_reduced := fun_mk (st := s_is_reduced) l_is_reduced c_is_reduced k_is_reduced
  have b_is_reduced := F_is_reduced.binds (ps := ["form"]) fun _ _ _ _ _ _ us hl => match us, hl with | [_], _ => rfl
  have I_is_reduced__is_reduced_definite : FnIn l.prog w K mg base 1 "is_reduced_definite" sp_is_reduced := fn_in F_is_reduced (ok_is_reduced (P := l.prog) (w := w) (base := base) (k := 0) F_is_reduced) (PySem.W.mg_of X G a_is_reduced__is_reduced_definite) b_is_reduced
  have F_bezout := fun_mk (st := s_bezout) l_bezout c_bezout k_bezout
  have b_bezout := F_bezout.binds (ps := ["a", "b"]) fun _ _ _ _ _ _ us hl => match us, hl with | [_, _], _ => rfl
  have I_bezout : FnIn l.prog w K mg base 1 "bezout" sp_bezout := fn_in F_bezout (ok_bezout (P := l.prog) (w := w) (base := base) (k := 0) F_bezout) (PySem.W.mg_of X G a_bezout) b_bezout
  have F_measure := fun_mk (st := s_measure) l_measure c_measure k_measure
  have b_measure := F_measure.binds (ps := ["numbers"]) fun _ _ _ _ _ _ us hl => match us, hl with | [_], _ => rfl
  have I_measure : FnIn l.prog w K mg base 2 "measure" sp_measure := fn_in F_measure (ok_measure (P := l.prog) (w := w) (base := base) (k := 1) F_measure (I_bezout.mono (by decide))) (PySem.W.mg_of X G a_measure) b_measure
  have F_content := fun_mk (st := s_content) l_content c_content k_content
  have b_content := F_content.binds (ps := ["form"]) fun _ _ _ _ _ _ us hl => match us, hl with | [_], _ => rfl
  have I_content : FnIn l.prog w K mg base 3 "content" sp_content := fn_in F_content (ok_content (P := l.prog) (w := w) (base := base) (k := 2) F_content (I_measure.mono (by decide))) (PySem.W.mg_of X G a_content) b_content
  have F_positive_classes := fun_mk (st := s_positive_classes) l_positive_classes c_positive_classes k_positive_classes
  have b_positive_classes := F_positive_classes.binds (ps := ["d"]) fun _ _ _ _ _ _ us hl => match us, hl with | [_], _ => rfl
  have I_positive_classes : FnIn l.prog w K mg base 4 "positive_classes" sp_positive_classes := fn_in F_positive_classes (ok_positive_classes (P := l.prog) (w := w) (base := base) (k := 3) F_positive_classes m_range m_sorted (I_is_reduced__is_reduced_definite.mono (by decide)) (I_content.mono (by decide))) (PySem.W.mg_of X G a_positive_classes) b_positive_classes
  have F_floor_root := fun_mk (st := s_floor_root) l_floor_root c_floor_root k_floor_root
  have b_floor_root := F_floor_root.binds (ps := ["n"]) fun _ _ _ _ _ _ us hl => match us, hl with | [_], _ => rfl
  have I_floor_root : FnIn l.prog w K mg base 1 "floor_root" sp_floor_root := fn_in F_floor_root (ok_floor_root (P := l.prog) (w := w) (base := base) (k := 0) F_floor_root m_isqrt) (PySem.W.mg_of X G a_floor_root) b_floor_root
  have F_discriminant := fun_mk (st := s_discriminant) l_discriminant c_discriminant k_discriminant
  have b_discriminant := F_discriminant.binds (ps := ["form"]) fun _ _ _ _ _ _ us hl => match us, hl with | [_], _ => rfl
  have I_discriminant : FnIn l.prog w K mg base 1 "discriminant" sp_discriminant := fn_in F_discriminant (ok_discriminant (P := l.prog) (w := w) (base := base) (k := 0) F_discriminant) (PySem.W.mg_of X G a_discriminant) b_discriminant
  have F_is_reduced_v1 := fun_mk (st := s_is_reduced_v1) l_is_reduced_v1 c_is_reduced_v1 k_is_reduced_v1
  have b_is_reduced_v1 := F_is_reduced_v1.binds (ps := ["form"]) fun _ _ _ _ _ _ us hl => match us, hl with | [_], _ => rfl
  have I_is_reduced_v1__is_reduced_indefinite : FnIn l.prog w K mg base 2 "is_reduced_indefinite" sp_is_reduced_v1 := fn_in F_is_reduced_v1 (ok_is_reduced_v1 (P := l.prog) (w := w) (base := base) (k := 1) F_is_reduced_v1 m_abs (I_floor_root.mono (by decide)) (I_discriminant.mono (by decide))) (PySem.W.mg_of X G a_is_reduced_v1__is_reduced_indefinite) b_is_reduced_v1
  have F_step_of := fun_mk (st := s_step_of) l_step_of c_step_of k_step_of
  have b_step_of := F_step_of.binds (ps := ["form"]) fun _ _ _ _ _ _ us hl => match us, hl with | [_], _ => rfl
  have I_step_of : FnIn l.prog w K mg base 2 "step_of" sp_step_of := fn_in F_step_of (ok_step_of (P := l.prog) (w := w) (base := base) (k := 1) F_step_of m_abs (I_floor_root.mono (by decide)) (I_discriminant.mono (by decide))) (PySem.W.mg_of X G a_step_of) b_step_of
  have F_worth := fun_mk (st := s_worth) l_worth c_worth k_worth
  have b_worth := F_worth.binds (ps := ["form", "point"]) fun _ _ _ _ _ _ us hl => match us, hl with | [_, _], _ => rfl
  have I_worth : FnIn l.prog w K mg base 1 "worth" sp_worth := fn_in F_worth (ok_worth (P := l.prog) (w := w) (base := base) (k := 0) F_worth) (PySem.W.mg_of X G a_worth) b_worth
  have F_act := fun_mk (st := s_act) l_act c_act k_act
  have b_act := F_act.binds (ps := ["form", "m"]) fun _ _ _ _ _ _ us hl => match us, hl with | [_, _], _ => rfl
  have I_act : FnIn l.prog w K mg base 2 "act" sp_act := fn_in F_act (ok_act (P := l.prog) (w := w) (base := base) (k := 1) F_act (I_worth.mono (by decide))) (PySem.W.mg_of X G a_act) b_act
  have F_multiply := fun_mk (st := s_multiply) l_multiply c_multiply k_multiply
  have b_multiply := F_multiply.binds (ps := ["m", "n"]) fun _ _ _ _ _ _ us hl => match us, hl with | [_, _], _ => rfl
  have I_multiply : FnIn l.prog w K mg base 1 "multiply" sp_multiply := fn_in F_multiply (ok_multiply (P := l.prog) (w := w) (base := base) (k := 0) F_multiply) (PySem.W.mg_of X G a_multiply) b_multiply
  have F_reduce_indefinite := fun_mk (st := s_reduce_indefinite) l_reduce_indefinite c_reduce_indefinite k_reduce_indefinite
  have b_reduce_indefinite := F_reduce_indefinite.binds (ps := ["form"]) fun _ _ _ _ _ _ us hl => match us, hl with | [_], _ => rfl
  have I_reduce_indefinite : FnIn l.prog w K mg base 3 "reduce_indefinite" sp_reduce_indefinite := fn_in F_reduce_indefinite (ok_reduce_indefinite (P := l.prog) (w := w) (base := base) (k := 2) F_reduce_indefinite k_UNIT (I_is_reduced_v1__is_reduced_indefinite.mono (by decide)) (I_step_of.mono (by decide)) (I_act.mono (by decide)) (I_multiply.mono (by decide))) (PySem.W.mg_of X G a_reduce_indefinite) b_reduce_indefinite
  have F_cycle := fun_mk (st := s_cycle) l_cycle c_cycle k_cycle
  have b_cycle := F_cycle.binds (ps := ["form"]) fun _ _ _ _ _ _ us hl => match us, hl with | [_], _ => rfl
  have I_cycle : FnIn l.prog w K mg base 3 "cycle" sp_cycle := fn_in F_cycle (ok_cycle (P := l.prog) (w := w) (base := base) (k := 2) F_cycle k_UNIT (I_step_of.mono (by decide)) (I_act.mono (by decide)) (I_multiply.mono (by decide))) (PySem.W.mg_of X G a_cycle) b_cycle
  have F_canonical := fun_mk (st := s_canonical) l_canonical c_canonical k_canonical
  have b_canonical := F_canonical.binds (ps := ["form"]) fun _ _ _ _ _ _ us hl => match us, hl with | [_], _ => rfl
  have I_canonical : FnIn l.prog w K mg base 4 "canonical" sp_canonical := fn_in F_canonical (ok_canonical (P := l.prog) (w := w) (base := base) (k := 3) F_canonical m_min (I_reduce_indefinite.mono (by decide)) (I_cycle.mono (by decide)) (I_multiply.mono (by decide))) (PySem.W.mg_of X G a_canonical) b_canonical
  have F_indefinite_classes_v1 := fun_mk (st := s_indefinite_classes_v1) l_indefinite_classes_v1 c_indefinite_classes_v1 k_indefinite_classes_v1
  have b_indefinite_classes_v1 := F_indefinite_classes_v1.binds (ps := ["d"]) fun _ _ _ _ _ _ us hl => match us, hl with | [_], _ => rfl
  have I_indefinite_classes_v1 : FnIn l.prog w K mg base 5 "indefinite_classes" sp_indefinite_classes_v1 := fn_in F_indefinite_classes_v1 (ok_indefinite_classes_v1 (P := l.prog) (w := w) (base := base) (k := 4) F_indefinite_classes_v1 m_range m_sorted m_set (I_floor_root.mono (by decide)) (I_content.mono (by decide)) (I_canonical.mono (by decide))) (PySem.W.mg_of X G a_indefinite_classes_v1) b_indefinite_classes_v1
  have F_classes_v1 := fun_mk (st := s_classes_v1) l_classes_v1 c_classes_v1 k_classes_v1
  have b_classes_v1 := F_classes_v1.binds (ps := ["d"]) fun _ _ _ _ _ _ us hl => match us, hl with | [_], _ => rfl
  have I_classes_v1 : FnIn l.prog w K mg base 6 "classes" sp_classes_v1 := fn_in F_classes_v1 (ok_classes_v1 (P := l.prog) (w := w) (base := base) (k := 5) F_classes_v1 (I_positive_classes.mono (by decide)) (I_indefinite_classes_v1.mono (by decide))) (PySem.W.mg_of X G a_classes_v1) b_classes_v1
  have F_Lmeasure_v1 := fun_mk (st := s_Lmeasure_v1) l_Lmeasure_v1 c_Lmeasure_v1 k_Lmeasure_v1
  have b_Lmeasure_v1 := F_Lmeasure_v1.binds (ps := ["_law_a", "_law_b"]) fun _ _ _ _ _ _ us hl => match us, hl with | [_, _], _ => rfl
  have I_Lmeasure_v1 : FnIn l.prog w K mg base 1 "_law_measure" sp_Lmeasure_v1 := fn_in F_Lmeasure_v1 (ok_Lmeasure_v1 (P := l.prog) (w := w) (base := base) (k := 0) F_Lmeasure_v1 m_abs m_range) (PySem.W.mg_of X G a_Lmeasure_v1) b_Lmeasure_v1
  have F_Lis_reduced := fun_mk (st := s_Lis_reduced) l_Lis_reduced c_Lis_reduced k_Lis_reduced
  have b_Lis_reduced := F_Lis_reduced.binds (ps := ["_law_form_here"]) fun _ _ _ _ _ _ us hl => match us, hl with | [_], _ => rfl
  have I_Lis_reduced : FnIn l.prog w K mg base 1 "_law_is_reduced" sp_Lis_reduced := fn_in F_Lis_reduced (ok_Lis_reduced (P := l.prog) (w := w) (base := base) (k := 0) F_Lis_reduced m_abs) (PySem.W.mg_of X G a_Lis_reduced) b_Lis_reduced
  have F_Lneighbour := fun_mk (st := s_Lneighbour) l_Lneighbour c_Lneighbour k_Lneighbour
  have b_Lneighbour := F_Lneighbour.binds (ps := ["_law_form_here"]) fun _ _ _ _ _ _ us hl => match us, hl with | [_], _ => rfl
  have I_Lneighbour : FnIn l.prog w K mg base 2 "_law_neighbour" sp_Lneighbour := fn_in F_Lneighbour (ok_Lneighbour (P := l.prog) (w := w) (base := base) (k := 1) F_Lneighbour m_abs (I_Lroot.mono (by decide))) (PySem.W.mg_of X G a_Lneighbour) b_Lneighbour
  have F_Lring := fun_mk (st := s_Lring) l_Lring c_Lring k_Lring
  have b_Lring := F_Lring.binds (ps := ["_law_form_here"]) fun _ _ _ _ _ _ us hl => match us, hl with | [_], _ => rfl
  have I_Lring : FnIn l.prog w K mg base 3 "_law_ring" sp_Lring := fn_in F_Lring (ok_Lring (P := l.prog) (w := w) (base := base) (k := 2) F_Lring m_range m_len (I_Lneighbour.mono (by decide))) (PySem.W.mg_of X G a_Lring) b_Lring
  have F_Lall := fun_mk (st := s_Lall) l_Lall c_Lall k_Lall
  have b_Lall := F_Lall.binds (ps := ["_law_d"]) fun _ _ _ _ _ _ us hl => match us, hl with | [_], _ => rfl
  have I_Lall : FnIn l.prog w K mg base 4 "_law_all" sp_Lall := fn_in F_Lall (ok_Lall (P := l.prog) (w := w) (base := base) (k := 3) F_Lall m_range m_min m_len m_sorted (I_Lmeasure_v1.mono (by decide)) (I_Lis_reduced.mono (by decide)) (I_Lring.mono (by decide))) (PySem.W.mg_of X G a_Lall) b_Lall
  have F_is_square := fun_mk (st := s_is_square) l_is_square c_is_square k_is_square
  have b_is_square := F_is_square.binds (ps := ["n"]) fun _ _ _ _ _ _ us hl => match us, hl with | [_], _ => rfl
  have I_is_square : FnIn l.prog w K mg base 1 "is_square" sp_is_square := fn_in F_is_square (ok_is_square (P := l.prog) (w := w) (base := base) (k := 0) F_is_square m_isqrt) (PySem.W.mg_of X G a_is_square) b_is_square
  have F_kind := fun_mk (st := s_kind) l_kind c_kind k_kind
  have b_kind := F_kind.binds (ps := ["form"]) fun _ _ _ _ _ _ us hl => match us, hl with | [_], _ => rfl
  have I_kind : FnIn l.prog w K mg base 2 "kind" sp_kind := fn_in F_kind (ok_kind (P := l.prog) (w := w) (base := base) (k := 1) F_kind (I_discriminant.mono (by decide)) (I_is_square.mono (by decide))) (PySem.W.mg_of X G a_kind) b_kind
  have F_reduce_positive := fun_mk (st := s_reduce_positive) l_reduce_positive c_reduce_positive k_reduce_positive
  have b_reduce_positive := F_reduce_positive.binds (ps := ["form"]) fun _ _ _ _ _ _ us hl => match us, hl with | [_], _ => rfl
  have I_reduce_positive : FnIn l.prog w K mg base 3 "reduce_positive" sp_reduce_positive := fn_in F_reduce_positive (ok_reduce_positive (P := l.prog) (w := w) (base := base) (k := 2) F_reduce_positive k_UNIT (I_is_reduced__is_reduced_definite.mono (by decide)) (I_act.mono (by decide)) (I_multiply.mono (by decide))) (PySem.W.mg_of X G a_reduce_positive) b_reduce_positive
  have F_scaled := fun_mk (st := s_scaled) l_scaled c_scaled k_scaled
  have b_scaled := F_scaled.binds (ps := ["form", "number"]) fun _ _ _ _ _ _ us hl => match us, hl with | [_, _], _ => rfl
  have I_scaled : FnIn l.prog w K mg base 1 "scaled" sp_scaled := fn_in F_scaled (ok_scaled (P := l.prog) (w := w) (base := base) (k := 0) F_scaled) (PySem.W.mg_of X G a_scaled) b_scaled
  have F_reduce_definite := fun_mk (st := s_reduce_definite) l_reduce_definite c_reduce_definite k_reduce_definite
  have b_reduce_definite := F_reduce_definite.binds (ps := ["form"]) fun _ _ _ _ _ _ us hl => match us, hl with | [_], _ => rfl
  have I_reduce_definite : FnIn l.prog w K mg base 4 "reduce_definite" sp_reduce_definite := fn_in F_reduce_definite (ok_reduce_definite (P := l.prog) (w := w) (base := base) (k := 3) F_reduce_definite (I_reduce_positive.mono (by decide)) (I_scaled.mono (by decide))) (PySem.W.mg_of X G a_reduce_definite) b_reduce_definite
  have F_primitive := fun_mk (st := s_primitive) l_primitive c_primitive k_primitive
  have b_primitive := F_primitive.binds (ps := ["x", "y"]) fun _ _ _ _ _ _ us hl => match us, hl with | [_, _], _ => rfl
  have I_primitive : FnIn l.prog w K mg base 3 "primitive" sp_primitive := fn_in F_primitive (ok_primitive (P := l.prog) (w := w) (base := base) (k := 2) F_primitive (I_measure.mono (by decide))) (PySem.W.mg_of X G a_primitive) b_primitive
  have F_zero_lines := fun_mk (st := s_zero_lines) l_zero_lines c_zero_lines k_zero_lines
  have b_zero_lines := F_zero_lines.binds (ps := ["form"]) fun _ _ _ _ _ _ us hl => match us, hl with | [_], _ => rfl
  have I_zero_lines : FnIn l.prog w K mg base 4 "zero_lines" sp_zero_lines := fn_in F_zero_lines (ok_zero_lines (P := l.prog) (w := w) (base := base) (k := 3) F_zero_lines (I_floor_root.mono (by decide)) (I_discriminant.mono (by decide)) (I_primitive.mono (by decide))) (PySem.W.mg_of X G a_zero_lines) b_zero_lines
  have F_leading := fun_mk (st := s_leading) l_leading c_leading k_leading
  have b_leading := F_leading.binds (ps := ["point"]) fun _ _ _ _ _ _ us hl => match us, hl with | [_], _ => rfl
  have I_leading : FnIn l.prog w K mg base 2 "leading" sp_leading := fn_in F_leading (ok_leading (P := l.prog) (w := w) (base := base) (k := 1) F_leading (I_bezout.mono (by decide))) (PySem.W.mg_of X G a_leading) b_leading
  have F_canonical_split := fun_mk (st := s_canonical_split) l_canonical_split c_canonical_split k_canonical_split
  have b_canonical_split := F_canonical_split.binds (ps := ["form"]) fun _ _ _ _ _ _ us hl => match us, hl with | [_], _ => rfl
  have I_canonical_split : FnIn l.prog w K mg base 5 "canonical_split" sp_canonical_split := fn_in F_canonical_split (ok_canonical_split (P := l.prog) (w := w) (base := base) (k := 4) F_canonical_split (I_floor_root.mono (by decide)) (I_discriminant.mono (by decide)) (I_zero_lines.mono (by decide)) (I_leading.mono (by decide)) (I_act.mono (by decide)) (I_multiply.mono (by decide))) (PySem.W.mg_of X G a_canonical_split) b_canonical_split
  have F_divided := fun_mk (st := s_divided) l_divided c_divided k_divided
  have b_divided := F_divided.binds (ps := ["form", "number"]) fun _ _ _ _ _ _ us hl => match us, hl with | [_, _], _ => rfl
  have I_divided : FnIn l.prog w K mg base 1 "divided" sp_divided := fn_in F_divided (ok_divided (P := l.prog) (w := w) (base := base) (k := 0) F_divided) (PySem.W.mg_of X G a_divided) b_divided
  have F_flat_parts := fun_mk (st := s_flat_parts) l_flat_parts c_flat_parts k_flat_parts
  have b_flat_parts := F_flat_parts.binds (ps := ["form"]) fun _ _ _ _ _ _ us hl => match us, hl with | [_], _ => rfl
  have I_flat_parts : FnIn l.prog w K mg base 4 "flat_parts" sp_flat_parts := fn_in F_flat_parts (ok_flat_parts (P := l.prog) (w := w) (base := base) (k := 3) F_flat_parts m_abs (I_content.mono (by decide)) (I_divided.mono (by decide)) (I_floor_root.mono (by decide))) (PySem.W.mg_of X G a_flat_parts) b_flat_parts
  have F_canonical_flat := fun_mk (st := s_canonical_flat) l_canonical_flat c_canonical_flat k_canonical_flat
  have b_canonical_flat := F_canonical_flat.binds (ps := ["form"]) fun _ _ _ _ _ _ us hl => match us, hl with | [_], _ => rfl
  have I_canonical_flat : FnIn l.prog w K mg base 5 "canonical_flat" sp_canonical_flat := fn_in F_canonical_flat (ok_canonical_flat (P := l.prog) (w := w) (base := base) (k := 4) F_canonical_flat (I_flat_parts.mono (by decide)) (I_bezout.mono (by decide))) (PySem.W.mg_of X G a_canonical_flat) b_canonical_flat
  have F_canonical_form_v2 := fun_mk (st := s_canonical_form_v2) l_canonical_form_v2 c_canonical_form_v2 k_canonical_form_v2
  have b_canonical_form_v2 := F_canonical_form_v2.binds (ps := ["form"]) fun _ _ _ _ _ _ us hl => match us, hl with | [_], _ => rfl
  have I_canonical_form_v2 : FnIn l.prog w K mg base 6 "canonical_form" sp_canonical_form_v2 := fn_in F_canonical_form_v2 (ok_canonical_form_v2 (P := l.prog) (w := w) (base := base) (k := 5) F_canonical_form_v2 (I_kind.mono (by decide)) (I_reduce_definite.mono (by decide)) (I_canonical.mono (by decide)) (I_canonical_split.mono (by decide)) (I_canonical_flat.mono (by decide))) (PySem.W.mg_of X G a_canonical_form_v2) b_canonical_form_v2
  have F_principal_v1 := fun_mk (st := s_principal_v1) l_principal_v1 c_principal_v1 k_principal_v1
  have b_principal_v1 := F_principal_v1.binds (ps := ["d"]) fun _ _ _ _ _ _ us hl => match us, hl with | [_], _ => rfl
  have I_principal_v1 : FnIn l.prog w K mg base 7 "principal" sp_principal_v1 := fn_in F_principal_v1 (ok_principal_v1 (P := l.prog) (w := w) (base := base) (k := 6) F_principal_v1 (I_canonical_form_v2.mono (by decide))) (PySem.W.mg_of X G a_principal_v1) b_principal_v1
  have F_Lkind := fun_mk (st := s_Lkind) l_Lkind c_Lkind k_Lkind
  have b_Lkind := F_Lkind.binds (ps := ["_law_form_here"]) fun _ _ _ _ _ _ us hl => match us, hl with | [_], _ => rfl
  have I_Lkind : FnIn l.prog w K mg base 3 "_law_kind" sp_Lkind := fn_in F_Lkind (ok_Lkind (P := l.prog) (w := w) (base := base) (k := 2) F_Lkind m_int (I_Lsquare.mono (by decide))) (PySem.W.mg_of X G a_Lkind) b_Lkind
  have F_Lpositive := fun_mk (st := s_Lpositive) l_Lpositive c_Lpositive k_Lpositive
  have b_Lpositive := F_Lpositive.binds (ps := ["_law_form_here"]) fun _ _ _ _ _ _ us hl => match us, hl with | [_], _ => rfl
  have I_Lpositive : FnIn l.prog w K mg base 1 "_law_positive" sp_Lpositive := fn_in F_Lpositive (ok_Lpositive (P := l.prog) (w := w) (base := base) (k := 0) F_Lpositive m_range) (PySem.W.mg_of X G a_Lpositive) b_Lpositive
  have F_Llowered := fun_mk (st := s_Llowered) l_Llowered c_Llowered k_Llowered
  have b_Llowered := F_Llowered.binds (ps := ["_law_form_here"]) fun _ _ _ _ _ _ us hl => match us, hl with | [_], _ => rfl
  have I_Llowered : FnIn l.prog w K mg base 2 "_law_lowered" sp_Llowered := fn_in F_Llowered (ok_Llowered (P := l.prog) (w := w) (base := base) (k := 1) F_Llowered m_range m_abs m_int (I_Lroot.mono (by decide)) (I_Lis_reduced.mono (by decide))) (PySem.W.mg_of X G a_Llowered) b_Llowered
  have F_Lcanonical_v1 := fun_mk (st := s_Lcanonical_v1) l_Lcanonical_v1 c_Lcanonical_v1 k_Lcanonical_v1
  have b_Lcanonical_v1 := F_Lcanonical_v1.binds (ps := ["_law_form_here"]) fun _ _ _ _ _ _ us hl => match us, hl with | [_], _ => rfl
  have I_Lcanonical_v1 : FnIn l.prog w K mg base 4 "_law_canonical" sp_Lcanonical_v1 := fn_in F_Lcanonical_v1 (ok_Lcanonical_v1 (P := l.prog) (w := w) (base := base) (k := 3) F_Lcanonical_v1 m_tuple m_min (I_Lkind.mono (by decide)) (I_Lpositive.mono (by decide)) (I_Lring.mono (by decide)) (I_Llowered.mono (by decide))) (PySem.W.mg_of X G a_Lcanonical_v1) b_Lcanonical_v1
  have F_opposite_v1 := fun_mk (st := s_opposite_v1) l_opposite_v1 c_opposite_v1 k_opposite_v1
  have b_opposite_v1 := F_opposite_v1.binds (ps := ["form"]) fun _ _ _ _ _ _ us hl => match us, hl with | [_], _ => rfl
  have I_opposite_v1 : FnIn l.prog w K mg base 7 "opposite" sp_opposite_v1 := fn_in F_opposite_v1 (ok_opposite_v1 (P := l.prog) (w := w) (base := base) (k := 6) F_opposite_v1 (I_canonical_form_v2.mono (by decide))) (PySem.W.mg_of X G a_opposite_v1) b_opposite_v1
  have F_Lworth_v1 := fun_mk (st := s_Lworth_v1) l_Lworth_v1 c_Lworth_v1 k_Lworth_v1
  have b_Lworth_v1 := F_Lworth_v1.binds (ps := ["_law_form_here", "_law_x", "_law_y"]) fun _ _ _ _ _ _ us hl => match us, hl with | [_, _, _], _ => rfl
  have I_Lworth_v1 : FnIn l.prog w K mg base 1 "_law_worth" sp_Lworth_v1 := fn_in F_Lworth_v1 (ok_Lworth_v1 (P := l.prog) (w := w) (base := base) (k := 0) F_Lworth_v1) (PySem.W.mg_of X G a_Lworth_v1) b_Lworth_v1
  have F_Lact_v1 := fun_mk (st := s_Lact_v1) l_Lact_v1 c_Lact_v1 k_Lact_v1
  have b_Lact_v1 := F_Lact_v1.binds (ps := ["_law_form_here", "_law_m"]) fun _ _ _ _ _ _ us hl => match us, hl with | [_, _], _ => rfl
  have I_Lact_v1 : FnIn l.prog w K mg base 2 "_law_act" sp_Lact_v1 := fn_in F_Lact_v1 (ok_Lact_v1 (P := l.prog) (w := w) (base := base) (k := 1) F_Lact_v1 (I_Lworth_v1.mono (by decide))) (PySem.W.mg_of X G a_Lact_v1) b_Lact_v1
  have F_Lmul := fun_mk (st := s_Lmul) l_Lmul c_Lmul k_Lmul
  have b_Lmul := F_Lmul.binds (ps := ["_law_m", "_law_n"]) fun _ _ _ _ _ _ us hl => match us, hl with | [_, _], _ => rfl
  have I_Lmul : FnIn l.prog w K mg base 1 "_law_mul" sp_Lmul := fn_in F_Lmul (ok_Lmul (P := l.prog) (w := w) (base := base) (k := 0) F_Lmul m_tuple) (PySem.W.mg_of X G a_Lmul) b_Lmul
  have F_Lchange := fun_mk (st := s_Lchange) l_Lchange c_Lchange k_Lchange
  have b_Lchange := F_Lchange.binds (ps := ["_law_state_here", "_law_many"]) fun _ _ _ _ _ _ us hl => match us, hl with | [_, _], _ => rfl
  have I_Lchange : FnIn l.prog w K mg base 2 "_law_change" sp_Lchange := fn_in F_Lchange (ok_Lchange (P := l.prog) (w := w) (base := base) (k := 1) F_Lchange m_range (I_Lnext.mono (by decide)) (I_Lmul.mono (by decide))) (PySem.W.mg_of X G a_Lchange) b_Lchange
  have F_law_v44 := fun_mk (st := s_law_v44) l_law_v44 c_law_v44 k_law_v44
  exact ok_law_v44 (P := l.prog) (w := w) (base := base) (k := 7) F_law_v44 m_isinstance m_list m_len (I_Lstate.mono (by decide)) (I_Lnext.mono (by decide)) (I_Lsquare.mono (by decide)) (I_classes_v1.mono (by decide)) (I_Lall.mono (by decide)) (I_principal_v1.mono (by decide)) (I_Lcanonical_v1.mono (by decide)) (I_opposite_v1.mono (by decide)) (I_Lact_v1.mono (by decide)) (I_Lchange.mono (by decide))
end DL
open PySem PySem.W PyProof.Rows
set_option maxRecDepth 100000 in
set_option maxHeartbeats 0 in
theorem PySem.Challenge.cw_wholeconic_k17_classes_holds : PySem.Challenge.rw_wholeconic_k17_classes.Holds := by
  w_on; o_law; k_head; (case hw => w_witness2)
  k_fill
  refine L2.walk_of (l := PySem.Challenge.rw_wholeconic_k17_classes) (n := 63) (k := 8) (x := "_law_script") (CX := fun _ => L2.CX0) (sp := fun w => DL.spD _ DL.sp_law) rfl (by decide) rfl ⟨rfl, by decide, by decide⟩ (fun w h Y => PySem.W.kIn_of Y) ?F (fun _ _ a ns hl hO hS => DL.law_in hl hS) (fun _ _ _ _ _ h => h)
  case F =>
    intro w mg fa h KX G hmg
    refine' DL.all_mk KX G hmg ?a_Lnumbers ?l_Lnumbers ?c_Lnumbers ?k_Lnumbers ?a_Lcell ?l_Lcell ?c_Lcell ?k_Lcell ?a_Lstate ?l_Lstate ?c_Lstate ?k_Lstate ?a_Lnext ?l_Lnext ?c_Lnext ?k_Lnext ?a_Lroot ?l_Lroot ?c_Lroot ?k_Lroot ?a_Lsquare ?l_Lsquare ?c_Lsquare ?k_Lsquare ?a_is_reduced__is_reduced_definite ?l_is_reduced ?c_is_reduced ?k_is_reduced ?a_bezout ?l_bezout ?c_bezout ?k_bezout ?a_measure ?l_measure ?c_measure ?k_measure ?a_content ?l_content ?c_content ?k_content ?a_positive_classes ?l_positive_classes ?c_positive_classes ?k_positive_classes ?a_floor_root ?l_floor_root ?c_floor_root ?k_floor_root ?a_discriminant ?l_discriminant ?c_discriminant ?k_discriminant ?a_is_reduced_v1__is_reduced_indefinite ?l_is_reduced_v1 ?c_is_reduced_v1 ?k_is_reduced_v1 ?a_step_of ?l_step_of ?c_step_of ?k_step_of ?a_worth ?l_worth ?c_worth ?k_worth ?a_act ?l_act ?c_act ?k_act ?a_multiply ?l_multiply ?c_multiply ?k_multiply ?a_reduce_indefinite ?l_reduce_indefinite ?c_reduce_indefinite ?k_reduce_indefinite ?a_cycle ?l_cycle ?c_cycle ?k_cycle ?a_canonical ?l_canonical ?c_canonical ?k_canonical ?a_indefinite_classes_v1 ?l_indefinite_classes_v1 ?c_indefinite_classes_v1 ?k_indefinite_classes_v1 ?a_classes_v1 ?l_classes_v1 ?c_classes_v1 ?k_classes_v1 ?a_Lmeasure_v1 ?l_Lmeasure_v1 ?c_Lmeasure_v1 ?k_Lmeasure_v1 ?a_Lis_reduced ?l_Lis_reduced ?c_Lis_reduced ?k_Lis_reduced ?a_Lneighbour ?l_Lneighbour ?c_Lneighbour ?k_Lneighbour ?a_Lring ?l_Lring ?c_Lring ?k_Lring ?a_Lall ?l_Lall ?c_Lall ?k_Lall ?a_is_square ?l_is_square ?c_is_square ?k_is_square ?a_kind ?l_kind ?c_kind ?k_kind ?a_reduce_positive ?l_reduce_positive ?c_reduce_positive ?k_reduce_positive ?a_scaled ?l_scaled ?c_scaled ?k_scaled ?a_reduce_definite ?l_reduce_definite ?c_reduce_definite ?k_reduce_definite ?a_primitive ?l_primitive ?c_primitive ?k_primitive ?a_zero_lines ?l_zero_lines ?c_zero_lines ?k_zero_lines ?a_leading ?l_leading ?c_leading ?k_leading ?a_canonical_split ?l_canonical_split ?c_canonical_split ?k_canonical_split ?a_divided ?l_divided ?c_divided ?k_divided ?a_flat_parts ?l_flat_parts ?c_flat_parts ?k_flat_parts ?a_canonical_flat ?l_canonical_flat ?c_canonical_flat ?k_canonical_flat ?a_canonical_form_v2 ?l_canonical_form_v2 ?c_canonical_form_v2 ?k_canonical_form_v2 ?a_principal_v1 ?l_principal_v1 ?c_principal_v1 ?k_principal_v1 ?a_Lkind ?l_Lkind ?c_Lkind ?k_Lkind ?a_Lpositive ?l_Lpositive ?c_Lpositive ?k_Lpositive ?a_Llowered ?l_Llowered ?c_Llowered ?k_Llowered ?a_Lcanonical_v1 ?l_Lcanonical_v1 ?c_Lcanonical_v1 ?k_Lcanonical_v1 ?a_opposite_v1 ?l_opposite_v1 ?c_opposite_v1 ?k_opposite_v1 ?a_Lworth_v1 ?l_Lworth_v1 ?c_Lworth_v1 ?k_Lworth_v1 ?a_Lact_v1 ?l_Lact_v1 ?c_Lact_v1 ?k_Lact_v1 ?a_Lmul ?l_Lmul ?c_Lmul ?k_Lmul ?a_Lchange ?l_Lchange ?c_Lchange ?k_Lchange ?a_law_v44 ?l_law_v44 ?c_law_v44 ?k_law_v44 ?z_abs ?z_range ?z_int ?z_len ?z_sorted ?z_isqrt ?z_min ?z_set ?z_tuple ?z_isinstance ?z_list ?a_kUNIT ?l_kUNIT
    (case a_Lnumbers => k_is)
    (case l_Lnumbers => k_is)
    (case c_Lnumbers => k_is)
    (case k_Lnumbers => k_is)
    (case a_Lcell => k_is)
    (case l_Lcell => k_is)
    (case c_Lcell => k_is)
    (case k_Lcell => k_is)
    (case a_Lstate => k_is)
    (case l_Lstate => k_is)
    (case c_Lstate => k_is)
    (case k_Lstate => k_is)
    (case a_Lnext => k_is)
    (case l_Lnext => k_is)
    (case c_Lnext => k_is)
    (case k_Lnext => k_is)
    (case a_Lroot => k_is)
    (case l_Lroot => k_is)
    (case c_Lroot => k_is)
    (case k_Lroot => k_is)
    (case a_Lsquare => k_is)
    (case l_Lsquare => k_is)
    (case c_Lsquare => k_is)
    (case k_Lsquare => k_is)
    (case a_is_reduced__is_reduced_definite => k_is)
    (case l_is_reduced => k_is)
    (case c_is_reduced => k_is)
    (case k_is_reduced => k_is)
    (case a_bezout => k_is)
    (case l_bezout => k_is)
    (case c_bezout => k_is)
    (case k_bezout => k_is)
    (case a_measure => k_is)
    (case l_measure => k_is)
    (case c_measure => k_is)
    (case k_measure => k_is)
    (case a_content => k_is)
    (case l_content => k_is)
    (case c_content => k_is)
    (case k_content => k_is)
    (case a_positive_classes => k_is)
    (case l_positive_classes => k_is)
    (case c_positive_classes => k_is)
    (case k_positive_classes => k_is)
    (case a_floor_root => k_is)
    (case l_floor_root => k_is)
    (case c_floor_root => k_is)
    (case k_floor_root => k_is)
    (case a_discriminant => k_is)
    (case l_discriminant => k_is)
    (case c_discriminant => k_is)
    (case k_discriminant => k_is)
    (case a_is_reduced_v1__is_reduced_indefinite => k_is)
    (case l_is_reduced_v1 => k_is)
    (case c_is_reduced_v1 => k_is)
    (case k_is_reduced_v1 => k_is)
    (case a_step_of => k_is)
    (case l_step_of => k_is)
    (case c_step_of => k_is)
    (case k_step_of => k_is)
    (case a_worth => k_is)
    (case l_worth => k_is)
    (case c_worth => k_is)
    (case k_worth => k_is)
    (case a_act => k_is)
    (case l_act => k_is)
    (case c_act => k_is)
    (case k_act => k_is)
    (case a_multiply => k_is)
    (case l_multiply => k_is)
    (case c_multiply => k_is)
    (case k_multiply => k_is)
    (case a_reduce_indefinite => k_is)
    (case l_reduce_indefinite => k_is)
    (case c_reduce_indefinite => k_is)
    (case k_reduce_indefinite => k_is)
    (case a_cycle => k_is)
    (case l_cycle => k_is)
    (case c_cycle => k_is)
    (case k_cycle => k_is)
    (case a_canonical => k_is)
    (case l_canonical => k_is)
    (case c_canonical => k_is)
    (case k_canonical => k_is)
    (case a_indefinite_classes_v1 => k_is)
    (case l_indefinite_classes_v1 => k_is)
    (case c_indefinite_classes_v1 => k_is)
    (case k_indefinite_classes_v1 => k_is)
    (case a_classes_v1 => k_is)
    (case l_classes_v1 => k_is)
    (case c_classes_v1 => k_is)
    (case k_classes_v1 => k_is)
    (case a_Lmeasure_v1 => k_is)
    (case l_Lmeasure_v1 => k_is)
    (case c_Lmeasure_v1 => k_is)
    (case k_Lmeasure_v1 => k_is)
    (case a_Lis_reduced => k_is)
    (case l_Lis_reduced => k_is)
    (case c_Lis_reduced => k_is)
    (case k_Lis_reduced => k_is)
    (case a_Lneighbour => k_is)
    (case l_Lneighbour => k_is)
    (case c_Lneighbour => k_is)
    (case k_Lneighbour => k_is)
    (case a_Lring => k_is)
    (case l_Lring => k_is)
    (case c_Lring => k_is)
    (case k_Lring => k_is)
    (case a_Lall => k_is)
    (case l_Lall => k_is)
    (case c_Lall => k_is)
    (case k_Lall => k_is)
    (case a_is_square => k_is)
    (case l_is_square => k_is)
    (case c_is_square => k_is)
    (case k_is_square => k_is)
    (case a_kind => k_is)
    (case l_kind => k_is)
    (case c_kind => k_is)
    (case k_kind => k_is)
    (case a_reduce_positive => k_is)
    (case l_reduce_positive => k_is)
    (case c_reduce_positive => k_is)
    (case k_reduce_positive => k_is)
    (case a_scaled => k_is)
    (case l_scaled => k_is)
    (case c_scaled => k_is)
    (case k_scaled => k_is)
    (case a_reduce_definite => k_is)
    (case l_reduce_definite => k_is)
    (case c_reduce_definite => k_is)
    (case k_reduce_definite => k_is)
    (case a_primitive => k_is)
    (case l_primitive => k_is)
    (case c_primitive => k_is)
    (case k_primitive => k_is)
    (case a_zero_lines => k_is)
    (case l_zero_lines => k_is)
    (case c_zero_lines => k_is)
    (case k_zero_lines => k_is)
    (case a_leading => k_is)
    (case l_leading => k_is)
    (case c_leading => k_is)
    (case k_leading => k_is)
    (case a_canonical_split => k_is)
    (case l_canonical_split => k_is)
    (case c_canonical_split => k_is)
    (case k_canonical_split => k_is)
    (case a_divided => k_is)
    (case l_divided => k_is)
    (case c_divided => k_is)
    (case k_divided => k_is)
    (case a_flat_parts => k_is)
    (case l_flat_parts => k_is)
    (case c_flat_parts => k_is)
    (case k_flat_parts => k_is)
    (case a_canonical_flat => k_is)
    (case l_canonical_flat => k_is)
    (case c_canonical_flat => k_is)
    (case k_canonical_flat => k_is)
    (case a_canonical_form_v2 => k_is)
    (case l_canonical_form_v2 => k_is)
    (case c_canonical_form_v2 => k_is)
    (case k_canonical_form_v2 => k_is)
    (case a_principal_v1 => k_is)
    (case l_principal_v1 => k_is)
    (case c_principal_v1 => k_is)
    (case k_principal_v1 => k_is)
    (case a_Lkind => k_is)
    (case l_Lkind => k_is)
    (case c_Lkind => k_is)
    (case k_Lkind => k_is)
    (case a_Lpositive => k_is)
    (case l_Lpositive => k_is)
    (case c_Lpositive => k_is)
    (case k_Lpositive => k_is)
    (case a_Llowered => k_is)
    (case l_Llowered => k_is)
    (case c_Llowered => k_is)
    (case k_Llowered => k_is)
    (case a_Lcanonical_v1 => k_is)
    (case l_Lcanonical_v1 => k_is)
    (case c_Lcanonical_v1 => k_is)
    (case k_Lcanonical_v1 => k_is)
    (case a_opposite_v1 => k_is)
    (case l_opposite_v1 => k_is)
    (case c_opposite_v1 => k_is)
    (case k_opposite_v1 => k_is)
    (case a_Lworth_v1 => k_is)
    (case l_Lworth_v1 => k_is)
    (case c_Lworth_v1 => k_is)
    (case k_Lworth_v1 => k_is)
    (case a_Lact_v1 => k_is)
    (case l_Lact_v1 => k_is)
    (case c_Lact_v1 => k_is)
    (case k_Lact_v1 => k_is)
    (case a_Lmul => k_is)
    (case l_Lmul => k_is)
    (case c_Lmul => k_is)
    (case k_Lmul => k_is)
    (case a_Lchange => k_is)
    (case l_Lchange => k_is)
    (case c_Lchange => k_is)
    (case k_Lchange => k_is)
    (case a_law_v44 => k_is)
    (case l_law_v44 => k_is)
    (case c_law_v44 => k_is)
    (case k_law_v44 => k_is)
    (case z_abs => k_is)
    (case z_range => k_is)
    (case z_int => k_is)
    (case z_len => k_is)
    (case z_sorted => k_is)
    (case z_isqrt => k_is)
    (case z_min => k_is)
    (case z_set => k_is)
    (case z_tuple => k_is)
    (case z_isinstance => k_is)
    (case z_list => k_is)
    (case a_kUNIT => k_is)
    (case l_kUNIT => k_is)
